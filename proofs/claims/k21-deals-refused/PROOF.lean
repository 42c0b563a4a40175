import PyProof.Rows.All
import Wide.All
import OpenK.AllK
import Wide.FinOn
import HandS.ForMost
import HandS.Exc
import HandS.ExcOwn
import HandS.CallSlots
import HandS.IsInst
import HandS.Walk
import HandS.Deep
import HandS.Defaults
import HandS.Lambda
import HandS.ExcInit
import HandS.Ends
import KE.SortData
import HandS.ListItems
import PyProof.InstNe
import HandS.SlotsOwn
import KE.GoesEnum
import HandS.HeadHook4
import HandS.HeadEnd
import HandS.WordsExc
import HandS.Words
import HandS.MakeKw
import HandS.List
import HandS.More
import HandS.Style
import HandS.Zip
import HandS.TupAny
import PyProof.Rows.SetFrom
import PyProof.ReprRoads
import HandS.Iter
import HandS.DictComp
import KE.DataFind
import HandS.IterVal
import HandS.SetBool
import PyProof.ExcBaseAll.ArithmeticError
import HandS.ExcField
import KE.KExcIs
import HandS.EndTab
import HandS.Finally
import HandS.DictTup
import PyProof.NeKinds
import PyProof.EqAt
import KE.KEqDict
import KE.KDictCopyH
import HandS.CallLocal
import HandS.FStr
import HandS.Text
import KE.KStateDown
import HandS.Head0
import HandS.Head1
import HandS.Head2
import PySem.Challenge.RW_letdays_k21_deals_refused
set_option Elab.async false
set_option linter.all false
set_option maxRecDepth 100000
set_option maxHeartbeats 4000000
namespace Dl
open PySem L2

/-! ### data -/
inductive D where
  | non | bl (b : Bool) | int (i : Int) | str (x : Str)
  | lst (xs : List D) | tup (xs : List D)
  | dk (kvs : List (Key × D)) | dt (kvs : List (List Key × D))
  | ins (c : Str) (fs : List (Str × D))
  | ty (n : String) | gl (x : Str) | scr (ns : List Int)
  | own (d : D)
  | lam (f c : Addr) (q : Str) (ds : List D) (vs : List V)
  | exv (c : Str) (fs : List (Str × D))
  | nk (fs : List (Str × D))

/-- slots: frozen, owned by the def, borrowed; a lambda that was handed in -/
inductive Sl where
  | fz (d : D) | ow (d : D) | bo (d : D) | lm (f c : Addr) (q : Str) (ds : List D) (vs : List V)
def Sl.d : Sl → D
  | .fz d => d
  | .ow d => d
  | .bo d => d
  | .lm f c q ds vs => .lam f c q ds vs
def Sl.mine : Sl → Bool
  | .fz _ => false
  | .lm _ _ _ _ _ => false
  | _ => true
abbrev En := List (Option Sl)
inductive Res (α : Type) where
  | ok (a : α) | er (c : Str) (fs : List (Str × D)) (r : En) | bad
def Res.bind {α β : Type} : Res α → (α → Res β) → Res β
  | .ok a, k => k a
  | .er c fs r, _ => .er c fs r
  | .bad, _ => .bad
theorem bind_ok {α β : Type} (a : α) (k : α → Res β) : (Res.ok a).bind k = k a := rfl
theorem bind_bad {α β : Type} (k : α → Res β) : (Res.bad : Res α).bind k = .bad := rfl
theorem bind_er {α β : Type} (c : Str) (fs : List (Str × D)) (r : En) (k : α → Res β) : (Res.er c fs r : Res α).bind k = .er c fs r := rfl

section
variable (K : PySem.W.Frag) (mg : Str → Option Value)
mutual
def rep (F : Hp) : D → V → Prop
  | .non, v => v = .non
  | .bl b, v => v = .bl b
  | .int i, v => v = .int i
  | .str x, v => v = .str x
  | .lst ds, v => ∃ a xs, v = .ref a ∧ F a = some (.lst xs) ∧ repL F ds xs
  | .tup ds, v => ∃ a xs, v = .ref a ∧ SqT K F a xs ∧ repL F ds xs
  | .dk kvs, v => ∃ a ob ws, v = .ref a ∧ F a = some (.frz ob (.dK ws)) ∧ repK F kvs ws
  | .dt kvs, v => ∃ a ws, v = .ref a ∧ F a = some (.dT ws) ∧ repT F kvs ws
  | .ins c fs, v => ∃ a C dx ws, v = .ref a ∧ mg c = some (.ref C) ∧ F a = some (.ins C dx ws) ∧ repF F fs ws
  | .ty n, v => v = .ty n
  | .gl x, v => ∃ a, v = .ref a ∧ mg x = some (.ref a)
  | .scr ns, v => ∃ a, v = .ref a ∧ SqL K F a (ns.map V.int)
  | .own _, _ => False
  | .lam f c q ds vs, v => v = .ref f ∧ repL F ds vs
  | .exv c fs, v => ∃ a C dd ws, v = .ref a ∧ mg c = some (.ref C) ∧ F a = some (exo a C (some dd)) ∧ F dd = some (exd dd ws) ∧ repF F fs ws
  | .nk _, _ => False
def repL (F : Hp) : List D → List V → Prop
  | [], vs => vs = []
  | d :: ds, vs => ∃ w ws, vs = w :: ws ∧ rep F d w ∧ repL F ds ws
def repK (F : Hp) : List (Key × D) → List (Key × V) → Prop
  | [], vs => vs = []
  | (k, d) :: ds, vs => ∃ w ws, vs = (k, w) :: ws ∧ rep F d w ∧ repK F ds ws
def repT (F : Hp) : List (List Key × D) → List (List Key × V) → Prop
  | [], vs => vs = []
  | (k, d) :: ds, vs => ∃ w ws, vs = (k, w) :: ws ∧ rep F d w ∧ repT F ds ws
def repF (F : Hp) : List (Str × D) → List (Str × V) → Prop
  | [], vs => vs = []
  | (k, d) :: ds, vs => ∃ w ws, vs = (k, w) :: ws ∧ rep F d w ∧ repF F ds ws
end
end

section
variable {K : PySem.W.Frag} {mg : Str → Option Value} {F F' H H' : Hp}
theorem Rd.mono {a : Addr} {u : HO} (e : Same F F') (h : Rd F a u) : Rd F' a u := by
  rcases h with h | ⟨o, h⟩
  · exact .inl (e _ _ h)
  · exact .inr ⟨o, e _ _ h⟩
theorem sqT_mono {a : Addr} {xs : List V} (e : Same F F') (h : SqT K F a xs) : SqT K F' a xs := by
  rcases h with h | h
  · exact .inl (Rd.mono e h)
  · exact .inr h
mutual
theorem rep_mono (e : Same F F') : ∀ (d : D) (v : V), rep K mg F d v → rep K mg F' d v
  | .non, _, h => h
  | .bl _, _, h => h
  | .int _, _, h => h
  | .str _, _, h => h
  | .lst ds, v, ⟨a, xs, e1, h, r⟩ => ⟨a, xs, e1, e _ _ h, repL_mono e ds xs r⟩
  | .tup ds, v, ⟨a, xs, e1, h, r⟩ => ⟨a, xs, e1, sqT_mono e h, repL_mono e ds xs r⟩
  | .dk ds, v, ⟨a, ob, xs, e1, h, r⟩ => ⟨a, ob, xs, e1, e _ _ h, repK_mono e ds xs r⟩
  | .dt ds, v, ⟨a, xs, e1, h, r⟩ => ⟨a, xs, e1, e _ _ h, repT_mono e ds xs r⟩
  | .ins c fs, v, ⟨a, C, dx, ws, e1, m, h, r⟩ => ⟨a, C, dx, ws, e1, m, e _ _ h, repF_mono e fs ws r⟩
  | .ty _, _, h => h
  | .gl _, _, h => h
  | .scr ns, _, ⟨a, e1, h⟩ => ⟨a, e1, Same.seq e h⟩
  | .own _, _, h => h
  | .lam f c q ds vs, _, ⟨e1, r⟩ => ⟨e1, repL_mono e ds vs r⟩
  | .exv c fs, _, ⟨a, C, dd, ws, e1, m, h, h2, r⟩ => ⟨a, C, dd, ws, e1, m, e _ _ h, e _ _ h2, repF_mono e fs ws r⟩
  | .nk _, _, h => h
theorem repL_mono (e : Same F F') : ∀ (ds : List D) (vs : List V), repL K mg F ds vs → repL K mg F' ds vs
  | [], _, h => h
  | d :: ds, _, ⟨w, ws, e1, h, r⟩ => ⟨w, ws, e1, rep_mono e d w h, repL_mono e ds ws r⟩
theorem repK_mono (e : Same F F') : ∀ (ds : List (Key × D)) (vs : List (Key × V)), repK K mg F ds vs → repK K mg F' ds vs
  | [], _, h => h
  | (k, d) :: ds, _, ⟨w, ws, e1, h, r⟩ => ⟨w, ws, e1, rep_mono e d w h, repK_mono e ds ws r⟩
theorem repT_mono (e : Same F F') : ∀ (ds : List (List Key × D)) (vs : List (List Key × V)), repT K mg F ds vs → repT K mg F' ds vs
  | [], _, h => h
  | (k, d) :: ds, _, ⟨w, ws, e1, h, r⟩ => ⟨w, ws, e1, rep_mono e d w h, repT_mono e ds ws r⟩
theorem repF_mono (e : Same F F') : ∀ (ds : List (Str × D)) (vs : List (Str × V)), repF K mg F ds vs → repF K mg F' ds vs
  | [], _, h => h
  | (k, d) :: ds, _, ⟨w, ws, e1, h, r⟩ => ⟨w, ws, e1, rep_mono e d w h, repF_mono e ds ws r⟩
end
end

/-! ### owned things, what is looked at -/
section
variable (K : PySem.W.Frag) (mg : Str → Option Value)
/-- a field's own object: its parts are frozen -/
def ownB (F H : Hp) (q : Addr) : D → Prop
  | .lst ds => ∃ xs, H q = some (.lst xs) ∧ repL K mg F ds xs
  | .dk kvs => ∃ ws, H q = some (.dK ws) ∧ repK K mg F kvs ws
  | _ => False
def fldR (F H : Hp) : D → V → Prop
  | .own d, v => ∃ q, v = .ref q ∧ ownB K mg F H q d
  | d, v => rep K mg F d v
def repO (F H : Hp) : List (Str × D) → List (Str × V) → Prop
  | [], vs => vs = []
  | (k, d) :: ds, vs => ∃ w ws, vs = (k, w) :: ws ∧ fldR K mg F H d w ∧ repO F H ds ws
/-- a record's entries -/
def kwS (ws : List (Str × V)) : List (Key × V) := ws.map fun q => (Sum.inr q.1, q.2)
/-- an owned object: its parts are frozen, or its own -/
def ownAt (F H : Hp) (p : Addr) : D → Prop
  | .lst ds => ∃ xs, H p = some (.lst xs) ∧ repL K mg F ds xs
  | .dk kvs => ∃ ws, H p = some (.dK ws) ∧ repK K mg F kvs ws
  | .dt kvs => ∃ ws, H p = some (.dT ws) ∧ repT K mg F kvs ws
  | .ins c fs => ∃ C dx ws, mg c = some (.ref C) ∧ H p = some (.ins C dx ws) ∧ repO K mg F H fs ws
  | .nk fs => ∃ ws, H p = some (.dK (kwS ws)) ∧ repO K mg F H fs ws
  | _ => False
/-- an owned object whose parts are frozen -/
def ownS (F H : Hp) (p : Addr) : D → Prop
  | .lst ds => ∃ xs, H p = some (.lst xs) ∧ repL K mg F ds xs
  | .dk kvs => ∃ ws, H p = some (.dK ws) ∧ repK K mg F kvs ws
  | .dt kvs => ∃ ws, H p = some (.dT ws) ∧ repT K mg F kvs ws
  | .ins c fs => ∃ C dx ws, mg c = some (.ref C) ∧ H p = some (.ins C dx ws) ∧ repF K mg F fs ws
  | _ => False
def fldV (F : Hp) : D → V → Prop
  | .own _, _ => True
  | d, v => rep K mg F d v
def repV (F : Hp) : List (Str × D) → List (Str × V) → Prop
  | [], vs => vs = []
  | (k, d) :: ds, vs => ∃ w ws, vs = (k, w) :: ws ∧ fldV K mg F d w ∧ repV F ds ws
/-- what a reading operation sees: the outermost object in H, its parts frozen -/
def vw (F H : Hp) : D → V → Prop
  | .lst ds, v => ∃ a xs, v = .ref a ∧ H a = some (.lst xs) ∧ repL K mg F ds xs
  | .tup ds, v => ∃ a xs, v = .ref a ∧ SqT K H a xs ∧ repL K mg F ds xs
  | .dk kvs, v => ∃ a ws, v = .ref a ∧ Rd H a (.dK ws) ∧ repK K mg F kvs ws
  | .dt kvs, v => ∃ a ws, v = .ref a ∧ H a = some (.dT ws) ∧ repT K mg F kvs ws
  | .ins c fs, v => ∃ a C dx ws, v = .ref a ∧ mg c = some (.ref C) ∧ H a = some (.ins C dx ws) ∧ repV K mg F fs ws
  | .scr ns, v => ∃ a, v = .ref a ∧ SqL K H a (ns.map V.int)
  | .nk fs, v => ∃ a ws, v = .ref a ∧ H a = some (.dK (kwS ws)) ∧ repV K mg F fs ws
  | d, v => rep K mg F d v
end
/-- the addresses of an owned object -/
def fldQ : D → V → List Addr
  | .own _, .ref q => [q]
  | _, _ => []
def fpF : List (Str × D) → List (Str × V) → List Addr
  | (_, d) :: fs, (_, w) :: ws => fldQ d w ++ fpF fs ws
  | _, _ => []
def fpK : List (Str × D) → List (Key × V) → List Addr
  | (_, d) :: fs, (_, w) :: ws => fldQ d w ++ fpK fs ws
  | _, _ => []
theorem fpK_kwS : ∀ {fs : List (Str × D)} {ws : List (Str × V)}, fpK fs (kwS ws) = fpF fs ws
  | [], _ => by unfold fpK fpF; rfl
  | _ :: _, [] => by unfold fpF; rfl
  | (_, d) :: fs, (k, w) :: ws => by
    show fldQ d w ++ fpK fs (kwS ws) = fldQ d w ++ fpF fs ws
    rw [fpK_kwS]
def fp (H : Hp) (p : Addr) (d : D) : List Addr := match d with
  | .ins _ fs => (match H p with
    | some (.ins _ _ ws) => p :: fpF fs ws
    | _ => [p])
  | .nk fs => (match H p with
    | some (.dK ws) => p :: fpK fs ws
    | _ => [p])
  | _ => [p]
def isOwn : D → Bool
  | .own _ => true
  | _ => false
def noOwn : D → Bool
  | .nk _ => false
  | .ins _ fs => fs.all fun q => !isOwn q.2
  | .own _ => false
  | _ => true
section
variable {K : PySem.W.Frag} {mg : Str → Option Value} {F F' H H' : Hp}
theorem repV_of : ∀ {fs : List (Str × D)} {ws : List (Str × V)}, repF K mg F fs ws → repV K mg F fs ws
  | [], _, h => h
  | (k, d) :: fs, _, ⟨w, ws, e, h1, h2⟩ => ⟨w, ws, e, by
    cases d with
    | own d => exact True.intro
    | _ => exact h1, repV_of h2⟩
theorem repV_own : ∀ {fs : List (Str × D)} {ws : List (Str × V)}, repO K mg F H fs ws → repV K mg F fs ws
  | [], _, h => h
  | (k, d) :: fs, _, ⟨w, ws, e, h1, h2⟩ => ⟨w, ws, e, by
    cases d with
    | own d => exact True.intro
    | _ => exact h1, repV_own h2⟩
theorem repO_of : ∀ {fs : List (Str × D)} {ws : List (Str × V)}, repF K mg F fs ws → repO K mg F H fs ws
  | [], _, h => h
  | (k, d) :: fs, _, ⟨w, ws, e, h1, h2⟩ => ⟨w, ws, e, by
    cases d with
    | own d => exact h1.elim
    | _ => exact h1, repO_of h2⟩
theorem repF_of : ∀ {fs : List (Str × D)} {ws : List (Str × V)}, repO K mg F H fs ws → (fs.all fun q => !isOwn q.2) = true → repF K mg F fs ws
  | [], _, h, _ => h
  | (k, d) :: fs, _, ⟨w, ws, e, h1, h2⟩, n => by
    rw [List.all_cons, Bool.and_eq_true] at n
    refine ⟨w, ws, e, ?_, repF_of h2 n.2⟩
    cases d with
    | own d => cases n.1
    | _ => exact h1
theorem fpF_none : ∀ {fs : List (Str × D)} {ws : List (Str × V)}, (fs.all fun q => !isOwn q.2) = true → fpF fs ws = []
  | [], _, _ => by unfold fpF; rfl
  | (k, d) :: fs, [], _ => by unfold fpF; rfl
  | (k, d) :: fs, (k', w) :: ws, n => by
    rw [List.all_cons, Bool.and_eq_true] at n
    unfold fpF
    rw [fpF_none n.2, List.append_nil]
    cases d with
    | own d => cases n.1
    | _ => rfl
theorem fp_one {p : Addr} {d : D} (h : noOwn d = true) : fp H p d = [p] := by
  cases d with
  | ins c fs =>
    have h' : (fs.all fun q => !isOwn q.2) = true := h
    unfold fp
    simp only
    split
    · rw [fpF_none h']
    · rfl
  | nk fs => cases h
  | _ => rfl
theorem fp_head {p : Addr} {d : D} : p ∈ fp H p d := by
  unfold fp
  split
  · split <;> simp
  · split <;> simp
  · simp
theorem fp_eq {p : Addr} {d : D} (h : H' p = H p) : fp H' p d = fp H p d := by
  unfold fp
  rw [h]
theorem repO_mono (e : Same F F') : ∀ {fs : List (Str × D)} {ws : List (Str × V)}, (∀ a ∈ fpF fs ws, H' a = H a) → repO K mg F H fs ws → repO K mg F' H' fs ws
  | [], _, _, h => h
  | (k, d) :: fs, _, kH, ⟨w, ws, e1, h1, h2⟩ => by
    subst e1
    unfold fpF at kH
    refine ⟨w, ws, rfl, ?_, repO_mono e (fun a ha => kH a (List.mem_append_right _ ha)) h2⟩
    cases d with
    | own d =>
      obtain ⟨q, rfl, h3⟩ := h1
      have kq : H' q = H q := kH q (by simp [fldQ])
      refine ⟨q, rfl, ?_⟩
      cases d with
      | lst ds =>
        obtain ⟨xs, h4, h5⟩ := h3
        exact ⟨xs, kq.trans h4, repL_mono e _ _ h5⟩
      | dk ds =>
        obtain ⟨xs, h4, h5⟩ := h3
        exact ⟨xs, kq.trans h4, repK_mono e _ _ h5⟩
      | _ => exact h3.elim
    | _ => exact rep_mono e _ _ h1
theorem repO_live : ∀ {fs : List (Str × D)} {ws : List (Str × V)}, repO K mg F H fs ws → ∀ a ∈ fpF fs ws, ∃ o, H a = some o
  | [], _, _, a, ha => by
    unfold fpF at ha
    cases ha
  | (k, d) :: fs, _, ⟨w, ws, e1, h1, h2⟩, a, ha => by
    subst e1
    unfold fpF at ha
    rcases List.mem_append.mp ha with z | z
    · cases d with
      | own d =>
        obtain ⟨q, rfl, h3⟩ := h1
        have e2 : a = q := by simpa [fldQ] using z
        subst e2
        cases d with
        | lst ds =>
          obtain ⟨xs, h4, _⟩ := h3
          exact ⟨_, h4⟩
        | dk ds =>
          obtain ⟨xs, h4, _⟩ := h3
          exact ⟨_, h4⟩
        | _ => exact h3.elim
      | _ =>
        unfold fldQ at z
        cases z
    · exact repO_live h2 a z
theorem vw_of (e : Same F H) : ∀ (d : D) (v : V), rep K mg F d v → vw K mg F H d v
  | .non, _, h => h
  | .bl _, _, h => h
  | .int _, _, h => h
  | .str _, _, h => h
  | .lst ds, v, ⟨a, xs, e1, h, r⟩ => ⟨a, xs, e1, e _ _ h, r⟩
  | .tup ds, v, ⟨a, xs, e1, h, r⟩ => ⟨a, xs, e1, sqT_mono e h, r⟩
  | .dk ds, v, ⟨a, ob, xs, e1, h, r⟩ => ⟨a, xs, e1, .inr ⟨ob, e _ _ h⟩, r⟩
  | .dt ds, v, ⟨a, xs, e1, h, r⟩ => ⟨a, xs, e1, e _ _ h, r⟩
  | .ins c fs, v, ⟨a, C, dx, ws, e1, m, h, r⟩ => ⟨a, C, dx, ws, e1, m, e _ _ h, repV_of r⟩
  | .ty _, _, h => h
  | .gl _, _, h => h
  | .scr ns, _, ⟨a, e1, h⟩ => ⟨a, e1, Same.seq e h⟩
  | .own _, _, h => h
  | .lam _ _ _ _ _, _, h => h
  | .exv _ _, _, h => h
  | .nk _, _, h => h.elim
theorem vw_own {p : Addr} : ∀ (d : D), ownAt K mg F H p d → vw K mg F H d (.ref p)
  | .lst ds, ⟨xs, h, r⟩ => ⟨p, xs, rfl, h, r⟩
  | .dk ds, ⟨xs, h, r⟩ => ⟨p, xs, rfl, .inl h, r⟩
  | .dt ds, ⟨xs, h, r⟩ => ⟨p, xs, rfl, h, r⟩
  | .ins c fs, ⟨C, dx, ws, m, h, r⟩ => ⟨p, C, dx, ws, rfl, m, h, repV_own r⟩
  | .nk fs, ⟨ws, h, r⟩ => ⟨p, ws, rfl, h, repV_own r⟩
/-- an owned object frozen -/
def frzAt (F H : Hp) (p : Addr) : Hp := fun a => if a = p then H p else F a
theorem frzAt_same {p : Addr} (hp : F p = none) : Same F (frzAt F H p) := fun a o e => by
  unfold frzAt
  rw [if_neg (ne_of_none e hp)]
  exact e
theorem frzAt_in {p : Addr} (e : Same F H) : Same (frzAt F H p) H := fun a o h => by
  unfold frzAt at h
  by_cases q : a = p
  · rw [if_pos q] at h
    rw [q]
    exact h
  · rw [if_neg q] at h
    exact e _ _ h
theorem frzAt_at {p : Addr} : frzAt F H p p = H p := by
  unfold frzAt
  exact if_pos rfl
theorem frzAt_ne {p a : Addr} (h : a ≠ p) : frzAt F H p a = F a := by
  unfold frzAt
  exact if_neg h
theorem rep_frz {p : Addr} {ds : List D} (hp : F p = none) : ownAt K mg F H p (.lst ds) → rep K mg (frzAt F H p) (.lst ds) (.ref p)
  | ⟨xs, h, r⟩ => ⟨p, xs, rfl, by rw [frzAt_at]; exact h, repL_mono (frzAt_same hp) _ _ r⟩
theorem own_mono {p : Addr} (e : Same F F') : ∀ (d : D), (∀ a ∈ fp H p d, H' a = H a) → ownAt K mg F H p d → ownAt K mg F' H' p d
  | .lst ds, k, ⟨xs, h, r⟩ => ⟨xs, (k p fp_head).trans h, repL_mono e _ _ r⟩
  | .dk ds, k, ⟨xs, h, r⟩ => ⟨xs, (k p fp_head).trans h, repK_mono e _ _ r⟩
  | .dt ds, k, ⟨xs, h, r⟩ => ⟨xs, (k p fp_head).trans h, repT_mono e _ _ r⟩
  | .ins c fs, k, ⟨C, dx, ws, m, h, r⟩ => ⟨C, dx, ws, m, (k p fp_head).trans h, repO_mono e (fun a ha => k a (by unfold fp; simp only [h]; exact List.mem_cons_of_mem _ ha)) r⟩
  | .nk fs, k, ⟨ws, h, r⟩ => ⟨ws, (k p fp_head).trans h, repO_mono e (fun a ha => k a (by unfold fp; simp only [h]; rw [fpK_kwS]; exact List.mem_cons_of_mem _ ha)) r⟩
theorem repF_no : ∀ {fs : List (Str × D)} {ws : List (Str × V)}, repF K mg F fs ws → (fs.all fun q => !isOwn q.2) = true
  | [], _, _ => rfl
  | (k, d) :: fs, _, ⟨w, ws, e, h1, h2⟩ => by
    rw [List.all_cons, repF_no h2, Bool.and_true]
    cases d with
    | own d => exact h1.elim
    | _ => rfl
theorem ownS_at {p : Addr} : ∀ {d : D}, ownS K mg F H p d → ownAt K mg F H p d
  | .lst ds, h => h
  | .dk ds, h => h
  | .dt ds, h => h
  | .ins c fs, ⟨C, dx, ws, m, h, r⟩ => ⟨C, dx, ws, m, h, repO_of r⟩
theorem ownS_no {p : Addr} : ∀ {d : D}, ownS K mg F H p d → noOwn d = true
  | .lst ds, h => rfl
  | .dk ds, h => rfl
  | .dt ds, h => rfl
  | .ins c fs, ⟨C, dx, ws, m, h, r⟩ => repF_no r
theorem ownS_of {p : Addr} : ∀ {d : D}, noOwn d = true → ownAt K mg F H p d → ownS K mg F H p d
  | .lst ds, _, h => h
  | .dk ds, _, h => h
  | .dt ds, _, h => h
  | .ins c fs, n, ⟨C, dx, ws, m, h, r⟩ => ⟨C, dx, ws, m, h, repF_of r n⟩
theorem own_there {p : Addr} : ∀ (d : D), ownAt K mg F H p d → ∃ o, H p = some o
  | .lst ds, ⟨xs, h, r⟩ => ⟨_, h⟩
  | .dk ds, ⟨xs, h, r⟩ => ⟨_, h⟩
  | .dt ds, ⟨xs, h, r⟩ => ⟨_, h⟩
  | .ins c fs, ⟨C, dx, ws, m, h, r⟩ => ⟨_, h⟩
  | .nk fs, ⟨ws, h, r⟩ => ⟨_, h⟩
theorem fp_live {p : Addr} : ∀ (d : D), ownAt K mg F H p d → ∀ a ∈ fp H p d, ∃ o, H a = some o
  | .nk fs, ⟨ws, h, r⟩, a, ha => by
    unfold fp at ha
    simp only [h] at ha
    rw [fpK_kwS] at ha
    rcases List.mem_cons.mp ha with z | z
    · exact ⟨_, by rw [z]; exact h⟩
    · exact repO_live r a z
  | .ins c fs, ⟨C, dx, ws, m, h, r⟩, a, ha => by
    unfold fp at ha
    simp only [h] at ha
    rcases List.mem_cons.mp ha with z | z
    · exact ⟨_, by rw [z]; exact h⟩
    · exact repO_live r a z
  | .lst ds, ho, a, ha => by
    rw [List.mem_singleton.mp (show a ∈ [p] from ha)]
    exact own_there _ ho
  | .dk ds, ho, a, ha => by
    rw [List.mem_singleton.mp (show a ∈ [p] from ha)]
    exact own_there _ ho
  | .dt ds, ho, a, ha => by
    rw [List.mem_singleton.mp (show a ∈ [p] from ha)]
    exact own_there _ ho
end

/-! ### the state of a def: its slots, the frozen part F of the heap H, the entry -/
structure Bg where
  F : Hp
  H : Hp
  bs : List Addr
/-- the tables of code objects that lambdas are written to, and the lambdas' name -/
class Tb where
  T : List (Addr × Str)
variable [Tb]
/-- no table -/
def NT (o : HO) : Prop := ∀ ps, o ≠ .tbl ps
structure TabF (F H : Hp) : Prop where
  tb : LamX.Tabs Tb.T H
  fn : ∀ p ∈ Tb.T, F p.1 = none
section
variable {K : PySem.W.Frag} {mg : Str → Option Value} {F F' H H' : Hp}
theorem TabF.there (t : TabF F H) : ∀ p ∈ Tb.T, ∃ ps, H p.1 = some (.tbl ps) := fun p hp => by
  obtain ⟨ps, h, _⟩ := t.tb p hp
  exact ⟨ps, h⟩
theorem TabF.frz (t : TabF F H) (fr : ∀ a, F a = none → H a ≠ none → F' a = none) : ∀ p ∈ Tb.T, F' p.1 = none := fun p hp => by
  obtain ⟨ps, h⟩ := t.there p hp
  exact fr _ (t.fn p hp) (by rw [h]; exact fun z => nomatch z)
theorem TabF.grow (t : TabF F H) (eH : Same H H') (fr : ∀ a, F a = none → H a ≠ none → F' a = none) : TabF F' H' := ⟨t.tb.ext eH, t.frz fr⟩
/-- what an owned object is -/
def Own1 : HO → Prop
  | .lst _ => True
  | .dK _ => True
  | .dT _ => True
  | .ins _ _ _ => True
  | _ => False
theorem Own1.nt {o : HO} (h : Own1 o) : NT o := fun ps z => by
  rw [z] at h
  exact h
theorem Own1.nc {o : HO} {c : Addr} {q : Str} (h : Own1 o) : o ≠ LamX.CodeO c q := fun z => by
  unfold LamX.CodeO at z
  rw [z] at h
  exact h
/-- neither a table nor a code object -/
def Wr (o : HO) : Prop := NT o ∧ ∀ c q, o ≠ LamX.CodeO c q
theorem Own1.wr {o : HO} (h : Own1 o) : Wr o := ⟨h.nt, fun _ _ => h.nc⟩
/-- owned objects are written -/
theorem TabF.write {A : List Addr} (t : TabF F H) (hA : ∀ a ∈ A, ∀ o, H a = some o → Wr o) (k : ∀ a o, a ∉ A → H a = some o → H' a = some o) (fr : ∀ a, F a = none → H a ≠ none → F' a = none) : TabF F' H' := by
  refine ⟨fun p hp => ?_, t.frz fr⟩
  obtain ⟨ps, h1, h2, h3⟩ := t.tb p hp
  refine ⟨ps, k _ _ (fun z => (hA _ z _ h1).1 ps rfl) h1, h2, fun pos cv hc => ?_⟩
  obtain ⟨c, e1, e2⟩ := h3 pos cv hc
  exact ⟨c, e1, k _ _ (fun z => (hA _ z _ e2).2 _ _ rfl) e2⟩
theorem ownB_own {q : Addr} : ∀ {d : D}, ownB K mg F H q d → ∀ o, H q = some o → Own1 o
  | .lst ds, ⟨xs, h, r⟩, o, e => by
    rw [h] at e
    cases e
    trivial
  | .dk ds, ⟨xs, h, r⟩, o, e => by
    rw [h] at e
    cases e
    trivial
theorem repO_own : ∀ {fs : List (Str × D)} {ws : List (Str × V)}, repO K mg F H fs ws → ∀ a ∈ fpF fs ws, ∀ o, H a = some o → Own1 o
  | [], _, _, a, ha, _, _ => by cases ha
  | (k, d) :: fs, _, ⟨w, ws, e, h1, h2⟩, a, ha, o, ho => by
    subst e
    unfold fpF at ha
    rcases List.mem_append.mp ha with z | z
    · cases d with
      | own d =>
        obtain ⟨q, rfl, hq⟩ := h1
        have : a = q := by simpa [fldQ] using z
        subst this
        exact ownB_own hq o ho
      | _ => simp [fldQ] at z
    · exact repO_own h2 a z o ho
theorem fp_own {p : Addr} : ∀ (d : D), ownAt K mg F H p d → ∀ a ∈ fp H p d, ∀ o, H a = some o → Own1 o
  | .nk fs, ⟨ws, h, r⟩, a, ha, o, ho => by
    unfold fp at ha
    simp only [h] at ha
    rw [fpK_kwS] at ha
    rcases List.mem_cons.mp ha with z | z
    · rw [z, h] at ho
      cases ho
      trivial
    · exact repO_own r a z o ho
  | .ins c fs, ⟨C, dx, ws, m, h, r⟩, a, ha, o, ho => by
    unfold fp at ha
    simp only [h] at ha
    rcases List.mem_cons.mp ha with z | z
    · rw [z, h] at ho
      cases ho
      trivial
    · exact repO_own r a z o ho
  | .lst ds, ⟨xs, h, r⟩, a, ha, o, ho => by
    rw [List.mem_singleton.mp (show a ∈ [p] from ha), h] at ho
    cases ho
    trivial
  | .dk ds, ⟨xs, h, r⟩, a, ha, o, ho => by
    rw [List.mem_singleton.mp (show a ∈ [p] from ha), h] at ho
    cases ho
    trivial
  | .dt ds, ⟨xs, h, r⟩, a, ha, o, ho => by
    rw [List.mem_singleton.mp (show a ∈ [p] from ha), h] at ho
    cases ho
    trivial
end
section
variable (K : PySem.W.Frag) (mg : Str → Option Value)
def slOk (B : Bg) (F H : Hp) (ov : Option (Option V)) : Sl → Prop
  | .fz d => ∃ v, ov = some (some v) ∧ rep K mg F d v
  | .ow d => ∃ p, ov = some (some (.ref p)) ∧ (∀ a ∈ fp H p d, F a = none ∧ B.H a = none ∧ a ∉ B.bs) ∧ (fp H p d).Nodup ∧ ownAt K mg F H p d
  | .bo d => ∃ p, ov = some (some (.ref p)) ∧ B.bs.head? = some p ∧ (∀ a ∈ fp H p d, F a = none ∧ (a ∈ B.bs ∨ B.H a = none)) ∧ (fp H p d).Nodup ∧ ownAt K mg F H p d
  | .lm f c q ds vs => ov = some (some (.ref f)) ∧ B.H c = some (LamX.CodeO c q) ∧ c ∉ B.bs ∧ repL K mg F ds vs
structure Rel (B : Bg) (F H : Hp) (r : En) (σ : St) : Prop where
  fh : Same F H
  f0 : Same B.F F
  tabs : TabF F H
  keep : ∀ a o, a ∉ B.bs → B.H a = some o → NT o → H a = some o
  there : ∀ a, B.H a ≠ none → H a ≠ none
  fresh : ∀ a, B.F a = none → B.H a ≠ none → F a = none
  live : ∀ a ∈ B.bs, H a ≠ none ∧ B.H a ≠ none
  len : r.length = σ.length
  slot : ∀ (i : Nat) (s : Sl), r[i]? = some (some s) → slOk K mg B F H σ[i]? s
  apart : ∀ (i j : Nat) (s t : Sl) (p q : Addr), i ≠ j → r[i]? = some (some s) → r[j]? = some (some t) → s.mine = true → t.mine = true → σ[i]? = some (some (.ref p)) → σ[j]? = some (some (.ref q)) → ∀ a ∈ fp H p s.d, a ∉ fp H q t.d
end
section
variable {K : PySem.W.Frag} {mg : Str → Option Value} {B : Bg} {F F' H H' : Hp} {r : En} {σ : St}
theorem slOk.mono {ov : Option (Option V)} (eF : Same F F') : ∀ {s : Sl}, (s.mine = true → ∀ p, ov = some (some (.ref p)) → ∀ a ∈ fp H p s.d, H' a = H a ∧ (F a = none → F' a = none)) → slOk K mg B F H ov s → slOk K mg B F' H' ov s
  | .fz d, _, ⟨v, e, h⟩ => ⟨v, e, rep_mono eF _ _ h⟩
  | .ow d, kH, ⟨p, e, hA, nd, h⟩ => by
    have k := kH rfl p e
    have ef : fp H' p d = fp H p d := fp_eq (k p fp_head).1
    refine ⟨p, e, fun a ha => ?_, by rw [ef]; exact nd, own_mono eF d (fun a ha => (k a ha).1) h⟩
    rw [ef] at ha
    obtain ⟨h1, h2, h3⟩ := hA a ha
    exact ⟨(k a ha).2 h1, h2, h3⟩
  | .bo d, kH, ⟨p, e, hb, hA, nd, h⟩ => by
    have k := kH rfl p e
    have ef : fp H' p d = fp H p d := fp_eq (k p fp_head).1
    refine ⟨p, e, hb, fun a ha => ?_, by rw [ef]; exact nd, own_mono eF d (fun a ha => (k a ha).1) h⟩
    rw [ef] at ha
    obtain ⟨h1, h2⟩ := hA a ha
    exact ⟨(k a ha).2 h1, h2⟩
  | .lm f c q ds vs, _, ⟨e, h1, h2, h3⟩ => ⟨e, h1, h2, repL_mono eF _ _ h3⟩
/-- a slot's own object -/
structure SF (F H : Hp) : Prop where
  s : Same F H
  t : TabF F H
theorem Rel.sf (R : Rel K mg B F H r σ) : SF F H := ⟨R.fh, R.tabs⟩
theorem Rel.own (R : Rel K mg B F H r σ) {i : Nat} {s : Sl} (h : r[i]? = some (some s)) (m : s.mine = true) : ∃ p, σ[i]? = some (some (.ref p)) ∧ (∀ a ∈ fp H p s.d, F a = none ∧ (a ∈ B.bs ∨ B.H a = none)) ∧ (fp H p s.d).Nodup ∧ ownAt K mg F H p s.d := by
  have q := R.slot i s h
  cases s with
  | fz d => cases m
  | ow d =>
    obtain ⟨p, e, hA, nd, h'⟩ := q
    exact ⟨p, e, fun a ha => ⟨(hA a ha).1, .inr (hA a ha).2.1⟩, nd, h'⟩
  | bo d =>
    obtain ⟨p, e, _, hA, nd, h'⟩ := q
    exact ⟨p, e, hA, nd, h'⟩
  | lm f c q ds vs => cases m
theorem Rel.own_at (R : Rel K mg B F H r σ) {i : Nat} {s : Sl} {p : Addr} (h : r[i]? = some (some s)) (m : s.mine = true) (e : σ[i]? = some (some (.ref p))) : (∀ a ∈ fp H p s.d, F a = none ∧ (a ∈ B.bs ∨ B.H a = none)) ∧ (fp H p s.d).Nodup ∧ ownAt K mg F H p s.d := by
  obtain ⟨p', e', h1, h2, h3⟩ := R.own h m
  rw [e] at e'
  cases e'
  exact ⟨h1, h2, h3⟩
/-- the heap has grown -/
theorem own_nt {p : Addr} {d : D} {o : HO} (h : ownAt K mg F H p d) (e : H p = some o) : NT o := (fp_own d h p fp_head o e).nt
/-- .. tables besides -/
theorem Rel.growT (R : Rel K mg B F H r σ) (tb : TabF F' H') (eH : ∀ a o, H a = some o → NT o → H' a = some o) (th : ∀ a, H a ≠ none → H' a ≠ none) (eF : Same F F') (fh : Same F' H') (fr : ∀ a, F a = none → H a ≠ none → F' a = none) : Rel K mg B F' H' r σ where
  fh := fh
  f0 := R.f0.trans eF
  tabs := tb
  keep := fun a o hb h n => eH _ _ (R.keep a o hb h n) n
  there := fun a h => th a (R.there a h)
  fresh := fun a h1 h2 => fr a (R.fresh a h1 h2) (R.there a h2)
  live := fun a hb => ⟨th a (R.live a hb).1, (R.live a hb).2⟩
  len := R.len
  slot := fun i s h => (R.slot i s h).mono eF fun m p e a ha => by
    obtain ⟨o, ho⟩ := fp_live s.d (R.own_at h m e).2.2 a ha
    exact ⟨by rw [ho]; exact eH _ _ ho (fp_own s.d (R.own_at h m e).2.2 a ha o ho).nt, fun z => fr a z (by rw [ho]; exact fun z => nomatch z)⟩
  apart := fun i j s t p q ne hi hj ms mt ei ej a ha => by
    obtain ⟨o1, h1⟩ := own_there s.d (R.own_at hi ms ei).2.2
    obtain ⟨o2, h2⟩ := own_there t.d (R.own_at hj mt ej).2.2
    rw [fp_eq ((eH _ _ h1 (own_nt (R.own_at hi ms ei).2.2 h1)).trans h1.symm)] at ha
    rw [fp_eq ((eH _ _ h2 (own_nt (R.own_at hj mt ej).2.2 h2)).trans h2.symm)]
    exact R.apart i j s t p q ne hi hj ms mt ei ej a ha
theorem same_th (eH : Same H H') : ∀ a, H a ≠ none → H' a ≠ none := fun a h => by
  cases q : H a with
  | none => exact absurd q h
  | some o => rw [eH _ _ q]; exact fun z => nomatch z
theorem Rel.grow (R : Rel K mg B F H r σ) (eH : Same H H') (eF : Same F F') (fh : Same F' H') (fr : ∀ a, F a = none → H a ≠ none → F' a = none) : Rel K mg B F' H' r σ :=
  R.growT (R.tabs.grow eH fr) (fun a o h _ => eH a o h) (same_th eH) eF fh fr
/-- a new object is laid, and is frozen at once -/
theorem same_new {p : Addr} {o : HO} (h : H p = none) : Same H (upd H p o) := fun a u e => by
  rw [upd_ne (ne_of_none e h)]
  exact e
/-- what an object becomes when it is frozen: a dict stands with its object -/
def okSeal (u o : HO) : Prop := match u with
  | .dK kvs => ∃ ob, o = .frz ob (.dK kvs)
  | _ => o = u
theorem rep_seal {p : Addr} {u o : HO} (hp : F p = none) (hu : H p = some u) (k : okSeal u o) : ∀ (d : D), noOwn d = true → ownAt K mg F H p d → rep K mg (upd F p o) d (.ref p)
  | .lst ds, _, ⟨xs, h, r⟩ => by
    rw [h] at hu
    cases hu
    cases (show o = _ from k)
    exact ⟨p, xs, rfl, upd_same, repL_mono (same_new hp) _ _ r⟩
  | .dk ds, _, ⟨xs, h, r⟩ => by
    rw [h] at hu
    cases hu
    obtain ⟨ob, rfl⟩ := k
    exact ⟨p, ob, xs, rfl, upd_same, repK_mono (same_new hp) _ _ r⟩
  | .dt ds, _, ⟨xs, h, r⟩ => by
    rw [h] at hu
    cases hu
    cases (show o = _ from k)
    exact ⟨p, xs, rfl, upd_same, repT_mono (same_new hp) _ _ r⟩
  | .ins c fs, n, ⟨C, dx, ws, m, h, r⟩ => by
    rw [h] at hu
    cases hu
    cases (show o = _ from k)
    exact ⟨p, C, dx, ws, rfl, m, upd_same, repF_mono (same_new hp) _ _ (repF_of r n)⟩
theorem Rel.newF {p : Addr} {o : HO} (R : Rel K mg B F H r σ) (hp : H p = none) : Rel K mg B (upd F p o) (upd H p o) r σ := by
  have fp : F p = none := R.fh.free hp
  refine R.grow (same_new hp) (same_new fp) (fun a u e => ?_) (fun a h1 h2 => ?_)
  · by_cases q : a = p
    · subst q
      rw [upd_same] at e ⊢
      exact e
    · rw [upd_ne q] at e ⊢
      exact R.fh _ _ e
  · have q : a ≠ p := fun z => h2 (by rw [z]; exact hp)
    rw [upd_ne q]
    exact h1
/-- .. and is not frozen -/
theorem Rel.newO {p : Addr} {o : HO} (R : Rel K mg B F H r σ) (hp : H p = none) : Rel K mg B F (upd H p o) r σ :=
  R.grow (same_new hp) (Same.refl F) (R.fh.trans (same_new hp)) fun a h1 _ => h1
/-- a new address is not the entry's -/
theorem Rel.new_ne {p : Addr} (R : Rel K mg B F H r σ) (hp : H p = none) : B.H p = none ∧ p ∉ B.bs := by
  have nb : p ∉ B.bs := fun z => (R.live p z).1 hp
  refine ⟨?_, nb⟩
  cases q : B.H p with
  | none => rfl
  | some o => exact absurd hp (R.there p (by rw [q]; exact fun z => nomatch z))
/-- an address that is no slot's own -/
def Loose (H : Hp) (r : En) (σ : St) (a : Addr) : Prop := ∀ (i : Nat) (s : Sl) (p : Addr), r[i]? = some (some s) → s.mine = true → σ[i]? = some (some (.ref p)) → a ∉ fp H p s.d
theorem Rel.own_live (R : Rel K mg B F H r σ) {i : Nat} {s : Sl} {p : Addr} (h : r[i]? = some (some s)) (m : s.mine = true) (e : σ[i]? = some (some (.ref p))) : (∃ o, H p = some o) ∧ F p = none := by
  obtain ⟨h1, _, h3⟩ := R.own_at h m e
  exact ⟨own_there _ h3, (h1 p fp_head).1⟩
theorem Rel.loose_new0 {p : Addr} (R : Rel K mg B F H r σ) (hp : H p = none) : Loose H r σ p := fun i s q h m e ha => by
  obtain ⟨o, ho⟩ := fp_live s.d (R.own_at h m e).2.2 p ha
  rw [hp] at ho
  cases ho
theorem Loose.ne {p q : Addr} {i : Nat} {s : Sl} (h : Loose H r σ p) (hs : r[i]? = some (some s)) (m : s.mine = true) (e : σ[i]? = some (some (.ref q))) : q ≠ p := fun z => h i s q hs m e (by rw [← z]; exact fp_head)
/-- it stays so when it is written -/
theorem Loose.poke {p : Addr} {o : HO} (h : Loose H r σ p) : Loose (upd H p o) r σ p := fun i s q hs m e ha => by
  rw [fp_eq (upd_ne (h.ne hs m e))] at ha
  exact h i s q hs m e ha
theorem Rel.loose_new {p : Addr} {o : HO} (R : Rel K mg B F H r σ) (hp : H p = none) : Loose (upd H p o) r σ p := (R.loose_new0 hp).poke
theorem Rel.loose_growT {p : Addr} (R : Rel K mg B F H r σ) (eH : ∀ a o, H a = some o → NT o → H' a = some o) (hl : Loose H r σ p) : Loose H' r σ p := fun i s q hi ms ei ha => by
  obtain ⟨o1, h1⟩ := own_there s.d (R.own_at hi ms ei).2.2
  rw [fp_eq ((eH _ _ h1 (own_nt (R.own_at hi ms ei).2.2 h1)).trans h1.symm)] at ha
  exact hl i s q hi ms ei ha
theorem Rel.loose_grow {p : Addr} (R : Rel K mg B F H r σ) (eH : Same H H') (hl : Loose H r σ p) : Loose H' r σ p := R.loose_growT (fun a o h _ => eH a o h) hl
/-- a loose owned object is frozen -/
theorem Rel.freeze {p : Addr} (R : Rel K mg B F H r σ) (hF : F p = none) (hB : B.H p = none) (hl : Loose H r σ p) (hO : ∀ o, H p = some o → Own1 o) : Rel K mg B (frzAt F H p) H r σ where
  fh := frzAt_in R.fh
  f0 := R.f0.trans (frzAt_same hF)
  tabs := ⟨R.tabs.tb, fun q hq => by
    obtain ⟨ps, hps⟩ := R.tabs.there q hq
    rw [frzAt_ne fun z => (hO _ (by rw [← z]; exact hps)).nt ps rfl]
    exact R.tabs.fn q hq⟩
  keep := R.keep
  there := R.there
  fresh := fun a h1 h2 => by
    have q : a ≠ p := fun z => h2 (by rw [z]; exact hB)
    rw [frzAt_ne q]
    exact R.fresh a h1 h2
  live := R.live
  len := R.len
  slot := fun i s h => (R.slot i s h).mono (frzAt_same hF) fun m q e a ha => ⟨rfl, fun z => by
    rw [frzAt_ne fun w => hl i s q h m e (by rw [← w]; exact ha)]
    exact z⟩
  apart := R.apart
/-- .. in another form -/
theorem Rel.freezeT {p : Addr} {o : HO} (R : Rel K mg B F H r σ) (hF : F p = none) (hB : B.H p = none) (hb : p ∉ B.bs) (hl : Loose H r σ p) (hO : ∀ o, H p = some o → Own1 o) : Rel K mg B (upd F p o) (upd H p o) r σ where
  fh := fun a u e => by
    by_cases q : a = p
    · subst q
      rw [upd_same] at e ⊢
      exact e
    · rw [upd_ne q] at e ⊢
      exact R.fh _ _ e
  f0 := R.f0.trans (same_new hF)
  tabs := by
    refine ⟨(R.tabs.write (A := [p]) (F' := F) (fun a ha o ho => by rw [List.mem_singleton.mp ha] at ho; exact (hO o ho).wr) (fun a u ha h => by rw [upd_ne (fun z => ha (by rw [z]; simp))]; exact h) (fun a h _ => h)).tb, fun q hq => ?_⟩
    obtain ⟨ps, hps⟩ := R.tabs.there q hq
    rw [upd_ne fun z => (hO _ (by rw [← z]; exact hps)).nt ps rfl]
    exact R.tabs.fn q hq
  keep := fun a u h1 h2 n => by
    have q : a ≠ p := fun z => by
      rw [z, hB] at h2
      cases h2
    rw [upd_ne q]
    exact R.keep a u h1 h2 n
  there := fun a h => by
    by_cases q : a = p
    · rw [q, upd_same]
      exact fun z => nomatch z
    · rw [upd_ne q]
      exact R.there a h
  fresh := fun a h1 h2 => by
    have q : a ≠ p := fun z => h2 (by rw [z]; exact hB)
    rw [upd_ne q]
    exact R.fresh a h1 h2
  live := fun a ha => by
    have q : a ≠ p := fun z => hb (by rw [← z]; exact ha)
    rw [upd_ne q]
    exact R.live a ha
  len := R.len
  slot := fun i s h => (R.slot i s h).mono (same_new hF) fun m q e a ha => by
    have ne : a ≠ p := fun w => hl i s q h m e (by rw [← w]; exact ha)
    exact ⟨upd_ne ne, fun z => by rw [upd_ne ne]; exact z⟩
  apart := fun i j s t p1 q1 ne hi hj ms mt ei ej a ha => by
    rw [fp_eq (upd_ne (hl.ne hi ms ei))] at ha
    rw [fp_eq (upd_ne (hl.ne hj mt ej))]
    exact R.apart i j s t p1 q1 ne hi hj ms mt ei ej a ha
/-- a slot is given something frozen -/
theorem get_set {α : Type} {l : List α} {i j : Nat} {x : α} : (l.set i x)[j]? = if i = j then (if j < l.length then some x else none) else l[j]? := by
  by_cases h : i = j
  · subst h
    rw [if_pos rfl]
    by_cases q : i < l.length
    · rw [if_pos q, List.getElem?_set_self q]
    · rw [if_neg q, List.getElem?_eq_none_iff.mpr (by rw [List.length_set]; omega)]
  · rw [if_neg h, List.getElem?_set_ne h]
theorem Rel.setF {i : Nat} {v : V} {d : D} (R : Rel K mg B F H r σ) (h : rep K mg F d v) : Rel K mg B F H (r.set i (some (.fz d))) (σ.set i (some v)) where
  fh := R.fh
  f0 := R.f0
  tabs := R.tabs
  keep := R.keep
  there := R.there
  fresh := R.fresh
  live := R.live
  len := by rw [List.length_set, List.length_set]; exact R.len
  slot := fun j s hj => by
    rw [get_set] at hj
    rw [get_set, ← R.len]
    by_cases q : i = j
    · rw [if_pos q] at hj ⊢
      by_cases z : j < r.length
      · rw [if_pos z] at hj ⊢
        cases hj
        exact ⟨v, rfl, h⟩
      · rw [if_neg z] at hj
        cases hj
    · rw [if_neg q] at hj ⊢
      exact R.slot j s hj
  apart := fun a b s t p q ne ha hb ms mt ea eb => by
    rw [get_set] at ha hb ea eb
    by_cases qa : i = a
    · rw [if_pos qa] at ha
      by_cases z : a < r.length
      · rw [if_pos z] at ha
        cases ha
        cases ms
      · rw [if_neg z] at ha
        cases ha
    · rw [if_neg qa] at ha ea
      by_cases qb : i = b
      · rw [if_pos qb] at hb
        by_cases z : b < r.length
        · rw [if_pos z] at hb
          cases hb
          cases mt
        · rw [if_neg z] at hb
          cases hb
      · rw [if_neg qb] at hb eb
        exact R.apart a b s t p q ne ha hb ms mt ea eb
/-- a slot is given a new owned object -/
theorem Rel.setO {i : Nat} {p : Addr} {d : D} (R : Rel K mg B F H r σ) (hA : ∀ a ∈ fp H p d, F a = none ∧ B.H a = none ∧ a ∉ B.bs ∧ Loose H r σ a) (nd : (fp H p d).Nodup) (h : ownAt K mg F H p d) : Rel K mg B F H (r.set i (some (.ow d))) (σ.set i (some (.ref p))) where
  fh := R.fh
  f0 := R.f0
  tabs := R.tabs
  keep := R.keep
  there := R.there
  fresh := R.fresh
  live := R.live
  len := by rw [List.length_set, List.length_set]; exact R.len
  slot := fun j s hj => by
    rw [get_set] at hj
    rw [get_set, ← R.len]
    by_cases q : i = j
    · rw [if_pos q] at hj ⊢
      by_cases z : j < r.length
      · rw [if_pos z] at hj ⊢
        cases hj
        exact ⟨p, rfl, fun a ha => ⟨(hA a ha).1, (hA a ha).2.1, (hA a ha).2.2.1⟩, nd, h⟩
      · rw [if_neg z] at hj
        cases hj
    · rw [if_neg q] at hj ⊢
      exact R.slot j s hj
  apart := fun a b s t p1 q1 ne ha hb' ms mt ea eb x hx hy => by
    rw [get_set] at ha hb' ea eb
    rw [← R.len] at ea eb
    by_cases qa : i = a
    · by_cases qb : i = b
      · exact ne (qa.symm.trans qb)
      · rw [if_neg qb] at hb' eb
        rw [if_pos qa] at ha ea
        by_cases z : a < r.length
        · rw [if_pos z] at ha ea
          cases ea
          cases ha
          exact (hA x hx).2.2.2 b t q1 hb' mt eb hy
        · rw [if_neg z] at ha
          cases ha
    · rw [if_neg qa] at ha ea
      by_cases qb : i = b
      · rw [if_pos qb] at hb' eb
        by_cases z : b < r.length
        · rw [if_pos z] at hb' eb
          cases eb
          cases hb'
          exact (hA x hy).2.2.2 a s p1 ha ms ea hx
        · rw [if_neg z] at hb'
          cases hb'
      · rw [if_neg qb] at hb' eb
        exact R.apart a b s t p1 q1 ne ha hb' ms mt ea eb x hx hy
theorem Rel.setS {i : Nat} {p : Addr} {d : D} (R : Rel K mg B F H r σ) (hF : F p = none) (hB : B.H p = none) (hb : p ∉ B.bs) (hl : Loose H r σ p) (h : ownS K mg F H p d) : Rel K mg B F H (r.set i (some (.ow d))) (σ.set i (some (.ref p))) := by
  have e : fp H p d = [p] := fp_one (ownS_no h)
  refine R.setO (fun a ha => ?_) (by rw [e]; simp) (ownS_at h)
  rw [e] at ha
  rw [List.mem_singleton.mp ha]
  exact ⟨hF, hB, hb, hl⟩
/-- a slot is forgotten -/
theorem Rel.drop {i : Nat} {ov : Option V} (R : Rel K mg B F H r σ) : Rel K mg B F H (r.set i none) (σ.set i ov) where
  fh := R.fh
  f0 := R.f0
  tabs := R.tabs
  keep := R.keep
  there := R.there
  fresh := R.fresh
  live := R.live
  len := by rw [List.length_set, List.length_set]; exact R.len
  slot := fun j s hj => by
    rw [get_set] at hj
    rw [get_set]
    by_cases q : i = j
    · rw [if_pos q] at hj
      by_cases z : j < r.length
      · rw [if_pos z] at hj
        cases hj
      · rw [if_neg z] at hj
        cases hj
    · rw [if_neg q] at hj ⊢
      exact R.slot j s hj
  apart := fun a b s t p q ne ha hb ms mt ea eb => by
    rw [get_set] at ha hb ea eb
    by_cases qa : i = a
    · rw [if_pos qa] at ha
      by_cases z : a < r.length
      · rw [if_pos z] at ha
        cases ha
      · rw [if_neg z] at ha
        cases ha
    · rw [if_neg qa] at ha ea
      by_cases qb : i = b
      · rw [if_pos qb] at hb
        by_cases z : b < r.length
        · rw [if_pos z] at hb
          cases hb
        · rw [if_neg z] at hb
          cases hb
      · rw [if_neg qb] at hb eb
        exact R.apart a b s t p q ne ha hb ms mt ea eb
/-- an owned or borrowed slot's object has changed -/
def Sl.put : Sl → D → Sl
  | .fz _, d => .fz d
  | .ow _, d => .ow d
  | .bo _, d => .bo d
  | .lm _ _ _ _ _, d => .fz d
theorem Sl.put_d {s : Sl} {d : D} : (s.put d).d = d := by cases s <;> rfl
theorem Rel.mutLT {i : Nat} {s : Sl} {p : Addr} {d : D} (R : Rel K mg B F H r σ) (hs : r[i]? = some (some s)) (m : s.mine = true) (e : σ[i]? = some (some (.ref p))) (tb : TabF F' H') (eF : Same F F') (fh : Same F' H')
    (kH : ∀ a o, a ∉ fp H p s.d → H a = some o → NT o → H' a = some o) (th : ∀ a, H a ≠ none → H' a ≠ none) (lv : ∀ a ∈ fp H p s.d, H' a ≠ none) (fr : ∀ a, F a = none → H a ≠ none → F' a = none) (hq : ∀ a ∈ fp H' p d, F' a = none ∧ (a ∈ fp H p s.d ∨ (B.H a = none ∧ a ∉ B.bs ∧ Loose H r σ a))) (nd : (fp H' p d).Nodup) (h : ownAt K mg F' H' p d) :
    Rel K mg B F' H' (r.set i (some (s.put d))) σ := by
  obtain ⟨hA, _, ho⟩ := R.own_at hs m e
  -- other slots
  have oth : ∀ (j : Nat) (t : Sl) (q : Addr), i ≠ j → r[j]? = some (some t) → t.mine = true → σ[j]? = some (some (.ref q)) → ∀ a ∈ fp H q t.d, H' a = H a ∧ (F a = none → F' a = none) := fun j t q ne hj mt ej a ha => by
    have na : a ∉ fp H p s.d := fun z => R.apart i j s t p q ne hs hj m mt e ej a z ha
    obtain ⟨o, hoa⟩ := fp_live t.d (R.own_at hj mt ej).2.2 a ha
    exact ⟨by rw [hoa]; exact kH a o na hoa (fp_own t.d (R.own_at hj mt ej).2.2 a ha o hoa).nt, fun z => fr a z (by rw [hoa]; exact fun w => nomatch w)⟩
  refine ⟨fh, R.f0.trans eF, tb, fun a o hb ho' n => ?_, fun a h => th a (R.there a h), fun a h1 h2 => ?_, fun a hb => ?_, by rw [List.length_set]; exact R.len, fun j t hj => ?_, fun a b s1 t1 p1 q1 ne ha hb ms mt ea eb x hx hy => ?_⟩
  · have ne : a ∉ fp H p s.d := fun z => by
      rcases (hA a z).2 with w | w
      · exact hb w
      · rw [w] at ho'
        cases ho'
    exact kH a o ne (R.keep a o hb ho' n) n
  · exact fr a (R.fresh a h1 h2) (R.there a h2)
  · obtain ⟨h1, h2⟩ := R.live a hb
    exact ⟨th a h1, h2⟩
  · rw [get_set] at hj
    by_cases q : i = j
    · subst q
      rw [if_pos rfl] at hj
      by_cases z : i < r.length
      · rw [if_pos z] at hj
        cases hj
        have q := R.slot i s hs
        cases s with
        | fz d => cases m
        | ow d0 =>
          obtain ⟨p', e', hA', _, _⟩ := q
          rw [e'] at e
          cases e
          refine ⟨p, e', fun a ha => ?_, nd, h⟩
          obtain ⟨f1, f2⟩ := hq a ha
          rcases f2 with w | w
          · exact ⟨f1, (hA' a w).2⟩
          · exact ⟨f1, w.1, w.2.1⟩
        | bo d0 =>
          obtain ⟨p', e', hb, hA', _, _⟩ := q
          rw [e'] at e
          cases e
          refine ⟨p, e', hb, fun a ha => ?_, nd, h⟩
          obtain ⟨f1, f2⟩ := hq a ha
          rcases f2 with w | w
          · exact ⟨f1, (hA' a w).2⟩
          · exact ⟨f1, .inr w.1⟩
        | lm f c q ds vs => cases m
      · rw [if_neg z] at hj
        cases hj
    · rw [if_neg q] at hj
      exact (R.slot j t hj).mono eF fun mt q1 ej => oth j t q1 q hj mt ej
  · rw [get_set] at ha hb
    -- an address of the changed one is none of another's
    have key : ∀ (j : Nat) (t : Sl) (q : Addr), i ≠ j → r[j]? = some (some t) → t.mine = true → σ[j]? = some (some (.ref q)) → ∀ x ∈ fp H' p d, x ∉ fp H' q t.d := fun j t q nj hj mj ej x hx hy => by
      rw [fp_eq (oth j t q nj hj mj ej q fp_head).1] at hy
      rcases (hq x hx).2 with w | w
      · exact R.apart i j s t p q nj hs hj m mj e ej x w hy
      · exact w.2.2 j t q hj mj ej hy
    by_cases qa : i = a
    · subst qa
      rw [if_pos rfl] at ha
      by_cases z : i < r.length
      · rw [if_pos z] at ha
        cases ha
        rw [e] at ea
        cases ea
        rw [Sl.put_d] at hx
        rw [if_neg ne] at hb
        exact key b t1 q1 ne hb mt eb x hx hy
      · rw [if_neg z] at ha
        cases ha
    · rw [if_neg qa] at ha
      by_cases qb : i = b
      · subst qb
        rw [if_pos rfl] at hb
        by_cases z : i < r.length
        · rw [if_pos z] at hb
          cases hb
          rw [e] at eb
          cases eb
          rw [Sl.put_d] at hy
          exact key a s1 p1 qa ha ms ea x hy hx
        · rw [if_neg z] at hb
          cases hb
      · rw [if_neg qb] at hb
        rw [fp_eq (oth a s1 p1 qa ha ms ea p1 fp_head).1] at hx
        rw [fp_eq (oth b t1 q1 qb hb mt eb q1 fp_head).1] at hy
        exact R.apart a b s1 t1 p1 q1 ne ha hb ms mt ea eb x hx hy
theorem Rel.mutL {i : Nat} {s : Sl} {p : Addr} {d : D} (R : Rel K mg B F H r σ) (hs : r[i]? = some (some s)) (m : s.mine = true) (e : σ[i]? = some (some (.ref p))) (eF : Same F F') (fh : Same F' H')
    (kH : ∀ a o, a ∉ fp H p s.d → H a = some o → H' a = some o) (lv : ∀ a ∈ fp H p s.d, H' a ≠ none) (fr : ∀ a, F a = none → H a ≠ none → F' a = none) (hq : ∀ a ∈ fp H' p d, F' a = none ∧ (a ∈ fp H p s.d ∨ (B.H a = none ∧ a ∉ B.bs ∧ Loose H r σ a))) (nd : (fp H' p d).Nodup) (h : ownAt K mg F' H' p d) :
    Rel K mg B F' H' (r.set i (some (s.put d))) σ := by
  refine R.mutLT hs m e ?_ eF fh (fun a o na ho _ => kH a o na ho) (fun a ha => ?_) lv fr hq nd h
  · exact R.tabs.write (A := fp H p s.d) (fun a ha o ho => (fp_own s.d (R.own_at hs m e).2.2 a ha o ho).wr) kH fr
  · by_cases ne : a ∈ fp H p s.d
    · exact lv a ne
    · cases q : H a with
      | none => exact absurd q ha
      | some o => rw [kH _ _ ne q]; exact fun z => nomatch z
theorem Rel.mut {i : Nat} {s : Sl} {p : Addr} {d : D} (R : Rel K mg B F H r σ) (hs : r[i]? = some (some s)) (m : s.mine = true) (e : σ[i]? = some (some (.ref p))) (eF : Same F F') (fh : Same F' H')
    (kH : ∀ a o, a ∉ fp H p s.d → H a = some o → H' a = some o) (lv : ∀ a ∈ fp H p s.d, H' a ≠ none) (fr : ∀ a, F a = none → H a ≠ none → F' a = none) (hq : ∀ a ∈ fp H' p d, F' a = none ∧ (a ∈ fp H p s.d ∨ H a = none)) (nd : (fp H' p d).Nodup) (h : ownAt K mg F' H' p d) :
    Rel K mg B F' H' (r.set i (some (s.put d))) σ :=
  R.mutL hs m e eF fh kH lv fr (fun a ha => ⟨(hq a ha).1, (hq a ha).2.imp id fun z => ⟨(R.new_ne z).1, (R.new_ne z).2, R.loose_new0 z⟩⟩) nd h
theorem Rel.mutT {i : Nat} {s : Sl} {p : Addr} {d : D} (R : Rel K mg B F H r σ) (hs : r[i]? = some (some s)) (m : s.mine = true) (e : σ[i]? = some (some (.ref p))) (tb : TabF F' H') (eF : Same F F') (fh : Same F' H')
    (kH : ∀ a o, a ∉ fp H p s.d → H a = some o → NT o → H' a = some o) (th : ∀ a, H a ≠ none → H' a ≠ none) (lv : ∀ a ∈ fp H p s.d, H' a ≠ none) (fr : ∀ a, F a = none → H a ≠ none → F' a = none) (hq : ∀ a ∈ fp H' p d, F' a = none ∧ (a ∈ fp H p s.d ∨ H a = none)) (nd : (fp H' p d).Nodup) (h : ownAt K mg F' H' p d) :
    Rel K mg B F' H' (r.set i (some (s.put d))) σ :=
  R.mutLT hs m e tb eF fh kH th lv fr (fun a ha => ⟨(hq a ha).1, (hq a ha).2.imp id fun z => ⟨(R.new_ne z).1, (R.new_ne z).2, R.loose_new0 z⟩⟩) nd h
/-- .. an object without own parts -/
theorem Rel.mut1 {i : Nat} {s : Sl} {p : Addr} {d : D} (R : Rel K mg B F H r σ) (hs : r[i]? = some (some s)) (m : s.mine = true) (e : σ[i]? = some (some (.ref p))) (eF : Same F F') (fh : Same F' H')
    (kH : ∀ a o, a ≠ p → H a = some o → H' a = some o) (fr : ∀ a, F a = none → H a ≠ none → F' a = none) (n : noOwn d = true) (h : ownAt K mg F' H' p d) : Rel K mg B F' H' (r.set i (some (s.put d))) σ := by
  obtain ⟨hA, _, ho⟩ := R.own_at hs m e
  obtain ⟨op, hop⟩ := own_there s.d ho
  obtain ⟨op', hop'⟩ := own_there d h
  refine R.mut hs m e eF fh (fun a o na => kH a o fun z => na (by rw [z]; exact fp_head)) (fun a ha => ?_) fr (fun a ha => ?_) (by rw [fp_one n]; simp) h
  · by_cases z : a = p
    · rw [z, hop']
      exact fun w => nomatch w
    · obtain ⟨o, hoa⟩ := fp_live s.d ho a ha
      rw [kH a o z hoa]
      exact fun w => nomatch w
  · rw [fp_one n] at ha
    rw [List.mem_singleton.mp ha]
    exact ⟨fr p (hA p fp_head).1 (by rw [hop]; exact fun w => nomatch w), .inl fp_head⟩
/-- an owned slot frozen where it stands -/
theorem Rel.frz {i : Nat} {p : Addr} {d : D} {u o : HO} (R : Rel K mg B F H r σ) (hs : r[i]? = some (some (.ow d))) (n : noOwn d = true) (e : σ[i]? = some (some (.ref p))) (hu : H p = some u) (k : okSeal u o) : Rel K mg B (upd F p o) (upd H p o) (r.set i (some (.fz d))) σ ∧ rep K mg (upd F p o) d (.ref p) ∧ Same F (upd F p o) := by
  obtain ⟨p', e', hA, nd, h⟩ := R.slot i _ hs
  rw [e] at e'
  cases e'
  obtain ⟨hF, hB, hb⟩ := hA p fp_head
  have hi : i < r.length := (List.getElem?_eq_some_iff.mp hs).1
  have hi' : i < σ.length := by rw [← R.len]; exact hi
  have R1 : Rel K mg B F H (r.set i none) (σ.set i (some (.ref p))) := R.drop
  have es : σ.set i (some (.ref p)) = σ := by
    refine List.ext_getElem? fun j => ?_
    rw [get_set]
    by_cases q : i = j
    · subst q
      rw [if_pos rfl, if_pos hi', e]
    · rw [if_neg q]
  rw [es] at R1
  have hl : Loose H (r.set i none) σ p := fun j t q hj mt ej => by
    rw [get_set] at hj
    by_cases qq : i = j
    · rw [if_pos qq] at hj
      by_cases z : j < r.length
      · rw [if_pos z] at hj
        cases hj
      · rw [if_neg z] at hj
        cases hj
    · rw [if_neg qq] at hj
      exact R.apart i j _ t p q qq hs hj rfl mt e ej p fp_head
  have R2 := R1.freezeT (o := o) hF hB hb hl (fun u hu => fp_own _ (R.own_at hs rfl e).2.2 p fp_head u hu)
  have h2 := rep_seal (K := K) (mg := mg) (H := H) hF hu k d n h
  have R3 := R2.setF (i := i) h2
  rw [es, List.set_set] at R3
  exact ⟨R3, h2, same_new hF⟩
end
end Dl

set_option Elab.async false
set_option linter.all false
set_option maxRecDepth 100000
set_option maxHeartbeats 4000000
namespace Dl
open PySem L2
variable [Dl.Tb]

/-! ### what is wanted behind an evaluation -/
abbrev RR (α β : Type) := Bg → St → En → Hp → Hp → α → β → Prop
section
variable (K : PySem.W.Frag) (mg : Str → Option Value)
def xdOk (F H : Hp) (fs : List (Str × D)) : Option Addr → Prop
  | none => fs = []
  | some dd => ∃ ws, H dd = some (.xd ws) ∧ repF K mg F fs ws
def PoX (W : WX) (B : Bg) (F : Hp) (c : Str) (fs : List (Str × D)) (r' : En) : Prop :=
  ∀ C od σ' F' H', mg c = some (.ref C) → Rel K mg B F' H' r' σ' → Same F F' → xdOk K mg F' H' fs od → W (.ref C) od σ' H'
def Po {α β : Type} (W : WX) (B : Bg) (F : Hp) (σ : St) (R : RR α β) (Q : β → Hp → Prop) : Res (α × En) → Prop
  | .ok (a, r') => ∀ b F' H', Rel K mg B F' H' r' σ → Same F F' → R B σ r' F' H' a b → Q b H'
  | .er c fs r' => PoX K mg W B F c fs r'
  | .bad => False
def Ent {α β : Type} (W : WX) (R : RR α β) (t : St → Hp → (β → Hp → Prop) → Prop) (f : En → Res (α × En)) : Prop :=
  ∀ B F H r σ Q, Rel K mg B F H r σ → Po K mg W B F σ R Q (f r) → t σ H Q
/-- results: a frozen value, a truth, a list of frozen values, a new object -/
def rE : RR D V := fun _ _ _ F _ d v => rep K mg F d v
def rT : RR Bool Bool := fun _ _ _ _ _ a b => a = b
def rA : RR (List D) (List V) := fun _ _ _ F _ ds vs => repL K mg F ds vs
def rN : RR D V := fun B σ r F H d v => ∃ p, v = .ref p ∧ F p = none ∧ B.H p = none ∧ p ∉ B.bs ∧ Loose H r σ p ∧ ownS K mg F H p d
/-- .. with own parts -/
def rM : RR D V := fun B σ r F H d v => ∃ p, v = .ref p ∧ (∀ a ∈ fp H p d, F a = none ∧ B.H a = none ∧ a ∉ B.bs ∧ Loose H r σ a) ∧ (fp H p d).Nodup ∧ ownAt K mg F H p d
/-- what is looked at alone: a frozen value, or what stands in a slot -/
inductive BV where
  | fz (d : D) | sl (i : Nat)
def rB : RR BV V := fun _ σ _ F _ b v => match b with
  | .fz d => rep K mg F d v
  | .sl i => σ[i]? = some (some v)
end
def getB : BV → En → Res D
  | .fz d, _ => .ok d
  | .sl i, r => match r[i]? with
    | some (some s) => .ok s.d
    | _ => .bad
theorem getB_ner {b : BV} {r : En} {c : Str} {fs : List (Str × D)} {r' : En} (h : getB b r = .er c fs r') : False := by
  cases b with
  | fz d => cases h
  | sl i =>
    unfold getB at h
    cases e : r[i]? with
    | none =>
      simp only [e] at h
      cases h
    | some o =>
      cases o with
      | none =>
        simp only [e] at h
        cases h
      | some s =>
        simp only [e] at h
        cases h
section
variable {K : PySem.W.Frag} {mg : Str → Option Value} {W : WX} {B : Bg} {F F' H H' : Hp} {r : En} {σ : St}
theorem PoX.weak {c : Str} {fs : List (Str × D)} {r' : En} (h : PoX K mg W B F c fs r') (e : Same F F') : PoX K mg W B F' c fs r' :=
  fun C od σ' F1 H1 m R s x => h C od σ' F1 H1 m R (e.trans s) x
theorem Po.weak {α β : Type} {R : RR α β} {Q : β → Hp → Prop} {m : Res (α × En)} (h : Po K mg W B F σ R Q m) (e : Same F F') : Po K mg W B F' σ R Q m := by
  cases m with
  | ok p => exact fun b F1 H1 R1 s x => h b F1 H1 R1 (e.trans s) x
  | er c fs r' => exact PoX.weak h e
  | bad => exact h
theorem Po.bind {α β γ δ : Type} {R : RR α β} {R' : RR γ δ} {m : Res (α × En)} {k : α × En → Res (γ × En)} {Q : δ → Hp → Prop} {Q1 : β → Hp → Prop} (h : Po K mg W B F σ R' Q (m.bind k))
    (c : ∀ a r' b F' H', Rel K mg B F' H' r' σ → Same F F' → R B σ r' F' H' a b → Po K mg W B F' σ R' Q (k (a, r')) → Q1 b H') : Po K mg W B F σ R Q1 m := by
  cases m with
  | ok p =>
    obtain ⟨a, r'⟩ := p
    exact fun b F1 H1 R1 s x => c a r' b F1 H1 R1 s x (Po.weak (show Po K mg W B F σ R' Q (k (a, r')) from h) s)
  | er c fs r' => exact h
  | bad => exact h
theorem Po.fin {α β : Type} {R : RR α β} {Q : β → Hp → Prop} {a : α} {b : β} (h : Po K mg W B F σ R Q (.ok (a, r))) (R1 : Rel K mg B F H r σ) (x : R B σ r F H a b) : Q b H := h b F H R1 (Same.refl F) x
theorem Ent.to {α β γ δ : Type} {R : RR α β} {R' : RR γ δ} {t : St → Hp → (β → Hp → Prop) → Prop} {f : En → Res (α × En)} {k : α × En → Res (γ × En)} {Q : δ → Hp → Prop} {Q1 : β → Hp → Prop} (h : Ent K mg W R t f) (R1 : Rel K mg B F H r σ)
    (p : Po K mg W B F σ R' Q ((f r).bind k)) (c : ∀ a r' b F' H', Rel K mg B F' H' r' σ → Same F F' → R B σ r' F' H' a b → Po K mg W B F' σ R' Q (k (a, r')) → Q1 b H') : t σ H Q1 :=
  h B F H r σ Q1 R1 (Po.bind p c)
theorem rB_mono {b : BV} {v : V} {r' : En} (e : Same F F') (h : rB K mg B σ r F H b v) : rB K mg B σ r' F' H' b v := by
  cases b with
  | fz d => exact rep_mono e d v h
  | sl i => exact h
theorem getB_vw {b : BV} {v : V} {d : D} (R : Rel K mg B F H r σ) (h : rB K mg B σ r F H b v) (g : getB b r = .ok d) : vw K mg F H d v := by
  cases b with
  | fz d' =>
    cases g
    exact vw_of R.fh d v h
  | sl i =>
    have h' : σ[i]? = some (some v) := h
    unfold getB at g
    cases e : r[i]? with
    | none =>
      simp only [e] at g
      cases g
    | some o =>
      cases o with
      | none =>
        simp only [e] at g
        cases g
      | some s =>
        simp only [e] at g
        cases g
        have q := R.slot i s e
        cases s with
        | fz d =>
          obtain ⟨v', e', h1⟩ := q
          rw [h'] at e'
          cases e'
          exact vw_of R.fh _ _ h1
        | ow d =>
          obtain ⟨p, e', _, _, h1⟩ := q
          rw [h'] at e'
          cases e'
          exact vw_own _ h1
        | bo d =>
          obtain ⟨p, e', _, _, _, h1⟩ := q
          rw [h'] at e'
          cases e'
          exact vw_own _ h1
        | lm f c q0 ds vs =>
          obtain ⟨e', _, _, h1⟩ := q
          rw [h'] at e'
          cases e'
          exact ⟨rfl, h1⟩
end

/-! ### the judgements -/
structure DE (X : Cx) (W : WX) (e : Expr) (f : En → Res (D × En)) : Prop where
  ex : ∃ t, PE X e t ∧ Ent X.K X.mg W (rE X.K X.mg) t f
structure DN (X : Cx) (W : WX) (e : Expr) (f : En → Res (D × En)) : Prop where
  ex : ∃ t, PE X e t ∧ Ent X.K X.mg W (rN X.K X.mg) t f
structure DB (X : Cx) (W : WX) (e : Expr) (f : En → Res (BV × En)) : Prop where
  ex : ∃ t, PE X e t ∧ Ent X.K X.mg W (rB X.K X.mg) t f
structure DT (X : Cx) (W : WX) (e : Expr) (f : En → Res (Bool × En)) : Prop where
  ex : ∃ t, PT X e t ∧ Ent X.K X.mg W rT t f
structure DW (X : Cx) (W : WX) (e : Expr) (f : En → Res (Bool × En)) : Prop where
  ex : ∃ t, PW X e t ∧ Ent X.K X.mg W rT t f
structure DA (X : Cx) (W : WX) (es : List Expr) (f : En → Res (List D × En)) : Prop where
  ex : ∃ t, PA X es t ∧ Ent X.K X.mg W (rA X.K X.mg) t f

/-! ### combinators -/
def eVar (i : Nat) : En → Res (D × En) := fun r => match r[i]? with
  | some (some (.fz d)) => .ok (d, r)
  | some (some (.ow d)) => if noOwn d = true then .ok (d, r.set i (some (.fz d))) else .bad
  | _ => .bad
def eC (d : D) : En → Res (D × En) := fun r => .ok (d, r)
def bVar (i : Nat) : En → Res (BV × En) := fun r => match r[i]? with
  | some (some _) => .ok (.sl i, r)
  | _ => .bad
def bOf (f : En → Res (D × En)) : En → Res (BV × En) := fun r => (f r).bind fun p => .ok (.fz p.1, p.2)
def liftR {α : Type} (m : Option α) : Res α := match m with
  | some a => .ok a
  | none => .bad
/-- two operands, looked at when both are there -/
def eBin (g : D → D → Option D) (fa fb : En → Res (BV × En)) : En → Res (D × En) := fun r =>
  (fa r).bind fun p => (fb p.2).bind fun q => (getB p.1 q.2).bind fun x => (getB q.1 q.2).bind fun y => (liftR (g x y)).bind fun z => .ok (z, q.2)
def eUn (g : D → Option D) (fa : En → Res (BV × En)) : En → Res (D × En) := fun r =>
  (fa r).bind fun p => (getB p.1 p.2).bind fun x => (liftR (g x)).bind fun z => .ok (z, p.2)

section
variable {X : Cx} {W : WX}
theorem DE.db {e : Expr} {f : En → Res (D × En)} (h : DE X W e f) : DB X W e (bOf f) := by
  obtain ⟨t, hp, he⟩ := h.ex
  exact ⟨t, hp, fun B F H r σ Q R p => he.to R p fun a r' b F' H' R' s x q => q.fin R' x⟩
theorem PE.or {X : Cx} {e : Expr} {t u : TE} (h : PE X e t) (k : PE X e u) : PE X e (fun σ H Q => t σ H Q ∨ u σ H Q) := ⟨fun pins s σ H Q I z => z.elim (h.run pins s σ H Q I) (k.run pins s σ H Q I)⟩
/-- what is new is sealed -/
def zSeal (v : V) (H : Hp) (Q : VK) : Prop := (∀ p u, v = .ref p → H p = some u → ∀ o, okSeal u o → Q v (upd H p o)) ∧ ((∀ p u, v = .ref p → H p ≠ some u) → Q v H)
def tSeal (t : TE) : TE := fun σ H Q => t σ H fun v H1 => zSeal v H1 Q
theorem upd_id {H : Hp} {p : Addr} {u : HO} (h : H p = some u) : upd H p u = H := by
  funext b
  by_cases q : b = p
  · subst q
    rw [upd_same, h]
  · rw [upd_ne q]
theorem pe_seal {e : Expr} {t : TE} (h : PE X e t) : PE X e (tSeal t) := by
  refine ⟨fun pins s σ H Q I q => thn (h.run pins s σ H _ I q) fun w s1 ⟨v, H1, I1, r1, q1⟩ => ?_⟩
  by_cases c : ∃ p u, v = .ref p ∧ H1 p = some u
  · obtain ⟨p, u, rfl, hu⟩ := c
    by_cases d : ∃ kvs, u = .dK kvs
    · obtain ⟨kvs, rfl⟩ := d
      obtain ⟨ob, I2⟩ := I1.lock hu True.intro
      exact ⟨_, _, I2, r1, q1.1 p _ rfl hu _ ⟨ob, rfl⟩⟩
    · have k : okSeal u u := by
        cases u with
        | dK kvs => exact absurd ⟨kvs, rfl⟩ d
        | _ => exact rfl
      have z := q1.1 p u rfl hu u k
      rw [upd_id hu] at z
      exact ⟨_, _, I1, r1, z⟩
  · exact ⟨_, _, I1, r1, q1.2 fun p u ev hu => c ⟨p, u, ev, hu⟩⟩
theorem DN.de {e : Expr} {f : En → Res (D × En)} (h : DN X W e f) : DE X W e f := by
  obtain ⟨t, hp, he⟩ := h.ex
  refine ⟨_, pe_seal hp, fun B F H r σ Q R p => he B F H r σ _ R ?_⟩
  cases q : f r with
  | ok a =>
    obtain ⟨d, r'⟩ := a
    rw [q] at p
    rintro b F' H' R' s ⟨pa, rfl, h1, h2, h3, h4, h5⟩
    obtain ⟨u0, hu0⟩ := own_there d (ownS_at h5)
    refine ⟨fun p' u ev hu o k => ?_, fun z => absurd hu0 (z pa u0 rfl)⟩
    cases ev
    exact p _ _ _ (R'.freezeT h1 h2 h3 h4 (fun u hu => fp_own _ (ownS_at h5) _ fp_head u hu)) (s.trans (same_new h1)) (rep_seal h1 hu k d (ownS_no h5) (ownS_at h5))
  | er c fs r' =>
    rw [q] at p
    exact p
  | bad =>
    rw [q] at p
    exact p
theorem de_var {i : Nat} {x : Str} {pos : Pos} (hN : X.N[i]? = some x := by rfl) (hv : Vis X.env.scope x := by first | exact Or.inl rfl | exact Or.inr (Or.inl rfl) | exact Or.inr (Or.inr rfl)) (hd : (x == ("__debug__" : Str)) = false := by decide)
    (hcd : (x == ("__classdict__" : Str)) = false := by decide) : DE X W (.Name x pos) (eVar i) := by
  refine ⟨_, PE.or (pe_var hN hv hd hcd) (pe_seal (pe_var hN hv hd hcd)), fun B F H r σ Q R p => ?_⟩
  unfold eVar at p
  cases e : r[i]? with
  | none =>
    rw [e] at p
    exact p.elim
  | some o =>
    cases o with
    | none =>
      rw [e] at p
      exact p.elim
    | some s =>
      rw [e] at p
      have q := R.slot i s e
      cases s with
      | fz d =>
        obtain ⟨v, e', h1⟩ := q
        exact .inl ⟨v, e', p v F H R (Same.refl F) h1⟩
      | ow d =>
        obtain ⟨pa, e', h1⟩ := q
        obtain ⟨u0, hu0⟩ := own_there d h1.2.2
        by_cases no : noOwn d = true
        · simp only [if_pos no] at p
          refine .inr ⟨_, e', fun p' u ev hu o k => ?_, fun z => absurd hu0 (z pa u0 rfl)⟩
          cases ev
          obtain ⟨R1, r1, s1⟩ := R.frz e no e' hu k
          exact p _ _ _ R1 s1 r1
        · simp only [if_neg no] at p
          exact p.elim
      | bo d => exact p.elim
      | lm f c q0 ds vs => exact p.elim
theorem db_var {i : Nat} {x : Str} {pos : Pos} (hN : X.N[i]? = some x := by rfl) (hv : Vis X.env.scope x := by first | exact Or.inl rfl | exact Or.inr (Or.inl rfl) | exact Or.inr (Or.inr rfl)) (hd : (x == ("__debug__" : Str)) = false := by decide)
    (hcd : (x == ("__classdict__" : Str)) = false := by decide) : DB X W (.Name x pos) (bVar i) := by
  refine ⟨_, pe_var hN hv hd hcd, fun B F H r σ Q R p => ?_⟩
  unfold bVar at p
  cases e : r[i]? with
  | none =>
    rw [e] at p
    exact p.elim
  | some o =>
    cases o with
    | none =>
      rw [e] at p
      exact p.elim
    | some s =>
      rw [e] at p
      have q := R.slot i s e
      cases s with
      | fz d =>
        obtain ⟨v, e', h1⟩ := q
        exact ⟨v, e', p v F H R (Same.refl F) e'⟩
      | ow d =>
        obtain ⟨pa, e', h1⟩ := q
        exact ⟨_, e', p _ F H R (Same.refl F) e'⟩
      | bo d =>
        obtain ⟨pa, e', h1⟩ := q
        exact ⟨_, e', p _ F H R (Same.refl F) e'⟩
      | lm f c q0 ds vs =>
        obtain ⟨e', h1⟩ := q
        exact ⟨_, e', p _ F H R (Same.refl F) e'⟩
theorem de_c {e : Expr} {d : D} {v : V} (h : PE X e (tC v)) (hr : ∀ F, rep X.K X.mg F d v) : DE X W e (eC d) := ⟨_, h, fun B F H r σ Q R p => p v F H R (Same.refl F) (hr F)⟩
theorem de_int {i j pos} : DE X W (.Constant (.int i) j pos) (eC (.int i)) := de_c pe_int fun _ => rfl
theorem de_bl {i j pos} : DE X W (.Constant (.bool i) j pos) (eC (.bl i)) := de_c pe_bl fun _ => rfl
theorem de_non {j pos} : DE X W (.Constant .none j pos) (eC .non) := de_c pe_non fun _ => rfl
theorem de_str {x j pos} : DE X W (.Constant (.str x) j pos) (eC (.str x)) := de_c pe_str fun _ => rfl
/-- a module's name: a number, a text; a def or a class; a built-in class -/
theorem de_gint {x : Str} {i : Int} {pos : Pos} (hg : Gl X x) (hm : ∃ t, X.mg x = some (.int i t)) (hd : (x == ("__debug__" : Str)) = false := by decide) : DE X W (.Name x pos) (eC (.int i)) := by
  obtain ⟨t, e⟩ := hm
  exact de_c (pe_glob (v := .int i) hg e ⟨t, rfl⟩ hd) fun _ => rfl
theorem de_gstr {x z : Str} {pos : Pos} (hg : Gl X x) (hm : ∃ t, X.mg x = some (.str z t)) (hd : (x == ("__debug__" : Str)) = false := by decide) : DE X W (.Name x pos) (eC (.str z)) := by
  obtain ⟨t, e⟩ := hm
  exact de_c (pe_glob (v := .str z) hg e ⟨t, rfl⟩ hd) fun _ => rfl
theorem de_gl {x : Str} {a : Addr} {pos : Pos} (hg : Gl X x) (hm : X.mg x = some (.ref a)) (hd : (x == ("__debug__" : Str)) = false := by decide) : DE X W (.Name x pos) (eC (.gl x)) :=
  de_c (pe_glob (v := .ref a) hg hm rfl hd) fun _ => ⟨a, rfl, hm⟩
/-! ### operators on values -/
/-- nothing changes: rr v u gives g x y -/
def OpV (X : Cx) (rr : R2) (g : D → D → Option D) : Prop := ∀ F H v u x y z Q, Same F H → vw X.K X.mg F H x v → vw X.K X.mg F H y u → g x y = some z → (∀ w, rep X.K X.mg F z w → Q w H) → rr v u H Q
/-- a new object comes -/
def OpN (X : Cx) (rr : R2) (g : D → D → Option D) : Prop := ∀ F H v u x y z Q, Same F H → vw X.K X.mg F H x v → vw X.K X.mg F H y u → g x y = some z → (∀ p o, H p = none → ownS X.K X.mg F (upd H p o) p z → Q (.ref p) (upd H p o)) → rr v u H Q
def UnV (X : Cx) (rr : V → Hp → VK → Prop) (g : D → Option D) : Prop := ∀ F H v x z Q, Same F H → vw X.K X.mg F H x v → g x = some z → (∀ w, rep X.K X.mg F z w → Q w H) → rr v H Q
def UnN (X : Cx) (rr : V → Hp → VK → Prop) (g : D → Option D) : Prop := ∀ F H v x z Q, Same F H → vw X.K X.mg F H x v → g x = some z → (∀ p o, H p = none → ownS X.K X.mg F (upd H p o) p z → Q (.ref p) (upd H p o)) → rr v H Q
theorem bin_ent {ta tb : TE} {fa fb : En → Res (BV × En)} {rr : R2} {g : D → D → Option D} {R : RR D V} (ha : Ent X.K X.mg W (rB X.K X.mg) ta fa) (hb : Ent X.K X.mg W (rB X.K X.mg) tb fb)
    (hr : ∀ B F H r σ v u x y z Q, Rel X.K X.mg B F H r σ → vw X.K X.mg F H x v → vw X.K X.mg F H y u → g x y = some z → Po X.K X.mg W B F σ R Q (.ok (z, r)) → rr v u H Q) : Ent X.K X.mg W R (tOp rr ta tb) (eBin g fa fb) := by
  intro B F H r σ Q R0 p
  unfold eBin at p
  refine ha.to R0 p fun a r1 v F1 H1 R1 s1 x1 p1 => ?_
  refine hb.to R1 p1 fun b r2 u F2 H2 R2 s2 x2 p2 => ?_
  have x1' := rB_mono (r' := r2) (H' := H2) s2 x1
  cases g1 : getB a r2 with
  | ok d1 =>
    cases g2 : getB b r2 with
    | ok d2 =>
      simp only [g1, g2, bind_ok] at p2
      cases g3 : g d1 d2 with
      | some z =>
        simp only [g3, liftR, bind_ok] at p2
        exact hr B F2 H2 r2 σ v u d1 d2 z Q R2 (getB_vw R2 x1' g1) (getB_vw R2 x2 g2) g3 p2
      | none =>
        simp only [g3, liftR, bind_bad] at p2
        exact p2.elim
    | er c fs r' =>
      exact (getB_ner g2).elim
    | bad =>
      simp only [g1, g2, bind_ok, bind_bad] at p2
      exact p2.elim
  | er c fs r' =>
    exact (getB_ner g1).elim
  | bad =>
    simp only [g1, bind_bad] at p2
    exact p2.elim
theorem un_ent {ta : TE} {fa : En → Res (BV × En)} {rr : V → Hp → VK → Prop} {g : D → Option D} {R : RR D V} (ha : Ent X.K X.mg W (rB X.K X.mg) ta fa)
    (hr : ∀ B F H r σ v x z Q, Rel X.K X.mg B F H r σ → vw X.K X.mg F H x v → g x = some z → Po X.K X.mg W B F σ R Q (.ok (z, r)) → rr v H Q) : Ent X.K X.mg W R (tUn rr ta) (eUn g fa) := by
  intro B F H r σ Q R0 p
  unfold eUn at p
  refine ha.to R0 p fun a r1 v F1 H1 R1 s1 x1 p1 => ?_
  cases g1 : getB a r1 with
  | ok d1 =>
    simp only [g1, bind_ok] at p1
    cases g3 : g d1 with
    | some z =>
      simp only [g3, liftR, bind_ok] at p1
      exact hr B F1 H1 r1 σ v d1 z Q R1 (getB_vw R1 x1 g1) g3 p1
    | none =>
      simp only [g3, liftR, bind_bad] at p1
      exact p1.elim
  | er c fs r' =>
    exact (getB_ner g1).elim
  | bad =>
    simp only [g1, bind_bad] at p1
    exact p1.elim
theorem opV_hr {rr : R2} {g : D → D → Option D} (h : OpV X rr g) (B F H r σ v u x y z Q) (R0 : Rel X.K X.mg B F H r σ) (h1 : vw X.K X.mg F H x v) (h2 : vw X.K X.mg F H y u) (h3 : g x y = some z) (p : Po X.K X.mg W B F σ (rE X.K X.mg) Q (.ok (z, r))) : rr v u H Q :=
  h F H v u x y z Q R0.fh h1 h2 h3 fun w hw => p w F H R0 (Same.refl F) hw
theorem opN_hr {rr : R2} {g : D → D → Option D} (h : OpN X rr g) (B F H r σ v u x y z Q) (R0 : Rel X.K X.mg B F H r σ) (h1 : vw X.K X.mg F H x v) (h2 : vw X.K X.mg F H y u) (h3 : g x y = some z) (p : Po X.K X.mg W B F σ (rN X.K X.mg) Q (.ok (z, r))) : rr v u H Q :=
  h F H v u x y z Q R0.fh h1 h2 h3 fun pa o hp ho => p _ F _ (R0.newO hp) (Same.refl F) ⟨pa, rfl, R0.fh.free hp, (R0.new_ne hp).1, (R0.new_ne hp).2, R0.loose_new hp, ho⟩
theorem unV_hr {rr : V → Hp → VK → Prop} {g : D → Option D} (h : UnV X rr g) (B F H r σ v x z Q) (R0 : Rel X.K X.mg B F H r σ) (h1 : vw X.K X.mg F H x v) (h3 : g x = some z) (p : Po X.K X.mg W B F σ (rE X.K X.mg) Q (.ok (z, r))) : rr v H Q :=
  h F H v x z Q R0.fh h1 h3 fun w hw => p w F H R0 (Same.refl F) hw
theorem unN_hr {rr : V → Hp → VK → Prop} {g : D → Option D} (h : UnN X rr g) (B F H r σ v x z Q) (R0 : Rel X.K X.mg B F H r σ) (h1 : vw X.K X.mg F H x v) (h3 : g x = some z) (p : Po X.K X.mg W B F σ (rN X.K X.mg) Q (.ok (z, r))) : rr v H Q :=
  h F H v x z Q R0.fh h1 h3 fun pa o hp ho => p _ F _ (R0.newO hp) (Same.refl F) ⟨pa, rfl, R0.fh.free hp, (R0.new_ne hp).1, (R0.new_ne hp).2, R0.loose_new hp, ho⟩
variable {a b e : Expr} {pos : Pos} {fa fb : En → Res (BV × En)}
theorem de_op {op : Operator} {rr : R2} {g : D → D → Option D} (ho : OpR X (binaryOp op) rr) (hv : OpV X rr g) (ha : DB X W a fa) (hb : DB X W b fb) : DE X W (.BinOp a op b pos) (eBin g fa fb) := by
  obtain ⟨ta, pa, ea⟩ := ha.ex
  obtain ⟨tb, pb, eb⟩ := hb.ex
  exact ⟨_, pe_op ho pa pb, bin_ent ea eb (opV_hr hv)⟩
theorem dn_op {op : Operator} {rr : R2} {g : D → D → Option D} (ho : OpR X (binaryOp op) rr) (hv : OpN X rr g) (ha : DB X W a fa) (hb : DB X W b fb) : DN X W (.BinOp a op b pos) (eBin g fa fb) := by
  obtain ⟨ta, pa, ea⟩ := ha.ex
  obtain ⟨tb, pb, eb⟩ := hb.ex
  exact ⟨_, pe_op ho pa pb, bin_ent ea eb (opN_hr hv)⟩
theorem de_un {op : UnaryOp} {rr : V → Hp → VK → Prop} {g : D → Option D} (ho : UnR X (unaryOp op) rr) (hv : UnV X rr g) (ha : DB X W a fa) : DE X W (.UnaryOp op a pos) (eUn g fa) := by
  obtain ⟨ta, pa, ea⟩ := ha.ex
  exact ⟨_, pe_un ho pa, un_ent ea (unV_hr hv)⟩
/-- a[i], a a thing that is looked at -/
theorem de_ix {rr : R2} {g : D → D → Option D} (ho : IxR X rr) (hv : OpV X rr g) (ha : DB X W a fa) (hb : DB X W b fb) (hs : PlainIx b := by exact fun _ _ => rfl) : DE X W (.Subscript a b pos) (eBin g fa fb) := by
  obtain ⟨ta, pa, ea⟩ := ha.ex
  obtain ⟨tb, pb, eb⟩ := hb.ex
  exact ⟨_, pe_ix ho pa pb hs, bin_ent ea eb (opV_hr hv)⟩

/-! ### tests -/
def tOfE (f : En → Res (D × En)) : En → Res (Bool × En) := fun r => (f r).bind fun p => match p.1 with
  | .bl c => .ok (c, p.2)
  | _ => .bad
theorem tB_ent {t : TE} {f : En → Res (D × En)} (h : Ent X.K X.mg W (rE X.K X.mg) t f) : Ent X.K X.mg W rT (tB t) (tOfE f) := by
  intro B F H r σ Q R p
  refine h.to R p fun d r' v F' H' R' s x q => ?_
  cases d with
  | bl c => exact ⟨c, x, q c F' H' R' (Same.refl F') rfl⟩
  | _ => exact q.elim
theorem dt_val {f : En → Res (D × En)} (h : DE X W e f) (he : ∀ whole, isTrue e X.env whole = (do let v ← whole; standAt e.pos; holding [v] (truthy v)) := by intro _; rfl) : DT X W e (tOfE f) := by
  obtain ⟨t, hp, hh⟩ := h.ex
  exact ⟨_, pt_val hp he, tB_ent hh⟩
def tAndD (f g : En → Res (Bool × En)) : En → Res (Bool × En) := fun r => (f r).bind fun p => match p.1 with
  | true => g p.2
  | false => .ok (false, p.2)
def tOrD (f g : En → Res (Bool × En)) : En → Res (Bool × En) := fun r => (f r).bind fun p => match p.1 with
  | true => .ok (true, p.2)
  | false => g p.2
def tNotD (f : En → Res (Bool × En)) : En → Res (Bool × En) := fun r => (f r).bind fun p => .ok (!p.1, p.2)
variable {f g : En → Res (Bool × En)} {rest : List Expr}
theorem DW.dt (h : DW X W e f) : DT X W e f := by
  obtain ⟨t, hp, hh⟩ := h.ex
  exact ⟨t, hp.pt, hh⟩
theorem dw_and1 (h : DT X W a f) : DW X W (.BoolOp .And [a] pos) f := by
  obtain ⟨t, hp, hh⟩ := h.ex
  exact ⟨t, pw_and1 hp, hh⟩
theorem dw_or1 (h : DT X W a f) : DW X W (.BoolOp .Or [a] pos) f := by
  obtain ⟨t, hp, hh⟩ := h.ex
  exact ⟨t, pw_or1 hp, hh⟩
theorem dw_and (h : DT X W a f) (k : DW X W (.BoolOp .And (b :: rest) pos) g) : DW X W (.BoolOp .And (a :: b :: rest) pos) (tAndD f g) := by
  obtain ⟨t, hp, hh⟩ := h.ex
  obtain ⟨u, kp, kh⟩ := k.ex
  refine ⟨_, pw_and hp kp, fun B F H r σ Q R p => hh.to R p fun c r' c' F' H' R' s x q => ?_⟩
  cases (show c = c' from x)
  cases c with
  | true => exact kh B F' H' r' σ Q R' q
  | false => exact q false F' H' R' (Same.refl F') rfl
theorem dw_or (h : DT X W a f) (k : DW X W (.BoolOp .Or (b :: rest) pos) g) : DW X W (.BoolOp .Or (a :: b :: rest) pos) (tOrD f g) := by
  obtain ⟨t, hp, hh⟩ := h.ex
  obtain ⟨u, kp, kh⟩ := k.ex
  refine ⟨_, pw_or hp kp, fun B F H r σ Q R p => hh.to R p fun c r' c' F' H' R' s x q => ?_⟩
  cases (show c = c' from x)
  cases c with
  | true => exact q true F' H' R' (Same.refl F') rfl
  | false => exact kh B F' H' r' σ Q R' q
theorem dt_not (h : DT X W a f) : DT X W (.UnaryOp .Not a pos) (tNotD f) := by
  obtain ⟨t, hp, hh⟩ := h.ex
  refine ⟨_, pt_not hp, fun B F H r σ Q R p => hh.to R p fun c r' c' F' H' R' s x q => ?_⟩
  cases (show c = c' from x)
  exact q (!c) F' H' R' (Same.refl F') rfl
/-- and, or, not as values (bools) -/
def eAnd (f g : En → Res (D × En)) : En → Res (D × En) := fun r => (f r).bind fun p => match p.1 with
  | .bl true => g p.2
  | .bl false => .ok (.bl false, p.2)
  | _ => .bad
def eOr (f g : En → Res (D × En)) : En → Res (D × En) := fun r => (f r).bind fun p => match p.1 with
  | .bl true => .ok (.bl true, p.2)
  | .bl false => g p.2
  | _ => .bad
def eNot (f : En → Res (D × En)) : En → Res (D × En) := fun r => (f r).bind fun p => match p.1 with
  | .bl c => .ok (.bl (!c), p.2)
  | _ => .bad
variable {h k : En → Res (D × En)}
theorem de_one {op} (hh : DE X W a h) : DE X W (.BoolOp op [a] pos) h := by
  obtain ⟨t, hp, he⟩ := hh.ex
  exact ⟨t, pe_one hp, he⟩
theorem de_and (hh : DE X W a h) (kk : DE X W (.BoolOp .And (b :: rest) pos) k) : DE X W (.BoolOp .And (a :: b :: rest) pos) (eAnd h k) := by
  obtain ⟨t, hp, he⟩ := hh.ex
  obtain ⟨u, kp, ke⟩ := kk.ex
  refine ⟨_, pe_and hp kp, fun B F H r σ Q R p => he.to R p fun d r' v F' H' R' s x q => ?_⟩
  cases d with
  | bl c =>
    refine ⟨c, x, ?_⟩
    cases c with
    | true => exact ke B F' H' r' σ Q R' q
    | false => exact q (.bl false) F' H' R' (Same.refl F') rfl
  | _ => exact q.elim
theorem de_or (hh : DE X W a h) (kk : DE X W (.BoolOp .Or (b :: rest) pos) k) : DE X W (.BoolOp .Or (a :: b :: rest) pos) (eOr h k) := by
  obtain ⟨t, hp, he⟩ := hh.ex
  obtain ⟨u, kp, ke⟩ := kk.ex
  refine ⟨_, pe_or hp kp, fun B F H r σ Q R p => he.to R p fun d r' v F' H' R' s x q => ?_⟩
  cases d with
  | bl c =>
    refine ⟨c, x, ?_⟩
    cases c with
    | true => exact q (.bl true) F' H' R' (Same.refl F') rfl
    | false => exact ke B F' H' r' σ Q R' q
  | _ => exact q.elim
theorem de_not (hh : DE X W a h) : DE X W (.UnaryOp .Not a pos) (eNot h) := by
  obtain ⟨t, hp, he⟩ := hh.ex
  refine ⟨_, pe_not hp, fun B F H r σ Q R p => he.to R p fun d r' v F' H' R' s x q => ?_⟩
  cases d with
  | bl c => exact ⟨c, x, q (.bl (!c)) F' H' R' (Same.refl F') rfl⟩
  | _ => exact q.elim
/-- a if t else b -/
def eIf (t : En → Res (Bool × En)) (f g : En → Res (D × En)) : En → Res (D × En) := fun r => (t r).bind fun p => match p.1 with
  | true => f p.2
  | false => g p.2
/-! ### arguments -/
def aNil : En → Res (List D × En) := fun r => .ok ([], r)
def aCons (f : En → Res (D × En)) (g : En → Res (List D × En)) : En → Res (List D × En) := fun r => (f r).bind fun p => (g p.2).bind fun q => .ok (p.1 :: q.1, q.2)
theorem da_nil : DA X W [] aNil := ⟨_, pa_nil, fun B F H r σ Q R p => p [] F H R (Same.refl F) rfl⟩
theorem da_cons {es : List Expr} {gs : En → Res (List D × En)} (hh : DE X W e h) (hr : DA X W es gs) (hs : starEach (e :: es) X.env = (false, eval e X.env) :: starEach es X.env := by rfl) : DA X W (e :: es) (aCons h gs) := by
  obtain ⟨t, hp, he⟩ := hh.ex
  obtain ⟨u, kp, ke⟩ := hr.ex
  refine ⟨_, pa_cons hp kp hs, fun B F H r σ Q R p => he.to R p fun d r1 v F1 H1 R1 s1 x1 p1 => ?_⟩
  refine ke.to R1 p1 fun ds r2 vs F2 H2 R2 s2 x2 p2 => ?_
  exact p2 (v :: vs) F2 H2 R2 (Same.refl F2) ⟨v, vs, rfl, rep_mono s2 d v x1, x2⟩
/-! ### displays -/
def eLst (f : En → Res (List D × En)) : En → Res (D × En) := fun r => (f r).bind fun p => if p.1.length ≤ 1000 then .ok (.lst p.1, p.2) else .bad
def eTup (f : En → Res (List D × En)) : En → Res (D × En) := fun r => (f r).bind fun p => if p.1.length ≤ 1000 then .ok (.tup p.1, p.2) else .bad
theorem repL_len {K : PySem.W.Frag} {mg : Str → Option Value} {F : Hp} : ∀ {ds : List D} {vs : List V}, repL K mg F ds vs → vs.length = ds.length
  | [], _, h => by
    cases h
    rfl
  | d :: ds, _, h => by
    obtain ⟨w, ws, rfl, _, h⟩ := h
    simp [repL_len h]
theorem dn_lst {es : List Expr} {gs : En → Res (List D × En)} (hr : DA X W es gs) : DN X W (.List es pos) (eLst gs) := by
  obtain ⟨u, kp, ke⟩ := hr.ex
  refine ⟨_, pe_lst kp, fun B F H r σ Q R p => ke.to R p fun ds r2 vs F2 H2 R2 s2 x2 p2 => ?_⟩
  by_cases hz : ds.length ≤ 1000
  · simp only [if_pos hz] at p2
    refine ⟨Nat.le_of_lt (small1000 (by rw [repL_len x2]; exact hz)), fun pa hp => ?_⟩
    exact p2 _ F2 _ (R2.newO hp) (Same.refl F2) ⟨pa, rfl, R2.fh.free hp, (R2.new_ne hp).1, (R2.new_ne hp).2, R2.loose_new hp, vs, upd_same, x2⟩
  · simp only [if_neg hz] at p2
    exact p2.elim
theorem de_tup {es : List Expr} {x1} {gs : En → Res (List D × En)} (hr : DA X W es gs) : DE X W (.Tuple es x1 pos) (eTup gs) := by
  obtain ⟨u, kp, ke⟩ := hr.ex
  refine ⟨_, pe_tup kp, fun B F H r σ Q R p => ke.to R p fun ds r2 vs F2 H2 R2 s2 x2 p2 => ?_⟩
  by_cases hz : ds.length ≤ 1000
  · simp only [if_pos hz] at p2
    refine ⟨Nat.le_of_lt (small1000 (by rw [repL_len x2]; exact hz)), fun pa hp => ?_⟩
    have fp := R2.fh.free hp
    exact p2 _ _ _ (R2.newF hp) (same_new fp) ⟨pa, vs, rfl, SqT.of upd_same, repL_mono (same_new fp) _ _ x2⟩
  · simp only [if_neg hz] at p2
    exact p2.elim
end
end Dl

set_option Elab.async false
set_option linter.all false
set_option maxRecDepth 100000
set_option maxHeartbeats 4000000
namespace Dl
open PySem L2
variable [Dl.Tb]

/-! ### the reading that a denotation asks for -/
def tOf {α β : Type} (K : PySem.W.Frag) (mg : Str → Option Value) (W : WX) (R : RR α β) (f : En → Res (α × En)) : St → Hp → (β → Hp → Prop) → Prop := fun σ H Q => ∃ B F r, Rel K mg B F H r σ ∧ Po K mg W B F σ R Q (f r)
section
variable {X : Cx} {W : WX} {e : Expr}
theorem DE.can {f : En → Res (D × En)} (h : DE X W e f) : PE X e (tOf X.K X.mg W (rE X.K X.mg) f) := by
  obtain ⟨t, hp, he⟩ := h.ex
  exact ⟨fun pins s σ H Q I ⟨B, F, r, R, p⟩ => hp.run pins s σ H Q I (he B F H r σ Q R p)⟩
theorem DT.can {f : En → Res (Bool × En)} (h : DT X W e f) : PT X e (tOf X.K X.mg W rT f) := by
  obtain ⟨t, hp, he⟩ := h.ex
  exact ⟨fun pins s σ H Q I ⟨B, F, r, R, p⟩ => hp.run pins s σ H Q I (he B F H r σ Q R p)⟩
end

/-! ### targets -/
def Off (vs : List Nat) (σ σ' : St) : Prop := σ'.length = σ.length ∧ ∀ i, i ∉ vs → σ'[i]? = σ[i]?
theorem Off.refl {vs : List Nat} {σ : St} : Off vs σ σ := ⟨rfl, fun _ _ => rfl⟩
theorem Off.trans {vs : List Nat} {σ σ1 σ2 : St} (a : Off vs σ σ1) (b : Off vs σ1 σ2) : Off vs σ σ2 := ⟨b.1.trans a.1, fun i h => (b.2 i h).trans (a.2 i h)⟩
theorem Off.set {vs : List Nat} {σ : St} {i : Nat} {ov : Option V} (h : i ∈ vs) : Off vs σ (σ.set i ov) := ⟨List.length_set .., fun j hj => List.getElem?_set_ne (show i ≠ j from fun z => hj (by rw [← z]; exact h))⟩
theorem wipe_get {σ : St} {i : Nat} : ∀ (vs : List Nat), (wipe σ vs)[i]? = if i ∈ vs then (if i < σ.length then some none else none) else σ[i]?
  | [] => by simp [wipe]
  | v :: vs => by
    show ((wipe σ vs).set v none)[i]? = _
    rw [get_set, wipe_length, wipe_get vs]
    by_cases h : v = i
    · subst h
      simp
    · rw [if_neg h]
      have q : (i ∈ v :: vs) ↔ i ∈ vs := by
        simp only [List.mem_cons]
        exact ⟨fun z => z.elim (fun z => absurd z.symm h) id, .inr⟩
      simp only [q]
theorem Off.wipe {vs : List Nat} {σ σ' : St} (h : Off vs σ σ') : L2.wipe σ' vs = L2.wipe σ vs := by
  refine List.ext_getElem? fun i => ?_
  rw [wipe_get, wipe_get, h.1]
  by_cases q : i ∈ vs
  · rw [if_pos q, if_pos q]
  · rw [if_neg q, if_neg q, h.2 i q]
theorem off_wipe {vs : List Nat} {σ : St} : Off vs σ (L2.wipe σ vs) := ⟨wipe_length _ _, fun i h => by rw [wipe_get, if_neg h]⟩
section
variable (K : PySem.W.Frag) (mg : Str → Option Value)
def PoG (W : WX) (B : Bg) (F : Hp) (σ : St) (vs : List Nat) (Q : St → Hp → Prop) : Res En → Prop
  | .ok r' => ∀ σ' F' H', Rel K mg B F' H' r' σ' → Same F F' → Off vs σ σ' → Q σ' H'
  | .er c fs r' => PoX K mg W B F c fs r'
  | .bad => False
def EntG (W : WX) (vs : List Nat) (t : TG) (g : D → En → Res En) : Prop := ∀ B F H r σ d v Q, Rel K mg B F H r σ → rep K mg F d v → PoG K mg W B F σ vs Q (g d r) → t v σ H Q
def EntGs (W : WX) (vs : List Nat) (t : TGs) (g : List D → En → Res En) : Prop := ∀ B F H r σ d v Q, Rel K mg B F H r σ → repL K mg F d v → PoG K mg W B F σ vs Q (g d r) → t v σ H Q
def tOfG (W : WX) (vs : List Nat) (g : D → En → Res En) : TG := fun v σ H Q => ∃ B F r d, Rel K mg B F H r σ ∧ rep K mg F d v ∧ PoG K mg W B F σ vs Q (g d r)
end
structure DG (X : Cx) (W : WX) (tg : Expr) (vs : List Nat) (g : D → En → Res En) : Prop where
  ex : ∃ t, PG X tg t ∧ EntG X.K X.mg W vs t g
structure DGs (X : Cx) (W : WX) (tgs : List Expr) (vs : List Nat) (g : List D → En → Res En) : Prop where
  ex : ∃ t, PGs X tgs t ∧ EntGs X.K X.mg W vs t g
section
variable {K : PySem.W.Frag} {mg : Str → Option Value} {W : WX} {B : Bg} {F F' H H' : Hp} {r : En} {σ : St} {vs : List Nat}
theorem PoG.weak {Q : St → Hp → Prop} {m : Res En} (h : PoG K mg W B F σ vs Q m) (e : Same F F') : PoG K mg W B F' σ vs Q m := by
  cases m with
  | ok p => exact fun b F1 H1 R1 s x => h b F1 H1 R1 (e.trans s) x
  | er c fs r' => exact PoX.weak h e
  | bad => exact h
theorem PoG.off {Q : St → Hp → Prop} {m : Res En} {σ' : St} (h : PoG K mg W B F σ vs Q m) (e : Off vs σ σ') : PoG K mg W B F σ' vs Q m := by
  cases m with
  | ok p => exact fun b F1 H1 R1 s x => h b F1 H1 R1 s (e.trans x)
  | er c fs r' => exact h
  | bad => exact h
end
/-! targets' combinators -/
def gNm (i : Nat) : D → En → Res En := fun d r => .ok (r.set i (some (.fz d)))
def gsNil : List D → En → Res En := fun ds r => match ds with
  | [] => .ok r
  | _ => .bad
def gsCons (g : D → En → Res En) (h : List D → En → Res En) : List D → En → Res En := fun ds r => match ds with
  | d :: ds => (g d r).bind fun r1 => h ds r1
  | [] => .bad
def gTp (n : Nat) (h : List D → En → Res En) : D → En → Res En := fun d r => match d with
  | .tup ds => if ds.length = n then h ds r else .bad
  | _ => .bad
section
variable {X : Cx} {W : WX} {vs : List Nat} {pos : Pos}
theorem DG.can {tg : Expr} {g : D → En → Res En} (h : DG X W tg vs g) : PG X tg (tOfG X.K X.mg W vs g) := by
  obtain ⟨t, hp, he⟩ := h.ex
  exact ⟨fun pins s σ H v u Q I rv ⟨B, F, r, d, R, rp, p⟩ => hp.run pins s σ H v u Q I rv (he B F H r σ d v Q R rp p)⟩
theorem dg_name {i : Nat} {x : Str} (hv : i ∈ vs) (hN : X.N.Nodup) (hi : X.N[i]? = some x := by rfl) (hx : Loc X.env.scope x := by first | exact .inl rfl | exact .inr rfl) (hf : X.fn x = true ∨ X.env.scope.names.lookup x = some .local := by first | exact .inl rfl | exact .inr rfl) : DG X W (.Name x pos) vs (gNm i) :=
  ⟨_, pg_name hN hi hx hf, fun B F H r σ d v Q R rp p => p _ F H (R.setF rp) (Same.refl F) (Off.set hv)⟩
theorem dgs_nil : DGs X W [] vs gsNil := by
  refine ⟨_, pgs_nil, fun B F H r σ d v Q R rp p => ?_⟩
  cases d with
  | nil => exact ⟨rp, p _ F H R (Same.refl F) Off.refl⟩
  | cons d ds => exact p.elim
theorem dgs_cons {e : Expr} {es : List Expr} {g : D → En → Res En} {h : List D → En → Res En} (h1 : DG X W e vs g) (h2 : DGs X W es vs h)
    (hs : (assignEach (e :: es) X.env).map (·.2) = assign e X.env :: (assignEach es X.env).map (·.2) := by rfl) : DGs X W (e :: es) vs (gsCons g h) := by
  obtain ⟨t, hp, he⟩ := h1.ex
  obtain ⟨u, kp, ke⟩ := h2.ex
  refine ⟨_, pgs_cons hp kp hs, fun B F H r σ d v Q R rp p => ?_⟩
  cases d with
  | nil => exact p.elim
  | cons d ds =>
    obtain ⟨w, ws, rfl, r1, r2⟩ := rp
    refine ⟨w, ws, rfl, he B F H r σ d w _ R r1 ?_⟩
    have p' : PoG X.K X.mg W B F σ vs Q ((g d r).bind fun r1 => h ds r1) := p
    cases q : g d r with
    | ok r' =>
      rw [q] at p'
      exact fun σ' F' H' R' s o => ke B F' H' r' σ' ds ws Q R' (repL_mono s _ _ r2) ((PoG.weak p' s).off o)
    | er c fs r' =>
      rw [q] at p'
      exact p'
    | bad =>
      rw [q] at p'
      exact p'
theorem dg_tup {es : List Expr} {k : Nat} {h : List D → En → Res En} {n : Nat} (hc : X.calm = true) (hh : DGs X W es vs h) (hn : (assignEach es X.env).length = n := by rfl) (hst : (assignEach es X.env).findIdx? (·.1) = none := by rfl) :
    DG X W (.Tuple es k pos) vs (gTp n h) := by
  obtain ⟨t, hp, he⟩ := hh.ex
  refine ⟨_, pg_tup hc hp hn hst, fun B F H r σ d v Q R rp p => ?_⟩
  cases d with
  | tup ds =>
    obtain ⟨a, xs, e1, hq, rl⟩ := rp
    have p' : PoG X.K X.mg W B F σ vs Q (if ds.length = n then h ds r else .bad) := p
    by_cases z : ds.length = n
    · rw [if_pos z] at p'
      exact ⟨a, xs, e1, sqT_mono R.fh hq, by rw [repL_len rl]; exact z, he B F H r σ ds xs Q R rl p'⟩
    · rw [if_neg z] at p'
      exact p'.elim
  | _ => exact p.elim
end

/-! ### statements -/
inductive SR where
  | nx (r : En) | rt (d : D) (r : En) | rv (d : D) (r : En) | bk (r : En) | ct (r : En) | er (c : Str) (fs : List (Str × D)) (r : En) | bad
section
variable (K : PySem.W.Frag) (mg : Str → Option Value)
def PoS (W : WX) (B : Bg) (F : Hp) (Z : Ends) : SR → Prop
  | .nx r' => ∀ σ' F' H', Rel K mg B F' H' r' σ' → Same F F' → Z.nx σ' H'
  | .rt d r' => ∀ v σ' F' H', Rel K mg B F' H' r' σ' → Same F F' → rep K mg F' d v → Z.rt v H'
  | .rv d r' => ∀ v σ' F' H', Rel K mg B F' H' r' σ' → Same F F' → rM K mg B σ' r' F' H' d v → Z.rt v H'
  | .bk r' => ∀ σ' F' H', Rel K mg B F' H' r' σ' → Same F F' → Z.bk σ' H'
  | .ct r' => ∀ σ' F' H', Rel K mg B F' H' r' σ' → Same F F' → Z.ct σ' H'
  | .er c fs r' => PoX K mg W B F c fs r'
  | .bad => False
def EntS (W : WX) (t : TS) (f : En → SR) : Prop := ∀ B F H r σ Z, Rel K mg B F H r σ → PoS K mg W B F Z (f r) → t Z σ H
end
structure DS (X : Cx) (W : WX) (st : Stmt) (f : En → SR) : Prop where
  ex : ∃ t, PS X st t ∧ EntS X.K X.mg W t f
structure DSs (X : Cx) (W : WX) (st : List Stmt) (f : En → SR) : Prop where
  ex : ∃ t, PSs X st t ∧ EntS X.K X.mg W t f
/-- an evaluation, then a statement's end -/
def sBind {α : Type} (m : Res α) (k : α → SR) : SR := match m with
  | .ok a => k a
  | .er c fs r => .er c fs r
  | .bad => .bad
section
variable {K : PySem.W.Frag} {mg : Str → Option Value} {W : WX} {B : Bg} {F F' H H' : Hp} {r : En} {σ : St} {Z : Ends}
theorem PoS.weak {m : SR} (h : PoS K mg W B F Z m) (e : Same F F') : PoS K mg W B F' Z m := by
  cases m with
  | nx r' => exact fun σ' F1 H1 R1 s => h σ' F1 H1 R1 (e.trans s)
  | rt d r' => exact fun v σ' F1 H1 R1 s => h v σ' F1 H1 R1 (e.trans s)
  | rv d r' => exact fun v σ' F1 H1 R1 s => h v σ' F1 H1 R1 (e.trans s)
  | bk r' => exact fun σ' F1 H1 R1 s => h σ' F1 H1 R1 (e.trans s)
  | ct r' => exact fun σ' F1 H1 R1 s => h σ' F1 H1 R1 (e.trans s)
  | er c fs r' => exact PoX.weak h e
  | bad => exact h
theorem Ent.toS {α β : Type} {R : RR α β} {t : St → Hp → (β → Hp → Prop) → Prop} {f : En → Res (α × En)} {k : α × En → SR} {Q1 : β → Hp → Prop} (h : Ent K mg W R t f) (R1 : Rel K mg B F H r σ)
    (p : PoS K mg W B F Z (sBind (f r) k)) (c : ∀ a r' b F' H', Rel K mg B F' H' r' σ → Same F F' → R B σ r' F' H' a b → PoS K mg W B F' Z (k (a, r')) → Q1 b H') : t σ H Q1 := by
  refine h B F H r σ Q1 R1 ?_
  cases q : f r with
  | ok a =>
    obtain ⟨a, r'⟩ := a
    rw [q] at p
    exact fun b F1 H1 R1 s x => c a r' b F1 H1 R1 s x (PoS.weak (show PoS K mg W B F Z (k (a, r')) from p) s)
  | er c fs r' =>
    rw [q] at p
    exact p
  | bad =>
    rw [q] at p
    exact p
end
def sNop : En → SR := .nx
def sSeq (f g : En → SR) : En → SR := fun r => match f r with
  | .nx r' => g r'
  | x => x
def sRet (f : En → Res (D × En)) : En → SR := fun r => sBind (f r) fun p => .rt p.1 p.2
def sExpr (f : En → Res (D × En)) : En → SR := fun r => sBind (f r) fun p => .nx p.2
def sIf (t : En → Res (Bool × En)) (f g : En → SR) : En → SR := fun r => sBind (t r) fun p => match p.1 with
  | true => f p.2
  | false => g p.2
def sAsg (f : En → Res (D × En)) (g : D → En → Res En) : En → SR := fun r => sBind (f r) fun p => sBind (g p.1 p.2) .nx
def sSet (i : Nat) (f : En → Res (D × En)) : En → SR := fun r => sBind (f r) fun p => .nx (p.2.set i (some (.fz p.1)))
def sOwn (i : Nat) (f : En → Res (D × En)) : En → SR := fun r => sBind (f r) fun p => .nx (p.2.set i (some (.ow p.1)))
section
variable {X : Cx} {W : WX} {st : Stmt} {rest : List Stmt} {f g : En → SR} {e : Expr} {pos : Pos} {h : En → Res (D × En)}
theorem DSs.can {sts : List Stmt} (hh : DSs X W sts f) : ∃ t, PSs X sts t ∧ EntS X.K X.mg W t f := hh.ex
theorem dss_nil : DSs X W [] sNop := ⟨_, pss_nil, fun B F H r σ Z R p => p σ F H R (Same.refl F)⟩
theorem dss_one (h1 : DS X W st f) : DSs X W [st] f := by
  obtain ⟨t, hp, he⟩ := h1.ex
  exact ⟨t, pss_one hp, he⟩
theorem dss_cons (h1 : DS X W st f) (h2 : DSs X W rest g) : DSs X W (st :: rest) (sSeq f g) := by
  obtain ⟨t, hp, he⟩ := h1.ex
  obtain ⟨u, kp, ke⟩ := h2.ex
  refine ⟨_, pss_cons hp kp, fun B F H r σ Z R p => he B F H r σ _ R ?_⟩
  have p' : PoS X.K X.mg W B F Z (match f r with | .nx r' => g r' | x => x) := p
  cases q : f r with
  | nx r' =>
    rw [q] at p'
    exact fun σ' F' H' R' s => ke B F' H' r' σ' Z R' (PoS.weak p' s)
  | rt d r' =>
    rw [q] at p'
    exact p'
  | rv d r' =>
    rw [q] at p'
    exact p'
  | bk r' =>
    rw [q] at p'
    exact p'
  | ct r' =>
    rw [q] at p'
    exact p'
  | er c fs r' =>
    rw [q] at p'
    exact p'
  | bad =>
    rw [q] at p'
    exact p'
theorem ds_ret (hh : DE X W e h) : DS X W (.Return (some e) pos) (sRet h) := by
  obtain ⟨t, hp, he⟩ := hh.ex
  exact ⟨_, ps_ret hp, fun B F H r σ Z R p => he.toS R p fun d r' v F' H' R' s x q => q v σ F' H' R' (Same.refl F') x⟩
theorem ds_expr (hh : DE X W e h) (hs : swapsWith e none pos.line X.env = pure false := by rfl) : DS X W (.Expr e pos) (sExpr h) := by
  obtain ⟨t, hp, he⟩ := hh.ex
  exact ⟨_, ps_expr hp hs, fun B F H r σ Z R p => he.toS R p fun d r' v F' H' R' s x q => q σ F' H' R' (Same.refl F')⟩
theorem ds_if {c : Expr} {a b : List Stmt} {t : En → Res (Bool × En)} (hc : DT X W c t) (ha : DSs X W a f) (hb : DSs X W b g) : DS X W (.If c a b pos) (sIf t f g) := by
  obtain ⟨tc, pc, ec⟩ := hc.ex
  obtain ⟨ta, pa, ea⟩ := ha.ex
  obtain ⟨tb, pb, eb⟩ := hb.ex
  refine ⟨_, ps_if pc pa pb, fun B F H r σ Z R p => ec.toS R p fun c r' c' F' H' R' s x q => ?_⟩
  cases (show c = c' from x)
  cases c with
  | true => exact ea B F' H' r' σ Z R' q
  | false => exact eb B F' H' r' σ Z R' q
theorem ds_set {i : Nat} {x : Str} {pos' : Pos} (hN : X.N.Nodup) (hh : DE X W e h) (hi : X.N[i]? = some x := by rfl) (hx : Loc X.env.scope x := by first | exact .inl rfl | exact .inr rfl) (hs : swapsWith e (some (.Name x pos')) pos.line X.env = pure false := by rfl)
    (hf : X.fn x = true ∨ X.env.scope.names.lookup x = some .local := by first | exact .inl rfl | exact .inr rfl) : DS X W (.Assign [.Name x pos'] e pos) (sSet i h) := by
  obtain ⟨t, hp, he⟩ := hh.ex
  exact ⟨_, ps_set hN hi hx hp hs hf, fun B F H r σ Z R p => he.toS R p fun d r' v F' H' R' s x q => q _ F' H' (R'.setF x) (Same.refl F')⟩
theorem ds_own {i : Nat} {x : Str} {pos' : Pos} (hN : X.N.Nodup) (hh : DN X W e h) (hi : X.N[i]? = some x := by rfl) (hx : Loc X.env.scope x := by first | exact .inl rfl | exact .inr rfl) (hs : swapsWith e (some (.Name x pos')) pos.line X.env = pure false := by rfl)
    (hf : X.fn x = true ∨ X.env.scope.names.lookup x = some .local := by first | exact .inl rfl | exact .inr rfl) : DS X W (.Assign [.Name x pos'] e pos) (sOwn i h) := by
  obtain ⟨t, hp, he⟩ := hh.ex
  refine ⟨_, ps_set hN hi hx hp hs hf, fun B F H r σ Z R p => he.toS R p fun d r' v F' H' R' s x q => ?_⟩
  obtain ⟨pa, rfl, h1, h2, h3, h4, h5⟩ := x
  exact q _ F' H' (R'.setS h1 h2 h3 h4 h5) (Same.refl F')
theorem ds_asg {tg : Expr} {vs : List Nat} {gg : D → En → Res En} (hh : DE X W e h) (hg : DG X W tg vs gg) (hs : swapsWithSole [tg] e pos.line X.env = pure false := by rfl) (hw : swappedStores [tg] e X.env = pure none := by rfl)
    (h1 : (assignEach [tg] X.env).map (·.2) = [assign tg X.env] := by rfl) : DS X W (.Assign [tg] e pos) (sAsg h gg) := by
  obtain ⟨t, hp, he⟩ := hh.ex
  obtain ⟨u, kp, ke⟩ := hg.ex
  refine ⟨_, ps_asg hp kp hs hw h1, fun B F H r σ Z R p => he.toS R p fun d r' v F' H' R' s x q => ke B F' H' r' σ d v _ R' x ?_⟩
  cases z : gg d r' with
  | ok r2 =>
    simp only [z, sBind] at q
    exact fun σ' F2 H2 R2 s2 _ => q σ' F2 H2 R2 s2
  | er c fs r2 =>
    simp only [z, sBind] at q
    exact q
  | bad =>
    simp only [z, sBind] at q
    exact q
end

/-! ### what is walked -/
section
variable (K : PySem.W.Frag) (mg : Str → Option Value)
/-- J gives the items ds, whatever frozen or new things come meanwhile -/
def Wk (F : Hp) (ds : List D) (J : It) : Prop := ∀ F' H', Same F F' → Same F' H' → (∀ i d, ds[i]? = some d → J.go i H' ∧ ∀ x H'', J.yld i H' x H'' → ∃ F'', Same F' F'' ∧ Same H' H'' ∧ Same F'' H'' ∧ (∀ a, F' a = none → H' a ≠ none → F'' a = none) ∧ rep K mg F'' d x) ∧ J.stop ds.length H'
def rI : RR (List D) It := fun _ _ _ F _ ds J => Wk K mg F ds J
end
structure DI (X : Cx) (W : WX) (tg iter : Expr) (f : En → Res (List D × En)) : Prop where
  ex : ∃ t, PI X tg iter t ∧ Ent X.K X.mg W (rI X.K X.mg) t f
theorem DI.can {X : Cx} {W : WX} {tg iter : Expr} {f : En → Res (List D × En)} (h : DI X W tg iter f) : PI X tg iter (tOf X.K X.mg W (rI X.K X.mg) f) := by
  obtain ⟨t, hp, he⟩ := h.ex
  exact ⟨fun pins s σ H Q I ⟨B, F, r, R, p⟩ => hp.run pins s σ H Q I (he B F H r σ Q R p)⟩

/-! ### for -/
def forD (g : D → En → Res En) (b : En → SR) : List D → En → SR
  | [], r => .nx r
  | d :: ds, r => sBind (g d r) fun r1 => match b r1 with
    | .nx r2 => forD g b ds r2
    | .ct r2 => forD g b ds r2
    | .bk r2 => .nx r2
    | x => x
def sFor (s : En → Res (List D × En)) (g : D → En → Res En) (b : En → SR) : En → SR := fun r => sBind (s r) fun p => forD g b p.1 p.2
section
variable {X : Cx} {W : WX} {pos : Pos}
theorem for_ent {wi : TI} {gt : TG} {tb : TS} {s : En → Res (List D × En)} {vs : List Nat} {g : D → En → Res En} {b : En → SR} (hi : Ent X.K X.mg W (rI X.K X.mg) wi s) (hg : EntG X.K X.mg W vs gt g) (hb : EntS X.K X.mg W tb b) : EntS X.K X.mg W (tFor wi gt tb) (sFor s g b) := by
  intro B F H r σ Z R p
  refine hi.toS R p fun ds r1 J F1 H1 R1 s1 wk p1 => ?_
  refine ⟨fun i m σ' H' => m = ds.length - i ∧ i ≤ ds.length ∧ ∃ F' r', Rel X.K X.mg B F' H' r' σ' ∧ Same F1 F' ∧ PoS X.K X.mg W B F' Z (forD g b (ds.drop i) r'), ⟨ds.length, by simp, Nat.zero_le _, F1, r1, R1, Same.refl F1, by simpa using p1⟩, ?_⟩
  rintro i m σ' H' ⟨rfl, hle, F', r', R', s', p'⟩
  obtain ⟨w1, w2⟩ := wk F' H' s' R'.fh
  by_cases hlt : i < ds.length
  · have e : ds[i]? = some ds[i] := List.getElem?_eq_getElem hlt
    obtain ⟨go, yl⟩ := w1 i _ e
    rw [List.drop_eq_getElem_cons hlt] at p'
    refine .inr ⟨go, fun σ2 H2 => ∃ F2 r2, Rel X.K X.mg B F2 H2 r2 σ2 ∧ Same F1 F2 ∧ PoS X.K X.mg W B F2 Z (forD g b (ds.drop (i + 1)) r2), fun σ2 H2 ⟨F2, r2, R2, s2, p2⟩ => ⟨ds.length - (i + 1), by omega, rfl, hlt, F2, r2, R2, s2, p2⟩, fun x H'' y => ?_⟩
    obtain ⟨F'', f1, f2, f3, f4, f5⟩ := yl x H'' y
    have R'' := R'.grow f2 f1 f3 f4
    refine hg B F'' H'' r' σ' _ x _ R'' f5 ?_
    have p2 := PoS.weak p' f1
    unfold forD at p2
    cases q : g ds[i] r' with
    | ok r2 =>
      simp only [q, sBind] at p2
      intro σ2 F2 H2 R2 s2 _
      refine hb B F2 H2 r2 σ2 _ R2 ?_
      have p3 := PoS.weak p2 s2
      cases q2 : b r2 with
      | nx r3 =>
        simp only [q2] at p3
        exact fun σ3 F3 H3 R3 s3 => ⟨F3, r3, R3, ((s'.trans f1).trans s2).trans s3, PoS.weak p3 s3⟩
      | ct r3 =>
        simp only [q2] at p3
        exact fun σ3 F3 H3 R3 s3 => ⟨F3, r3, R3, ((s'.trans f1).trans s2).trans s3, PoS.weak p3 s3⟩
      | bk r3 =>
        simp only [q2] at p3
        exact p3
      | rt d r3 =>
        simp only [q2] at p3
        exact p3
      | rv d r3 =>
        simp only [q2] at p3
        exact p3
      | er c fs r3 =>
        simp only [q2] at p3
        exact p3
      | bad =>
        simp only [q2] at p3
        exact p3
    | er c fs r2 =>
      simp only [q, sBind] at p2
      exact p2
    | bad =>
      simp only [q, sBind] at p2
      exact p2
  · have e : i = ds.length := by omega
    subst e
    rw [List.drop_length] at p'
    exact .inl ⟨w2, p' σ' F' H' R' (Same.refl F')⟩
theorem ds_for {tg iter : Expr} {body : List Stmt} {s : En → Res (List D × En)} {vs : List Nat} {g : D → En → Res En} {b : En → SR} (hp : PassesOwn (model X.prog X.w) X.A X.env X.xe) (hc : X.calm = true) (hi : DI X W tg iter s) (hg : DG X W tg vs g) (hb : DSs X W body b)
    (hs : ∀ x, foldedSetIterable iter X.env x = pure x := by intro _; rfl) : DS X W (.For tg iter body [] pos) (sFor s g b) := by
  obtain ⟨ti, pi, ei⟩ := hi.ex
  obtain ⟨tg', pg, eg⟩ := hg.ex
  obtain ⟨tb, pb, eb⟩ := hb.ex
  exact ⟨_, ps_for hp hc pi pg pb hs, for_ent ei eg eb⟩
end
end Dl

set_option Elab.async false
set_option linter.all false
set_option maxRecDepth 100000
set_option maxHeartbeats 4000000
namespace Dl
open PySem L2
variable [Dl.Tb]

/-! ### an object of one's own, kept while other things are evaluated -/
def Bg.guard (B : Bg) (p : Addr) (o : HO) : Bg := { B with H := upd B.H p o }
section
variable {K : PySem.W.Frag} {mg : Str → Option Value} {B : Bg} {F F' H H' : Hp} {r : En} {σ : St} {p : Addr} {o : HO}
theorem Rel.guard (R : Rel K mg B F H r σ) (hp : H p = some o) (hF : F p = none) (hB : B.H p = none) (hb : p ∉ B.bs) (hl : Loose H r σ p) : Rel K mg (B.guard p o) F H r σ where
  fh := R.fh
  f0 := R.f0
  tabs := R.tabs
  keep := fun a u ha h n => by
    have h' : upd B.H p o a = some u := h
    by_cases q : a = p
    · rw [q, upd_same] at h'
      rw [q]
      exact hp.trans h'
    · rw [upd_ne q] at h'
      exact R.keep a u ha h' n
  there := fun a h => by
    have h' : upd B.H p o a ≠ none := h
    by_cases q : a = p
    · rw [q, hp]
      exact fun z => nomatch z
    · rw [upd_ne q] at h'
      exact R.there a h'
  fresh := fun a h1 h2 => by
    have h2' : upd B.H p o a ≠ none := h2
    by_cases q : a = p
    · rw [q]
      exact hF
    · rw [upd_ne q] at h2'
      exact R.fresh a h1 h2'
  live := fun a ha => by
    obtain ⟨h1, h2⟩ := R.live a ha
    refine ⟨h1, ?_⟩
    show upd B.H p o a ≠ none
    rw [upd_ne fun z => hb (by rw [← z]; exact ha)]
    exact h2
  len := R.len
  slot := fun i s h => by
    have q := R.slot i s h
    cases s with
    | fz d => exact q
    | ow d =>
      obtain ⟨p', e', hA, nd, h4⟩ := q
      refine ⟨p', e', fun a ha => ?_, nd, h4⟩
      obtain ⟨h1, h2, h3⟩ := hA a ha
      refine ⟨h1, ?_, h3⟩
      show upd B.H p o a = none
      rw [upd_ne fun z => hl i _ p' h rfl e' (by rw [← z]; exact ha)]
      exact h2
    | bo d =>
      obtain ⟨p', e', hd, hA, nd, h4⟩ := q
      refine ⟨p', e', hd, fun a ha => ?_, nd, h4⟩
      obtain ⟨h1, h2⟩ := hA a ha
      refine ⟨h1, h2.imp id fun z => ?_⟩
      show upd B.H p o a = none
      rw [upd_ne fun w => hl i _ p' h rfl e' (by rw [← w]; exact ha)]
      exact z
    | lm f c q0 ds vs =>
      obtain ⟨e', h1, h2, h3⟩ := q
      refine ⟨e', ?_, h2, h3⟩
      show upd B.H p o c = _
      rw [upd_ne (ne_of_none h1 hB)]
      exact h1
  apart := R.apart
theorem Rel.unguard (R : Rel K mg (B.guard p o) F H r σ) (hB : B.H p = none) (hb : p ∉ B.bs) (hf : B.F p = none) (w : Wr o := by first | exact Own1.wr trivial | exact seO_wr) : Rel K mg B F H r σ ∧ H p = some o ∧ F p = none ∧ Loose H r σ p := by
  have hp : H p = some o := R.keep p o hb (show upd B.H p o p = some o from upd_same) w.1
  have hF : F p = none := R.fresh p hf (by show upd B.H p o p ≠ none; rw [upd_same]; exact fun z => nomatch z)
  have back : ∀ a, upd B.H p o a = none → B.H a = none := fun a z => by
    by_cases q : a = p
    · rw [q]; exact hB
    · rw [upd_ne q] at z
      exact z
  refine ⟨⟨R.fh, R.f0, R.tabs, fun a u ha h n => R.keep a u ha ?_ n, fun a h => R.there a (fun z => h (back a z)), fun a h1 h2 => R.fresh a h1 ?_, fun a ha => ?_, R.len, fun i s h => ?_, R.apart⟩, hp, hF, fun i s q h m e ha => ?_⟩
  · show upd B.H p o a = some u
    rw [upd_ne (ne_of_none h hB)]
    exact h
  · show upd B.H p o a ≠ none
    by_cases q : a = p
    · rw [q, upd_same]
      exact fun z => nomatch z
    · rw [upd_ne q]
      exact h2
  · obtain ⟨h1, h2⟩ := R.live a ha
    refine ⟨h1, ?_⟩
    have h2' : upd B.H p o a ≠ none := h2
    rw [upd_ne fun z => hb (by rw [← z]; exact ha)] at h2'
    exact h2'
  · have q := R.slot i s h
    cases s with
    | fz d => exact q
    | ow d =>
      obtain ⟨p', e', hA, nd, h4⟩ := q
      exact ⟨p', e', fun a ha => ⟨(hA a ha).1, back a (hA a ha).2.1, (hA a ha).2.2⟩, nd, h4⟩
    | bo d =>
      obtain ⟨p', e', hd, hA, nd, h4⟩ := q
      exact ⟨p', e', hd, fun a ha => ⟨(hA a ha).1, (hA a ha).2.imp id (back a)⟩, nd, h4⟩
    | lm f c q0 ds vs =>
      obtain ⟨e', h1, h2, h3⟩ := q
      have h1' : upd B.H p o c = some (LamX.CodeO c q0) := h1
      refine ⟨e', ?_, h2, h3⟩
      by_cases z : c = p
      · rw [z, upd_same] at h1'
        exact absurd (Option.some.inj h1') (w.2 _ _)
      · rw [upd_ne z] at h1'
        exact h1'
  · rcases ((R.own_at h m e).1 p ha).2 with z | z
    · exact hb z
    · have z' : upd B.H p o p = none := z
      rw [upd_same] at z'
      cases z'
/-- .. and changed by oneself -/
theorem Rel.poke {o' : HO} (R : Rel K mg B F H r σ) (hF : F p = none) (hB : B.H p = none) (hb : p ∉ B.bs) (hl : Loose H r σ p) (hO : ∀ u, H p = some u → Wr u) : Rel K mg B F (upd H p o') r σ where
  fh := fun a u e => by
    rw [upd_ne (ne_of_none e hF)]
    exact R.fh _ _ e
  f0 := R.f0
  tabs := R.tabs.write (A := [p]) (fun a ha => by rw [List.mem_singleton.mp ha]; exact hO) (fun a u ha h => by rw [upd_ne (fun z => ha (by rw [z]; simp))]; exact h) (fun a h _ => h)
  keep := fun a u ha h n => by
    rw [upd_ne (ne_of_none h hB)]
    exact R.keep a u ha h n
  there := fun a h => by
    by_cases q : a = p
    · rw [q, upd_same]
      exact fun z => nomatch z
    · rw [upd_ne q]
      exact R.there a h
  fresh := R.fresh
  live := fun a ha => by
    obtain ⟨h1, h2⟩ := R.live a ha
    refine ⟨?_, h2⟩
    rw [upd_ne fun z => hb (by rw [← z]; exact ha)]
    exact h1
  len := R.len
  slot := fun i s h => (R.slot i s h).mono (Same.refl F) fun m q e a ha => ⟨upd_ne fun z => hl i s q h m e (by rw [← z]; exact ha), id⟩
  apart := fun i j s t p1 q1 ne hi hj ms mt ei ej a ha => by
    rw [fp_eq (upd_ne (hl.ne hi ms ei))] at ha
    rw [fp_eq (upd_ne (hl.ne hj mt ej))]
    exact R.apart i j s t p1 q1 ne hi hj ms mt ei ej a ha
end

/-! ### comprehensions -/
def noX {α : Type} : Res α → Res α
  | .ok a => .ok a
  | _ => .bad
def wipeE (r : En) : List Nat → En
  | [] => r
  | v :: vs => (wipeE r vs).set v none
def restore (r1 : En) : List Nat → En → En
  | [], r => r
  | v :: vs, r => match r1[v]? with
    | some (some (.fz d)) => (restore r1 vs r).set v (some (.fz d))
    | _ => restore r1 vs r
section
variable {K : PySem.W.Frag} {mg : Str → Option Value} {B : Bg} {F F' H H' F1 H1 : Hp} {r r1 : En} {σ : St} {p : Addr} {o : HO}
theorem wipeE_some {i : Nat} {s : Sl} : ∀ {vs : List Nat}, (wipeE r vs)[i]? = some (some s) → i ∉ vs
  | [], h => by simp
  | v :: vs, h => by
    have h' : ((wipeE r vs).set v none)[i]? = some (some s) := h
    rw [get_set] at h'
    by_cases q : v = i
    · rw [if_pos q] at h'
      split at h' <;> cases h'
    · rw [if_neg q] at h'
      have z := wipeE_some h'
      simp only [List.mem_cons, not_or]
      exact ⟨fun w => q w.symm, z⟩
theorem Rel.wipe (R : Rel K mg B F H r σ) : ∀ vs, Rel K mg B F H (wipeE r vs) (L2.wipe σ vs)
  | [] => R
  | v :: vs => (R.wipe vs).drop
theorem Rel.unwipe {vs : List Nat} (R : Rel K mg B F H (wipeE r vs) (L2.wipe σ vs)) : Rel K mg B F H (wipeE r vs) σ where
  fh := R.fh
  f0 := R.f0
  tabs := R.tabs
  keep := R.keep
  there := R.there
  fresh := R.fresh
  live := R.live
  len := by
    have h := R.len
    rw [wipe_length] at h
    exact h
  slot := fun i s h => by
    have q := R.slot i s h
    have n := wipeE_some h
    rw [wipe_get, if_neg n] at q
    exact q
  apart := fun i j s t p' q' ne hi hj ms mt ei ej => by
    have n1 := wipeE_some hi
    have n2 := wipeE_some hj
    exact R.apart i j s t p' q' ne hi hj ms mt (by rw [wipe_get, if_neg n1]; exact ei) (by rw [wipe_get, if_neg n2]; exact ej)
theorem Rel.restore (R1 : Rel K mg B F1 H1 r1 σ) (s : Same F1 F) : ∀ (vs : List Nat) (r : En), Rel K mg B F H r σ → Rel K mg B F H (restore r1 vs r) σ
  | [], r, R => R
  | v :: vs, r, R => by
    have R2 := Rel.restore R1 s vs r R
    unfold Dl.restore
    split
    · rename_i d e
      obtain ⟨v', e', h'⟩ := R1.slot v _ e
      have R3 := R2.setF (i := v) (rep_mono s d v' h')
      have es : σ.set v (some v') = σ := by
        refine List.ext_getElem? fun j => ?_
        rw [get_set]
        by_cases q : v = j
        · subst q
          have hlt := (List.getElem?_eq_some_iff.mp e').1
          rw [if_pos rfl, if_pos hlt, e']
        · rw [if_neg q]
      rw [es] at R3
      exact R3
    · exact R2
theorem repL_snoc {d : D} {v : V} : ∀ {ds : List D} {vs : List V}, repL K mg F ds vs → rep K mg F d v → repL K mg F (ds ++ [d]) (vs ++ [v])
  | [], _, h, h' => by
    cases h
    exact ⟨v, [], rfl, h', rfl⟩
  | e :: ds, _, h, h' => by
    obtain ⟨w, ws, rfl, h1, h2⟩ := h
    exact ⟨w, ws ++ [v], rfl, h1, repL_snoc h2 h'⟩
end
def lcLoop (g : D → En → Res En) (t : En → Res (Bool × En)) (e : En → Res (D × En)) (vs : List Nat) : List D → En → List D → Res (List D × En)
  | [], r, acc => .ok (acc, r)
  | d :: ds, r, acc => (noX (g d r)).bind fun r1 => (noX (t r1)).bind fun p => match p.1 with
    | true => (noX (e p.2)).bind fun q => lcLoop g t e vs ds (wipeE q.2 vs) (acc ++ [q.1])
    | false => lcLoop g t e vs ds (wipeE p.2 vs) acc
def eLc (s : En → Res (List D × En)) (g : D → En → Res En) (t : En → Res (Bool × En)) (e : En → Res (D × En)) (vs : List Nat) : En → Res (D × En) := fun r =>
  (s r).bind fun p => if p.1.length ≤ 100000 then (noX (lcLoop g t e vs p.1 (wipeE p.2 vs) [])).bind fun q => .ok (.lst q.1, restore p.2 vs q.2) else .bad
abbrev W0 : WX := fun _ _ _ _ => False
structure DTs (X : Cx) (W : WX) (ifs : List Expr) (f : En → Res (Bool × En)) : Prop where
  ex : ∃ t, PTs X ifs t ∧ Ent X.K X.mg W rT t f
def tYesD : En → Res (Bool × En) := fun r => .ok (true, r)
theorem sl100k {n : Nat} (h : n < 100000) : n < sizeLine := Nat.lt_of_lt_of_le h (by decide)
section
variable {X : Cx} {W : WX} {pos : Pos}
theorem dts_nil : DTs X W [] tYesD := ⟨_, pts_nil, fun B F H r σ Q R p => p true F H R (Same.refl F) rfl⟩
theorem dts_one {c : Expr} {f : En → Res (Bool × En)} (h : DT X W c f) : DTs X W [c] f := by
  obtain ⟨t, hp, he⟩ := h.ex
  exact ⟨t, pts_one hp, he⟩
theorem DTs.can {ifs : List Expr} {f : En → Res (Bool × En)} (h : DTs X W ifs f) : PTs X ifs (tOf X.K X.mg W rT f) := by
  obtain ⟨t, hp, he⟩ := h.ex
  exact ⟨fun pins s σ H Q I ⟨B, F, r, R, p⟩ => hp.run pins s σ H Q I (he B F H r σ Q R p)⟩
theorem noX_cases {α : Type} (m : Res α) : (∃ a, m = .ok a ∧ noX m = .ok a) ∨ noX m = .bad := by
  cases m with
  | ok b => exact .inl ⟨b, rfl, rfl⟩
  | er c fs r => exact .inr rfl
  | bad => exact .inr rfl
theorem lc_ent {K : PySem.W.Frag} {mg : Str → Option Value} {wi : TI} {s : En → Res (List D × En)} {vs : List Nat} {g : D → En → Res En} {t : En → Res (Bool × En)} {e : En → Res (D × En)} (hi : Ent K mg W (rI K mg) wi s) :
    Ent K mg W (rN K mg) (tLc wi (tOfG K mg W0 vs g) (tOf K mg W0 rT t) (tOf K mg W0 (rE K mg) e) vs) (eLc s g t e vs) := by
  intro B F H r σ Q R p
  refine hi.to R p fun ds r1 J F1 H1 R1 s1 wk p1 => ?_
  intro Dl hD
  by_cases hz : ds.length ≤ 100000
  · simp only [if_pos hz] at p1
    obtain ⟨nB, nb⟩ := R1.new_ne hD
    have fD : F1 Dl = none := R1.fh.free hD
    have bF : B.F Dl = none := R1.f0.free fD
    refine ⟨fun i m H' => m = ds.length - i ∧ i ≤ ds.length ∧ ∃ F' r0 acc ac, Rel K mg B F' H' (wipeE r0 vs) (wipe σ vs) ∧ Same F1 F' ∧ H' Dl = some (.lst ac) ∧ F' Dl = none ∧ Loose H' (wipeE r0 vs) (wipe σ vs) Dl ∧ repL K mg F' acc ac ∧ acc.length ≤ i ∧
        Po K mg W B F' σ (rN K mg) Q ((noX (lcLoop g t e vs (ds.drop i) (wipeE r0 vs) acc)).bind fun q => .ok (.lst q.1, restore r1 vs q.2)), ⟨ds.length, by simp, Nat.zero_le _, F1, r1, [], [], (R1.newO hD).wipe vs, Same.refl F1, upd_same, fD, ?_, rfl, Nat.zero_le _, by simpa using p1⟩, ?_⟩
    · exact (R1.wipe vs).loose_new hD
    · rintro i m H' ⟨rfl, hle, F', r0, acc, ac, R', s', hH, hF, hl, ra, la, p'⟩
      obtain ⟨w1, w2⟩ := wk F' H' s' R'.fh
      by_cases hlt : i < ds.length
      · have ei : ds[i]? = some ds[i] := List.getElem?_eq_getElem hlt
        obtain ⟨go, yl⟩ := w1 i _ ei
        rw [List.drop_eq_getElem_cons hlt] at p'
        refine .inr ⟨go, fun H2 => ∃ F2 r2 acc2 ac2, Rel K mg B F2 H2 (wipeE r2 vs) (wipe σ vs) ∧ Same F1 F2 ∧ H2 Dl = some (.lst ac2) ∧ F2 Dl = none ∧ Loose H2 (wipeE r2 vs) (wipe σ vs) Dl ∧ repL K mg F2 acc2 ac2 ∧ acc2.length ≤ i + 1 ∧
          Po K mg W B F2 σ (rN K mg) Q ((noX (lcLoop g t e vs (ds.drop (i + 1)) (wipeE r2 vs) acc2)).bind fun q => .ok (.lst q.1, restore r1 vs q.2)), fun H2 ⟨F2, r2, acc2, ac2, h2⟩ => ⟨ds.length - (i + 1), by omega, rfl, hlt, F2, r2, acc2, ac2, h2⟩, fun x H'' y => ?_⟩
        obtain ⟨F'', f1, f2, f3, f4, f5⟩ := yl x H'' y
        have Rg := ((R'.guard hH hF nB nb hl).grow f2 f1 f3 f4)
        have p2 := Po.weak p' f1
        unfold lcLoop at p2
        refine ⟨_, F'', wipeE r0 vs, ds[i], Rg, f5, ?_⟩
        rcases noX_cases (g ds[i] (wipeE r0 vs)) with ⟨r2, q1, q2⟩ | q2
        · rw [q1]
          rw [q2] at p2
          intro σ2 F2 H2 R2 s2 off2
          refine ⟨by rw [Off.wipe off2]; exact Off.wipe off_wipe, _, F2, r2, R2, ?_⟩
          have p3 := Po.weak p2 s2
          simp only [bind_ok] at p3
          rcases noX_cases (t r2) with ⟨⟨c, r3⟩, q3, q4⟩ | q4
          · rw [q3]
            rw [q4] at p3
            intro c' F3 H3 R3 s3 x3
            cases (show c = c' from x3)
            have p4 := Po.weak p3 s3
            simp only [bind_ok] at p4
            cases c with
            | true =>
              rw [if_pos rfl]
              refine ⟨_, F3, r3, R3, ?_⟩
              simp only at p4
              rcases noX_cases (e r3) with ⟨⟨d, r4⟩, q5, q6⟩ | q6
              · rw [q5]
                rw [q6] at p4
                intro v F4 H4 R4 s4 x4
                have p5 := Po.weak p4 s4
                simp only [bind_ok] at p5
                obtain ⟨R5, hH5, hF5, hl5⟩ := R4.unguard nB nb bF
                refine ⟨ac, hH5, sl100k (by rw [repL_len ra]; omega), F4, r4, acc ++ [d], ac ++ [v], ?_, (((s'.trans f1).trans s2).trans s3).trans s4, upd_same, hF5, ?_, repL_snoc (repL_mono (((f1.trans s2).trans s3).trans s4) _ _ ra) x4, by rw [List.length_append, List.length_singleton]; omega, p5⟩
                · have z := (R5.poke (o' := .lst (ac ++ [v])) hF5 nB nb hl5 (fun u hu => by rw [hH5] at hu; cases hu; exact Own1.wr trivial)).wipe vs
                  have z2 : wipe σ2 vs = wipe σ vs := by rw [Off.wipe off2]; exact Off.wipe off_wipe
                  rw [z2] at z
                  exact z
                · have z2 : wipe σ2 vs = wipe σ vs := by rw [Off.wipe off2]; exact Off.wipe off_wipe
                  have Rg4 := R4.wipe vs
                  rw [z2] at Rg4
                  exact (Rg4.unguard nB nb bF).2.2.2.poke
              · rw [q6] at p4
                exact p4.elim
            | false =>
              rw [if_neg Bool.false_ne_true]
              simp only at p4
              obtain ⟨R5, hH5, hF5, hl5⟩ := R3.unguard nB nb bF
              have z2 : wipe σ2 vs = wipe σ vs := by rw [Off.wipe off2]; exact Off.wipe off_wipe
              refine ⟨F3, r3, acc, ac, ?_, ((s'.trans f1).trans s2).trans s3, hH5, hF5, ?_, repL_mono ((f1.trans s2).trans s3) _ _ ra, by omega, p4⟩
              · have z := R5.wipe vs
                rw [z2] at z
                exact z
              · have Rg4 := R3.wipe vs
                rw [z2] at Rg4
                exact (Rg4.unguard nB nb bF).2.2.2
          · rw [q4] at p3
            exact p3.elim
        · rw [q2] at p2
          exact p2.elim
      · have ei : i = ds.length := by omega
        subst ei
        rw [List.drop_length] at p'
        refine .inl ⟨w2, ?_⟩
        have p2 : Po K mg W B F' σ (rN K mg) Q (.ok (.lst acc, restore r1 vs (wipeE r0 vs))) := p'
        have R3 := Rel.restore R1 s' vs _ R'.unwipe
        refine p2 _ F' H' R3 (Same.refl F') ⟨Dl, rfl, hF, nB, nb, ?_, ac, hH, ra⟩
        have Rg3 := Rel.restore (R1.newO (o := .lst ac) hD |>.guard upd_same fD nB nb (R1.loose_new hD)) s' vs _ (R'.unwipe.guard hH hF nB nb ?_)
        · exact (Rg3.unguard nB nb bF).2.2.2
        · intro j2 s2 q2 hj2 mj2 ej2
          have nj := wipeE_some hj2
          exact hl j2 s2 q2 hj2 mj2 (by rw [wipe_get, if_neg nj]; exact ej2)
  · simp only [if_neg hz] at p1
    exact p1.elim
theorem dn_lc {elt tg iter : Expr} {ifs : List Expr} {scope : Scope} {own : List (Str × Nat)} {s : En → Res (List D × En)} {g : D → En → Res En} {t : En → Res (Bool × En)} {f : En → Res (D × En)} (hc : X.calm = true) (hN : X.N.Nodup) (hi : DI X W tg iter s) (ok : BlkOk X.N X.env.scope scope own)
    (hg : ∀ (s : Shared) (H : Hp) (C : Addr) (cl : List (Str × Addr)) (fp : List Addr), DG (X.blk s H scope (compEnvC scope cl C X.env) fp) W0 tg (own.map (·.2)) g)
    (ht : ∀ (s : Shared) (H : Hp) (C : Addr) (cl : List (Str × Addr)) (fp : List Addr), DTs (X.blk s H scope (compEnvC scope cl C X.env) fp) W0 ifs t)
    (he : ∀ (s : Shared) (H : Hp) (C : Addr) (cl : List (Str × Addr)) (fp : List Addr), DE (X.blk s H scope (compEnvC scope cl C X.env) fp) W0 elt f) (hs : ∀ x, foldedSetIterable iter X.env x = pure x := by intro _; rfl) :
    DN X W (.ListComp elt [⟨tg, iter, ifs, 0⟩] scope pos) (eLc s g t f (own.map (·.2))) := by
  obtain ⟨ti, pi, ei⟩ := hi.ex
  exact ⟨_, pe_lc hc hN pi ok (fun a b c d e => (hg a b c d e).can) (fun a b c d e => (ht a b c d e).can) (fun a b c d e => (he a b c d e).can) hs, lc_ent ei⟩
end
end Dl

set_option Elab.async false
set_option linter.all false
set_option maxRecDepth 100000
set_option maxHeartbeats 4000000
namespace Dl
open PySem L2 PySem.Spec PyProof.Rows
variable [Dl.Tb]
/-! ### promises of defs where no repr is under way -/
structure Room (k : Nat) (A : Around) : Prop where
  r2 : L2.Room k A
  gd : A.guards = some []
section
variable {j k : Nat} {A : Around}
theorem Room.hd (r : Room k A) : A.handled = none := r.r2.hd
theorem Room.dp (r : Room k A) : A.depth + 3 * k + 5 < recursionLimit := r.r2.dp
theorem Room.un (r : Room k A) : A.units + 16 * k + 200 < cLine := r.r2.un
theorem Room.mono (r : Room k A) (h : j ≤ k) : Room j A := ⟨r.r2.mono h, r.gd⟩
theorem Room.deeper (r : Room (k + 1) A) (env : Env) : Room k (A.deeper env) := ⟨r.r2.deeper env, r.gd⟩
theorem Room.in1 (r : Room (k + 1) A) : Room k A.in1 := ⟨r.r2.in1, r.gd⟩
theorem make_guards {C : Addr} {us : List Value} {kw : List (Str × Value)} : (A.under (.builtin "type.__call__" ⟨.ref C :: us, kw⟩)).guards = A.guards := by
  first
    | rfl
    | (simp [Around.under, Code.guards, Code.isGuard, guardIds, pushGuards]; done)
    | (cases h : A.guards <;> simp [Around.under, Code.guards, Code.isGuard, guardIds, pushGuards, h])
theorem Room.make (r : Room (k + 1) A) (C : Addr) (us : List Value) (kw : List (Str × Value)) : Room k (A.under (.builtin "type.__call__" ⟨.ref C :: us, kw⟩)) :=
  ⟨r.r2.make C us kw, make_guards.trans r.gd⟩
theorem Room.depth (r : Room k A) : A.depth < recursionLimit := r.r2.depth
theorem Room.units (r : Room k A) : A.units + 64 < cLine := r.r2.units
end
structure FnOk (P : Program) (w : World) (K : PySem.W.Frag) (mg : Str → Option Value) (base : Heap) (CX : CXT) (k : Nat) (f : Addr) (fd : FuncData) (ps : List Str) (sp : Sp) : Prop where
  len : ∀ vs H Q E, sp vs H Q E → vs.length = ps.length
  run : ∀ (A : Around) (outer : List Env) (s : Shared) (H : Hp) (args : Args) (us : List Value) (vs : List V) (Q : VK) (E : XK),
    Room k A → Env0 P w K mg base A outer s H → BindsTo s fd args (ps.zip us) → Vals vs us → sp vs H Q E → codeAny (model P w) A (.call (.ref f) args) (CR CX outer P w H s Q E) s
section
variable {CX : CXT} {P : Program} {w : World} {K : PySem.W.Frag} {mg : Str → Option Value} {base : Heap} {j k : Nat} {f : Addr} {fd : FuncData} {ps : List Str} {sp : Sp}
theorem FnOk.mono (F : FnOk P w K mg base CX j f fd ps sp) (h : j ≤ k) : FnOk P w K mg base CX k f fd ps sp where
  len := F.len
  run := fun A outer s H args us vs Q E hr => F.run A outer s H args us vs Q E (hr.mono h)
/-- a def by its body -/
theorem fun_ok {x qual : Str} {params : Arguments} {body : List Stmt} {scope : Scope} {dvs : List V} {kws : List (Str × V)} {N : List Str} (FD : FunD K x qual params body scope dvs kws f fd) (S : FnScope N ps scope) (len : ∀ vs H Q E, sp vs H Q E → vs.length = ps.length)
    (hb : ∀ (cdv : Value) (A : Around) (outer : List Env) (s : Shared) (H : Hp) (vs : List V) (Q : VK) (E : XK), Room k (A.deeper (envOfC qual scope s.heap.objs.size f cdv)) → sp vs H Q E →
      ∃ t, PSs (cxOf CX P w K mg base N qual scope f cdv A outer s H E) body t ∧ t { nx := fun _ H' => Q .non H', rt := Q } (start N vs) H) : FnOk P w K mg base CX (k + 1) f fd ps sp := by
  obtain ⟨oc, od, dV, kV, doc, pm, an, cdv, ct, osl, rfl, lk, hcd, _, _⟩ := FD.ex
  refine ⟨len, fun A outer s H args us vs Q E room e0 bt rel prom => ?_⟩
  have there : ∀ b o, base.get? b = some o → s.heap.get? b = some o := fun b o e => (e0.bs b o e).1
  have kin : K.In s.heap := e0.mod.kin.keeps there
  have nol : s.heap.NoLimit := e0.mod.nolimit.keeps there
  have kinds : ∀ y ∈ ps.zip us, scope.names.lookup y.1 = some .local ∨ (scope.names.lookup y.1 = some .cell ∧ ((cellsFrom (s.heap.objs.size + 1) scope.names []).lookup y.1).isSome = true) := by
    intro y my
    rcases S.par y.1 (List.of_mem_zip (a := y.1) (b := y.2) my).1 with h | h
    · exact Or.inl h
    · exact Or.inr ⟨h, PySem.W.cellsFrom_some _ _ _ (Or.inl h)⟩
  refine codeAny_call_function room.depth (kin _ _ lk) rfl S.co S.gen rfl (PySem.W.codeRec_of kin hcd) (bt _ _ _ _ ?_)
  refine wpAny_newFunctionEnv_cells S.kind kinds fun env ee s1 entry => ?_
  subst ee
  refine ⟨nol.keeps entry.toInCall.keep, codeAny_func ?_⟩
  obtain ⟨t, pt, ht⟩ := hb cdv A outer s H vs Q E (room.deeper _) prom
  have I0 := inv_start (CX := CX) (E := E) (qual := qual) (f := f) (cd := cdv) S room.hd e0 (len _ _ _ _ prom) rel entry
  refine wpAny_mono (pt.run [] s1 (start N vs) H _ I0 ht) (fun fl s' out => ?_) fun _ _ z => z
  cases fl with
  | ret u =>
    obtain ⟨v, σ1, H1, J, rv, q⟩ := out
    exact ⟨v, H1, J.os, J.bare, J.base, J.hok, rv, q⟩
  | next =>
    obtain ⟨σ1, H1, J, q⟩ := out
    exact ⟨V.non, H1, J.os, J.bare, J.base, J.hok, rfl, q⟩
  | brk =>
    obtain ⟨_, _, _, no⟩ := out
    exact no.elim
  | cont =>
    obtain ⟨_, _, _, no⟩ := out
    exact no.elim
end
section
variable {X : Cx} {CX : CXT} {k : Nat} {f : Addr} {fd : FuncData} {ps : List Str} {sp : Sp} {dvs : List V} {ds : List Value} {E : L2.St → XK} {x : Str} {p pos : Pos} {e : Expr} {es : List Expr} {t : TA}
theorem run_fnSD {pins : List (Addr × Obj)} {σ : L2.St} {H : Hp} {s : Shared} {Q : VK} {us : List Value} {vs : List V} (F : FnOk X.prog X.w X.K X.mg X.base CX k f fd ps sp) (room : Room k X.A) (hb : Binds X.K fd ps ds) (hd : Vals dvs ds) (hx : PassesAt CX X σ (E σ)) (I : Inv X pins σ H s) (r : Vals vs us) (h : sp (vs ++ dvs) H Q (E σ)) :
    wpAny (model X.prog X.w) X.A (call (.ref f) us) (EP X pins σ Q) X.xe s := by
  have rr : Vals (vs ++ dvs) (us ++ ds) := r.append hd
  have el : (us ++ ds).length = ps.length := rr.length.symm.trans (F.len _ _ _ _ h)
  have go := F.run X.A X.stack s H ⟨us, []⟩ (us ++ ds) (vs ++ dvs) Q (E σ) room I.env0 (hb s us I.kIn el) rr h
  refine wpAny_call (codeAny_mono go fun out s' z => ?_)
  match out, z with
  | .error e, z => exact hx pins H s e s' I z
  | .ok (.ret u), z => exact I.after z
  | .ok .next, z => exact z.elim
  | .ok .brk, z => exact z.elim
  | .ok .cont, z => exact z.elim
theorem pe_callSD (F : FnOk X.prog X.w X.K X.mg X.base CX k f fd ps sp) (room : Room k X.A) (hg : Gl X x) (hm : X.mg x = some (.ref f)) (hk : PySem.W.keepIn X.K (.ref f) = true) (hb : Binds X.K fd ps ds) (hd : Vals dvs ds) (hx : ∀ σ, PassesAt CX X σ (E σ)) (ha : PA X (e :: es) t)
    (hdb : (x == ("__debug__" : Str)) = false := by decide) (he : starEach (e :: es) X.env = (false, eval e X.env) :: starEach es X.env := by rfl) (hpl : (backTo pos (starEach es X.env)).any (·.1) = false := by rfl) : PE X (.Call (.Name x p) (e :: es) [] pos) (tCallSD sp dvs E t) where
  run := fun pins s σ H Q I h => wpAny_Call_Name_kw (ld_glob I hg hm (PySem.W.callWith_K (h₀ := X.base) I.ok.mod.kin hk (thn (ha.run pos pins s σ H _ I h) fun us s1 z => by
    obtain ⟨vs, H1, I1, r, q⟩ := z
    exact ⟨I1.kIn, run_fnSD F room hb hd (hx σ) I1 r q⟩) he hpl) hdb)
end
end Dl

set_option Elab.async false
set_option linter.all false
set_option maxRecDepth 100000
set_option maxHeartbeats 4000000
namespace Dl
open PySem L2
variable [Dl.Tb]

/-! ### defs: their promise by a denotation -/
section
variable (K : PySem.W.Frag) (mg : Str → Option Value)
structure Grow (A : List Addr) (F H F' H' : Hp) : Prop where
  h : ∀ a o, a ∉ A → H a = some o → NT o → H' a = some o
  f : Same F F'
  fh : Same F' H'
  fr : ∀ a, F a = none → H a ≠ none → F' a = none
  tb : TabF F' H'
  th : ∀ a, H a ≠ none → H' a ≠ none
def PoF (F H : Hp) (Q : VK) (E : XK) : Res D → Prop
  | .ok d => ∀ v F' H', Grow [] F H F' H' → rep K mg F' d v → Q v H'
  | .er c fs _ => ∀ C od F' H', mg c = some (.ref C) → Grow [] F H F' H' → xdOk K mg F' H' fs od → E (.ref C) od H'
  | .bad => False
def spD (den : List D → Res D) : Sp := fun vs H Q E => ∃ F ds, SF F H ∧ repL K mg F ds vs ∧ PoF K mg F H Q E (den ds)
/-- the first parameter is an object that the def may change -/
def PoB (A : List Addr) (p : Addr) (F H : Hp) (Q : VK) (E : XK) : Res (D × D) → Prop
  | .ok (d, d1) => ∀ v F' H', Grow A F H F' H' → (∀ a ∈ A, H' a ≠ none) → (∀ a ∈ fp H' p d1, F' a = none ∧ (a ∈ A ∨ H a = none)) → (fp H' p d1).Nodup → ownAt K mg F' H' p d1 → rep K mg F' d v → Q v H'
  | .er c fs _ => ∀ C od F' H', mg c = some (.ref C) → Grow A F H F' H' → (∀ a ∈ A, H' a ≠ none) → xdOk K mg F' H' fs od → E (.ref C) od H'
  | .bad => False
def spB (den : D → List D → Res (D × D)) : Sp := fun vs H Q E => ∃ F p d0 ds ws, vs = .ref p :: ws ∧ SF F H ∧ (∀ a ∈ fp H p d0, F a = none) ∧ (fp H p d0).Nodup ∧ ownAt K mg F H p d0 ∧ repL K mg F ds ws ∧ PoB K mg (fp H p d0) p F H Q E (den d0 ds)
end
def startE (n : Nat) (ds : List D) : En := ds.map (fun d => some (.fz d)) ++ List.replicate (n - ds.length) none
def startB (n : Nat) (d0 : D) (ds : List D) : En := some (.bo d0) :: (ds.map (fun d => some (.fz d)) ++ List.replicate (n - (ds.length + 1)) none)
def runF (n np : Nat) (f : En → SR) (ds : List D) : Res D := if ds.length = np then (match f (startE n ds) with
  | .rt d _ => .ok d
  | .nx _ => .ok .non
  | .er c fs r => .er c fs r
  | _ => .bad) else .bad
def endB (d : D) (r : En) : Res (D × D) := match (r[0]? : Option (Option Sl)) with
  | some (some (Sl.bo d1)) => .ok (d, d1)
  | _ => .bad
def runB (n np : Nat) (f : En → SR) (d0 : D) (ds : List D) : Res (D × D) := if ds.length + 1 = np then (match f (startB n d0 ds) with
  | .rt d r => endB d r
  | .nx r => endB .non r
  | .er c fs r => .er c fs r
  | _ => .bad) else .bad
section
variable {K : PySem.W.Frag} {mg : Str → Option Value} {F H : Hp}
theorem repL_get : ∀ {ds : List D} {vs : List V} {i : Nat} {d : D}, repL K mg F ds vs → ds[i]? = some d → ∃ v, vs[i]? = some v ∧ rep K mg F d v
  | [], _, _, _, _, h => by simp at h
  | d0 :: ds, _, 0, d, h, e => by
    obtain ⟨w, ws, rfl, h1, h2⟩ := h
    simp at e
    subst e
    exact ⟨w, rfl, h1⟩
  | d0 :: ds, _, i + 1, d, h, e => by
    obtain ⟨w, ws, rfl, h1, h2⟩ := h
    obtain ⟨v, e1, e2⟩ := repL_get (i := i) (d := d) h2 (by simpa using e)
    exact ⟨v, by simpa using e1, e2⟩
theorem rel_start {N : List Str} {ds : List D} {vs : List V} (s : SF F H) (h : repL K mg F ds vs) : Rel K mg ⟨F, H, []⟩ F H (startE N.length ds) (L2.start N vs) where
  fh := s.s
  f0 := Same.refl F
  tabs := s.t
  keep := fun _ _ _ h _ => h
  there := fun _ h => h
  fresh := fun _ h _ => h
  live := fun _ h => by cases h
  len := by
    unfold startE L2.start
    simp [repL_len h]
  slot := fun i sl e => by
    unfold startE at e
    rw [List.getElem?_append] at e
    by_cases q : i < (ds.map fun d => some (Sl.fz d)).length
    · rw [if_pos q, List.getElem?_map] at e
      cases z : ds[i]? with
      | none =>
        rw [z] at e
        cases e
      | some d =>
        rw [z] at e
        cases e
        obtain ⟨v, e1, e2⟩ := repL_get h z
        refine ⟨v, ?_, e2⟩
        unfold L2.start
        rw [List.getElem?_append_left (by rw [List.length_map]; exact (List.getElem?_eq_some_iff.mp e1).1), List.getElem?_map, e1]
        rfl
    · rw [if_neg q, List.getElem?_replicate] at e
      split at e <;> cases e
  apart := fun i j sl t p p2 ne hi hj ms mt ei ej => by
    exfalso
    unfold startE at hi
    rw [List.getElem?_append] at hi
    by_cases q : i < (ds.map fun d => some (Sl.fz d)).length
    · rw [if_pos q, List.getElem?_map] at hi
      cases z : ds[i]? with
      | none =>
        rw [z] at hi
        cases hi
      | some d =>
        rw [z] at hi
        cases hi
        cases ms
    · rw [if_neg q, List.getElem?_replicate] at hi
      split at hi <;> cases hi
theorem startB_get {n : Nat} {d0 : D} {ds : List D} {i : Nat} {sl : Sl} (e : (startB n d0 ds)[i]? = some (some sl)) : (i = 0 ∧ sl = .bo d0) ∨ ∃ j d, i = j + 1 ∧ ds[j]? = some d ∧ sl = .fz d := by
  cases i with
  | zero =>
    unfold startB at e
    simp at e
    exact .inl ⟨rfl, e.symm⟩
  | succ i =>
    unfold startB at e
    rw [List.getElem?_cons_succ, List.getElem?_append] at e
    by_cases q : i < (ds.map fun d => some (Sl.fz d)).length
    · rw [if_pos q, List.getElem?_map] at e
      cases z : ds[i]? with
      | none =>
        rw [z] at e
        cases e
      | some d =>
        rw [z] at e
        cases e
        exact .inr ⟨i, d, rfl, z, rfl⟩
    · rw [if_neg q, List.getElem?_replicate] at e
      split at e <;> cases e
theorem rel_startB {N : List Str} {p : Addr} {d0 : D} {ds : List D} {vs : List V} (s : SF F H) (hp : ∀ a ∈ fp H p d0, F a = none) (nd : (fp H p d0).Nodup) (ho : ownAt K mg F H p d0) (h : repL K mg F ds vs) : Rel K mg ⟨F, H, fp H p d0⟩ F H (startB N.length d0 ds) (L2.start N (.ref p :: vs)) where
  fh := s.s
  f0 := Same.refl F
  tabs := s.t
  keep := fun _ _ _ h _ => h
  there := fun _ h => h
  fresh := fun _ h _ => h
  live := fun a ha => by
    obtain ⟨o, e⟩ := fp_live d0 ho a ha
    rw [e]
    exact ⟨fun z => (nomatch z), by show H a ≠ none; rw [e]; exact fun z => (nomatch z)⟩
  len := by
    unfold startB L2.start
    simp [repL_len h]
  slot := fun i sl e => by
    rcases startB_get e with ⟨rfl, rfl⟩ | ⟨j, d, rfl, z, rfl⟩
    · refine ⟨p, by unfold L2.start; simp, ?_, fun a ha => ⟨hp a ha, .inl ha⟩, nd, ho⟩
      show (fp H p d0).head? = some p
      unfold fp
      split
      · split <;> rfl
      · split <;> rfl
      · rfl
    · obtain ⟨v, e1, e2⟩ := repL_get h z
      refine ⟨v, ?_, e2⟩
      unfold L2.start
      rw [List.getElem?_append_left (by rw [List.length_map, List.length_cons]; have := (List.getElem?_eq_some_iff.mp e1).1; omega), List.getElem?_map, List.getElem?_cons_succ, e1]
      rfl
  apart := fun i j sl t q q2 ne hi hj ms mt ei ej => by
    exfalso
    rcases startB_get hi with ⟨rfl, rfl⟩ | ⟨_, d, rfl, z, rfl⟩
    · rcases startB_get hj with ⟨rfl, rfl⟩ | ⟨_, d, rfl, z, rfl⟩
      · exact absurd rfl ne
      · cases mt
    · cases ms
end
/-- the body of a def, in every context in which it may run: its denotation -/
def BodyOk (P : Program) (w : World) (K : PySem.W.Frag) (mg : Str → Option Value) (base : Heap) (k : Nat) (N : List Str) (qual : Str) (scope : Scope) (f : Addr) (body : List Stmt) (den : En → SR) : Prop :=
  ∀ (cdv : Value) (A : Around) (outer : List Env) (s : Shared) (H : Hp) (E : XK), Room k (A.deeper (PyProof.Rows.envOfC qual scope s.heap.objs.size f cdv)) →
    DSs (cxOf (L2.CX P w) P w K mg base N qual scope f cdv A outer s H E) (fun c d _ H' => E c d H') body den
section
variable {P : Program} {w : World} {K : PySem.W.Frag} {mg : Str → Option Value} {base : Heap} {x qual : Str} {params : Arguments} {body : List Stmt} {scope : Scope} {dvs : List V} {kws : List (Str × V)} {f : Addr} {fd : FuncData} {N ps : List Str} {k : Nat} {den : En → SR}
theorem fn_D (F : FunD K x qual params body scope dvs kws f fd) (S : FnScope N ps scope) (b : BodyOk P w K mg base k N qual scope f body den) : FnOk P w K mg base (L2.CX P w) (k + 1) f fd ps (spD K mg (runF N.length ps.length den)) := by
  refine fun_ok F S (fun vs H Q E h => ?_) (fun cdv A outer s H vs Q E hr h => ?_)
  · obtain ⟨F', ds, _, r, p⟩ := h
    rw [repL_len r]
    unfold runF at p
    split at p
    · assumption
    · exact p.elim
  · obtain ⟨F', ds, s', r, p⟩ := h
    obtain ⟨t, hp, he⟩ := (b cdv A outer s H E hr).ex
    refine ⟨t, hp, he ⟨F', H, []⟩ F' H _ _ _ (rel_start s' r) ?_⟩
    unfold runF at p
    split at p
    · cases q : den (startE N.length ds) with
      | rt d r' =>
        rw [q] at p
        exact fun v σ' F1 H1 R1 s1 x => p v F1 H1 ⟨fun a o _ h => R1.keep a o (by simp) h, s1, R1.fh, R1.fresh, R1.tabs, R1.there⟩ x
      | nx r' =>
        rw [q] at p
        exact fun σ' F1 H1 R1 s1 => p .non F1 H1 ⟨fun a o _ h => R1.keep a o (by simp) h, s1, R1.fh, R1.fresh, R1.tabs, R1.there⟩ rfl
      | er c fs r' =>
        rw [q] at p
        exact fun C od σ' F1 H1 m R1 s1 x => p C od F1 H1 m ⟨fun a o _ h => R1.keep a o (by simp) h, s1, R1.fh, R1.fresh, R1.tabs, R1.there⟩ x
      | rv d r' =>
        rw [q] at p
        exact p.elim
      | bk r' =>
        rw [q] at p
        exact p.elim
      | ct r' =>
        rw [q] at p
        exact p.elim
      | bad =>
        rw [q] at p
        exact p.elim
    · exact p.elim
theorem endB_ok {B : Bg} {F H : Hp} {r : En} {σ : St} {p : Addr} {d d' d1 : D} (R : Rel K mg B F H r σ) (hb : B.bs.head? = some p) (e : endB d r = .ok (d', d1)) : d' = d ∧ (∀ a ∈ fp H p d1, F a = none ∧ (a ∈ B.bs ∨ B.H a = none)) ∧ (fp H p d1).Nodup ∧ ownAt K mg F H p d1 := by
  unfold endB at e
  split at e
  · rename_i d2 e2
    cases e
    obtain ⟨p', e1, h1, h2, h3, h4⟩ := R.slot 0 _ e2
    rw [hb] at h1
    cases h1
    exact ⟨rfl, h2, h3, h4⟩
  · cases e
theorem fn_B (F : FunD K x qual params body scope dvs kws f fd) (S : FnScope N ps scope) (b : BodyOk P w K mg base k N qual scope f body den) : FnOk P w K mg base (L2.CX P w) (k + 1) f fd ps (spB K mg (runB N.length ps.length den)) := by
  refine fun_ok F S (fun vs H Q E h => ?_) (fun cdv A outer s H vs Q E hr h => ?_)
  · obtain ⟨F', p, d0, ds, ws, rfl, _, _, _, _, r, q⟩ := h
    rw [List.length_cons, repL_len r]
    unfold runB at q
    split at q
    · assumption
    · exact q.elim
  · obtain ⟨F', p, d0, ds, ws, rfl, s', hp0, nd0, ho, r, q0⟩ := h
    have hhd : (fp H p d0).head? = some p := by
      unfold fp
      split
      · split <;> rfl
      · split <;> rfl
      · rfl
    obtain ⟨t, hp, he⟩ := (b cdv A outer s H E hr).ex
    refine ⟨t, hp, he ⟨F', H, fp H p d0⟩ F' H _ _ _ (rel_startB s' hp0 nd0 ho r) ?_⟩
    have kp : ∀ {F1 H1 : Hp} {r1 : En} {σ1 : St}, Rel K mg ⟨F', H, fp H p d0⟩ F1 H1 r1 σ1 → Same F' F1 → Grow (fp H p d0) F' H F1 H1 := fun R1 s1 => ⟨fun a o ne h => R1.keep a o ne h, s1, R1.fh, R1.fresh, R1.tabs, R1.there⟩
    unfold runB at q0
    split at q0
    · cases q : den (startB N.length d0 ds) with
      | rt d r' =>
        rw [q] at q0
        intro v σ' F1 H1 R1 s1 x
        cases z : endB d r' with
        | ok dd =>
          obtain ⟨d', d1⟩ := dd
          simp only [z] at q0
          obtain ⟨rfl, h1, h2, h3⟩ := endB_ok R1 hhd z
          exact q0 v F1 H1 (kp R1 s1) (fun a ha => (R1.live a ha).1) h1 h2 h3 x
        | er c fs r2 =>
          unfold endB at z
          split at z <;> cases z
        | bad =>
          simp only [z] at q0
          exact q0.elim
      | nx r' =>
        rw [q] at q0
        intro σ' F1 H1 R1 s1
        cases z : endB .non r' with
        | ok dd =>
          obtain ⟨d', d1⟩ := dd
          simp only [z] at q0
          obtain ⟨rfl, h1, h2, h3⟩ := endB_ok R1 hhd z
          exact q0 .non F1 H1 (kp R1 s1) (fun a ha => (R1.live a ha).1) h1 h2 h3 rfl
        | er c fs r2 =>
          unfold endB at z
          split at z <;> cases z
        | bad =>
          simp only [z] at q0
          exact q0.elim
      | er c fs r' =>
        rw [q] at q0
        exact fun C od σ' F1 H1 m R1 s1 x => q0 C od F1 H1 m (kp R1 s1) (fun a ha => (R1.live a ha).1) x
      | rv d r' =>
        rw [q] at q0
        exact q0.elim
      | bk r' =>
        rw [q] at q0
        exact q0.elim
      | ct r' =>
        rw [q] at q0
        exact q0.elim
      | bad =>
        rw [q] at q0
        exact q0.elim
    · exact q0.elim
end

/-! ### calls -/
section
variable (P : Program) (w : World) (K : PySem.W.Frag) (mg : Str → Option Value) (base : Heap)
/-- the def at f, called with some arguments, the rest by defaults -/
structure CalA (k : Nat) (f : Addr) (den : List D → Res D) : Prop where
  ex : ∃ (fd : FuncData) (ps : List Str) (ds : List Value) (dvs : List V) (dds : List D) (den0 : List D → Res D), FnOk P w K mg base (L2.CX P w) k f fd ps (spD K mg den0) ∧ Binds K fd ps ds ∧ Vals dvs ds ∧ (∀ F, repL K mg F dds dvs) ∧ den = fun as => den0 (as ++ dds)
  kp : PySem.W.keepIn K (.ref f) = true
structure CalB (k : Nat) (f : Addr) (den : D → List D → Res (D × D)) : Prop where
  ex : ∃ (fd : FuncData) (ps : List Str) (ds : List Value) (dvs : List V) (dds : List D) (den0 : D → List D → Res (D × D)), FnOk P w K mg base (L2.CX P w) k f fd ps (spB K mg den0) ∧ Binds K fd ps ds ∧ Vals dvs ds ∧ (∀ F, repL K mg F dds dvs) ∧ den = fun d as => den0 d (as ++ dds)
  kp : PySem.W.keepIn K (.ref f) = true
end
def callR (m : Res D) (r : En) : Res (D × En) := match m with
  | .ok d => .ok (d, r)
  | .er c fs _ => .er c fs r
  | .bad => .bad
def eCall (den : List D → Res D) (f : En → Res (List D × En)) : En → Res (D × En) := fun r => (f r).bind fun p => callR (den p.1) p.2
/-- the slot's object may be changed by the call -/
def callRB (m : Res (D × D)) (i : Nat) (s : Sl) (r : En) : Res (D × En) := match m with
  | .ok (d, d1) => .ok (d, r.set i (some (s.put d1)))
  | .er c fs _ => .er c fs (r.set i none)
  | .bad => .bad
def isMine (r : En) (i : Nat) : Bool := match r[i]? with
  | some (some s) => s.mine
  | _ => false
def atMine {α : Type} (r : En) (i : Nat) (k : Sl → Res α) : Res α := match r[i]? with
  | some (some s) => if s.mine = true then k s else .bad
  | _ => .bad
def eCallB (den : D → List D → Res (D × D)) (i : Nat) (f : En → Res (List D × En)) : En → Res (D × En) := fun r => if isMine r i = true then (f r).bind fun p => atMine p.2 i fun s => callRB (den s.d p.1) i s p.2 else .bad
theorem isMine_ok {r : En} {i : Nat} (h : isMine r i = true) : ∃ s, r[i]? = some (some s) ∧ s.mine = true := by
  unfold isMine at h
  cases e : r[i]? with
  | none =>
    rw [e] at h
    cases h
  | some o =>
    cases o with
    | none =>
      rw [e] at h
      cases h
    | some s =>
      rw [e] at h
      exact ⟨s, rfl, h⟩
theorem atMine_cases {α : Type} (r : En) (i : Nat) (k : Sl → Res α) : atMine r i k = .bad ∨ ∃ s, r[i]? = some (some s) ∧ s.mine = true ∧ atMine r i k = k s := by
  unfold atMine
  cases e : r[i]? with
  | none => exact .inl rfl
  | some o =>
    cases o with
    | none => exact .inl rfl
    | some s =>
      by_cases m : s.mine = true
      · exact .inr ⟨s, rfl, m, by simp only [if_pos m]⟩
      · exact .inl (by simp only [if_neg m])
section
variable {K : PySem.W.Frag} {mg : Str → Option Value} {W : WX} {B : Bg} {F H : Hp} {r : En} {σ : St}
theorem repL_app : ∀ {ds es : List D} {vs ws : List V}, repL K mg F ds vs → repL K mg F es ws → repL K mg F (ds ++ es) (vs ++ ws)
  | [], _, _, _, h, h' => by
    cases h
    exact h'
  | d :: ds, _, _, _, h, h' => by
    obtain ⟨w, ws, rfl, h1, h2⟩ := h
    exact ⟨w, _, rfl, h1, repL_app h2 h'⟩
theorem Rel.growN {F' H' : Hp} (R : Rel K mg B F H r σ) (g : Grow [] F H F' H') : Rel K mg B F' H' r σ := R.growT g.tb (fun a o h => g.h a o List.not_mem_nil h) g.th g.f g.fh g.fr
/-- the slot's object was changed in a way that is not known -/
theorem Rel.lose {F' H' : Hp} {i : Nat} {s : Sl} {pa : Addr} (R : Rel K mg B F H r σ) (hs : r[i]? = some (some s)) (m : s.mine = true) (e : σ[i]? = some (some (.ref pa))) (g : Grow (fp H pa s.d) F H F' H') (hz : ∀ a ∈ fp H pa s.d, H' a ≠ none) : Rel K mg B F' H' (r.set i none) σ := by
  obtain ⟨hA, _, ho⟩ := R.own_at hs m e
  have oth : ∀ (j : Nat) (t : Sl) (q : Addr), i ≠ j → r[j]? = some (some t) → t.mine = true → σ[j]? = some (some (.ref q)) → ∀ a ∈ fp H q t.d, H' a = H a ∧ (F a = none → F' a = none) := fun j t q ne hj mt ej a ha => by
    have na : a ∉ fp H pa s.d := fun z => R.apart i j s t pa q ne hs hj m mt e ej a z ha
    obtain ⟨o, hoa⟩ := fp_live t.d (R.own_at hj mt ej).2.2 a ha
    exact ⟨by rw [hoa]; exact g.h a o na hoa (fp_own t.d (R.own_at hj mt ej).2.2 a ha o hoa).nt, fun z => g.fr a z (by rw [hoa]; exact fun w => nomatch w)⟩
  refine ⟨g.fh, R.f0.trans g.f, g.tb, fun a o hb ho' n => ?_, fun a h => g.th a (R.there a h), fun a h1 h2 => ?_, fun a hb => ?_, by rw [List.length_set]; exact R.len, fun j t hj => ?_, fun a b s1 t1 p1 q1 ne ha hb ms mt ea eb x hx hy => ?_⟩
  · have na : a ∉ fp H pa s.d := fun z => by
      rcases (hA a z).2 with w | w
      · exact hb w
      · rw [w] at ho'
        cases ho'
    exact g.h a o na (R.keep a o hb ho' n) n
  · exact g.fr a (R.fresh a h1 h2) (R.there a h2)
  · obtain ⟨h1, h2⟩ := R.live a hb
    exact ⟨g.th a h1, h2⟩
  · rw [get_set] at hj
    by_cases q : i = j
    · rw [if_pos q] at hj
      split at hj <;> cases hj
    · rw [if_neg q] at hj
      exact (R.slot j t hj).mono g.f fun mt q1 ej => oth j t q1 q hj mt ej
  · rw [get_set] at ha hb
    have key : ∀ (c : Nat) (u : Sl), (if i = c then (if c < r.length then some none else none) else r[c]?) = some (some u) → i ≠ c ∧ r[c]? = some (some u) := fun c u hc => by
      by_cases q : i = c
      · rw [if_pos q] at hc
        split at hc <;> cases hc
      · rw [if_neg q] at hc
        exact ⟨q, hc⟩
    obtain ⟨n1, ha⟩ := key a s1 ha
    obtain ⟨n2, hb⟩ := key b t1 hb
    rw [fp_eq (oth a s1 p1 n1 ha ms ea p1 fp_head).1] at hx
    rw [fp_eq (oth b t1 q1 n2 hb mt eb q1 fp_head).1] at hy
    exact R.apart a b s1 t1 p1 q1 ne ha hb ms mt ea eb x hx hy
theorem Rel.mine_at (R : Rel K mg B F H r σ) {i : Nat} {s : Sl} (hs : r[i]? = some (some s)) (m : s.mine = true) : ∃ pa, σ[i]? = some (some (.ref pa)) ∧ ownAt K mg F H pa s.d ∧ F pa = none := by
  obtain ⟨p, e, h1, _, h3⟩ := R.own hs m
  exact ⟨p, e, h3, (h1 p fp_head).1⟩
/-- the callee's promise from what the caller wants -/
theorem call_po {den0 : List D → Res D} {ds dds : List D} {vs dvs : List V} {Q : VK} (R : Rel K mg B F H r σ) (h : repL K mg F ds vs) (hd : ∀ F, repL K mg F dds dvs) (p : Po K mg W B F σ (rE K mg) Q (callR (den0 (ds ++ dds)) r)) : spD K mg den0 (vs ++ dvs) H Q (WE W σ) := by
  refine ⟨F, ds ++ dds, R.sf, repL_app h (hd F), ?_⟩
  cases q : den0 (ds ++ dds) with
  | ok d =>
    rw [q] at p
    exact fun v F' H' g x => p v F' H' (R.growN g) g.f x
  | er c fs r' =>
    rw [q] at p
    exact fun C od F' H' m g x => p C od σ F' H' m (R.growN g) g.f x
  | bad =>
    rw [q] at p
    exact p.elim
theorem callB_po {den0 : D → List D → Res (D × D)} {i : Nat} {s : Sl} {pa : Addr} {ds dds : List D} {vs dvs : List V} {Q : VK} (R : Rel K mg B F H r σ) (hs : r[i]? = some (some s)) (m : s.mine = true) (e : σ[i]? = some (some (.ref pa))) (h : repL K mg F ds vs) (hd : ∀ F, repL K mg F dds dvs)
    (p : Po K mg W B F σ (rE K mg) Q (callRB (den0 s.d (ds ++ dds)) i s r)) : spB K mg den0 (.ref pa :: (vs ++ dvs)) H Q (WE W σ) := by
  obtain ⟨hA, nd, ho⟩ := R.own_at hs m e
  refine ⟨F, pa, s.d, ds ++ dds, vs ++ dvs, rfl, R.sf, fun a ha => (hA a ha).1, nd, ho, repL_app h (hd F), ?_⟩
  cases q : den0 s.d (ds ++ dds) with
  | ok dd =>
    obtain ⟨d, d1⟩ := dd
    rw [q] at p
    exact fun v F' H' g lv hq nd' ho' x => p v F' H' (R.mutT hs m e g.tb g.f g.fh g.h g.th lv g.fr hq nd' ho') g.f x
  | er c fs r' =>
    rw [q] at p
    intro C od F' H' mm g hz x
    exact p C od σ F' H' mm (R.lose hs m e g hz) g.f x
  | bad =>
    rw [q] at p
    exact p.elim
end
end Dl

set_option Elab.async false
set_option linter.all false
set_option maxRecDepth 100000
set_option maxHeartbeats 4000000
namespace Dl
open PySem L2
variable [Dl.Tb]

/-! ### one reading or another -/
def eAlt {α : Type} (f g : En → Res α) : En → Res α := fun r => match f r with
  | .bad => g r
  | x => x
theorem PI.or {X : Cx} {tg e : Expr} {t u : TI} (h : PI X tg e t) (k : PI X tg e u) : PI X tg e (fun σ H Q => t σ H Q ∨ u σ H Q) := ⟨fun pins s σ H Q I z => z.elim (h.run pins s σ H Q I) (k.run pins s σ H Q I)⟩
theorem PT.or {X : Cx} {e : Expr} {t u : TT} (h : PT X e t) (k : PT X e u) : PT X e (fun σ H Q => t σ H Q ∨ u σ H Q) := ⟨fun pins s σ H Q I z => z.elim (h.run pins s σ H Q I) (k.run pins s σ H Q I)⟩
theorem ent_or {α β : Type} {K : PySem.W.Frag} {mg : Str → Option Value} {W : WX} {R : RR α β} {t u : St → Hp → (β → Hp → Prop) → Prop} {f g : En → Res (α × En)} (h : Ent K mg W R t f) (k : Ent K mg W R u g) : Ent K mg W R (fun σ H Q => t σ H Q ∨ u σ H Q) (eAlt f g) := by
  intro B F H r σ Q R1 p
  unfold eAlt at p
  cases q : f r with
  | ok a =>
    simp only [q] at p
    exact .inl (h B F H r σ Q R1 (by rw [q]; exact p))
  | er c fs r' =>
    simp only [q] at p
    exact .inl (h B F H r σ Q R1 (by rw [q]; exact p))
  | bad =>
    simp only [q] at p
    exact .inr (k B F H r σ Q R1 p)
section
variable {X : Cx} {W : WX} {e : Expr}
theorem DE.alt {f g : En → Res (D × En)} (h : DE X W e f) (k : DE X W e g) : DE X W e (eAlt f g) := by
  obtain ⟨t, hp, he⟩ := h.ex
  obtain ⟨u, kp, ke⟩ := k.ex
  exact ⟨_, PE.or hp kp, ent_or he ke⟩
theorem DN.alt {f g : En → Res (D × En)} (h : DN X W e f) (k : DN X W e g) : DN X W e (eAlt f g) := by
  obtain ⟨t, hp, he⟩ := h.ex
  obtain ⟨u, kp, ke⟩ := k.ex
  exact ⟨_, PE.or hp kp, ent_or he ke⟩
theorem DT.alt {f g : En → Res (Bool × En)} (h : DT X W e f) (k : DT X W e g) : DT X W e (eAlt f g) := by
  obtain ⟨t, hp, he⟩ := h.ex
  obtain ⟨u, kp, ke⟩ := k.ex
  exact ⟨_, PT.or hp kp, ent_or he ke⟩
theorem DI.alt {tg : Expr} {f g : En → Res (List D × En)} (h : DI X W tg e f) (k : DI X W tg e g) : DI X W tg e (eAlt f g) := by
  obtain ⟨t, hp, he⟩ := h.ex
  obtain ⟨u, kp, ke⟩ := k.ex
  exact ⟨_, PI.or hp kp, ent_or he ke⟩
end

/-! ### calls of defs -/
section
variable {X : Cx} {CX : CXT} {k : Nat} {f C : Addr} {fd : FuncData} {ps : List Str} {sp : Sp} {dvs : List V} {ds : List Value} {E : St → XK} {x m : Str} {p pos apos : Pos} {e o : Expr} {es : List Expr} {ta : TE} {t : TA}
theorem pe_callSD0 (F : FnOk X.prog X.w X.K X.mg X.base CX k f fd ps sp) (hr : Room k X.A) (hg : Gl X x) (hm : X.mg x = some (.ref f)) (hk : PySem.W.keepIn X.K (.ref f) = true) (hb : Binds X.K fd ps ds) (hd : Vals dvs ds) (hx : ∀ σ, PassesAt CX X σ (E σ))
    (hdb : (x == ("__debug__" : Str)) = false := by decide) : PE X (.Call (.Name x p) [] [] pos) (tCallSD sp dvs E tNil) := by
  refine ⟨fun pins s σ H Q I h => ?_⟩
  refine wpAny_Call_Name_kw (ld_glob I hg hm ?_ hdb)
  exact PySem.W.callWith_K0 I.kIn hk (run_fnSD (us := []) F hr hb hd (hx σ) I .nil h)
def tMethSD (C : Addr) (m : Str) (sp : Sp) (dvs : List V) (E : St → XK) (ta : TE) (t : TA) : TE := fun σ H Q => ta σ H fun x H1 => ∃ a dx fs, x = .ref a ∧ H1 a = some (.ins C dx fs) ∧ fs.lookup m = none ∧ t σ H1 fun vs H2 => sp (x :: (vs ++ dvs)) H2 Q (E σ)
theorem pe_methSD {pl : Sem Bool} (he : PE X o ta) (c : Cls X.K C) (hm : Meth X.K C m f) (F : FnOk X.prog X.w X.K X.mg X.base CX k f fd ps sp) (hr : Room k X.A) (hb : Binds X.K fd ps ds) (hd : Vals dvs ds) (hx : ∀ σ, PassesAt CX X σ (E σ)) (ha : PA X (e :: es) t)
    (hst : starEach (e :: es) X.env = (false, eval e X.env) :: starEach es X.env := by rfl) (hpl : (backTo pos (starEach es X.env)).any (·.1) = false := by rfl)
    (ht : eval (.Call (.Attribute o m apos) (e :: es) [] pos) X.env = (do
      let ov ← eval o X.env
      standAt apos.atName
      let (f, first) ← holding [ov] (getMethod ov m pl)
      callWith pos f first (backTo pos (starEach (e :: es) X.env)) (backToKw pos (keywordEach [] X.env))) := by rfl) :
    PE X (.Call (.Attribute o m apos) (e :: es) [] pos) (tMethSD C m sp dvs E ta t) := by
  refine ⟨fun pins s σ H Q I h => ?_⟩
  refine PySem.W.methodCall_KW (pl := pl) (thn (he.run pins s σ H _ I h) fun u s1 ⟨x, H1, I1, rx, a, dx, fs, ex, ea, l, q⟩ => ?_) ht
  subst ex
  obtain rfl : u = Value.ref a := rx
  refine getmeth_ok I1 ea c hm l ?_
  refine PySem.W.callWith_K (first := [.ref a]) (h₀ := X.base) I.ok.mod.kin hm.kp (thn (ha.run pos pins s1 σ H1 _ I1 q) fun us s2 ⟨vs, H2, I2, r, q2⟩ => ⟨I2.kIn, ?_⟩) hst hpl
  exact run_fnSD (us := .ref a :: us) (vs := .ref a :: vs) F hr hb hd (hx σ) I2 (.cons rfl r) q2
theorem pe_methSD0 {pl : Sem Bool} (he : PE X o ta) (c : Cls X.K C) (hm : Meth X.K C m f) (F : FnOk X.prog X.w X.K X.mg X.base CX k f fd ps sp) (hr : Room k X.A) (hb : Binds X.K fd ps ds) (hd : Vals dvs ds) (hx : ∀ σ, PassesAt CX X σ (E σ))
    (ht : eval (.Call (.Attribute o m apos) [] [] pos) X.env = (do
      let ov ← eval o X.env
      standAt apos.atName
      let (f, first) ← holding [ov] (getMethod ov m pl)
      callWith pos f first (backTo pos (starEach [] X.env)) (backToKw pos (keywordEach [] X.env))) := by rfl) :
    PE X (.Call (.Attribute o m apos) [] [] pos) (tMethSD C m sp dvs E ta tNil) := by
  refine ⟨fun pins s σ H Q I h => ?_⟩
  refine PySem.W.methodCall_KW (pl := pl) (thn (he.run pins s σ H _ I h) fun u s1 ⟨x, H1, I1, rx, a, dx, fs, ex, ea, l, q⟩ => ?_) ht
  subst ex
  obtain rfl : u = Value.ref a := rx
  refine getmeth_ok I1 ea c hm l ?_
  exact PySem.W.callWith_K0 (first := [.ref a]) I1.kIn hm.kp (run_fnSD (us := [.ref a]) (vs := [.ref a]) F hr hb hd (hx σ) I1 (.cons rfl .nil) q)
end
section
variable {X : Cx} {W : WX} {k j : Nat} {f C : Addr} {x m c y : Str} {p pos apos q : Pos} {e o : Expr} {es : List Expr} {fa : En → Res (List D × En)} {fo : En → Res (BV × En)} {den : List D → Res D} {denB : D → List D → Res (D × D)}
/-- f(e, ..) -/
theorem de_call (F : CalA X.prog X.w X.K X.mg X.base k f den) (tk : Takes X W) (hr : Room j X.A) (hk : k ≤ j) (hg : Gl X x) (hm : X.mg x = some (.ref f)) (ha : DA X W (e :: es) fa) (hdb : (x == ("__debug__" : Str)) = false := by decide)
    (he : starEach (e :: es) X.env = (false, eval e X.env) :: starEach es X.env := by rfl) (hpl : (backTo pos (starEach es X.env)).any (·.1) = false := by rfl) : DE X W (.Call (.Name x p) (e :: es) [] pos) (eCall den fa) := by
  obtain ⟨fd, ps, ds, dvs, dds, den0, G, hb, hd, hdd, rfl⟩ := F.ex
  obtain ⟨t, pa, ea⟩ := ha.ex
  refine ⟨_, pe_callSD (E := WE W) G (hr.mono hk) hg hm F.kp hb hd (fun σ => passAt tk σ) pa hdb he hpl, fun B F H r σ Q R p => ea.to R p fun as r1 vs F1 H1 R1 s1 x1 p1 => ?_⟩
  exact call_po R1 x1 hdd p1
theorem de_call0 (F : CalA X.prog X.w X.K X.mg X.base k f den) (tk : Takes X W) (hr : Room j X.A) (hk : k ≤ j) (hg : Gl X x) (hm : X.mg x = some (.ref f)) (hdb : (x == ("__debug__" : Str)) = false := by decide) : DE X W (.Call (.Name x p) [] [] pos) (eCall den aNil) := by
  obtain ⟨fd, ps, ds, dvs, dds, den0, G, hb, hd, hdd, rfl⟩ := F.ex
  exact ⟨_, pe_callSD0 (E := WE W) G (hr.mono hk) hg hm F.kp hb hd (fun σ => passAt tk σ) hdb, fun B F H r σ Q R p => call_po (ds := []) (vs := []) R rfl hdd p⟩
/-- f(y, e, ..), y's object may be changed -/
theorem de_callB {i : Nat} (F : CalB X.prog X.w X.K X.mg X.base k f denB) (tk : Takes X W) (hr : Room j X.A) (hk : k ≤ j) (hg : Gl X x) (hm : X.mg x = some (.ref f)) (ha : DA X W es fa) (hN : X.N[i]? = some y := by rfl)
    (hv : Vis X.env.scope y := by first | exact Or.inl rfl | exact Or.inr (Or.inl rfl) | exact Or.inr (Or.inr rfl)) (hyd : (y == ("__debug__" : Str)) = false := by decide) (hcd : (y == ("__classdict__" : Str)) = false := by decide) (hdb : (x == ("__debug__" : Str)) = false := by decide)
    (he : starEach (.Name y q :: es) X.env = (false, eval (.Name y q) X.env) :: starEach es X.env := by rfl) (hpl : (backTo pos (starEach es X.env)).any (·.1) = false := by rfl) : DE X W (.Call (.Name x p) (.Name y q :: es) [] pos) (eCallB denB i fa) := by
  obtain ⟨fd, ps, ds, dvs, dds, den0, G, hb, hd, hdd, rfl⟩ := F.ex
  obtain ⟨t, pa, ea⟩ := ha.ex
  refine ⟨_, pe_callSD (E := WE W) G (hr.mono hk) hg hm F.kp hb hd (fun σ => passAt tk σ) (pa_cons (pe_var hN hv hyd hcd) pa he) hdb he hpl, fun B F H r σ Q R p => ?_⟩
  unfold eCallB at p
  by_cases hm0 : isMine r i = true
  · rw [if_pos hm0] at p
    obtain ⟨s0, hs0, m0⟩ := isMine_ok hm0
    obtain ⟨pa, e0, _⟩ := R.mine_at hs0 m0
    refine ⟨_, e0, ea.to R p fun as r1 vs F1 H1 R1 s1 x1 p1 => ?_⟩
    rcases atMine_cases r1 i (fun s => callRB (den0 s.d (as ++ dds)) i s r1) with z | ⟨s, hs, m, z⟩
    · simp only [z] at p1
      exact p1.elim
    · simp only [z] at p1
      exact callB_po R1 hs m e0 x1 hdd p1
  · rw [if_neg hm0] at p
    exact p.elim
/-! ### methods -/
def hasNo (fs : List (Str × D)) (m : Str) : Bool := fs.all fun q => decide (q.1 ≠ m)
def eMeth (c m : Str) (den : List D → Res D) (fo : En → Res (D × En)) (fa : En → Res (List D × En)) : En → Res (D × En) := fun r => (fo r).bind fun p => match p.1 with
  | .ins c' fs => if c' = c ∧ hasNo fs m = true then (fa p.2).bind fun q => callR (den (.ins c' fs :: q.1)) q.2 else .bad
  | _ => .bad
theorem repF_none {K : PySem.W.Frag} {mg : Str → Option Value} {F : Hp} {m : Str} : ∀ {fs : List (Str × D)} {ws : List (Str × V)}, repF K mg F fs ws → hasNo fs m = true → ws.lookup m = none
  | [], _, h, _ => by
    cases h
    rfl
  | (k, d) :: fs, _, h, n => by
    obtain ⟨w, ws, rfl, h1, h2⟩ := h
    have n' : (decide (k ≠ m) && hasNo fs m) = true := n
    rw [Bool.and_eq_true] at n'
    have ne : ¬ (m == k) = true := fun z => (of_decide_eq_true n'.1) (beq_iff_eq.mp z).symm
    rw [List.lookup_cons]
    cases z : (m == k) with
    | true => exact absurd z ne
    | false => exact repF_none h2 n'.2
theorem de_meth {pl : Sem Bool} {ff : En → Res (D × En)} (F : CalA X.prog X.w X.K X.mg X.base k f den) (tk : Takes X W) (hr : Room j X.A) (hk : k ≤ j) (hc : X.mg c = some (.ref C)) (cl : Cls X.K C) (hm : Meth X.K C m f) (ho : DE X W o ff) (ha : DA X W (e :: es) fa)
    (hst : starEach (e :: es) X.env = (false, eval e X.env) :: starEach es X.env := by rfl) (hpl : (backTo pos (starEach es X.env)).any (·.1) = false := by rfl)
    (ht : eval (.Call (.Attribute o m apos) (e :: es) [] pos) X.env = (do
      let ov ← eval o X.env
      standAt apos.atName
      let (f, first) ← holding [ov] (getMethod ov m pl)
      callWith pos f first (backTo pos (starEach (e :: es) X.env)) (backToKw pos (keywordEach [] X.env))) := by rfl) : DE X W (.Call (.Attribute o m apos) (e :: es) [] pos) (eMeth c m den ff fa) := by
  obtain ⟨fd, ps, ds, dvs, dds, den0, G, hb, hd, hdd, rfl⟩ := F.ex
  obtain ⟨to, po, eo⟩ := ho.ex
  obtain ⟨t, pa, ea⟩ := ha.ex
  refine ⟨_, pe_methSD (E := WE W) po cl hm G (hr.mono hk) hb hd (fun σ => passAt tk σ) pa hst hpl ht, fun B F H r σ Q R p => eo.to R p fun d r1 v F1 H1 R1 s1 x1 p1 => ?_⟩
  cases d with
  | ins c' fs =>
    simp only at p1
    by_cases hcc : c' = c ∧ hasNo fs m = true
    · rw [if_pos hcc] at p1
      obtain ⟨rfl, hn⟩ := hcc
      obtain ⟨a, C', dx, ws, rfl, hC, hF, hrf⟩ := id x1
      rw [hc] at hC
      cases hC
      refine ⟨a, dx, ws, rfl, R1.fh _ _ hF, repF_none hrf hn, ea.to R1 p1 fun as r2 vs F2 H2 R2 s2 x2 p2 => ?_⟩
      exact call_po (ds := .ins c' fs :: as) (vs := .ref a :: vs) R2 ⟨_, _, rfl, rep_mono s2 _ _ x1, x2⟩ hdd p2
    · rw [if_neg hcc] at p1
      exact p1.elim
  | _ => exact p1.elim
theorem de_meth0 {pl : Sem Bool} {ff : En → Res (D × En)} (F : CalA X.prog X.w X.K X.mg X.base k f den) (tk : Takes X W) (hr : Room j X.A) (hk : k ≤ j) (hc : X.mg c = some (.ref C)) (cl : Cls X.K C) (hm : Meth X.K C m f) (ho : DE X W o ff)
    (ht : eval (.Call (.Attribute o m apos) [] [] pos) X.env = (do
      let ov ← eval o X.env
      standAt apos.atName
      let (f, first) ← holding [ov] (getMethod ov m pl)
      callWith pos f first (backTo pos (starEach [] X.env)) (backToKw pos (keywordEach [] X.env))) := by rfl) : DE X W (.Call (.Attribute o m apos) [] [] pos) (eMeth c m den ff aNil) := by
  obtain ⟨fd, ps, ds, dvs, dds, den0, G, hb, hd, hdd, rfl⟩ := F.ex
  obtain ⟨to, po, eo⟩ := ho.ex
  refine ⟨_, pe_methSD0 (E := WE W) po cl hm G (hr.mono hk) hb hd (fun σ => passAt tk σ) ht, fun B F H r σ Q R p => eo.to R p fun d r1 v F1 H1 R1 s1 x1 p1 => ?_⟩
  cases d with
  | ins c' fs =>
    simp only at p1
    by_cases hcc : c' = c ∧ hasNo fs m = true
    · rw [if_pos hcc] at p1
      obtain ⟨rfl, hn⟩ := hcc
      obtain ⟨a, C', dx, ws, rfl, hC, hF, hrf⟩ := id x1
      rw [hc] at hC
      cases hC
      refine ⟨a, dx, ws, rfl, R1.fh _ _ hF, repF_none hrf hn, ?_⟩
      exact call_po (ds := [.ins c' fs]) (vs := [.ref a]) R1 ⟨_, _, rfl, x1, rfl⟩ hdd p1
    · rw [if_neg hcc] at p1
      exact p1.elim
  | _ => exact p1.elim
/-- y.m(e, ..) where y's object is one's own or borrowed: it may be changed -/
def eMethB (c m : Str) (den : D → List D → Res (D × D)) (i : Nat) (fa : En → Res (List D × En)) : En → Res (D × En) := fun r => atMine r i fun s0 => match s0.d with
  | .ins c' fs => if c' = c ∧ hasNo fs m = true then (fa r).bind fun q => atMine q.2 i fun s => callRB (den s.d q.1) i s q.2 else .bad
  | _ => .bad
/-! ### C(e, ..) -/
def eMake (c : Str) (den : D → List D → Res (D × D)) (fa : En → Res (List D × En)) : En → Res (D × En) := fun r => (fa r).bind fun p => match den (.ins c []) p.1 with
  | .ok (.non, d1) => if noOwn d1 = true then .ok (d1, p.2) else .bad
  | .er c' fs _ => .er c' fs p.2
  | _ => .bad
/-! ### attributes -/
def fldD (cs : List Str) (n : Str) : D → Option D
  | .ins c fs => if c ∈ cs then (match fs.lookup n with
    | some (.own _) => none
    | z => z) else none
  | _ => none
theorem repF_look {K : PySem.W.Frag} {mg : Str → Option Value} {F : Hp} {n : Str} {d : D} : ∀ {fs : List (Str × D)} {ws : List (Str × V)}, repF K mg F fs ws → fs.lookup n = some d → ∃ v, ws.lookup n = some v ∧ rep K mg F d v
  | [], _, _, h => by cases h
  | (k, d0) :: fs, _, h, e => by
    obtain ⟨w, ws, rfl, h1, h2⟩ := h
    rw [List.lookup_cons] at e ⊢
    cases z : (n == k) with
    | true =>
      rw [z] at e
      cases e
      exact ⟨w, rfl, h1⟩
    | false =>
      rw [z] at e
      exact repF_look h2 e
theorem repV_look {K : PySem.W.Frag} {mg : Str → Option Value} {F : Hp} {n : Str} {d : D} : ∀ {fs : List (Str × D)} {ws : List (Str × V)}, repV K mg F fs ws → fs.lookup n = some d → ∃ v, ws.lookup n = some v ∧ fldV K mg F d v
  | [], _, _, h => by cases h
  | (k, d0) :: fs, _, h, e => by
    obtain ⟨w, ws, rfl, h1, h2⟩ := h
    rw [List.lookup_cons] at e ⊢
    cases z : (n == k) with
    | true =>
      rw [z] at e
      cases e
      exact ⟨w, rfl, h1⟩
    | false =>
      rw [z] at e
      exact repV_look h2 e
theorem de_fld {cs : List Str} {n : Str} (hcs : ∀ c ∈ cs, ∀ C, X.mg c = some (.ref C) → Cls X.K C ∧ NoAttr X.K C n) (ho : DB X W o fo) (hb : attributeBase o n X.env (eval o X.env) = eval o X.env := by rfl) : DE X W (.Attribute o n pos) (eUn (fldD cs n) fo) := by
  obtain ⟨t, hp, he⟩ := ho.ex
  refine ⟨_, pe_fld hp hb, ?_⟩
  refine un_ent (rr := fun x H1 Q => ∃ a C dx fs v, x = .ref a ∧ H1 a = some (.ins C dx fs) ∧ Cls X.K C ∧ NoAttr X.K C n ∧ fs.lookup n = some v ∧ Q v H1) he (unV_hr ?_)
  intro F H v d z Q sm h1 h3 k
  cases d with
  | ins c fs =>
    unfold fldD at h3
    by_cases hc : c ∈ cs
    · simp only [if_pos hc] at h3
      obtain ⟨a, C, dx, ws, rfl, hC, hH, hrf⟩ := h1
      obtain ⟨k1, k2⟩ := hcs c hc C hC
      cases hl : fs.lookup n with
      | none => simp [hl] at h3
      | some d0 =>
        obtain ⟨w, e1, e2⟩ := repV_look hrf hl
        cases d0 with
        | own d => simp [hl] at h3
        | _ =>
          simp only [hl] at h3
          cases h3
          exact ⟨a, C, dx, ws, w, rfl, hH, k1, k2, e1, k w e2⟩
    · simp only [if_neg hc] at h3
      cases h3
  | _ => cases h3
/-- a constant of the class -/
def conD (c n : Str) (d : D) : D → Option D
  | .ins c' fs => if c' = c ∧ hasNo fs n = true then some d else none
  | _ => none
/-- y.n = e where y's object is one's own or borrowed -/
def putD (n : Str) (d : D) : List (Str × D) → List (Str × D)
  | [] => [(n, d)]
  | (k, d0) :: fs => if k = n then (n, d) :: fs else (k, d0) :: putD n d fs
end
end Dl

set_option Elab.async false
set_option linter.all false
set_option maxRecDepth 100000
set_option maxHeartbeats 4000000
namespace Dl
open PySem L2
variable [Dl.Tb]

/-! ### changing what a slot holds -/
section
variable {K : PySem.W.Frag} {mg : Str → Option Value} {B : Bg} {F H : Hp} {r : En} {σ : St}
theorem Rel.put {i : Nat} {s : Sl} {p : Addr} {d : D} {o : HO} (R : Rel K mg B F H r σ) (hs : r[i]? = some (some s)) (m : s.mine = true) (e : σ[i]? = some (some (.ref p))) (h : ownS K mg F (upd H p o) p d) : Rel K mg B F (upd H p o) (r.set i (some (s.put d))) σ := by
  obtain ⟨_, hF⟩ := R.own_live hs m e
  exact R.mut1 hs m e (Same.refl F) (fun a u ha => by rw [upd_ne (ne_of_none ha hF)]; exact R.fh _ _ ha) (fun a u ne ha => by rw [upd_ne ne]; exact ha) (fun a h1 _ => h1) (ownS_no h) (ownS_at h)
/-- the object at x (of the slot's own ones) is written -/
theorem Rel.putA {i : Nat} {s : Sl} {p x : Addr} {d : D} {o : HO} (R : Rel K mg B F H r σ) (hs : r[i]? = some (some s)) (m : s.mine = true) (e : σ[i]? = some (some (.ref p))) (hx : x ∈ fp H p s.d) (hq : ∀ a ∈ fp (upd H x o) p d, a ∈ fp H p s.d) (nd : (fp (upd H x o) p d).Nodup)
    (h : ownAt K mg F (upd H x o) p d) : Rel K mg B F (upd H x o) (r.set i (some (s.put d))) σ := by
  obtain ⟨hA, _, ho⟩ := R.own_at hs m e
  refine R.mut hs m e (Same.refl F) (fun a u ha => by rw [upd_ne (ne_of_none ha (hA x hx).1)]; exact R.fh _ _ ha) (fun a u na ha => by rw [upd_ne fun z => na (by rw [z]; exact hx)]; exact ha) (fun a ha => ?_) (fun a h1 _ => h1) (fun a ha => ⟨(hA a (hq a ha)).1, .inl (hq a ha)⟩) nd h
  by_cases z : a = x
  · rw [z, upd_same]
    exact fun w => nomatch w
  · rw [upd_ne z]
    obtain ⟨o', ho'⟩ := fp_live s.d ho a ha
    rw [ho']
    exact fun w => nomatch w
theorem fldR_of {d : D} {v : V} (h : rep K mg F d v) : fldR K mg F H d v := by
  cases d with
  | own d => exact h.elim
  | _ => exact h
theorem fldQ_no {d : D} {v : V} (h : rep K mg F d v) : fldQ d v = [] := by
  cases d with
  | own d => exact h.elim
  | _ => rfl
theorem repO_put {n : Str} {d : D} {v : V} (h : rep K mg F d v) : ∀ {fs : List (Str × D)} {ws : List (Str × V)}, repO K mg F H fs ws → repO K mg F H (putD n d fs) (putF n v ws) ∧ (fpF (putD n d fs) (putF n v ws)).Sublist (fpF fs ws)
  | [], _, h' => by
    cases h'
    refine ⟨⟨v, [], rfl, fldR_of h, rfl⟩, ?_⟩
    show (fpF [(n, d)] [(n, v)]).Sublist []
    unfold fpF
    rw [fldQ_no h]
    exact List.Sublist.refl _
  | (k, d0) :: fs, _, h' => by
    obtain ⟨w, ws, rfl, h1, h2⟩ := h'
    unfold putD putF
    by_cases q : k = n
    · rw [if_pos q, if_pos q, q]
      refine ⟨⟨v, ws, rfl, fldR_of h, h2⟩, ?_⟩
      unfold fpF
      rw [fldQ_no h, List.nil_append]
      exact List.sublist_append_right _ _
    · rw [if_neg q, if_neg q]
      obtain ⟨a1, a2⟩ := repO_put h h2
      refine ⟨⟨w, _, rfl, h1, a1⟩, ?_⟩
      unfold fpF
      exact List.Sublist.append_left a2 _
theorem repO_len : ∀ {fs : List (Str × D)} {ws : List (Str × V)}, repO K mg F H fs ws → ws.length = fs.length
  | [], _, h => by
    cases h
    rfl
  | (k, d) :: ds, _, h => by
    obtain ⟨w, ws, rfl, _, h⟩ := h
    simp [repO_len h]
theorem repL_set {d : D} {v : V} (h : rep K mg F d v) : ∀ {ds : List D} {vs : List V} (j : Nat), repL K mg F ds vs → repL K mg F (ds.set j d) (vs.set j v)
  | [], _, _, h' => by
    cases h'
    rfl
  | d0 :: ds, _, 0, h' => by
    obtain ⟨w, ws, rfl, h1, h2⟩ := h'
    exact ⟨v, ws, rfl, h, h2⟩
  | d0 :: ds, _, j + 1, h' => by
    obtain ⟨w, ws, rfl, h1, h2⟩ := h'
    exact ⟨w, _, rfl, h1, repL_set h j h2⟩
end
def atMineS (r : En) (i : Nat) (k : Sl → SR) : SR := match r[i]? with
  | some (some s) => if s.mine = true then k s else .bad
  | _ => .bad
theorem atMineS_cases (r : En) (i : Nat) (k : Sl → SR) : atMineS r i k = .bad ∨ ∃ s, r[i]? = some (some s) ∧ s.mine = true ∧ atMineS r i k = k s := by
  unfold atMineS
  cases e : r[i]? with
  | none => exact .inl rfl
  | some o =>
    cases o with
    | none => exact .inl rfl
    | some s =>
      by_cases m : s.mine = true
      · exact .inr ⟨s, rfl, m, by simp only [if_pos m]⟩
      · exact .inl (by simp only [if_neg m])
/-- y.n = e -/
def sFldSet (cs : List Str) (n : Str) (i : Nat) (f : En → Res (D × En)) : En → SR := fun r => sBind (f r) fun p => atMineS p.2 i fun s => match s.d with
  | .ins c fs => if c ∈ cs ∧ fs.length < 1000 then .nx (p.2.set i (some (s.put (.ins c (putD n p.1 fs))))) else .bad
  | _ => .bad
/-- y.append(e) -/
def sAppend (i : Nat) (f : En → Res (D × En)) : En → SR := fun r => atMineS r i fun s0 => match s0.d with
  | .lst _ => sBind (f r) fun p => atMineS p.2 i fun s => match s.d with
    | .lst ds => if ds.length < 100000 then .nx (p.2.set i (some (s.put (.lst (ds ++ [p.1]))))) else .bad
    | _ => .bad
  | _ => .bad
def extD : D → D → Option D
  | .lst ds, .lst es => if ds.length + es.length < 100000 then some (.lst (ds ++ es)) else none
  | _, _ => none
def sExtend (i : Nat) (f : En → Res (D × En)) : En → SR := fun r => atMineS r i fun s0 => match s0.d with
  | .lst _ => sBind (f r) fun p => atMineS p.2 i fun s => match extD s.d p.1 with
    | some z => .nx (p.2.set i (some (s.put z)))
    | none => .bad
  | _ => .bad
section
variable {X : Cx} {W : WX} {e : Expr} {y : Str} {i : Nat} {pos pos' apos q : Pos} {f : En → Res (D × En)}
theorem ds_fldset {cs : List Str} {n : Str} (hcs : ∀ c ∈ cs, ∀ C, X.mg c = some (.ref C) → Cls X.K C ∧ NoAttr X.K C n) (hf : DE X W e f) (hN : X.N[i]? = some y := by rfl) (hv : Vis X.env.scope y := by first | exact Or.inl rfl | exact Or.inr (Or.inl rfl) | exact Or.inr (Or.inr rfl))
    (hyd : (y == ("__debug__" : Str)) = false := by decide) (hcd : (y == ("__classdict__" : Str)) = false := by decide) (hs : swapsWith e (some (.Attribute (.Name y q) n pos')) pos.line X.env = pure false := by rfl) :
    DS X W (.Assign [.Attribute (.Name y q) n pos'] e pos) (sFldSet cs n i f) := by
  obtain ⟨t, hp, he⟩ := hf.ex
  refine ⟨_, ps_fld (pe_var hN hv hyd hcd) hp hs, fun B F H r σ Z R p => he.toS R p fun d r1 v F1 H1 R1 s1 x1 p1 => ?_⟩
  rcases atMineS_cases r1 i (fun s => match s.d with
    | .ins c fs => if c ∈ cs ∧ fs.length < 1000 then .nx (r1.set i (some (s.put (.ins c (putD n d fs))))) else .bad
    | _ => .bad) with z | ⟨s, hs, m, z⟩
  · simp only [z] at p1
    exact p1.elim
  · simp only [z] at p1
    obtain ⟨pa, e0, ho, _⟩ := R1.mine_at hs m
    cases hd : s.d with
    | ins c fs =>
      simp only [hd] at p1
      rw [hd] at ho
      by_cases hc : c ∈ cs ∧ fs.length < 1000
      · simp only [if_pos hc] at p1
        obtain ⟨C, dx, ws, hC, hH, hrf⟩ := ho
        obtain ⟨k1, k2⟩ := hcs c hc.1 C hC
        refine ⟨_, e0, pa, C, dx, ws, rfl, hH, k1, k2, by rw [repO_len hrf]; exact hc.2, ?_⟩
        obtain ⟨_, nd, _⟩ := R1.own_at hs m e0
        rw [hd] at nd
        have efp : fp H1 pa (.ins c fs) = pa :: fpF fs ws := by
          unfold fp
          simp only [hH]
        rw [efp, List.nodup_cons] at nd
        obtain ⟨a1, a2⟩ := repO_put (n := n) x1 hrf
        have efq : ∀ o, fp (upd H1 pa (.ins C dx o)) pa (.ins c (putD n d fs)) = pa :: fpF (putD n d fs) o := fun o => by
          unfold fp
          simp only [upd_same]
        refine p1 σ F1 _ (R1.putA hs m e0 fp_head (fun a ha => ?_) ?_ ⟨C, dx, _, hC, upd_same, repO_mono (Same.refl F1) (fun a ha => upd_ne fun z => nd.1 (a2.subset (by rw [← z]; exact ha))) a1⟩) (Same.refl F1)
        · rw [efq] at ha
          rw [hd, efp]
          rcases List.mem_cons.mp ha with z | z
          · rw [z]; exact List.mem_cons_self ..
          · exact List.mem_cons_of_mem _ (a2.subset z)
        · rw [efq, List.nodup_cons]
          exact ⟨fun z => nd.1 (a2.subset z), nd.2.sublist a2⟩
      · simp only [if_neg hc] at p1
        exact p1.elim
    | _ =>
      simp only [hd] at p1
      exact p1.elim
theorem ds_append (hf : DE X W e f) (hN : X.N[i]? = some y := by rfl) (hv : Vis X.env.scope y := by first | exact Or.inl rfl | exact Or.inr (Or.inl rfl) | exact Or.inr (Or.inr rfl))
    (hyd : (y == ("__debug__" : Str)) = false := by decide) (hcd : (y == ("__classdict__" : Str)) = false := by decide)
    (hbase : attributeBase (.Name y q) "append" X.env (eval (.Name y q) X.env) = eval (.Name y q) X.env := by rfl)
    (hfew : ((backTo pos' (starEach [e] X.env)).all (fun x => !x.1) && (backToKw pos' (keywordEach [] X.env)).all (fun x => x.1.isSome)
      && decide (([e] : List Expr).length + ([] : List Keyword).length + (if ([] : List Keyword).isEmpty then 0 else 1) < 30)) = true := by rfl)
    (hline : (apos.endLine == pos'.line) = true := by rfl) (hst : starEach [e] X.env = (false, eval e X.env) :: starEach [] X.env := by rfl)
    (hs : swapsWith (.Call (.Attribute (.Name y q) "append" apos) [e] [] pos') none pos.line X.env = pure false := by rfl) :
    DS X W (.Expr (.Call (.Attribute (.Name y q) "append" apos) [e] [] pos') pos) (sAppend i f) := by
  obtain ⟨t, hp, he⟩ := hf.ex
  refine ⟨_, ps_expr (pe_bm PySem.F.plainAttrs_list PySem.F.slot_list_append PySem.F.type_list_append mt_append (pe_var hN hv hyd hcd) (pa_cons hp pa_nil hst) hbase hfew hline hst rfl) hs, fun B F H r σ Z R p => ?_⟩
  unfold sAppend at p
  rcases atMineS_cases r i (fun s0 => match s0.d with
    | .lst _ => sBind (f r) fun p => atMineS p.2 i fun s => match s.d with
      | .lst ds => if ds.length < 100000 then .nx (p.2.set i (some (s.put (.lst (ds ++ [p.1]))))) else .bad
      | _ => .bad
    | _ => .bad) with z | ⟨s0, hs0, m0, z⟩
  · rw [z] at p
    exact p.elim
  · rw [z] at p
    obtain ⟨pa, e0, ho, _⟩ := R.mine_at hs0 m0
    cases hd0 : s0.d with
    | lst ds0 =>
      simp only [hd0] at p
      rw [hd0] at ho
      obtain ⟨xs0, hH0, _⟩ := ho
      refine ⟨_, e0, .inl ⟨rfl, _, SqL.of hH0⟩, he.toS R p fun d r1 v F1 H1 R1 s1 x1 p1 => ?_⟩
      rcases atMineS_cases r1 i (fun s => match s.d with
        | .lst ds => if ds.length < 100000 then .nx (r1.set i (some (s.put (.lst (ds ++ [d]))))) else .bad
        | _ => .bad) with z | ⟨s, hs, m, z⟩
      · simp only [z] at p1
        exact p1.elim
      · simp only [z] at p1
        obtain ⟨pa', e1, ho, _⟩ := R1.mine_at hs m
        rw [e0] at e1
        cases e1
        cases hd : s.d with
        | lst ds =>
          simp only [hd] at p1
          rw [hd] at ho
          by_cases hc : ds.length < 100000
          · simp only [if_pos hc] at p1
            obtain ⟨xs, hH, hr⟩ := ho
            refine ⟨pa, xs, v, rfl, rfl, hH, sl100k (by rw [repL_len hr]; exact hc), ?_⟩
            exact p1 σ F1 _ (R1.put hs m e0 ⟨_, upd_same, repL_snoc hr x1⟩) (Same.refl F1)
          · simp only [if_neg hc] at p1
            exact p1.elim
        | _ =>
          simp only [hd] at p1
          exact p1.elim
    | _ =>
      simp only [hd0] at p
      exact p.elim
theorem ds_extend (hf : DE X W e f) (hN : X.N[i]? = some y := by rfl) (hv : Vis X.env.scope y := by first | exact Or.inl rfl | exact Or.inr (Or.inl rfl) | exact Or.inr (Or.inr rfl))
    (hyd : (y == ("__debug__" : Str)) = false := by decide) (hcd : (y == ("__classdict__" : Str)) = false := by decide)
    (hbase : attributeBase (.Name y q) "extend" X.env (eval (.Name y q) X.env) = eval (.Name y q) X.env := by rfl)
    (hfew : ((backTo pos' (starEach [e] X.env)).all (fun x => !x.1) && (backToKw pos' (keywordEach [] X.env)).all (fun x => x.1.isSome)
      && decide (([e] : List Expr).length + ([] : List Keyword).length + (if ([] : List Keyword).isEmpty then 0 else 1) < 30)) = true := by rfl)
    (hline : (apos.endLine == pos'.line) = true := by rfl) (hst : starEach [e] X.env = (false, eval e X.env) :: starEach [] X.env := by rfl)
    (hs : swapsWith (.Call (.Attribute (.Name y q) "extend" apos) [e] [] pos') none pos.line X.env = pure false := by rfl) :
    DS X W (.Expr (.Call (.Attribute (.Name y q) "extend" apos) [e] [] pos') pos) (sExtend i f) := by
  obtain ⟨t, hp, he⟩ := hf.ex
  refine ⟨_, ps_expr (pe_bm PySem.F.plainAttrs_list PySem.F.slot_list_extend PySem.F.type_list_extend mt_extend (pe_var hN hv hyd hcd) (pa_cons hp pa_nil hst) hbase hfew hline hst rfl) hs, fun B F H r σ Z R p => ?_⟩
  unfold sExtend at p
  rcases atMineS_cases r i (fun s0 => match s0.d with
    | .lst _ => sBind (f r) fun p => atMineS p.2 i fun s => match extD s.d p.1 with
      | some z => .nx (p.2.set i (some (s.put z)))
      | none => .bad
    | _ => .bad) with z | ⟨s0, hs0, m0, z⟩
  · rw [z] at p
    exact p.elim
  · rw [z] at p
    obtain ⟨pa, e0, ho, _⟩ := R.mine_at hs0 m0
    cases hd0 : s0.d with
    | lst ds0 =>
      simp only [hd0] at p
      rw [hd0] at ho
      obtain ⟨xs0, hH0, _⟩ := ho
      refine ⟨_, e0, .inl ⟨rfl, _, SqL.of hH0⟩, he.toS R p fun d r1 v F1 H1 R1 s1 x1 p1 => ?_⟩
      rcases atMineS_cases r1 i (fun s => match extD s.d d with
        | some z => .nx (r1.set i (some (s.put z)))
        | none => .bad) with z | ⟨s, hs, m, z⟩
      · simp only [z] at p1
        exact p1.elim
      · simp only [z] at p1
        obtain ⟨pa', e1, ho, hFp⟩ := R1.mine_at hs m
        rw [e0] at e1
        cases e1
        cases hd : s.d with
        | lst ds =>
          cases d with
          | lst es =>
            simp only [hd, extD] at p1
            rw [hd] at ho
            by_cases hc : ds.length + es.length < 100000
            · simp only [if_pos hc] at p1
              obtain ⟨xs, hH, hr⟩ := ho
              obtain ⟨b, zs, rfl, hFb, hrb⟩ := x1
              refine ⟨pa, b, xs, zs, rfl, rfl, hH, R1.fh _ _ hFb, Nat.le_of_lt (sl100k (by rw [repL_len hr, repL_len hrb]; exact hc)), ?_⟩
              exact p1 σ F1 _ (R1.put hs m e0 ⟨_, upd_same, repL_app hr hrb⟩) (Same.refl F1)
            · simp only [if_neg hc] at p1
              exact p1.elim
          | _ =>
            simp only [hd, extD] at p1
            exact p1.elim
        | _ =>
          simp only [hd, extD] at p1
          exact p1.elim
    | _ =>
      simp only [hd0] at p
      exact p.elim
/-! ### y[k] = e by a target (a list) -/
def ixD (n : Nat) (d : D) : Option Nat := match d with
  | .int k => ixN n k
  | _ => none
def gSetIx (i : Nat) (fi : En → Res (D × En)) : D → En → Res En := fun d r => if isMine r i = true then (fi r).bind fun p => atMine p.2 i fun s => match s.d with
  | .lst ds => (match ixD ds.length p.1 with
    | some j => .ok (p.2.set i (some (s.put (.lst (ds.set j d)))))
    | none => .bad)
  | _ => .bad else .bad
theorem dg_setix {o' : Expr} {vs : List Nat} (hf : DE X W o' f) (hN : X.N[i]? = some y := by rfl) (hv : Vis X.env.scope y := by first | exact Or.inl rfl | exact Or.inr (Or.inl rfl) | exact Or.inr (Or.inr rfl))
    (hyd : (y == ("__debug__" : Str)) = false := by decide) (hcd : (y == ("__classdict__" : Str)) = false := by decide)
    (ha : ∀ v, assign (.Subscript (.Name y q) o' pos) X.env v = (do
      let ov ← holding [v] (eval (.Name y q) X.env)
      let iv ← holding [v, ov] (eval o' X.env)
      standAt pos
      holding [v, ov, iv] (setItem ov iv v)
      release [v, ov, iv] []) := by intro _; rfl) : DG X W (.Subscript (.Name y q) o' pos) vs (gSetIx i f) := by
  obtain ⟨t, hp, he⟩ := hf.ex
  refine ⟨_, pg_sub (pe_var hN hv hyd hcd) hp set_list ha, fun B F H r σ d v Q R rp p => ?_⟩
  unfold gSetIx at p
  by_cases hm0 : isMine r i = true
  · rw [if_pos hm0] at p
    obtain ⟨s0, hs0, m0⟩ := isMine_ok hm0
    obtain ⟨pa, e0, _⟩ := R.mine_at hs0 m0
    refine ⟨_, e0, he B F H r σ _ R ?_⟩
    cases z : f r with
    | ok a =>
      obtain ⟨k, r1⟩ := a
      simp only [z, bind_ok] at p
      intro u F1 H1 R1 s1 x1
      rcases atMine_cases r1 i (fun s => match s.d with
        | .lst ds => (match ixD ds.length k with
          | some j => .ok (r1.set i (some (s.put (.lst (ds.set j d)))))
          | none => .bad)
        | _ => (.bad : Res En)) with z | ⟨s, hs, m, z⟩
      · rw [z] at p
        exact p.elim
      · rw [z] at p
        obtain ⟨pa', e1, ho, hFp⟩ := R1.mine_at hs m
        rw [e0] at e1
        cases e1
        cases hd : s.d with
        | lst ds =>
          simp only [hd] at p
          rw [hd] at ho
          obtain ⟨xs, hH, hr⟩ := ho
          cases k with
          | int k =>
            cases hj : ixN ds.length k with
            | some j =>
              simp only [ixD, hj] at p
              refine ⟨pa, xs, k, j, rfl, x1, hH, by rw [repL_len hr]; exact hj, ?_⟩
              exact p σ F1 _ (R1.put hs m e0 ⟨_, upd_same, repL_set (rep_mono s1 _ _ rp) j hr⟩) s1 Off.refl
            | none =>
              simp only [ixD, hj] at p
              exact p.elim
          | _ =>
            simp only [ixD] at p
            exact p.elim
        | _ =>
          simp only [hd] at p
          exact p.elim
    | er c fs r' =>
      simp only [z, bind_er] at p
      exact p
    | bad =>
      simp only [z, bind_bad] at p
      exact p.elim
  · rw [if_neg hm0] at p
    exact p.elim
end
end Dl

set_option Elab.async false
set_option linter.all false
set_option maxRecDepth 100000
set_option maxHeartbeats 4000000
namespace Dl
open PySem L2
variable [Dl.Tb]

/-! ### plain data -/
mutual
def toPy : D → PyData
  | .bl b => .bool b
  | .int i => .int i
  | .str x => .str x
  | .lst ds => .list (toPyL ds)
  | .tup ds => .tuple (toPyL ds)
  | _ => .none
def toPyL : List D → List PyData
  | [] => []
  | d :: ds => toPy d :: toPyL ds
end
mutual
def isData : D → Bool
  | .non => true
  | .bl _ => true
  | .int _ => true
  | .str _ => true
  | .lst ds => isDataL ds
  | .tup ds => isDataL ds
  | _ => false
def isDataL : List D → Bool
  | [] => true
  | d :: ds => isData d && isDataL ds
end
def okPy (d : D) : Bool := isData d && SeqAt.shaped (toPy d)
theorem toPyL_map : ∀ ds : List D, toPyL ds = ds.map toPy
  | [] => rfl
  | d :: ds => by rw [toPyL, toPyL_map ds, List.map_cons]
section
variable {K : PySem.W.Frag} {mg : Str → Option Value} {F H : Hp}
mutual
theorem rep_dp (e : Same F H) : ∀ (d : D) (v : V), isData d = true → rep K mg F d v → Dp K H v (toPy d)
  | .non, _, _, h => by
    cases h
    exact .non
  | .bl b, _, _, h => by
    cases h
    exact .bl b
  | .int b, _, _, h => by
    cases h
    exact .int b
  | .str b, _, _, h => by
    cases h
    exact .str b
  | .lst ds, _, i, ⟨a, xs, e1, hF, r⟩ => by
    subst e1
    rw [toPy]
    exact .lst (SqL.of (e _ _ hF)) (rep_dpL e ds xs i r)
  | .tup ds, _, i, ⟨a, xs, e1, hF, r⟩ => by
    subst e1
    rw [toPy]
    exact .tup (sqT_mono e hF) (rep_dpL e ds xs i r)
theorem rep_dpL (e : Same F H) : ∀ (ds : List D) (vs : List V), isDataL ds = true → repL K mg F ds vs → DpAll K H vs (toPyL ds)
  | [], _, _, h => by
    cases h
    exact .nil
  | d :: ds, _, i, ⟨w, ws, e1, h1, h2⟩ => by
    subst e1
    rw [isDataL, Bool.and_eq_true] at i
    rw [toPyL]
    exact .cons (rep_dp e d w i.1 h1) (rep_dpL e ds ws i.2 h2)
end
theorem vw_dp (e : Same F H) : ∀ (d : D) (v : V), isData d = true → vw K mg F H d v → Dp K H v (toPy d)
  | .non, _, _, h => by
    cases h
    exact .non
  | .bl b, _, _, h => by
    cases h
    exact .bl b
  | .int b, _, _, h => by
    cases h
    exact .int b
  | .str b, _, _, h => by
    cases h
    exact .str b
  | .lst ds, _, i, ⟨a, xs, e1, hF, r⟩ => by
    subst e1
    rw [toPy]
    exact .lst (SqL.of hF) (rep_dpL e ds xs i r)
  | .tup ds, _, i, ⟨a, xs, e1, hF, r⟩ => by
    subst e1
    rw [toPy]
    exact .tup hF (rep_dpL e ds xs i r)
end

/-! ### operations on data -/
def addI : D → D → Option D
  | .int a, .int b => some (.int (a + b))
  | _, _ => none
def subI : D → D → Option D
  | .int a, .int b => some (.int (a - b))
  | _, _ => none
def mulI : D → D → Option D
  | .int a, .int b => if (-(2 ^ 64) < a ∧ a < 2 ^ 64) ∨ (-(2 ^ 64) < b ∧ b < 2 ^ 64) then some (.int (a * b)) else none
  | _, _ => none
def modI : D → D → Option D
  | .int a, .int b => if 0 < b then some (.int (a % b)) else none
  | _, _ => none
def fdivI : D → D → Option D
  | .int a, .int b => if 0 < b ∧ b < 1073741824 then some (.int (a / b)) else none
  | _, _ => none
def powI : D → D → Option D
  | .int a, .int b => if 0 ≤ b ∧ b ≤ 1000000 ∧ a.natAbs < 2 ^ 64 then some (.int (a ^ b.toNat)) else none
  | _, _ => none
def negI : D → Option D
  | .int a => some (.int (-a))
  | _ => none
def ltI : D → D → Option D
  | .int a, .int b => some (.bl (decide (a < b)))
  | _, _ => none
def leI : D → D → Option D
  | .int a, .int b => some (.bl (decide (a ≤ b)))
  | _, _ => none
def gtI : D → D → Option D
  | .int a, .int b => some (.bl (decide (b < a)))
  | _, _ => none
def geI : D → D → Option D
  | .int a, .int b => some (.bl (decide (b ≤ a)))
  | _, _ => none
/-- == of data (texts apart: any texts) -/
def eqD : D → D → Option D
  | .str a, .str b => some (.bl (decide (a = b)))
  | x, y => if okPy x = true ∧ okPy y = true then some (.bl (PyData.eqv (toPy x) (toPy y))) else none
def neD : D → D → Option D
  | .str a, .str b => some (.bl (!decide (a = b)))
  | x, y => if okPy x = true ∧ okPy y = true then some (.bl (!PyData.eqv (toPy x) (toPy y))) else none
def isN : D → D → Option D
  | .non, .non => some (.bl true)
  | .bl _, .non => some (.bl false)
  | .int _, .non => some (.bl false)
  | .str _, .non => some (.bl false)
  | .lst _, .non => some (.bl false)
  | .tup _, .non => some (.bl false)
  | .dk _, .non => some (.bl false)
  | .dt _, .non => some (.bl false)
  | .ins _ _, .non => some (.bl false)
  | _, _ => none
def notN (x y : D) : Option D := match isN x y with
  | some (.bl b) => some (.bl (!b))
  | _ => none
def catL : D → D → Option D
  | .lst a, .lst b => if a.length + b.length ≤ 100000 then some (.lst (a ++ b)) else none
  | _, _ => none
def ixG : D → D → Option D
  | .lst ds, .int i => atI ds i
  | .tup ds, .int i => atI ds i
  | .str z, .int i => if z.length ≤ 100000 then (atI z.cps.toList i).map fun c => .str ⟨#[c]⟩ else none
  | .scr ns, .int i => (atI ns i).map .int
  | _, _ => none
def inLst : D → D → Option D
  | x, .lst ds => if okPy x = true ∧ okPy (.lst ds) = true then some (.bl ((toPyL ds).any fun z => PyData.eqv z (toPy x))) else none
  | _, _ => none
def inStr : D → D → Option D
  | .str i, .str j => some (.bl (!(Builtin.Str.occurrences j i 0 j.length 1).isEmpty))
  | _, _ => none
def lenD : D → Option D
  | .lst ds => some (.int ds.length)
  | .tup ds => some (.int ds.length)
  | .str z => if z.length ≤ 100000 then some (.int z.length) else none
  | .scr ns => some (.int ns.length)
  | _ => none
def lenK : D → Option D
  | .dk kvs => some (.int kvs.length)
  | _ => none
section
variable {X : Cx}
theorem opv_i0 {g : Int → Int → D} {v : Int → Int → V} (hr : ∀ F a b, rep X.K X.mg F (g a b) (v a b)) {f : D → D → Option D} (hf : ∀ x y z, f x y = some z → ∃ a b, x = .int a ∧ y = .int b ∧ z = g a b) : OpV X (rI0 v) f := by
  intro F H x y d e z Q s h1 h2 h3 k
  obtain ⟨a, b, rfl, rfl, rfl⟩ := hf d e z h3
  exact ⟨a, b, h1, h2, k _ (hr F a b)⟩
theorem ov_add : OpV X (rI0 fun i j => .int (i + j)) addI := opv_i0 (g := fun a b => .int (a + b)) (fun _ _ _ => rfl) fun x y z h => by
  unfold addI at h
  split at h
  · cases h
    exact ⟨_, _, rfl, rfl, rfl⟩
  · cases h
theorem ov_sub : OpV X (rI0 fun i j => .int (i - j)) subI := opv_i0 (g := fun a b => .int (a - b)) (fun _ _ _ => rfl) fun x y z h => by
  unfold subI at h
  split at h
  · cases h
    exact ⟨_, _, rfl, rfl, rfl⟩
  · cases h
theorem ov_mul : OpV X (L2.rI CMul fun i j => .int (i * j)) mulI := by
  intro F H x y d e z Q s h1 h2 h3 k
  unfold mulI at h3
  split at h3
  · rename_i a b
    split at h3
    · rename_i hc
      cases h3
      exact ⟨a, b, h1, h2, hc, k _ rfl⟩
    · cases h3
  · cases h3
theorem ov_mod : OpV X (L2.rI (fun _ j => 0 < j) fun i j => .int (i % j)) modI := by
  intro F H x y d e z Q s h1 h2 h3 k
  unfold modI at h3
  split at h3
  · rename_i a b
    split at h3
    · rename_i hc
      cases h3
      exact ⟨a, b, h1, h2, hc, k _ rfl⟩
    · cases h3
  · cases h3
theorem ov_fdiv : OpV X (L2.rI CDiv fun i j => .int (i / j)) fdivI := by
  intro F H x y d e z Q s h1 h2 h3 k
  unfold fdivI at h3
  split at h3
  · rename_i a b
    split at h3
    · rename_i hc
      cases h3
      exact ⟨a, b, h1, h2, hc, k _ rfl⟩
    · cases h3
  · cases h3
theorem ov_pow : OpV X (L2.rI CPow fun i j => .int (i ^ j.toNat)) powI := by
  intro F H x y d e z Q s h1 h2 h3 k
  unfold powI at h3
  split at h3
  · rename_i a b
    split at h3
    · rename_i hc
      cases h3
      exact ⟨a, b, h1, h2, hc, k _ rfl⟩
    · cases h3
  · cases h3
theorem uv_neg : UnV X (rU fun i => .int (-i)) negI := by
  intro F H v d z Q s h1 h3 k
  unfold negI at h3
  split at h3
  · cases h3
    exact ⟨_, h1, k _ rfl⟩
  · cases h3
theorem ov_lt : OpV X (rI0 fun i j => .bl (decide (i < j))) ltI := opv_i0 (g := fun a b => .bl (decide (a < b))) (fun _ _ _ => rfl) fun x y z h => by
  unfold ltI at h
  split at h
  · cases h
    exact ⟨_, _, rfl, rfl, rfl⟩
  · cases h
theorem ov_le : OpV X (rI0 fun i j => .bl (decide (i ≤ j))) leI := opv_i0 (g := fun a b => .bl (decide (a ≤ b))) (fun _ _ _ => rfl) fun x y z h => by
  unfold leI at h
  split at h
  · cases h
    exact ⟨_, _, rfl, rfl, rfl⟩
  · cases h
theorem ov_gt : OpV X (rI0 fun i j => .bl (decide (j < i))) gtI := opv_i0 (g := fun a b => .bl (decide (b < a))) (fun _ _ _ => rfl) fun x y z h => by
  unfold gtI at h
  split at h
  · cases h
    exact ⟨_, _, rfl, rfl, rfl⟩
  · cases h
theorem ov_ge : OpV X (rI0 fun i j => .bl (decide (j ≤ i))) geI := opv_i0 (g := fun a b => .bl (decide (b ≤ a))) (fun _ _ _ => rfl) fun x y z h => by
  unfold geI at h
  split at h
  · cases h
    exact ⟨_, _, rfl, rfl, rfl⟩
  · cases h
theorem OpV.or {rr rr' : R2} {f g : D → D → Option D} (h : OpV X rr f) (h' : OpV X rr' g) : OpV X (fun x y H Q => rr x y H Q ∨ rr' x y H Q) (fun x y => (f x y).or (g x y)) := by
  intro F H x y d e z Q s h1 h2 h3 k
  cases q : f d e with
  | some z' =>
    simp only [q, Option.some_or] at h3
    cases h3
    exact .inl (h F H x y d e z Q s h1 h2 q k)
  | none =>
    simp only [q, Option.none_or] at h3
    exact .inr (h' F H x y d e z Q s h1 h2 h3 k)
theorem okPy_parts {d : D} (h : okPy d = true) : isData d = true ∧ SeqAt.shaped (toPy d) = true := Bool.and_eq_true_iff.mp h
theorem ov_eq : OpV X (fun x y H Q => rEq x y H Q ∨ rEqD X.K x y H Q) eqD := by
  intro F H x y d e z Q s h1 h2 h3 k
  unfold eqD at h3
  split at h3
  · rename_i a b
    cases h3
    cases h1
    cases h2
    refine .inl ⟨rfl, ?_⟩
    have z : decide (V.str a = V.str b) = decide (a = b) := by
      by_cases q : a = b
      · rw [q]
        simp
      · rw [decide_eq_false q, decide_eq_false fun w => q (by cases w; rfl)]
    rw [z]
    exact k _ rfl
  · split at h3
    · rename_i hc
      cases h3
      obtain ⟨a1, a2⟩ := okPy_parts hc.1
      obtain ⟨b1, b2⟩ := okPy_parts hc.2
      exact .inr ⟨_, _, vw_dp s d x a1 h1, vw_dp s e y b1 h2, a2, b2, k _ rfl⟩
    · cases h3
theorem ov_ne : OpV X (fun x y H Q => rNe x y H Q ∨ rNeD X.K x y H Q) neD := by
  intro F H x y d e z Q s h1 h2 h3 k
  unfold neD at h3
  split at h3
  · rename_i a b
    cases h3
    cases h1
    cases h2
    refine .inl ⟨rfl, ?_⟩
    have z : decide (V.str a = V.str b) = decide (a = b) := by
      by_cases q : a = b
      · rw [q]
        simp
      · rw [decide_eq_false q, decide_eq_false fun w => q (by cases w; rfl)]
    rw [z]
    exact k _ rfl
  · split at h3
    · rename_i hc
      cases h3
      obtain ⟨a1, a2⟩ := okPy_parts hc.1
      obtain ⟨b1, b2⟩ := okPy_parts hc.2
      exact .inr ⟨_, _, vw_dp s d x a1 h1, vw_dp s e y b1 h2, a2, b2, k _ rfl⟩
    · cases h3
theorem op_eqA (hu : X.A.units + 64 < cLine) : OpR X (compareOp .Eq) (fun x y H Q => rEq x y H Q ∨ rEqD X.K x y H Q) := op_eq.or (op_eqD hu)
theorem op_neA (hu : X.A.units + 64 < cLine) : OpR X (compareOp .NotEq) (fun x y H Q => rNe x y H Q ∨ rNeD X.K x y H Q) := op_ne.or (op_neD hu)
theorem isN_ref {x y : D} {z : D} (h : isN x y = some z) : y = .non ∧ ((x = .non ∧ z = .bl true) ∨ (z = .bl false ∧ ∀ (F H : Hp) (v : V), vw X.K X.mg F H x v → v ≠ .non)) := by
  cases x <;> cases y <;> simp only [isN] at h <;> (first | cases h | skip) <;> refine ⟨rfl, ?_⟩
  · exact .inl ⟨rfl, rfl⟩
  all_goals refine .inr ⟨rfl, fun F H v hv => ?_⟩
  · rw [show v = _ from hv]; exact fun z => nomatch z
  · rw [show v = _ from hv]; exact fun z => nomatch z
  · rw [show v = _ from hv]; exact fun z => nomatch z
  · obtain ⟨_, _, e, _⟩ := hv; rw [e]; exact fun z => nomatch z
  · obtain ⟨_, _, e, _⟩ := hv; rw [e]; exact fun z => nomatch z
  · obtain ⟨_, _, e, _⟩ := hv; rw [e]; exact fun z => nomatch z
  · obtain ⟨_, _, e, _⟩ := hv; rw [e]; exact fun z => nomatch z
  · obtain ⟨_, _, _, _, e, _⟩ := hv; rw [e]; exact fun z => nomatch z
theorem ov_notN : OpV X (fun x y H Q => y = .non ∧ Q (.bl (!decide (x = .non))) H) notN := by
  intro F H x y d e z Q s h1 h2 h3 k
  unfold notN at h3
  split at h3
  · rename_i b hb
    cases h3
    obtain ⟨rfl, ⟨rfl, w⟩ | ⟨w, hn⟩⟩ := isN_ref (X := X) hb
    · cases w
      cases h1
      exact ⟨h2, k _ rfl⟩
    · cases w
      refine ⟨h2, ?_⟩
      rw [decide_eq_false (hn F H x h1)]
      exact k _ rfl
  · cases h3
theorem sl100 {n : Nat} (h : n ≤ 100000) : n ≤ sizeLine := Nat.le_trans h (by decide)
theorem on_cat : OpN X rCat catL := by
  intro F H x y d e z Q s h1 h2 h3 k
  unfold catL at h3
  split at h3
  · split at h3
    · rename_i hc
      cases h3
      obtain ⟨a, xs, rfl, ha, ra⟩ := h1
      obtain ⟨b, ys, rfl, hb, rb⟩ := h2
      exact ⟨a, b, xs, ys, rfl, rfl, ha, hb, sl100 (by rw [repL_len ra, repL_len rb]; exact hc), fun p hp => k p _ hp ⟨_, upd_same, repL_app ra rb⟩⟩
    · cases h3
  · cases h3
theorem atI_rep {F : Hp} {ds : List D} {vs : List V} {i : Int} {d : D} (h : repL X.K X.mg F ds vs) (e : atI ds i = some d) : ∃ v, atI vs i = some v ∧ rep X.K X.mg F d v := by
  unfold atI at e ⊢
  rw [repL_len h]
  cases q : ixN ds.length i with
  | none =>
    rw [q] at e
    cases e
  | some j =>
    rw [q] at e
    exact repL_get h e
theorem atI_map {α β : Type} {xs : List α} {f : α → β} {i : Int} : atI (xs.map f) i = (atI xs i).map f := by
  unfold atI
  rw [List.length_map]
  cases ixN xs.length i with
  | none => rfl
  | some j => simp
theorem ov_ix : OpV X (rIx X.K) ixG := by
  intro F H x y d e z Q s h1 h2 h3 k
  unfold ixG at h3
  split at h3
  · obtain ⟨a, xs, rfl, ha, ra⟩ := h1
    obtain ⟨v, e1, e2⟩ := atI_rep ra h3
    exact .inl ⟨a, xs, _, v, rfl, h2, SqL.of ha, e1, k v e2⟩
  · obtain ⟨a, xs, rfl, ha, ra⟩ := h1
    obtain ⟨v, e1, e2⟩ := atI_rep ra h3
    exact .inr (.inl ⟨a, xs, _, v, rfl, h2, ha, e1, k v e2⟩)
  · split at h3
    · rename_i hc
      cases q : atI (_ : List Nat) _ with
      | none =>
        rw [q] at h3
        cases h3
      | some c =>
        rw [q] at h3
        cases h3
        exact .inr (.inr ⟨_, _, c, h1, h2, sl100 hc, q, k _ rfl⟩)
    · cases h3
  · rename_i ns i
    obtain ⟨a, rfl, ha⟩ := h1
    cases q : atI ns i with
    | none =>
      rw [q] at h3
      cases h3
    | some n =>
      rw [q] at h3
      cases h3
      exact .inl ⟨a, _, i, .int n, rfl, h2, ha, by rw [atI_map, q]; rfl, k _ rfl⟩
  · cases h3
theorem ov_inLst : OpV X (rInD X.K) inLst := by
  intro F H x y d e z Q s h1 h2 h3 k
  unfold inLst at h3
  split at h3
  · split at h3
    · rename_i hc
      cases h3
      obtain ⟨a1, a2⟩ := okPy_parts hc.1
      obtain ⟨b1, b2⟩ := okPy_parts hc.2
      have z := vw_dp s _ y b1 h2
      rw [toPy] at z b2
      exact ⟨_, _, vw_dp s d x a1 h1, z, a2, b2, k _ rfl⟩
    · cases h3
  · cases h3
theorem ov_inStr : OpV X (fun x y H Q => ∃ i j, x = .str i ∧ y = .str j ∧ Q (.bl (!(Builtin.Str.occurrences j i 0 j.length 1).isEmpty)) H) inStr := by
  intro F H x y d e z Q s h1 h2 h3 k
  unfold inStr at h3
  split at h3
  · cases h3
    exact ⟨_, _, h1, h2, k _ rfl⟩
  · cases h3
theorem uv_len : UnV X (fun v H Q => ∃ x n, [v] = [x] ∧ LenV X.K x H n ∧ Q (.int n) H) lenD := by
  intro F H v d z Q s h1 h3 k
  unfold lenD at h3
  split at h3
  · cases h3
    obtain ⟨a, xs, rfl, ha, ra⟩ := h1
    exact ⟨_, _, rfl, .inl ⟨xs, SqL.of ha, (repL_len ra).symm⟩, k _ rfl⟩
  · cases h3
    obtain ⟨a, xs, rfl, ha, ra⟩ := h1
    exact ⟨_, _, rfl, .inr ⟨xs, ha, (repL_len ra).symm⟩, k _ rfl⟩
  · split at h3
    · rename_i hc
      cases h3
      cases h1
      exact ⟨_, _, rfl, ⟨sl100 hc, rfl⟩, k _ rfl⟩
    · cases h3
  · cases h3
    obtain ⟨a, rfl, ha⟩ := h1
    exact ⟨_, _, rfl, .inl ⟨_, ha, by rw [List.length_map]⟩, k _ rfl⟩
  · cases h3
end
end Dl

set_option Elab.async false
set_option linter.all false
set_option maxRecDepth 100000
set_option maxHeartbeats 4000000
namespace Dl
open PySem L2
variable [Dl.Tb]

/-! ### built-ins by name -/
section
variable {X : Cx} {W : WX} {e e2 : Expr} {x : Str} {p pos : Pos} {fa fb : En → Res (BV × En)} {id T : String} {rr : List V → Hp → VK → Prop} {g : D → Option D} {g2 : D → D → Option D}
theorem de_b1 (hc : CallR X (.builtin id) rr) (hv : UnV X (fun v H Q => rr [v] H Q) g) (hg : Gl X x) (hm : X.mg x = none) (hb : bootBuiltins x = some (.builtin id)) (ha : DB X W e fa) (hst : starEach [e] X.env = (false, eval e X.env) :: starEach [] X.env := by rfl)
    (hn : x ≠ "__name__" := by decide) (hdb : (x == ("__debug__" : Str)) = false := by decide) : DE X W (.Call (.Name x p) [e] [] pos) (eUn g fa) := by
  obtain ⟨t, hp, he⟩ := ha.ex
  exact ⟨_, pe_callB hc hg hm hb (pa_cons hp pa_nil hst) hn hdb hst rfl, un_ent (rr := fun v H Q => rr [v] H Q) he (unV_hr hv)⟩
theorem dn_b1 (hc : CallR X (.builtin id) rr) (hv : UnN X (fun v H Q => rr [v] H Q) g) (hg : Gl X x) (hm : X.mg x = none) (hb : bootBuiltins x = some (.builtin id)) (ha : DB X W e fa) (hst : starEach [e] X.env = (false, eval e X.env) :: starEach [] X.env := by rfl)
    (hn : x ≠ "__name__" := by decide) (hdb : (x == ("__debug__" : Str)) = false := by decide) : DN X W (.Call (.Name x p) [e] [] pos) (eUn g fa) := by
  obtain ⟨t, hp, he⟩ := ha.ex
  exact ⟨_, pe_callB hc hg hm hb (pa_cons hp pa_nil hst) hn hdb hst rfl, un_ent (rr := fun v H Q => rr [v] H Q) he (unN_hr hv)⟩
theorem de_t1 (hc : CallR X (.type T) rr) (hv : UnV X (fun v H Q => rr [v] H Q) g) (hg : Gl X x) (hm : X.mg x = none) (hb : bootBuiltins x = some (.type T)) (ha : DB X W e fa) (hst : starEach [e] X.env = (false, eval e X.env) :: starEach [] X.env := by rfl)
    (hn : x ≠ "__name__" := by decide) (hdb : (x == ("__debug__" : Str)) = false := by decide) : DE X W (.Call (.Name x p) [e] [] pos) (eUn g fa) := by
  obtain ⟨t, hp, he⟩ := ha.ex
  exact ⟨_, pe_callTy hc hg hm hb (pa_cons hp pa_nil hst) hn hdb hst rfl, un_ent (rr := fun v H Q => rr [v] H Q) he (unV_hr hv)⟩
theorem dn_t1 (hc : CallR X (.type T) rr) (hv : UnN X (fun v H Q => rr [v] H Q) g) (hg : Gl X x) (hm : X.mg x = none) (hb : bootBuiltins x = some (.type T)) (ha : DB X W e fa) (hst : starEach [e] X.env = (false, eval e X.env) :: starEach [] X.env := by rfl)
    (hn : x ≠ "__name__" := by decide) (hdb : (x == ("__debug__" : Str)) = false := by decide) : DN X W (.Call (.Name x p) [e] [] pos) (eUn g fa) := by
  obtain ⟨t, hp, he⟩ := ha.ex
  exact ⟨_, pe_callTy hc hg hm hb (pa_cons hp pa_nil hst) hn hdb hst rfl, un_ent (rr := fun v H Q => rr [v] H Q) he (unN_hr hv)⟩
theorem de_b2 (hc : CallR X (.builtin id) rr) (hv : OpV X (fun v u H Q => rr [v, u] H Q) g2) (hg : Gl X x) (hm : X.mg x = none) (hb : bootBuiltins x = some (.builtin id)) (ha : DB X W e fa) (ha2 : DB X W e2 fb)
    (hst : starEach [e, e2] X.env = (false, eval e X.env) :: starEach [e2] X.env := by rfl) (hst2 : starEach [e2] X.env = (false, eval e2 X.env) :: starEach [] X.env := by rfl)
    (hn : x ≠ "__name__" := by decide) (hdb : (x == ("__debug__" : Str)) = false := by decide) : DE X W (.Call (.Name x p) [e, e2] [] pos) (eBin g2 fa fb) := by
  obtain ⟨t, hp, he⟩ := ha.ex
  obtain ⟨t2, hp2, he2⟩ := ha2.ex
  exact ⟨_, pe_callB hc hg hm hb (pa_cons hp (pa_cons hp2 pa_nil hst2) hst) hn hdb hst (by rw [hst2]; rfl), bin_ent (rr := fun v u H Q => rr [v, u] H Q) he he2 (opV_hr hv)⟩
end

/-! ### the built-ins' values -/
def blsOf : List D → Option (List Bool)
  | [] => some []
  | .bl b :: ds => (blsOf ds).map (b :: ·)
  | _ => none
def allD : D → Option D
  | .lst ds => (blsOf ds).map fun bs => .bl (bs.all id)
  | _ => none
def absD : D → Option D
  | .int i => some (.int (if i < 0 then -i else i))
  | _ => none
def max2D : D → D → Option D
  | .int i, .int j => some (.int (if j > i then j else i))
  | _, _ => none
def min2D : D → D → Option D
  | .int i, .int j => some (.int (if j < i then j else i))
  | _, _ => none
def intD : D → Option D
  | .int i => some (.int i)
  | .bl b => some (.int (if b then 1 else 0))
  | _ => none
def listD : D → Option D
  | .lst ds => some (.lst ds)
  | .tup ds => some (.lst ds)
  | _ => none
def allAlikeB (ds : List PyData) : Bool := ds.all fun d => ds.all fun d' => PySem.W.alike d d'
def sortableB (ds : List PyData) : Bool := (ds.all fun d => match d with
  | .tuple (_ :: _) => true
  | _ => false) || ds.all fun d => match d with
  | .none => false
  | .tuple _ => false
  | _ => true
def okPyL (ds : List D) : Bool := ds.all okPy
def sortedD : D → Option D
  | .lst ds => if okPyL ds = true ∧ allAlikeB (ds.map toPy) = true ∧ sortableB (ds.map toPy) = true ∧ ds.length ≤ 100000 then some (.lst (ds.mergeSort (PySem.W.dataLe false toPy))) else none
  | _ => none
theorem blsOf_map {K : PySem.W.Frag} {mg : Str → Option Value} {F : Hp} : ∀ {ds : List D} {vs : List V} {bs : List Bool}, repL K mg F ds vs → blsOf ds = some bs → vs = bs.map V.bl
  | [], _, _, h, e => by
    cases h
    cases e
    rfl
  | d :: ds, _, bs, h, e => by
    obtain ⟨w, ws, rfl, h1, h2⟩ := h
    cases d with
    | bl b =>
      unfold blsOf at e
      cases q : blsOf ds with
      | none =>
        rw [q] at e
        cases e
      | some cs =>
        rw [q] at e
        cases e
        rw [List.map_cons, blsOf_map h2 q, show w = .bl b from h1]
    | _ => cases e
section
variable {X : Cx}
theorem uv_all : UnV X (fun v H Q => rAll X.K [v] H Q) allD := by
  intro F H v d z Q s h1 h3 k
  unfold allD at h3
  split at h3
  · rename_i ds
    obtain ⟨a, xs, rfl, ha, ra⟩ := h1
    cases q : blsOf ds with
    | none =>
      rw [q] at h3
      cases h3
    | some bs =>
      rw [q] at h3
      cases h3
      exact ⟨a, bs, rfl, SqL.of (by rw [← blsOf_map ra q]; exact ha), k _ rfl⟩
  · cases h3
theorem uv_abs : UnV X (fun v H Q => ∃ i, [v] = [.int i] ∧ Q (.int (if i < 0 then -i else i)) H) absD := by
  intro F H v d z Q s h1 h3 k
  unfold absD at h3
  split at h3
  · cases h3
    cases h1
    exact ⟨_, rfl, k _ rfl⟩
  · cases h3
theorem ov_max2 : OpV X (fun v u H Q => ∃ i j, [v, u] = [.int i, .int j] ∧ Q (.int (if j > i then j else i)) H) max2D := by
  intro F H x y d e z Q s h1 h2 h3 k
  unfold max2D at h3
  split at h3
  · cases h3
    cases h1
    cases h2
    exact ⟨_, _, rfl, k _ rfl⟩
  · cases h3
theorem ov_min2 : OpV X (fun v u H Q => ∃ i j, [v, u] = [.int i, .int j] ∧ Q (.int (if j < i then j else i)) H) min2D := by
  intro F H x y d e z Q s h1 h2 h3 k
  unfold min2D at h3
  split at h3
  · cases h3
    cases h1
    cases h2
    exact ⟨_, _, rfl, k _ rfl⟩
  · cases h3
theorem uv_int : UnV X (fun v H Q => (∃ i, [v] = [.int i] ∧ Q (.int i) H) ∨ ∃ k, [v] = [.bl k] ∧ Q (.int (if k then 1 else 0)) H) intD := by
  intro F H v d z Q s h1 h3 k
  unfold intD at h3
  split at h3
  · cases h3
    cases h1
    exact .inl ⟨_, rfl, k _ rfl⟩
  · cases h3
    cases h1
    exact .inr ⟨_, rfl, k _ rfl⟩
  · cases h3
theorem un_list : UnN X (fun v H Q => ∃ p ys, [v] = [.ref p] ∧ (SqL X.K H p ys ∨ SqT X.K H p ys) ∧ ∀ l, H l = none → Q (.ref l) (upd H l (.lst ys))) listD := by
  intro F H v d z Q s h1 h3 k
  unfold listD at h3
  split at h3
  · cases h3
    obtain ⟨a, xs, rfl, ha, ra⟩ := h1
    exact ⟨a, xs, rfl, .inl (SqL.of ha), fun l hl => k l _ hl ⟨xs, upd_same, ra⟩⟩
  · cases h3
    obtain ⟨a, xs, rfl, ha, ra⟩ := h1
    exact ⟨a, xs, rfl, .inr ha, fun l hl => k l _ hl ⟨xs, upd_same, ra⟩⟩
  · cases h3
theorem call_lenK : CallR X (.builtin "len") (fun xs H Q => ∃ a kvs, xs = [.ref a] ∧ Rd H a (.dK kvs) ∧ Q (.int kvs.length) H) := by
  intro pins s σ H vs us Q I r h
  obtain ⟨a, kvs, rfl, hr, q⟩ := h
  rw [Vals.ref1 r]
  exact d_len I hr fun t s' I' => ⟨.int _, H, I', ⟨t, rfl⟩, q⟩
theorem repK_len {K : PySem.W.Frag} {mg : Str → Option Value} {F : Hp} : ∀ {ds : List (Key × D)} {vs : List (Key × V)}, repK K mg F ds vs → vs.length = ds.length
  | [], _, h => by
    cases h
    rfl
  | (k, d) :: ds, _, h => by
    obtain ⟨w, ws, rfl, _, h⟩ := h
    simp [repK_len h]
theorem uv_lenK : UnV X (fun v H Q => ∃ a kvs, [v] = [.ref a] ∧ Rd H a (.dK kvs) ∧ Q (.int kvs.length) H) lenK := by
  intro F H v d z Q s h1 h3 k
  unfold lenK at h3
  split at h3
  · cases h3
    obtain ⟨a, ws, rfl, ha, ra⟩ := h1
    exact ⟨a, ws, rfl, ha, k _ (by rw [repK_len ra]; rfl)⟩
  · cases h3
theorem allAlikeB_ok {ds : List PyData} (h : allAlikeB ds = true) : PySem.W.AllAlike ds := fun d hd d' hd' => List.all_eq_true.mp (List.all_eq_true.mp h d hd) d' hd'
theorem sortableB_ok {ds : List PyData} (h : sortableB ds = true) : PySem.W.Sortable ds := by
  rcases Bool.or_eq_true_iff.mp h with h | h
  · refine .inl fun d hd => ?_
    have q := List.all_eq_true.mp h d hd
    split at q
    · exact ⟨_, _, rfl⟩
    · cases q
  · refine .inr fun d hd => ?_
    have q := List.all_eq_true.mp h d hd
    split at q
    · cases q
    · cases q
    · rename_i h1 h2
      exact ⟨fun z => h1 z, fun xs z => h2 xs z⟩
/-- sorted(list of data) -/
def rSortD (K : PySem.W.Frag) (mg : Str → Option Value) : List V → Hp → VK → Prop := fun vs H Q => ∃ (a : Addr) (xs : List V) (F : Hp) (ds : List D), vs = [V.ref a] ∧ H a = some (.lst xs) ∧ Same F H ∧ repL K mg F ds xs ∧ okPyL ds = true ∧ allAlikeB (ds.map toPy) = true ∧ sortableB (ds.map toPy) = true ∧ ds.length ≤ 100000 ∧
  ∀ (p : Addr) (ys : List V), H p = none → repL K mg F (ds.mergeSort (PySem.W.dataLe false toPy)) ys → Q (.ref p) (upd H p (.lst ys))
theorem each_of {F : Hp} : ∀ {ds : List D} {xs : List V} {us : List Value}, repL X.K X.mg F ds xs → Vals xs us → PySem.W.EachIs (fun u d => ∃ v, RelV v u ∧ rep X.K X.mg F d v) us ds
  | [], _, _, h, r => by
    cases h
    cases r
    exact .nil
  | d :: ds, _, _, h, r => by
    obtain ⟨w, ws, rfl, h1, h2⟩ := h
    cases r with
    | cons r1 r2 => exact .cons ⟨w, r1, h1⟩ (each_of h2 r2)
theorem of_each {F : Hp} : ∀ {ds : List D} {us : List Value}, PySem.W.EachIs (fun u d => ∃ v, RelV v u ∧ rep X.K X.mg F d v) us ds → ∃ xs, repL X.K X.mg F ds xs ∧ Vals xs us
  | _, _, .nil => ⟨[], rfl, .nil⟩
  | _, _, .cons ⟨v, r, h⟩ t => by
    obtain ⟨xs, h1, h2⟩ := of_each t
    exact ⟨v :: xs, ⟨v, xs, rfl, h, h1⟩, .cons r h2⟩
theorem each_reads {F H : Hp} {pins : List (Addr × Obj)} {σ : St} {s : Shared} (I : Inv X pins σ H s) (sm : Same F H) : ∀ {ds : List D} {xs : List V} {us : List Value}, okPyL ds = true → repL X.K X.mg F ds xs → Vals xs us → PySem.W.EachIs (fun v b => ∃ as, Reads s.heap v (toPy b) as) us ds
  | [], _, _, _, h, r => by
    cases h
    cases r
    exact .nil
  | d :: ds, _, _, ok, h, r => by
    obtain ⟨w, ws, rfl, h1, h2⟩ := h
    have ok' : (okPy d && okPyL ds) = true := ok
    rw [Bool.and_eq_true] at ok'
    cases r with
    | cons r1 r2 => exact .cons (Dp.reads I _ _ _ (rep_dp sm d w (okPy_parts ok'.1).1 h1) r1) (each_reads I sm ok'.2 h2 r2)
theorem call_sortD (hu : X.A.units + 67 < cLine) : CallR X (.builtin "sorted") (rSortD X.K X.mg) := by
  intro pins s σ H vs us Q I r h
  obtain ⟨a, xs, F, ds, rfl, ha, sm, rl, ok, al, so, len, q⟩ := h
  rw [Vals.ref1 r]
  obtain ⟨its, rv, hl, hz⟩ := I.list (SqL.of ha)
  refine PySem.W.sorted_data (enc := toPy) (bs := ds) hl.isList (each_of rl rv) (each_reads I sm ok rl rv) (allAlikeB_ok al) (sortableB_ok so) (sl100 len) (fun b hb => ?_) fun out hlen he => ?_
  · have q := SeqAt.depth_of_shaped (okPy_parts (List.all_eq_true.mp ok b hb)).2
    omega
  · obtain ⟨ys, h1, h2⟩ := of_each he
    obtain ⟨ep, he'⟩ := PyProof.Rows.sortedAll_at s.heap its (List.toArray out)
    have hl' : ys.length ≤ sizeLine := by rw [repL_len h1, List.length_mergeSort]; exact sl100 len
    exact ⟨.ref _, upd H (s.heap.objs.size + 1) (.lst ys), I.laid (t' := s.toks) (fun _ _ => PyProof.Rows.sortedAll_old) (Nat.le_succ _) ⟨hl', out, ep, h2, by simpa using he'⟩, rfl, q _ ys (I.hok.fresh (Nat.le_succ _)) h1⟩
theorem un_sort : UnN X (fun v H Q => rSortD X.K X.mg [v] H Q) sortedD := by
  intro F H v d z Q s h1 h3 k
  unfold sortedD at h3
  split at h3
  · split at h3
    · rename_i hc
      cases h3
      obtain ⟨a, xs, rfl, ha, ra⟩ := h1
      exact ⟨a, xs, F, _, rfl, ha, s, ra, hc.1, hc.2.1, hc.2.2.1, hc.2.2.2, fun p ys hp hr => k p _ hp ⟨ys, upd_same, hr⟩⟩
    · cases h3
  · cases h3
end

/-! ### what is walked -/
def charsD (z : Str) : List D := z.cps.toList.map fun c => .str ⟨#[c]⟩
def seqD : D → Option (List D)
  | .lst ds => some ds
  | .tup ds => some ds
  | .str z => some (charsD z)
  | _ => none
def iSeq (f : En → Res (D × En)) : En → Res (List D × En) := fun r => (f r).bind fun p => (liftR (seqD p.1)).bind fun ds => .ok (ds, p.2)
def rngD (a b : Int) : List D := (List.range (b - a).toNat).map fun (i : Nat) => .int (a + i)
def iRg1 (f : En → Res (List D × En)) : En → Res (List D × En) := fun r => (f r).bind fun p => match p.1 with
  | [.int b] => if -(2 ^ 62) ≤ b ∧ b < 2 ^ 62 then .ok (rngD 0 b, p.2) else .bad
  | _ => .bad
def iRg2 (f : En → Res (List D × En)) : En → Res (List D × En) := fun r => (f r).bind fun p => match p.1 with
  | [.int a, .int b] => if -(2 ^ 62) ≤ a ∧ a < 2 ^ 62 ∧ -(2 ^ 62) ≤ b ∧ b < 2 ^ 62 then .ok (rngD a b, p.2) else .bad
  | _ => .bad
def enumD (ds : List D) : List D := ds.zipIdx.map fun q => .tup [.int q.2, q.1]
def iEn (f : En → Res (List D × En)) : En → Res (List D × En) := fun r => (f r).bind fun p => match p.1 with
  | [.lst ds] => .ok (enumD ds, p.2)
  | _ => .bad
section
variable {X : Cx} {W : WX} {tg e e2 : Expr} {p pos : Pos}
theorem wk_at {K : PySem.W.Frag} {mg : Str → Option Value} {F : Hp} {ds : List D} {vs : List V} {J : It} {G : Hp → Prop} (w : Walk J ds.length G (YAt vs)) (h : repL K mg F ds vs) (hG : ∀ F' H', Same F F' → Same F' H' → G H') : Wk K mg F ds J := by
  intro F' H' s1 s2
  have g := hG F' H' s1 s2
  refine ⟨fun i d e => ?_, w.stops H' g⟩
  have hlt := (List.getElem?_eq_some_iff.mp e).1
  refine ⟨w.goes i H' hlt g, fun x H'' y => ?_⟩
  obtain ⟨rfl, hx⟩ := w.yields i H' x H'' hlt g y
  obtain ⟨v, e1, e2⟩ := repL_get h e
  rw [hx] at e1
  cases e1
  exact ⟨F', Same.refl F', Same.refl _, s2, fun a h1 _ => h1, rep_mono s1 _ _ e2⟩
theorem wk_list {K : PySem.W.Frag} {mg : Str → Option Value} {F : Hp} {ds : List D} {vs : List V} {a : Addr} (ha : F a = some (.lst vs)) (h : repL K mg F ds vs) : Wk K mg F ds (Itl K a) := by
  refine wk_at (G := fun H => SqL K H a vs) (vs := vs) ?_ h fun F' H' s1 s2 => SqL.of (s2 _ _ (s1 _ _ ha))
  rw [← repL_len h]
  exact walk_list
theorem wk_tup {K : PySem.W.Frag} {mg : Str → Option Value} {F : Hp} {ds : List D} {vs : List V} {a : Addr} (ha : SqT K F a vs) (h : repL K mg F ds vs) : Wk K mg F ds (Itt K a) := by
  refine wk_at (G := fun H => SqT K H a vs) (vs := vs) ?_ h fun F' H' s1 s2 => sqT_mono s2 (sqT_mono s1 ha)
  rw [← repL_len h]
  exact walk_tup
theorem wk_str {K : PySem.W.Frag} {mg : Str → Option Value} {F : Hp} (z : Str) : Wk K mg F (charsD z) (Its z) := by
  intro F' H' s1 s2
  have w := walk_str (z := z)
  have hl : (charsD z).length = z.cps.size := by unfold charsD; simp
  refine ⟨fun i d e => ?_, by rw [hl]; exact w.stops H' trivial⟩
  have hlt := (List.getElem?_eq_some_iff.mp e).1
  rw [hl] at hlt
  refine ⟨w.goes i H' hlt trivial, fun x H'' y => ?_⟩
  obtain ⟨rfl, c, hc, hx⟩ := w.yields i H' x H'' hlt trivial y
  refine ⟨F', Same.refl F', Same.refl _, s2, fun a h1 _ => h1, ?_⟩
  unfold charsD at e
  rw [List.getElem?_map] at e
  have hc' : z.cps.toList[i]? = some c := by simpa using hc
  rw [hc'] at e
  cases e
  exact hx
theorem wk_range {K : PySem.W.Frag} {mg : Str → Option Value} {F : Hp} (a : Int) (n : Nat) : Wk K mg F ((List.range n).map fun (i : Nat) => .int (a + i)) (Itr a n) := by
  intro F' H' s1 s2
  have w := walk_range (lo := a) (n := n)
  refine ⟨fun i d e => ?_, by rw [List.length_map, List.length_range]; exact w.stops H' trivial⟩
  have hlt := (List.getElem?_eq_some_iff.mp e).1
  rw [List.length_map, List.length_range] at hlt
  refine ⟨w.goes i H' hlt trivial, fun x H'' y => ?_⟩
  obtain ⟨rfl, hx⟩ := w.yields i H' x H'' hlt trivial y
  refine ⟨F', Same.refl F', Same.refl _, s2, fun a h1 _ => h1, ?_⟩
  rw [List.getElem?_map, List.getElem?_range hlt] at e
  cases e
  exact hx
theorem wk_pair {K : PySem.W.Frag} {mg : Str → Option Value} {F : Hp} {ds : List D} {J : It} {G : Hp → Prop} {xs ys : Nat → Option V} (w : Walk J ds.length G (YPair xs ys)) (hG : ∀ F' H', Same F F' → Same F' H' → G H')
    (hp : ∀ i d x y, ds[i]? = some d → xs i = some x → ys i = some y → ∃ a b, d = .tup [a, b] ∧ rep K mg F a x ∧ rep K mg F b y) : Wk K mg F ds J := by
  intro F' H' s1 s2
  have g := hG F' H' s1 s2
  refine ⟨fun i d e => ?_, w.stops H' g⟩
  have hlt := (List.getElem?_eq_some_iff.mp e).1
  refine ⟨w.goes i H' hlt g, fun v H'' y => ?_⟩
  obtain ⟨T, x, z, rfl, hT, rfl, hx, hy⟩ := w.yields i H' v H'' hlt g y
  obtain ⟨a, b, rfl, ra, rb⟩ := hp i d x z e hx hy
  have fT : F' T = none := s2.free hT
  refine ⟨upd F' T (.tup [x, z]), same_new fT, same_new hT, fun c u hc => ?_, fun c h1 h2 => ?_, T, [x, z], rfl, SqT.of upd_same, x, [z], rfl, rep_mono (s1.trans (same_new fT)) _ _ ra, z, [], rfl, rep_mono (s1.trans (same_new fT)) _ _ rb, rfl⟩
  · by_cases q : c = T
    · subst q
      rw [upd_same] at hc ⊢
      exact hc
    · rw [upd_ne q] at hc ⊢
      exact s2 _ _ hc
  · rw [upd_ne fun z => h2 (by rw [z]; exact hT)]
    exact h1
theorem di_seq {f : En → Res (D × En)} (h : DE X W e f) : DI X W tg e (iSeq f) := by
  obtain ⟨t, hp, he⟩ := h.ex
  refine ⟨_, PI.or (PI.or (pi_list hp) (pi_tup hp)) (pi_str hp), fun B F H r σ Q R p => ?_⟩
  cases q : f r with
  | ok a =>
    obtain ⟨d, r'⟩ := a
    unfold iSeq at p
    simp only [q, bind_ok] at p
    cases d with
    | lst ds =>
      refine .inl (.inl (he B F H r σ _ R ?_))
      rw [q]
      intro v F1 H1 R1 s1 x1
      obtain ⟨a, xs, rfl, ha, ra⟩ := x1
      exact ⟨a, rfl, ⟨xs, SqL.of (R1.fh _ _ ha)⟩, p _ F1 H1 R1 s1 (wk_list ha ra)⟩
    | tup ds =>
      refine .inl (.inr (he B F H r σ _ R ?_))
      rw [q]
      intro v F1 H1 R1 s1 x1
      obtain ⟨a, xs, rfl, ha, ra⟩ := x1
      exact ⟨a, rfl, ⟨xs, sqT_mono R1.fh ha⟩, p _ F1 H1 R1 s1 (wk_tup ha ra)⟩
    | str z =>
      refine .inr (he B F H r σ _ R ?_)
      rw [q]
      intro v F1 H1 R1 s1 x1
      exact ⟨z, x1, p _ F1 H1 R1 s1 (wk_str z)⟩
    | _ => exact p.elim
  | er c fs r' =>
    unfold iSeq at p
    simp only [q, bind_er] at p
    refine .inl (.inl (he B F H r σ _ R ?_))
    rw [q]
    exact p
  | bad =>
    unfold iSeq at p
    simp only [q, bind_bad] at p
    exact p.elim
theorem di_range1 {f : En → Res (List D × En)} (hg : Gl X "range") (hm : X.mg "range" = none) (ha : DA X W [e] f) (hs : starEach [e] X.env = [(false, eval e X.env)] := by rfl) : DI X W tg (.Call (.Name "range" p) [e] [] pos) (iRg1 f) := by
  obtain ⟨t, hp, he⟩ := ha.ex
  refine ⟨_, pi_range1 hg hm hp hs, fun B F H r σ Q R p => he.to R p fun ds r1 vs F1 H1 R1 s1 x1 p1 => ?_⟩
  simp only at p1
  split at p1
  · rename_i b
    obtain ⟨w, ws, rfl, h1, h2⟩ := x1
    cases (show w = V.int b from h1)
    cases (show ws = [] from h2)
    split at p1
    · rename_i hc
      refine ⟨b, rfl, hc.1, hc.2, p1 _ F1 H1 R1 (Same.refl F1) ?_⟩
      have z := wk_range (K := X.K) (mg := X.mg) (F := F1) 0 (b - 0).toNat
      rw [show (b - 0).toNat = b.toNat by simp] at z
      show Wk X.K X.mg F1 (rngD 0 b) (Itr 0 b.toNat)
      unfold rngD
      rw [show (b - 0).toNat = b.toNat by simp]
      exact z
    · exact p1.elim
  · exact p1.elim
theorem di_enum {f : En → Res (List D × En)} {elts : List Expr} {kk : Nat} {tpos : Pos} (hg : Gl X "enumerate") (hm : X.mg "enumerate" = none) (ha : DA X W [e] f) (hs : starEach [e] X.env = [(false, eval e X.env)] := by rfl) : DI X W (.Tuple elts kk tpos) (.Call (.Name "enumerate" p) [e] [] pos) (iEn f) := by
  obtain ⟨t, hp, he⟩ := ha.ex
  refine ⟨_, pi_enum hg hm hp hs, fun B F H r σ Q R p => he.to R p fun ds r1 vs F1 H1 R1 s1 x1 p1 => ?_⟩
  simp only at p1
  split at p1
  · rename_i es
    obtain ⟨w, ws, rfl, h1, h2⟩ := x1
    obtain ⟨a, xs, rfl, ha, ra⟩ := h1
    cases (show ws = [] from h2)
    refine ⟨a, xs, rfl, SqL.of (R1.fh _ _ ha), p1 _ F1 H1 R1 (Same.refl F1) ?_⟩
    have hl : (enumD es).length = xs.length := by unfold enumD; rw [List.length_map, List.length_zipIdx, repL_len ra]
    refine wk_pair (G := fun H => SqL X.K H a xs) (xs := fun i => some (.int (i : Nat))) (ys := fun i => xs[i]?) ?_ (fun F' H' s1 s2 => SqL.of (s2 _ _ (s1 _ _ ha))) ?_
    · rw [hl]
      exact walk_enum
    · intro i d x y e hx hy
      unfold enumD at e
      rw [List.getElem?_map, List.getElem?_zipIdx] at e
      cases q : es[i]? with
      | none =>
        rw [q] at e
        cases e
      | some d0 =>
        rw [q] at e
        cases e
        obtain ⟨v, e1, e2⟩ := repL_get ra q
        have hy' : xs[i]? = some y := hy
        rw [hy'] at e1
        cases e1
        cases hx
        exact ⟨_, _, rfl, by simp [rep], e2⟩
  · exact p1.elim
end
end Dl

set_option Elab.async false
set_option linter.all false
set_option maxRecDepth 100000
set_option maxHeartbeats 4000000
namespace Dl
open PySem L2
variable [Dl.Tb]

/-! ### isinstance -/
def tnD : D → Option String
  | .non => some "NoneType"
  | .bl _ => some "bool"
  | .int _ => some "int"
  | .str _ => some "str"
  | .lst _ => some "list"
  | .tup _ => some "tuple"
  | .dk _ => some "dict"
  | .dt _ => some "dict"
  | _ => none
def isT (t n : String) : Bool := t == n || (t == "bool" && n == "int")
def tyNs : List String := ["NoneType", "bool", "int", "str", "list", "tuple", "dict"]
def argNs : List String := ["int", "bool", "str", "list", "tuple", "dict"]
theorem kit_tab : ∀ t ∈ tyNs, ∀ n ∈ argNs, kitB t n = some (isT t n) := by decide +kernel
theorem tnD_mem {d : D} {t : String} (h : tnD d = some t) : t ∈ tyNs := by
  cases d <;> simp only [tnD] at h <;> first | (cases h; decide) | cases h
structure InsC (K : PySem.W.Frag) (C : Addr) : Prop where
  cl : Cls K C
  ha : PySem.W.findIn K (.ref C) "__class__" = some (some (.builtin "object.__class__"))
  hn : PySem.W.specialIn K (.builtin "object.__class__") "__get__" = some (some (.builtin "getset_descriptor.__get__"))
  htk : PySem.W.takesIn K (.builtin "object.__class__") = some true
  hm : PySem.W.mroIn K C (.type "object") = some true
theorem vw_ty {K : PySem.W.Frag} {mg : Str → Option Value} {F H : Hp} {d : D} {v : V} {t : String} (h : vw K mg F H d v) (e : tnD d = some t) : TyX K H v (.type t) := by
  cases d with
  | non =>
    cases h
    cases e
    exact .base .non
  | bl b =>
    cases h
    cases e
    exact .base (.bl b)
  | int b =>
    cases h
    cases e
    exact .base (.int b)
  | str b =>
    cases h
    cases e
    exact .base (.str b)
  | lst ds =>
    obtain ⟨a, xs, rfl, ha, _⟩ := h
    cases e
    exact .base (.lst ha)
  | tup ds =>
    obtain ⟨a, xs, rfl, ha, _⟩ := h
    cases e
    rcases ha with (ha | ⟨o, ha⟩) | ⟨o, its, n, hk, hc, _⟩
    · exact .base (.tup ha)
    · exact .fTuple ha
    · exact .kTuple hk hc
  | dk kvs =>
    obtain ⟨a, xs, rfl, ha, _⟩ := h
    cases e
    rcases ha with ha | ⟨o, ha⟩
    · exact .base (.dK ha)
    · exact .fDict ha
  | dt kvs =>
    obtain ⟨a, xs, rfl, ha, _⟩ := h
    cases e
    exact .base (.dT ha)
  | _ => cases e
/-- isinstance(x, (T1, ..)): built-in classes; instances of the classes cs are none of these -/
def isiB (ns : List String) (cs : List Str) : D → Option D
  | .ins c _ => if c ∈ cs then some (.bl false) else none
  | d => (tnD d).map fun t => .bl (ns.any fun n => isT t n)
/-- isinstance(x, C), C an own class; the instances of cs are none -/
def isiO (c : Str) (cs : List Str) : D → Option D
  | .ins c' _ => if c' = c then some (.bl true) else if c' ∈ cs then some (.bl false) else none
  | d => (tnD d).map fun _ => .bl false
theorem kitAny_tab {K : PySem.W.Frag} {t : String} (ht : t ∈ tyNs) : ∀ {ns : List String}, (∀ n ∈ ns, n ∈ argNs) → PySem.W.kitAny K (.type t) (ns.map Value.type) = some (ns.any fun n => isT t n)
  | [], _ => rfl
  | n :: ns, h => by
    have k := kit_ty (K := K) (kit_tab t ht n (h n (by simp)))
    rw [List.map_cons, List.any_cons]
    unfold PySem.W.kitAny
    rw [k]
    cases isT t n with
    | true => rfl
    | false =>
      rw [Bool.false_or]
      exact kitAny_tab ht fun m hm => h m (List.mem_cons_of_mem _ hm)
theorem kitAny_no {K : PySem.W.Frag} {t : Value} : ∀ {us : List Value}, (∀ u ∈ us, PySem.W.kitOne K t u = some false) → PySem.W.kitAny K t us = some false
  | [], _ => rfl
  | u :: us, h => by
    unfold PySem.W.kitAny
    rw [h u (by simp)]
    exact kitAny_no fun m hm => h m (List.mem_cons_of_mem _ hm)
/-- what is known of own classes for isinstance -/
structure NotB (K : PySem.W.Frag) (mg : Str → Option Value) (cs : List Str) (ns : List String) : Prop where
  h : ∀ c ∈ cs, ∀ C, mg c = some (.ref C) → InsC K C ∧ ∀ n ∈ ns, PySem.W.kitOne K (.ref C) (.type n) = some false
theorem vw_isi {K : PySem.W.Frag} {mg : Str → Option Value} {F H : Hp} {d z : D} {v : V} {ns : List String} {cs : List Str} (hns : ∀ n ∈ ns, n ∈ argNs) (hcs : NotB K mg cs ns) (h : vw K mg F H d v) (e : isiB ns cs d = some z) :
    ∃ t b, z = .bl b ∧ TyX K H v t ∧ PySem.W.kitAny K t (ns.map Value.type) = some b := by
  have key : ∀ t, tnD d = some t → z = .bl (ns.any fun n => isT t n) → ∃ t b, z = .bl b ∧ TyX K H v t ∧ PySem.W.kitAny K t (ns.map Value.type) = some b := fun t ht hz => ⟨_, _, hz, vw_ty h ht, kitAny_tab (tnD_mem ht) hns⟩
  cases d with
  | ins c fs =>
    unfold isiB at e
    by_cases hc : c ∈ cs
    · simp only [if_pos hc] at e
      cases e
      obtain ⟨a, C, dx, ws, rfl, hC, hH, _⟩ := h
      obtain ⟨k, kn⟩ := hcs.h c hc C hC
      refine ⟨.ref C, false, rfl, .base (.ins hH k.cl k.ha k.hn k.htk k.hm), kitAny_no fun u hu => ?_⟩
      obtain ⟨n, hn, rfl⟩ := List.mem_map.mp hu
      exact kn n hn
    · simp only [if_neg hc] at e
      cases e
  | non => cases e; exact key _ rfl rfl
  | bl b => cases e; exact key _ rfl rfl
  | int b => cases e; exact key _ rfl rfl
  | str b => cases e; exact key _ rfl rfl
  | lst b => cases e; exact key _ rfl rfl
  | tup b => cases e; exact key _ rfl rfl
  | dk b => cases e; exact key _ rfl rfl
  | dt b => cases e; exact key _ rfl rfl
  | _ => cases e
/-- the classes as arguments -/
def tTys (ns : List String) : TA := fun _ H Q => Q (ns.map V.ty) H
section
variable {X : Cx} {W : WX} {e : Expr} {p q pos tpos : Pos} {fa : En → Res (BV × En)}
theorem pa_ty0 : PA X [] (tTys []) := ⟨fun pos pins s σ H Q I h => pa_nil.run pos pins s σ H Q I h⟩
theorem pa_ty1 {x : Str} {n : String} {ns : List String} {es : List Expr} (hg : Gl X x) (hm : X.mg x = none) (hv : bootBuiltins x = some (.type n)) (hr : PA X es (tTys ns)) (hn : x ≠ "__name__" := by decide) (hd : (x == ("__debug__" : Str)) = false := by decide)
    (hs : starEach (.Name x q :: es) X.env = (false, eval (.Name x q) X.env) :: starEach es X.env := by rfl) : PA X (.Name x q :: es) (tTys (n :: ns)) :=
  ⟨fun pos pins s σ H Q I h => (pa_cons (pe_bltn (v := .ty n) hg hm hv rfl hn hd) hr hs).run pos pins s σ H Q I h⟩
theorem clsV_all : ∀ ns : List String, Paired ClsV (ns.map V.ty) (ns.map Value.type)
  | [] => .nil
  | n :: ns => .cons (.ty n) (clsV_all ns)
/-- isinstance(x, T) -/
theorem de_isi1 {x : Str} {n : String} {cs : List Str} (hgi : Gl X "isinstance") (hmi : X.mg "isinstance" = none) (hbi : bootBuiltins "isinstance" = some (.builtin "isinstance")) (hg : Gl X x) (hm : X.mg x = none) (hv : bootBuiltins x = some (.type n)) (hn : n ∈ argNs) (hcs : NotB X.K X.mg cs [n]) (ha : DB X W e fa)
    (hst : starEach [e, .Name x q] X.env = (false, eval e X.env) :: starEach [.Name x q] X.env := by rfl) (hst2 : starEach [.Name x q] X.env = (false, eval (.Name x q) X.env) :: starEach [] X.env := by rfl) (hxn : x ≠ "__name__" := by decide) (hd : (x == ("__debug__" : Str)) = false := by decide) :
    DE X W (.Call (.Name "isinstance" p) [e, .Name x q] [] pos) (eUn (isiB [n] cs) fa) := by
  obtain ⟨t, hp, he⟩ := ha.ex
  refine ⟨_, pe_callB call_isi hgi hmi hbi (pa_cons hp (pa_ty1 hg hm hv pa_ty0 hxn hd hst2) hst) (by decide) (by decide) hst (by rw [hst2]; rfl), ?_⟩
  refine un_ent (rr := fun v H Q => rIsi X.K [v, .ty n] H Q) he (unV_hr ?_)
  intro F H v d z Q s h1 h3 k
  obtain ⟨t, b, rfl, ht, hk⟩ := vw_isi (fun m hm => by rw [List.mem_singleton.mp hm]; exact hn) hcs h1 h3
  refine ⟨v, .ty n, t, .type n, b, rfl, .ty n, ht, ?_, k _ rfl⟩
  have hk' : (match PySem.W.kitOne X.K t (.type n) with
    | some true => some true
    | some false => some false
    | none => none) = some b := hk
  cases z : PySem.W.kitOne X.K t (.type n) with
  | none =>
    rw [z] at hk'
    cases hk'
  | some c =>
    rw [z] at hk'
    cases c <;> exact hk'
/-- isinstance(x, (T1, ..)) -/
theorem de_isiT {h : En → Res (D × En)} {es : List Expr} {kk : Nat} {ns : List String} {cs : List Str} (hgi : Gl X "isinstance") (hmi : X.mg "isinstance" = none) (hbi : bootBuiltins "isinstance" = some (.builtin "isinstance")) (hts : PA X es (tTys ns)) (hns : ∀ n ∈ ns, n ∈ argNs) (hl : ns.length ≤ 1000) (hcs : NotB X.K X.mg cs ns) (ha : DE X W e h)
    (hst : starEach [e, .Tuple es kk tpos] X.env = (false, eval e X.env) :: starEach [.Tuple es kk tpos] X.env := by rfl) (hst2 : starEach [.Tuple es kk tpos] X.env = (false, eval (.Tuple es kk tpos) X.env) :: starEach [] X.env := by rfl) :
    DE X W (.Call (.Name "isinstance" p) [e, .Tuple es kk tpos] [] pos) (eUn (isiB ns cs) (bOf h)) := by
  obtain ⟨t, hp, he⟩ := ha.ex
  refine ⟨_, pe_callB call_isiT hgi hmi hbi (pa_cons hp (pa_cons (pe_tup hts) pa_nil hst2) hst) (by decide) (by decide) hst (by rw [hst2]; rfl), fun B F H r σ Q R p0 => ?_⟩
  unfold eUn bOf at p0
  cases q : h r with
  | ok a =>
    obtain ⟨d, r1⟩ := a
    rw [q] at p0
    simp only [bind_ok, getB] at p0
    refine he B F H r σ _ R ?_
    rw [q]
    intro v F1 H1 R1 s1 x1
    cases z : isiB ns cs d with
    | none =>
      simp only [z, liftR, bind_bad] at p0
      exact p0.elim
    | some d1 =>
      simp only [z, liftR, bind_ok] at p0
      refine ⟨Nat.le_of_lt (small1000 (by rw [List.length_map]; exact hl)), fun pa hpa => ?_⟩
      have R2 := R1.newO (o := .tup (ns.map V.ty)) hpa
      have x2 := vw_of R2.fh d v x1
      obtain ⟨t, b, rfl, ht, hk⟩ := vw_isi hns hcs x2 z
      exact ⟨v, pa, _, t, _, b, rfl, upd_same, clsV_all ns, ht, hk, p0 _ F1 _ R2 s1 rfl⟩
  | er c fs r' =>
    rw [q] at p0
    refine he B F H r σ _ R ?_
    rw [q]
    exact p0
  | bad =>
    rw [q] at p0
    exact p0.elim
end
/-! ### slices -/
def doNone : En → Res (Option Int × En) := fun r => .ok (none, r)
def doSome (f : En → Res (D × En)) : En → Res (Option Int × En) := fun r => (f r).bind fun p => match p.1 with
  | .int i => .ok (some i, p.2)
  | _ => .bad
def rO : RR (Option Int) (Option Int) := fun _ _ _ _ _ a b => a = b
structure DO (X : Cx) (W : WX) (e : Option Expr) (f : En → Res (Option Int × En)) : Prop where
  ex : ∃ t, PO X e t ∧ Ent X.K X.mg W rO t f
def cutD (xs : List D) (lo hi : Option Int) : List D := (xs.drop (HT.sIx xs.length 0 lo)).take (HT.sIx xs.length xs.length hi - HT.sIx xs.length 0 lo)
def slL (d : D) (lo hi : Option Int) : Option D := match d with
  | .lst ds => some (.lst (cutD ds lo hi))
  | _ => none
def eSl (g : D → Option Int → Option Int → Option D) (fe : En → Res (BV × En)) (fl fh : En → Res (Option Int × En)) : En → Res (D × En) := fun r => (fe r).bind fun p => (fl p.2).bind fun l => (fh l.2).bind fun u => (getB p.1 u.2).bind fun d => (liftR (g d l.1 u.1)).bind fun z => .ok (z, u.2)
section
variable {K : PySem.W.Frag} {mg : Str → Option Value} {F : Hp}
theorem repL_drop : ∀ (n : Nat) {ds : List D} {vs : List V}, repL K mg F ds vs → repL K mg F (ds.drop n) (vs.drop n)
  | 0, _, _, h => h
  | n + 1, [], _, h => by
    cases h
    rfl
  | n + 1, d :: ds, _, h => by
    obtain ⟨w, ws, rfl, h1, h2⟩ := h
    exact repL_drop n h2
theorem repL_take : ∀ (n : Nat) {ds : List D} {vs : List V}, repL K mg F ds vs → repL K mg F (ds.take n) (vs.take n)
  | 0, _, _, h => by
    rw [List.take_zero, List.take_zero]
    rfl
  | n + 1, [], _, h => by
    cases h
    rfl
  | n + 1, d :: ds, _, h => by
    obtain ⟨w, ws, rfl, h1, h2⟩ := h
    exact ⟨w, _, rfl, h1, repL_take n h2⟩
end
section
variable {X : Cx} {W : WX} {e : Expr} {pos p2 : Pos} {fe : En → Res (BV × En)} {fl fh : En → Res (Option Int × En)} {lo hi : Option Expr}
theorem do_none : DO X W none doNone := ⟨_, po_none, fun B F H r σ Q R p => p none F H R (Same.refl F) rfl⟩
theorem do_some {f : En → Res (D × En)} (h : DE X W e f) : DO X W (some e) (doSome f) := by
  obtain ⟨t, hp, he⟩ := h.ex
  refine ⟨_, po_some hp, fun B F H r σ Q R p => he.to R p fun d r1 v F1 H1 R1 s1 x1 p1 => ?_⟩
  cases d with
  | int i => exact ⟨i, x1, p1 _ F1 H1 R1 (Same.refl F1) rfl⟩
  | _ => exact p1.elim
theorem dn_sl (he : DB X W e fe) (hl : DO X W lo fl) (hu : DO X W hi fh) : DN X W (.Subscript e (.Slice lo hi none p2) pos) (eSl slL fe fl fh) := by
  obtain ⟨t, hp, ee⟩ := he.ex
  obtain ⟨tl, hpl, el⟩ := hl.ex
  obtain ⟨tu, hpu, eu⟩ := hu.ex
  refine ⟨_, pe_slice sl_list hp hpl hpu, fun B F H r σ Q R p => ee.to R p fun b r1 v F1 H1 R1 s1 x1 p1 => ?_⟩
  refine el.to R1 p1 fun l r2 l' F2 H2 R2 s2 x2 p2 => ?_
  cases (show l = l' from x2)
  refine eu.to R2 p2 fun u r3 u' F3 H3 R3 s3 x3 p3 => ?_
  cases (show u = u' from x3)
  have x1' := rB_mono (r' := r3) (H' := H3) (s2.trans s3) x1
  cases g1 : getB b r3 with
  | ok d =>
    simp only [g1, bind_ok] at p3
    cases d with
    | lst ds =>
      obtain ⟨a, xs, rfl, ha, ra⟩ := getB_vw R3 x1' g1
      refine ⟨a, xs, rfl, SqL.of ha, fun pa hpa => ?_⟩
      refine p3 _ F3 _ (R3.newO hpa) (Same.refl F3) ⟨pa, rfl, R3.fh.free hpa, (R3.new_ne hpa).1, (R3.new_ne hpa).2, R3.loose_new hpa, _, upd_same, ?_⟩
      unfold cutD cutV
      rw [repL_len ra]
      exact repL_take _ (repL_drop _ ra)
    | _ => exact p3.elim
  | er c fs r' => exact (getB_ner g1).elim
  | bad =>
    simp only [g1, bind_bad] at p3
    exact p3.elim
end
/-! ### a < b < c -/
def eChain (g g' : D → D → Option D) (fa fb fc : En → Res (BV × En)) : En → Res (D × En) := fun r => (fa r).bind fun p => (fb p.2).bind fun q => (getB p.1 q.2).bind fun x => (getB q.1 q.2).bind fun y => match g x y with
  | some (.bl true) => (fc q.2).bind fun u => (getB q.1 u.2).bind fun y => (getB u.1 u.2).bind fun w => (liftR (g' y w)).bind fun z => .ok (z, u.2)
  | some (.bl false) => .ok (.bl false, q.2)
  | _ => .bad
section
variable {X : Cx} {W : WX} {a b c : Expr} {pos : Pos} {fa fb fc : En → Res (BV × En)} {g g' : D → D → Option D} {op op' : CmpOp} {r r' : R2}
theorem chain_ent {ta tb tc : TE} (ha : Ent X.K X.mg W (rB X.K X.mg) ta fa) (hb : Ent X.K X.mg W (rB X.K X.mg) tb fb) (hc : Ent X.K X.mg W (rB X.K X.mg) tc fc) (hv : OpV X r g) (hv' : OpV X r' g') : Ent X.K X.mg W (rE X.K X.mg) (tChain r r' ta tb tc) (eChain g g' fa fb fc) := by
  intro B F H r0 σ Q R p
  refine ha.to R p fun a r1 v F1 H1 R1 s1 x1 p1 => ?_
  refine hb.to R1 p1 fun b r2 u F2 H2 R2 s2 x2 p2 => ?_
  have x1' := rB_mono (r' := r2) (H' := H2) s2 x1
  cases g1 : getB a r2 with
  | ok d1 =>
    cases g2 : getB b r2 with
    | ok d2 =>
      simp only [g1, g2, bind_ok] at p2
      cases g3 : g d1 d2 with
      | some z =>
        simp only [g3] at p2
        cases z with
        | bl k =>
          refine hv F2 H2 v u d1 d2 (.bl k) _ R2.fh (getB_vw R2 x1' g1) (getB_vw R2 x2 g2) g3 fun w hw => ⟨k, hw, ?_⟩
          cases k with
          | true =>
            simp only at p2
            rw [if_pos rfl]
            refine hc.to R2 p2 fun e r3 t F3 H3 R3 s3 x3 p3 => ?_
            have x2' := rB_mono (r' := r3) (H' := H3) s3 x2
            cases g4 : getB b r3 with
            | ok d3 =>
              cases g5 : getB e r3 with
              | ok d4 =>
                simp only [g4, g5, bind_ok] at p3
                cases g6 : g' d3 d4 with
                | some z =>
                  simp only [g6, liftR, bind_ok] at p3
                  exact opV_hr hv' B F3 H3 r3 σ u t d3 d4 z Q R3 (getB_vw R3 x2' g4) (getB_vw R3 x3 g5) g6 p3
                | none =>
                  simp only [g6, liftR, bind_bad] at p3
                  exact p3.elim
              | er c fs r' => exact (getB_ner g5).elim
              | bad =>
                simp only [g4, g5, bind_ok, bind_bad] at p3
                exact p3.elim
            | er c fs r' => exact (getB_ner g4).elim
            | bad =>
              simp only [g4, bind_bad] at p3
              exact p3.elim
          | false =>
            simp only at p2
            rw [if_neg Bool.false_ne_true]
            exact p2 _ F2 H2 R2 (Same.refl F2) rfl
        | _ => exact p2.elim
      | none =>
        simp only [g3] at p2
        exact p2.elim
    | er c fs r' => exact (getB_ner g2).elim
    | bad =>
      simp only [g1, g2, bind_ok, bind_bad] at p2
      exact p2.elim
  | er c fs r' => exact (getB_ner g1).elim
  | bad =>
    simp only [g1, bind_bad] at p2
    exact p2.elim
end
end Dl

set_option Elab.async false
set_option linter.all false
set_option maxRecDepth 100000
set_option maxHeartbeats 4000000
namespace Dl
open PySem L2
variable [Dl.Tb]

/-! ### dicts -/
def keyD : D → Option Key
  | .int i => some (.inl i)
  | .str x => some (.inr x)
  | _ => none
def getKD (kvs : List (Key × D)) (k : Key) : Option D := (kvs.find? fun kv => decide (kv.1 = k)).map (·.2)
def putKD (kvs : List (Key × D)) (k : Key) (d : D) : List (Key × D) :=
  if (kvs.any fun kv => decide (kv.1 = k)) = true then kvs.map (fun kv => if kv.1 = k then (kv.1, d) else kv) else kvs ++ [(k, d)]
def dgetD : D → D → Option D
  | .dk kvs, k => (keyD k).bind fun k => getKD kvs k
  | _, _ => none
def dinD : D → D → Option D
  | k, .dk kvs => (keyD k).map fun k => .bl (getKD kvs k).isSome
  | _, _ => none
section
variable {K : PySem.W.Frag} {mg : Str → Option Value} {F H : Hp}
theorem keyD_rep {d : D} {k : Key} {v : V} (h : keyD d = some k) (hr : vw K mg F H d v) : v = kV k := by
  cases d with
  | int i =>
    cases h
    exact hr
  | str x =>
    cases h
    exact hr
  | _ => cases h
end
section
variable {X : Cx} {W : WX} {a b : Expr} {pos : Pos} {fa fb : En → Res (BV × En)}
/-! comparisons: as values and as tests -/
end
structure DC (X : Cx) (W : WX) (op : CmpOp) (a b : Expr) (f : En → Res (D × En)) : Prop where
  ex : ∃ t, PC X op a b t ∧ Ent X.K X.mg W (rE X.K X.mg) t f
theorem PC.or {X : Cx} {op : CmpOp} {a b : Expr} {t u : TE} (h : PC X op a b t) (k : PC X op a b u) : PC X op a b (fun σ H Q => t σ H Q ∨ u σ H Q) := ⟨fun pins s σ H Q I z => z.elim (h.run pins s σ H Q I) (k.run pins s σ H Q I)⟩
section
variable {X : Cx} {W : WX} {a b : Expr} {pos : Pos} {fa fb : En → Res (BV × En)} {op : CmpOp} {f g : En → Res (D × En)}
theorem DC.alt (h : DC X W op a b f) (k : DC X W op a b g) : DC X W op a b (eAlt f g) := by
  obtain ⟨t, hp, he⟩ := h.ex
  obtain ⟨u, kp, ke⟩ := k.ex
  exact ⟨_, PC.or hp kp, ent_or he ke⟩
theorem DC.de (h : DC X W op a b f) (hm : behindInMarks op b = false := by first | exact nomark _ | rfl) : DE X W (.Compare a [op] [b] pos) f := by
  obtain ⟨t, hp, he⟩ := h.ex
  exact ⟨_, pe_cmp hp hm, he⟩
theorem DC.dt (h : DC X W op a b f) (hm : behindInMarks op b = false := by first | exact nomark _ | rfl) : DT X W (.Compare a [op] [b] pos) (tOfE f) := by
  obtain ⟨t, hp, he⟩ := h.ex
  exact ⟨_, pt_cmp hp hm, tB_ent he⟩
theorem dc_op {rr : R2} {gg : D → D → Option D} (ho : OpR X (compareOp op) rr) (hv : OpV X rr gg) (ha : DB X W a fa) (hb : DB X W b fb) : DC X W op a b (eBin gg fa fb) := by
  obtain ⟨ta, pa, ea⟩ := ha.ex
  obtain ⟨tb, pb, eb⟩ := hb.ex
  refine ⟨tOp rr ta tb, ⟨fun pins s σ H Q I h => ?_⟩, bin_ent ea eb (opV_hr hv)⟩
  exact bin pa pb I h fun v u s2 x y H2 I2 rx ry q => ho pins s2 σ H2 x y v u Q I2 rx ry q
theorem dt_chain {c : Expr} {op' : CmpOp} {rr rr' : R2} {gg gg' : D → D → Option D} {fc : En → Res (BV × En)} (ho : OpR X (compareOp op) rr) (hv : OpV X rr gg) (ho' : OpR X (compareOp op') rr') (hv' : OpV X rr' gg') (ha : DB X W a fa) (hb : DB X W b fb) (hc : DB X W c fc)
    (hm : lastMarks [op, op'] [b, c] = false := by with_unfolding_all rfl) : DT X W (.Compare a [op, op'] [b, c] pos) (tOfE (eChain gg gg' fa fb fc)) := by
  obtain ⟨ta, pa, ea⟩ := ha.ex
  obtain ⟨tb, pb, eb⟩ := hb.ex
  obtain ⟨tc, pc, ec⟩ := hc.ex
  exact ⟨_, pt_chain ho ho' pa pb pc hm, tB_ent (chain_ent ea eb ec hv hv')⟩
/-! {} -/
def eDict0 : En → Res (D × En) := fun r => .ok (.dk [], r)
theorem dn_dict0 : DN X W (.Dict [] [] pos) eDict0 := ⟨_, pe_dnewK, fun B F H r σ Q R p pa hpa => p _ F _ (R.newO hpa) (Same.refl F) ⟨pa, rfl, R.fh.free hpa, (R.new_ne hpa).1, (R.new_ne hpa).2, R.loose_new hpa, [], upd_same, rfl⟩⟩
/-! divmod, repr of truths -/
def divmodD : D → D → Option D
  | .int a, .int b => if 0 < b ∧ b < 1073741824 then some (.tup [.int (a / b), .int (a % b)]) else none
  | _, _ => none
theorem de_divmod {p : Pos} (hg : Gl X "divmod") (hm : X.mg "divmod" = none) (hb : bootBuiltins "divmod" = some (.builtin "divmod")) (ha : DB X W a fa) (hb2 : DB X W b fb)
    (hst : starEach [a, b] X.env = (false, eval a X.env) :: starEach [b] X.env := by rfl) (hst2 : starEach [b] X.env = (false, eval b X.env) :: starEach [] X.env := by rfl) : DE X W (.Call (.Name "divmod" p) [a, b] [] pos) (eBin divmodD fa fb) := by
  obtain ⟨t, hp, he⟩ := ha.ex
  obtain ⟨t2, hp2, he2⟩ := hb2.ex
  refine ⟨_, pe_callB call_divmod hg hm hb (pa_cons hp (pa_cons hp2 pa_nil hst2) hst) (by decide) (by decide) hst (by rw [hst2]; rfl), bin_ent (rr := fun v u H Q => ∃ i j, [v, u] = [.int i, .int j] ∧ CDiv i j ∧ ∀ p, H p = none → Q (.ref p) (upd H p (.tup [.int (i / j), .int (i % j)]))) he he2 ?_⟩
  intro B F H r σ v u x y z Q R h1 h2 h3 p
  unfold divmodD at h3
  split at h3
  · split at h3
    · rename_i hc
      cases h3
      cases h1
      cases h2
      refine ⟨_, _, rfl, hc, fun pa hpa => ?_⟩
      have fp := R.fh.free hpa
      exact p _ _ _ (R.newF hpa) (same_new fp) ⟨pa, _, rfl, SqT.of upd_same, _, _, rfl, by simp [rep], _, _, rfl, by simp [rep], rfl⟩
    · cases h3
  · cases h3
def reprB : D → Option D
  | .bl b => some (.str (if b then "True" else "False"))
  | _ => none
theorem call_reprB : CallR X (.builtin "repr") (fun xs H Q => ∃ b, xs = [.bl b] ∧ Q (.str (if b then "True" else "False")) H) := by
  intro pins s σ H xs us Q I r h
  obtain ⟨b, rfl, q⟩ := h
  obtain ⟨u, rfl, rx⟩ := vals1 r
  cases rx
  exact PySem.P.repr_of_bool ⟨.str _, H, I.tok _, ⟨_, rfl⟩, q⟩
theorem uv_reprB : UnV X (fun v H Q => ∃ b, [v] = [.bl b] ∧ Q (.str (if b then "True" else "False")) H) reprB := by
  intro F H v d z Q s h1 h3 k
  unfold reprB at h3
  split at h3
  · cases h3
    cases h1
    exact ⟨_, rfl, k _ rfl⟩
  · cases h3
end
end Dl

set_option Elab.async false
set_option linter.all false
set_option maxRecDepth 100000
set_option maxHeartbeats 4000000
namespace Dl
open PySem L2
variable [Dl.Tb]

/-! ### list(d.items()), dict(pairs) -/
def keyE : Key → D
  | .inl i => .int i
  | .inr x => .str x
def mergeKD (kvs more : List (Key × D)) : List (Key × D) := more.foldl (fun acc kv => putKD acc kv.1 kv.2) kvs
section
variable {X : Cx} {W : WX} {e : Expr} {te : TE} {p apos cpos pos : Pos} {fa : En → Res (BV × En)}
end
/-! ### x = [..] on one line -/
section
variable {X : Cx} {W : WX} {pos spos py : Pos} {y : Str} {i : Nat} {elt tg iter : Expr} {ifs : List Expr} {scope : Scope} {own : List (Str × Nat)} {s : En → Res (List D × En)} {g : D → En → Res En} {t : En → Res (Bool × En)} {f : En → Res (D × En)}
theorem lc_lst {s : En → Res (List D × En)} {g : D → En → Res En} {t : En → Res (Bool × En)} {e : En → Res (D × En)} {vs : List Nat} {r r' : En} {d : D} (h : eLc s g t e vs r = .ok (d, r')) : ∃ ds, d = .lst ds := by
  unfold eLc at h
  cases q : s r with
  | ok p =>
    rw [q, bind_ok] at h
    split at h
    · cases q2 : noX (lcLoop g t e vs p.1 (wipeE p.2 vs) []) with
      | ok z =>
        rw [q2, bind_ok] at h
        cases h
        exact ⟨_, rfl⟩
      | er c fs r2 =>
        rw [q2] at h
        cases h
      | bad =>
        rw [q2] at h
        cases h
    · cases h
  | er c fs r2 =>
    rw [q] at h
    cases h
  | bad =>
    rw [q] at h
    cases h
theorem ent_nE {K : PySem.W.Frag} {mg : Str → Option Value} {tt : TE} {h : En → Res (D × En)} (hl : ∀ r d r', h r = .ok (d, r') → ∃ ds, d = .lst ds) (he : Ent K mg W (rN K mg) tt h) : Ent K mg W (rE K mg) tt h := by
  intro B F H r σ Q R p
  refine he B F H r σ Q R ?_
  cases q : h r with
  | ok a =>
    obtain ⟨d, r'⟩ := a
    rw [q] at p
    obtain ⟨ds, rfl⟩ := hl _ _ _ q
    rintro b F' H' R' s ⟨pa, rfl, h1, h2, h3, h4, h5⟩
    exact p _ _ H' (R'.freeze h1 h2 h4 (fun u hu => fp_own _ (ownS_at h5) _ fp_head u hu)) (s.trans (frzAt_same h1)) (rep_frz h1 h5)
  | er c fs r' =>
    rw [q] at p
    exact p
  | bad =>
    rw [q] at p
    exact p
theorem ds_setLc (hc : X.calm = true) (hN : X.N.Nodup) (hi : DI X W tg iter s) (ok : BlkOk X.N X.env.scope scope own)
    (hg : ∀ (s : Shared) (H : Hp) (C : Addr) (cl : List (Str × Addr)) (fp : List Addr), DG (X.blk s H scope (compEnvC scope cl C X.env) fp) W0 tg (own.map (·.2)) g)
    (ht : ∀ (s : Shared) (H : Hp) (C : Addr) (cl : List (Str × Addr)) (fp : List Addr), DTs (X.blk s H scope (compEnvC scope cl C X.env) fp) W0 ifs t)
    (he : ∀ (s : Shared) (H : Hp) (C : Addr) (cl : List (Str × Addr)) (fp : List Addr), DE (X.blk s H scope (compEnvC scope cl C X.env) fp) W0 elt f)
    (hsw : swapsWith (.ListComp elt [⟨tg, iter, ifs, 0⟩] scope pos) (some (.Name y py)) spos.line X.env = pure true) (hy : X.N[i]? = some y := by rfl) (hyl : X.env.scope.names.lookup y = some .local := by rfl) (hs : ∀ x, foldedSetIterable iter X.env x = pure x := by intro _; rfl) :
    DS X W (.Assign [.Name y py] (.ListComp elt [⟨tg, iter, ifs, 0⟩] scope pos) spos) (sSet i (eLc s g t f (own.map (·.2)))) := by
  obtain ⟨ti, pi, ei⟩ := hi.ex
  refine ⟨_, ps_setLc (g := tOfG X.K X.mg W0 (own.map (·.2)) g) (tt := tOf X.K X.mg W0 rT t) (te := tOf X.K X.mg W0 (rE X.K X.mg) f) hc hN hy hyl hsw pi ok (fun a b c d e => (hg a b c d e).can) (fun a b c d e => (ht a b c d e).can) (fun a b c d e => (he a b c d e).can) hs, fun B F H r σ Z R p => ?_⟩
  exact (ent_nE (fun r d r' z => lc_lst z) (lc_ent ei)).toS R p fun d r' v F' H' R' s x q => q _ F' H' (R'.setF x) (Same.refl F')
end
end Dl

set_option Elab.async false
set_option linter.all false
set_option maxRecDepth 100000
set_option maxHeartbeats 4000000
namespace Dl
open PySem L2
variable [Dl.Tb]

/-! ### own == and != -/
section
variable {prog : Program} {w : World} {A : Around} {E : Value → Shared → Prop} {s : Shared} {K : PySem.W.Frag} {x C L f : Addr} {h₀ : Heap} {m : Str → Option Value} {ox : Obj} {od : Option Obj} {b tb : Value}
end

/-! ### operators of own classes -/
def mapR (g : D → Option D) : Res D → Res D
  | .ok d => match g d with
    | some z => .ok z
    | none => .bad
  | .er c fs r => .er c fs r
  | .bad => .bad
def toB : D → Option D
  | .bl b => some (.bl b)
  | _ => none
def toNB : D → Option D
  | .bl b => some (.bl (!b))
  | _ => none
/-- the instance is behind -/
def eOwnR (c : Str) (g : D → Option D) (den : List D → Res D) (fa fb : En → Res (D × En)) : En → Res (D × En) := fun r => (fa r).bind fun p => (fb p.2).bind fun q => match q.1 with
  | .ins c' fs => if c' = c then callR (mapR g (den [.ins c' fs, p.1])) q.2 else .bad
  | _ => .bad
/-- both are instances of the class -/
def eOwnL (c : Str) (g : D → Option D) (den : List D → Res D) (fa fb : En → Res (D × En)) : En → Res (D × En) := fun r => (fa r).bind fun p => (fb p.2).bind fun q => match p.1, q.1 with
  | .ins c' fs, .ins c2 gs => if c' = c ∧ c2 = c then callR (mapR g (den [.ins c' fs, .ins c2 gs])) q.2 else .bad
  | _, _ => .bad
section
variable {K : PySem.W.Frag} {mg : Str → Option Value} {W : WX} {B : Bg} {F H : Hp} {r : En} {σ : L2.St}
theorem callM_po {g : D → Option D} {P : V → Hp → Prop} {den0 : List D → Res D} {ds dds : List D} {vs dvs : List V} {Q : VK} (R : Rel K mg B F H r σ) (h : repL K mg F ds vs) (hd : ∀ F, repL K mg F dds dvs) (hP : ∀ d z v F' H', g d = some z → rep K mg F' d v → (∀ w, rep K mg F' z w → Q w H') → P v H')
    (p : Po K mg W B F σ (rE K mg) Q (callR (mapR g (den0 (ds ++ dds))) r)) : spD K mg den0 (vs ++ dvs) H P (WE W σ) := by
  refine ⟨F, ds ++ dds, R.sf, repL_app h (hd F), ?_⟩
  cases q : den0 (ds ++ dds) with
  | ok d =>
    rw [q] at p
    cases z : g d with
    | some z' =>
      simp only [mapR, z] at p
      exact fun v F' H' g x => hP d z' v F' H' z x fun w hw => p w F' H' (R.growN g) g.f hw
    | none =>
      simp only [mapR, z] at p
      exact p.elim
  | er c fs r' =>
    rw [q] at p
    exact fun C od F' H' m g x => p C od σ F' H' m (R.growN g) g.f x
  | bad =>
    rw [q] at p
    exact p.elim
end
section
variable {X : Cx} {W : WX} {k j : Nat} {f C : Addr} {c : Str} {a b : Expr} {pos : Pos} {fa fb : En → Res (D × En)} {den : List D → Res D}
theorem inst_of {X : Cx} {pins : List (Addr × Obj)} {σ : L2.St} {H : Hp} {s : Shared} {a C dx : Addr} {fs : List (Str × V)} (I : Inv X pins σ H s) (e : H a = some (.ins C dx fs)) : ∃ ox od, PySem.W.InstAt s.heap a ox C od := by
  obtain ⟨mA, O, _, _, _, _⟩ := ins_get I.hok e
  obtain ⟨od, J, _⟩ := O.look
  exact ⟨_, _, J⟩
theorem run_fnSDin {CX : CXT} {fd : FuncData} {ps : List Str} {sp : Sp} {dvs : List V} {ds : List Value} {E : L2.St → XK} {pins : List (Addr × Obj)} {σ : L2.St} {H : Hp} {s : Shared} {Q : VK} {us : List Value} {vs : List V} (F : FnOk X.prog X.w X.K X.mg X.base CX k f fd ps sp) (hr : Room (k + 1) X.A) (hb : Binds X.K fd ps ds) (hd : Vals dvs ds) (hx : PassesAt CX X σ (E σ))
    (I : Inv X pins σ H s) (r : Vals vs us) (h : sp (vs ++ dvs) H Q (E σ)) : wpAny (model X.prog X.w) X.A.in1 (call (.ref f) us) (EP X pins σ Q) X.xe s := by
  have r2 : Vals (vs ++ dvs) (us ++ ds) := r.append hd
  have hl : (us ++ ds).length = ps.length := by rw [← r2.length]; exact F.len _ _ _ _ h
  refine wpAny_call (codeAny_mono (F.run X.A.in1 X.stack s H ⟨us, []⟩ (us ++ ds) (vs ++ dvs) Q (E σ) hr.in1 I.env0.in1 (hb s us I.kIn hl) r2 h) fun r s' hq => ?_)
  cases r with
  | error e => exact hx pins H s e s' I hq
  | ok fl =>
    cases fl with
    | ret u => exact I.after hq
    | next => exact False.elim hq
    | brk => exact False.elim hq
    | cont => exact False.elim hq
end
end Dl

set_option Elab.async false
set_option linter.all false
set_option maxRecDepth 100000
set_option maxHeartbeats 4000000
namespace PySem
open Sem (wp)
theorem dl_enum_new {v : Value} {o : Obj} {H : Heap → Prop} (B : Begins v o H) :
    Meets (Builtin.«enumerate.__new__» ⟨[.type "enumerate", v], []⟩) (fun _ R s => H s.heap ∧
      R (.ok (.ret (.ref (s.heap.push o).objs.size))) { s with heap := (s.heap.push o).push { cls := .type "enumerate", data := .fields #[.none, .bool false, .ref s.heap.objs.size, rawInt 0, .none, .none] } }) :=
  .of_wp fun prog w A R s h => by
    obtain ⟨hp, g, d, tk, os⟩ := s; obtain ⟨h1, h⟩ := h
    have hsub := sub_enumerate
    have q1 : ∀ {A' : Around} {E : Value → Shared → Prop} {Q : Value → Shared → Prop}, Q (.ref hp.objs.size) ⟨hp.push o, g, d, tk, os⟩ → wpAny (model prog w) A' (pyIter v) Q E ⟨hp, g, d, tk, os⟩ :=
      fun q => B.iter prog w _ _ ⟨hp, g, d, tk, os⟩ _ h1 q
    wp_walk using q1
    refine wpAny_stack_any fun st => wpAny_pure ?_
    split
    · rename_i c _ _ _ _ _
      cases (c == Value.type "enumerate")
      · wp_walk using q1
        exact ⟨_, rfl, h⟩
      · wp_walk using q1
        exact ⟨_, rfl, h⟩
    · wp_walk using q1
      exact ⟨_, rfl, h⟩
section
variable {prog : Program} {w : World} {A : Around} {E : Value → Shared → Prop} {s : Shared}
theorem dl_call_enum {v : Value} {o : Obj} {H : Heap → Prop} {Q : Value → Shared → Prop} (B : Begins v o H) (h1 : H s.heap)
    (h : ∀ h', IsEnum h' (s.heap.objs.size + 1) s.heap.objs.size 0 .none → h'.get? s.heap.objs.size = some o → h'.objs.size = s.heap.objs.size + 2 →
      (∀ b o, s.heap.get? b = some o → h'.get? b = some o) → Q (.ref (s.heap.objs.size + 1)) { s with heap := h' }) :
    wpAny (model prog w) A (call (.type "enumerate") [v]) Q E s := by
  refine callType_new F.called_enumerate (by decide) (F.typeCall_enumerate_1 _) (F.newCall_enumerate_1 _) (fun obj => F.args_object_init_2 obj _) F.entry_enumerate_new
    (dl_enum_new B) ⟨h1, ?_⟩
  have hz : (s.heap.push o).objs.size = s.heap.objs.size + 1 := Heap.size_push ..
  show _ ∧ _
  rw [hz]
  have he : IsEnum ((s.heap.push o).push { cls := .type "enumerate", data := .fields #[.none, .bool false, .ref s.heap.objs.size, rawInt 0, .none, .none] }) (s.heap.objs.size + 1) s.heap.objs.size 0 .none := by
    have := Heap.get?_push_size (s.heap.push o) (o := { cls := .type "enumerate", data := .fields #[.none, .bool false, .ref s.heap.objs.size, rawInt 0, .none, .none] }) rfl
    rw [hz] at this; exact this
  refine ⟨⟨_, he, rfl⟩, h _ he (Heap.get?_push_of_some _ (Heap.get?_push_size _ B.free)) (by rw [Heap.size_push, hz]) fun b o x => Heap.get?_push_of_some _ (Heap.get?_push_of_some _ x)⟩
end
end PySem
namespace L2
open PySem PySem.Spec PyProof.Rows
/-- the tuple at a, each item in a new pair -/
def IteT (K : PySem.W.Frag) (a : Addr) : It :=
  ⟨fun i H => ∃ (xs : List V) (x : V), SqT K H a xs ∧ xs[i]? = some x, fun i H v H' => ∃ T x, v = .ref T ∧ H T = none ∧ H' = upd H T (.tup [.int (i : Nat), x]) ∧ ∀ xs, SqT K H a xs → xs[i]? = some x, fun i H => ∃ xs : List V, SqT K H a xs ∧ xs.length = i⟩
theorem turn_enumT {P : Program} {w : World} {K : PySem.W.Frag} {elts : List Expr} {kk : Nat} {tpos : Pos} (a e it : Addr) :
    Turn P w K (.Tuple elts kk tpos) (IteT K a) [e, it] e (fun i h => (∃ old, IsEnum h e it ((i : Nat) : Int) old) ∧ h.IsTupleIter it a i ∧ e ≠ it) where
  mem := by simp
  obj := fun i h st b hb => by
    obtain ⟨⟨old, he⟩, ⟨o, ho, hc, hd⟩, _⟩ := st
    have e' : b = e ∨ b = it := by simpa using hb
    rcases e' with z | z
    · rw [z]; exact ⟨_, he, fun v q => nomatch q⟩
    · rw [z]; exact ⟨o, ho, fun v q => by rw [hd] at q; cases q⟩
  keep := fun i h h' st k => let ⟨⟨old, he⟩, hi, hne⟩ := st; ⟨⟨old, k e (by simp) _ he⟩, hi.at fun o q => k it (by simp) o q, hne⟩
  item := by
    intro X hP hw hK hc i pins s σ H E I hf st hg
    subst hP hw hK
    obtain ⟨⟨old, he⟩, hit, hne⟩ := st
    obtain ⟨xs, x, hq, hx⟩ := hg
    obtain ⟨its, rv, p, hz⟩ := I.tuple hq
    obtain ⟨u, hu, ru⟩ := rv.get hx
    have p' : s.heap.IsTuple a its.toArray := p
    have hel : e < s.heap.objs.size := Heap.lt_size he
    have hil : it < s.heap.objs.size := by obtain ⟨_, q, _⟩ := hit; exact Heap.lt_size q
    have nai : a ≠ it := by
      rintro rfl
      obtain ⟨o1, q1, c1, _⟩ := p'
      obtain ⟨o2, q2, c2, _⟩ := hit
      rw [q1] at q2
      cases q2
      rw [c1] at c2
      exact absurd c2 (by decide)
    have nae : e ≠ a := by
      rintro rfl
      obtain ⟨o1, q1, c1, _⟩ := p'
      have he' := he
      unfold IsEnum at he'
      rw [q1] at he'
      cases he'
      exact absurd (show Value.type "enumerate" = Value.type "tuple" from c1) (by decide)
    have hlt : i < its.toArray.size := by
      have := (List.getElem?_eq_some_iff.mp hu).1
      simpa using this
    refine wpAny_pyNext_enum_itemD (Draws.tuple (A := X.A.in1) (I.ok.hd hc) it a nai its.toArray) he ⟨hit, p'⟩ hlt hne (by simp [hne, nae]) fun u' h' tk hP ho hst hT hsz hk => ?_
    have eu : u' = u := by
      have q : its.toArray[i]? = some u' := hP
      rw [List.getElem?_toArray, hu] at q
      cases q
      rfl
    subst eu
    refine ⟨_, rfl, wpAny_letOwnedTupleGo_enum (s := { s with heap := h', toks := tk + 1 }) ho fun h'' he' sb => ?_⟩
    have hT2 : h''.get? s.heap.objs.size = some { cls := .type "tuple", data := .seq #[.int i tk, u'] } := (sb.2 _ (Nat.ne_of_gt hel)).trans hT
    have new : ObjOk X.prog X.w (upd H s.heap.objs.size (.tup [.int (i : Nat), x])) h'' s.heap.objs.size (.tup [.int (i : Nat), x]) :=
      ⟨by show 2 ≤ sizeLine; decide, [.int i tk, u'], .cons ⟨_, rfl⟩ (.cons ru .nil), ⟨_, hT2, rfl, _, rfl⟩⟩
    have I1 : Inv X pins σ (upd H s.heap.objs.size (.tup [.int (i : Nat), x])) { s with heap := h'', toks := tk + 1 } :=
      I.turnedNew (ch := [e, it]) (fun b ob hb q => (sb.2 b (fun z => hb (by simp [z]))).trans (hk b ob (fun z => hb (by simp [z])) (fun z => hb (by simp [z])) q)) hf (Nat.le_refl _) new
    refine ⟨.ref s.heap.objs.size, _, I1, rfl, ⟨_, x, rfl, I.hok.fresh (Nat.le_refl _), rfl, fun ys hy => by rw [I.tuple_inj hy hq]; exact hx⟩, ⟨⟨u', ?_⟩, hst.1.at fun o q => (sb.2 it (Ne.symm hne)).trans q, hne⟩, fun b hb => ?_⟩
    · have e1 : ((i + 1 : Nat) : Int) = (i : Int) + 1 := by omega
      rw [e1]; exact he'
    · have hb' : b < s.heap.objs.size := by
        have e' : b = e ∨ b = it := by simpa using hb
        rcases e' with z | z
        · rw [z]; exact hel
        · rw [z]; exact hil
      rw [upd_ne (Nat.ne_of_lt hb')]
      exact (hf b hb).1
  done := by
    intro X hP hw hK hc i pins s σ H E I hf st hg
    subst hP hw hK
    obtain ⟨⟨old, he⟩, hit, hne⟩ := st
    obtain ⟨xs, hq, hx⟩ := hg
    obtain ⟨its, rv, p, hz⟩ := I.tuple hq
    have p' : s.heap.IsTuple a its.toArray := p
    obtain ⟨f0, f1, f2, f3, f4, f5⟩ := hf it (by simp)
    have hl := rv.length
    have nai : a ≠ it := by
      rintro rfl
      obtain ⟨o1, q1, c1, _⟩ := p'
      obtain ⟨o2, q2, c2, _⟩ := hit
      rw [q1] at q2
      cases q2
      rw [c1] at c2
      exact absurd c2 (by decide)
    have hn : i = its.toArray.size := by simp; omega
    subst hn
    exact wpAny_pyNext_enum_endD (Draws.tuple (A := X.A.in1) (I.ok.hd hc) it a nai its.toArray) he ⟨hit, p'⟩ fun h' eb => ⟨rfl, I.turned (t' := s.toks) (fun b o hb q => eb b o hb q) f0 f1 f3 f4 f5⟩
  self := fun A i s Q E st h => let ⟨⟨_, he⟩, _⟩ := st; wpAny_pyIter_enum he h
def iEnumT (K : PySem.W.Frag) (ta : TA) : TI := fun σ H R => ta σ H fun vs H1 => ∃ a xs, vs = [.ref a] ∧ SqT K H1 a xs ∧ R (IteT K a) H1
theorem pi_enumT {X : Cx} {e : Expr} {ta : TA} {p pos tpos : Pos} {elts : List Expr} {kk : Nat} (hg : Gl X "enumerate") (hm : X.mg "enumerate" = none) (ha : PA X [e] ta) (hs : starEach [e] X.env = [(false, eval e X.env)] := by rfl) :
    PI X (.Tuple elts kk tpos) (.Call (.Name "enumerate" p) [e] [] pos) (iEnumT X.K ta) := by
  refine ⟨fun pins s σ H R I h => ?_⟩
  refine Call_ (ld_blt I hg hm boot_enumerate (PyProof.Rows.callWith_type1 (thn (ha.run pos pins s σ H _ I h) fun us s1 ⟨vs, H1, I1, r1, q1⟩ => ?_) hs rfl))
  obtain ⟨a, xs, ex, hq, q⟩ := q1
  subst ex
  cases r1 with
  | cons r rr =>
    cases rr
    cases r
    obtain ⟨its, rv, p', hz⟩ := I1.tuple hq
    have p'' : s1.heap.IsTuple a its.toArray := p'
    refine dl_call_enum (begins_tuple a its.toArray) p'' fun h' he hit hsz hk => wpAny_pyIter_enum he ?_
    have I2 : Inv X pins σ H1 { s1 with heap := h' } := I1.kept (t' := s1.toks) hk
    refine ⟨s1.heap.objs.size + 1, [s1.heap.objs.size + 1, s1.heap.objs.size], _, _, H1, rfl, I2, turn_enumT a (s1.heap.objs.size + 1) s1.heap.objs.size, ⟨⟨.none, he⟩, ⟨_, hit, rfl, rfl⟩, Nat.succ_ne_self _⟩, fun b hb => ?_, q⟩
    have e' : b = s1.heap.objs.size + 1 ∨ b = s1.heap.objs.size := by simpa using hb
    have hle : s1.heap.objs.size ≤ b := by
      rcases e' with z | z
      · rw [z]; exact Nat.le_add_right _ _
      · rw [z]; exact Nat.le_refl _
    exact I1.fpOk hle (I1.hok.fresh hle)
end L2
namespace Dl
open PySem L2
variable [Dl.Tb]
section
variable {X : Cx} {W : WX} {e : Expr} {p pos : Pos}
def iEnT (f : En → Res (List D × En)) : En → Res (List D × En) := fun r => (f r).bind fun p => match p.1 with
  | [.tup es] => .ok (enumD es, p.2)
  | _ => .bad
theorem walk_enumT {K : PySem.W.Frag} {a : Addr} {xs : List V} : Walk (IteT K a) xs.length (fun H => SqT K H a xs) (YPair (fun i => some (.int (i : Nat))) (fun i => xs[i]?)) := by
  refine ⟨fun i _ hi q => ⟨xs, xs[i], q, by simp [hi]⟩, fun _ q => ⟨xs, q, rfl⟩, fun i H v H' _ q y => ?_⟩
  obtain ⟨T, x, h1, h2, h3, h4⟩ := y
  exact ⟨T, .int (i : Nat), x, h1, h2, h3, rfl, h4 xs q⟩
theorem di_enumT {f : En → Res (List D × En)} {elts : List Expr} {kk : Nat} {tpos : Pos} (hg : Gl X "enumerate") (hm : X.mg "enumerate" = none) (ha : DA X W [e] f) (hs : starEach [e] X.env = [(false, eval e X.env)] := by rfl) : DI X W (.Tuple elts kk tpos) (.Call (.Name "enumerate" p) [e] [] pos) (iEnT f) := by
  obtain ⟨t, hp, he⟩ := ha.ex
  refine ⟨_, pi_enumT hg hm hp hs, fun B F H r σ Q R p => he.to R p fun ds r1 vs F1 H1 R1 s1 x1 p1 => ?_⟩
  simp only at p1
  split at p1
  · rename_i es
    obtain ⟨w, ws, rfl, h1, h2⟩ := x1
    obtain ⟨a, xs, rfl, ha, ra⟩ := h1
    cases (show ws = [] from h2)
    refine ⟨a, xs, rfl, sqT_mono R1.fh ha, p1 _ F1 H1 R1 (Same.refl F1) ?_⟩
    have hl : (enumD es).length = xs.length := by unfold enumD; rw [List.length_map, List.length_zipIdx, repL_len ra]
    refine wk_pair (G := fun H => SqT X.K H a xs) (xs := fun i => some (.int (i : Nat))) (ys := fun i => xs[i]?) ?_ (fun F' H' s1 s2 => sqT_mono (s1.trans s2) ha) ?_
    · rw [hl]
      exact walk_enumT
    · intro i d x y e hx hy
      unfold enumD at e
      rw [List.getElem?_map, List.getElem?_zipIdx] at e
      cases q : es[i]? with
      | none =>
        rw [q] at e
        cases e
      | some d0 =>
        rw [q] at e
        cases e
        obtain ⟨v, e1, e2⟩ := repL_get ra q
        have hy' : xs[i]? = some y := hy
        rw [hy'] at e1
        cases e1
        cases hx
        exact ⟨_, _, rfl, by simp [rep], e2⟩
  · exact p1.elim
end
end Dl

set_option Elab.async false
set_option linter.all false
set_option maxRecDepth 100000
set_option maxHeartbeats 4000000
namespace Dl
open PySem L2
variable [Dl.Tb]

/-! ### several readings of one operator -/
def orD (g h : D → D → Option D) : D → D → Option D := fun x y => match g x y with
  | some z => some z
  | none => h x y
def orU (g h : D → Option D) : D → Option D := fun x => match g x with
  | some z => some z
  | none => h x
theorem eBin_or {g h : D → D → Option D} {fa fb : En → Res (BV × En)} : eAlt (eBin g fa fb) (eBin h fa fb) = eBin (orD g h) fa fb := by
  funext r
  unfold eAlt eBin orD
  cases fa r with
  | ok p =>
    simp only [bind_ok]
    cases fb p.2 with
    | ok q =>
      simp only [bind_ok]
      cases getB p.1 q.2 with
      | ok x =>
        simp only [bind_ok]
        cases getB q.1 q.2 with
        | ok y =>
          simp only [bind_ok]
          cases g x y with
          | some z => rfl
          | none =>
            simp only [liftR, bind_bad]
        | er c fs r' => rfl
        | bad => rfl
      | er c fs r' => rfl
      | bad => rfl
    | er c fs r' => rfl
    | bad => rfl
  | er c fs r' => rfl
  | bad => rfl
theorem eUn_or {g h : D → Option D} {fa : En → Res (BV × En)} : eAlt (eUn g fa) (eUn h fa) = eUn (orU g h) fa := by
  funext r
  unfold eAlt eUn orU
  cases fa r with
  | ok p =>
    simp only [bind_ok]
    cases getB p.1 p.2 with
    | ok x =>
      simp only [bind_ok]
      cases g x with
      | some z => rfl
      | none =>
        simp only [liftR, bind_bad]
    | er c fs r' => rfl
    | bad => rfl
  | er c fs r' => rfl
  | bad => rfl
section
variable {X : Cx} {W : WX} {k : Nat} {a b e : Expr} {pos p : Pos} {fa fb : En → Res (BV × En)} {g h : D → D → Option D} {g1 h1 : D → Option D} {op : CmpOp}
theorem DE.or2 (x : DE X W e (eBin g fa fb)) (y : DE X W e (eBin h fa fb)) : DE X W e (eBin (orD g h) fa fb) := by
  rw [← eBin_or]
  exact x.alt y
theorem DC.or2 (x : DC X W op a b (eBin g fa fb)) (y : DC X W op a b (eBin h fa fb)) : DC X W op a b (eBin (orD g h) fa fb) := by
  rw [← eBin_or]
  exact x.alt y
theorem DE.or1 (x : DE X W e (eUn g1 fa)) (y : DE X W e (eUn h1 fa)) : DE X W e (eUn (orU g1 h1) fa) := by
  rw [← eUn_or]
  exact x.alt y
theorem DN.or1 (x : DN X W e (eUn g1 fa)) (y : DN X W e (eUn h1 fa)) : DN X W e (eUn (orU g1 h1) fa) := by
  rw [← eUn_or]
  exact x.alt y
theorem DC.db (h : DC X W op a b (eBin g fa fb)) (hm : behindInMarks op b = false := by first | exact nomark _ | rfl) : DB X W (.Compare a [op] [b] pos) (bOf (eBin g fa fb)) := (h.de hm).db
theorem de_add (ha : DB X W a fa) (hb : DB X W b fb) : DE X W (.BinOp a .Add b pos) (eBin addI fa fb) := de_op op_add ov_add ha hb
theorem de_sub (ha : DB X W a fa) (hb : DB X W b fb) : DE X W (.BinOp a .Sub b pos) (eBin subI fa fb) := de_op op_sub ov_sub ha hb
theorem de_mul (ha : DB X W a fa) (hb : DB X W b fb) : DE X W (.BinOp a .Mult b pos) (eBin mulI fa fb) := de_op op_mul ov_mul ha hb
theorem de_mod (ha : DB X W a fa) (hb : DB X W b fb) : DE X W (.BinOp a .Mod b pos) (eBin modI fa fb) := de_op op_mod ov_mod ha hb
theorem de_fdiv (ha : DB X W a fa) (hb : DB X W b fb) : DE X W (.BinOp a .FloorDiv b pos) (eBin fdivI fa fb) := de_op op_fdiv ov_fdiv ha hb
theorem de_pow (ha : DB X W a fa) (hb : DB X W b fb) : DE X W (.BinOp a .Pow b pos) (eBin powI fa fb) := de_op op_pow ov_pow ha hb
theorem dn_cat (ha : DB X W a fa) (hb : DB X W b fb) : DN X W (.BinOp a .Add b pos) (eBin catL fa fb) := dn_op op_cat on_cat ha hb
theorem de_neg (ha : DB X W a fa) : DE X W (.UnaryOp .USub a pos) (eUn negI fa) := de_un un_neg uv_neg ha
theorem dc_lt (ha : DB X W a fa) (hb : DB X W b fb) : DC X W .Lt a b (eBin ltI fa fb) := dc_op op_lt ov_lt ha hb
theorem dc_gt (ha : DB X W a fa) (hb : DB X W b fb) : DC X W .Gt a b (eBin gtI fa fb) := dc_op op_gt ov_gt ha hb
theorem dc_ge (ha : DB X W a fa) (hb : DB X W b fb) : DC X W .GtE a b (eBin geI fa fb) := dc_op op_ge ov_ge ha hb
theorem dc_eq (hr : Room k X.A) (ha : DB X W a fa) (hb : DB X W b fb) : DC X W .Eq a b (eBin eqD fa fb) := dc_op (op_eqA hr.units) ov_eq ha hb
theorem dc_ne (hr : Room k X.A) (ha : DB X W a fa) (hb : DB X W b fb) : DC X W .NotEq a b (eBin neD fa fb) := dc_op (op_neA hr.units) ov_ne ha hb
theorem dc_isnot (ha : DB X W a fa) (hb : DB X W b fb) : DC X W .IsNot a b (eBin notN fa fb) := dc_op op_notN ov_notN ha hb
theorem Room.u200 {k : Nat} {A : Around} (r : Room k A) : A.units + 199 < cLine := by have := r.un; omega
theorem dc_inL (hr : Room k X.A) (ha : DB X W a fa) (hb : DB X W b fb) : DC X W .In a b (eBin inLst fa fb) := dc_op (op_inD (by have := Room.u200 hr; omega)) ov_inLst ha hb
theorem dc_inS (ha : DB X W a fa) (hb : DB X W b fb) : DC X W .In a b (eBin inStr fa fb) := dc_op op_in_str ov_inStr ha hb
theorem de_at (ha : DB X W a fa) (hb : DB X W b fb) (hs : PlainIx b := by exact fun _ _ => rfl) : DE X W (.Subscript a b pos) (eBin ixG fa fb) := de_ix ix_seq ov_ix ha hb hs
theorem de_len (hm : X.mg "len" = none) (ha : DB X W a fa) (hg : Gl X "len" := by rfl) (hst : starEach [a] X.env = (false, eval a X.env) :: starEach [] X.env := by rfl) : DE X W (.Call (.Name "len" p) [a] [] pos) (eUn (orU lenD lenK) fa) :=
  (de_b1 call_len uv_len hg hm boot_len ha hst (by decide) (by decide)).or1 (de_b1 call_lenK uv_lenK hg hm boot_len ha hst (by decide) (by decide))
theorem de_abs (hm : X.mg "abs" = none) (ha : DB X W a fa) (hg : Gl X "abs" := by rfl) (hst : starEach [a] X.env = (false, eval a X.env) :: starEach [] X.env := by rfl) : DE X W (.Call (.Name "abs" p) [a] [] pos) (eUn absD fa) :=
  de_b1 call_abs uv_abs hg hm PyProof.Rows.boot_abs ha hst (by decide) (by decide)
theorem de_all (hc : X.calm = true) (hm : X.mg "all" = none) (ha : DB X W a fa) (hg : Gl X "all" := by rfl) (hst : starEach [a] X.env = (false, eval a X.env) :: starEach [] X.env := by rfl) : DE X W (.Call (.Name "all" p) [a] [] pos) (eUn allD fa) :=
  de_b1 (cr_all hc) uv_all hg hm (by decide +kernel) ha hst (by decide) (by decide)
theorem de_reprB (hm : X.mg "repr" = none) (ha : DB X W a fa) (hg : Gl X "repr" := by rfl) (hst : starEach [a] X.env = (false, eval a X.env) :: starEach [] X.env := by rfl) : DE X W (.Call (.Name "repr" p) [a] [] pos) (eUn reprB fa) :=
  de_b1 call_reprB uv_reprB hg hm PyProof.Rows.boot_repr ha hst (by decide) (by decide)
theorem dn_sorted (hr : Room k X.A) (hm : X.mg "sorted" = none) (ha : DB X W a fa) (hg : Gl X "sorted" := by rfl) (hst : starEach [a] X.env = (false, eval a X.env) :: starEach [] X.env := by rfl) : DN X W (.Call (.Name "sorted" p) [a] [] pos) (eUn sortedD fa) :=
  dn_b1 (call_sortD (by have := Room.u200 hr; omega)) un_sort hg hm PyProof.Rows.boot_sorted ha hst (by decide) (by decide)
theorem de_int1 (hm : X.mg "int" = none) (ha : DB X W a fa) (hg : Gl X "int" := by rfl) (hst : starEach [a] X.env = (false, eval a X.env) :: starEach [] X.env := by rfl) : DE X W (.Call (.Name "int" p) [a] [] pos) (eUn intD fa) :=
  de_t1 call_int1 uv_int hg hm PyProof.Rows.boot_int ha hst (by decide) (by decide)
theorem de_max2 (hc : X.calm = true) (hm : X.mg "max" = none) (ha : DB X W a fa) (hb : DB X W b fb) (hg : Gl X "max" := by rfl)
    (hst : starEach [a, b] X.env = (false, eval a X.env) :: starEach [b] X.env := by rfl) (hst2 : starEach [b] X.env = (false, eval b X.env) :: starEach [] X.env := by rfl) : DE X W (.Call (.Name "max" p) [a, b] [] pos) (eBin max2D fa fb) :=
  de_b2 (call_max2 hc) ov_max2 hg hm PyProof.Rows.boot_max ha hb hst hst2 (by decide) (by decide)
theorem de_min2 (hc : X.calm = true) (hm : X.mg "min" = none) (ha : DB X W a fa) (hb : DB X W b fb) (hg : Gl X "min" := by rfl)
    (hst : starEach [a, b] X.env = (false, eval a X.env) :: starEach [b] X.env := by rfl) (hst2 : starEach [b] X.env = (false, eval b X.env) :: starEach [] X.env := by rfl) : DE X W (.Call (.Name "min" p) [a, b] [] pos) (eBin min2D fa fb) :=
  de_b2 (call_min2 hc) ov_min2 hg hm PyProof.Rows.boot_min ha hb hst hst2 (by decide) (by decide)
end
end Dl

set_option Elab.async false
set_option linter.all false
set_option maxRecDepth 100000
set_option maxHeartbeats 4000000
namespace Dl
open PySem L2
variable [Dl.Tb]
section
variable {X : Cx} {W : WX} {a : Expr} {pos p : Pos} {fa : En → Res (BV × En)}
theorem dn_list1 (hm : X.mg "list" = none) (ha : DB X W a fa) (hg : Gl X "list" := by rfl) (hst : starEach [a] X.env = (false, eval a X.env) :: starEach [] X.env := by rfl) : DN X W (.Call (.Name "list" p) [a] [] pos) (eUn listD fa) :=
  dn_t1 call_list_of un_list hg hm PyProof.Rows.boot_list ha hst (by decide) (by decide)
end
/-! ### more facts of the head -/
inductive Fb where
  | ins (c : Str)
  | noB (c : Str) (ns : List String)
  | noO (c : Str)
  | kit (c d : Str)
  | ops (c : Str)
  | conI (c f : Str) (i : Int)
  | conS (c f z : Str)
  | tup0 (q : Str × Option Str) (i : Nat)
def eqB (a b : Option Bool) : Bool := decide (a = b)
def conOf (K : PySem.W.Frag) (c f : Str) : Option Value := match PySem.W.findIn K (.ref (He.ga K c)) f with
  | some (some u) => some u
  | _ => none
def Fb.ok (K : PySem.W.Frag) : Fb → Bool
  | .ins c => He.eqO (PySem.W.findIn K (.ref (He.ga K c)) "__class__") (some (some (.builtin "object.__class__"))) && (He.eqO (PySem.W.specialIn K (.builtin "object.__class__") "__get__") (some (some (.builtin "getset_descriptor.__get__")))
      && (eqB (PySem.W.takesIn K (.builtin "object.__class__")) (some true) && eqB (PySem.W.mroIn K (He.ga K c) (.type "object")) (some true)))
  | .noB c ns => ns.all fun n => eqB (PySem.W.kitOne K (.ref (He.ga K c)) (.type n)) (some false)
  | .noO c => tyNs.all fun t => eqB (PySem.W.kitOne K (.type t) (.ref (He.ga K c))) (some false)
  | .kit c d => eqB (PySem.W.kitOne K (.ref (He.ga K c)) (.ref (He.ga K d))) (some false)
  | .ops c => PySem.W.selfFirst K (He.ga K c) && He.eqO (PySem.W.findIn K (.ref (He.ga K c)) "__ne__") (some (some (.builtin "object.__ne__")))
  | .conI c f i => (match conOf K c f with
    | some (.int j t) => decide (j = i) && He.eqO (PySem.W.specialIn K (.int j t) "__get__") (some none)
    | _ => false) && !PySem.W.copiedNames.contains f
  | .conS c f z => (match conOf K c f with
    | some (.str j t) => decide (j = z) && He.eqO (PySem.W.specialIn K (.str j t) "__get__") (some none)
    | _ => false) && !PySem.W.copiedNames.contains f
  | .tup0 q i => match K.lookup (He.dflAt q i K) with
    | some ⟨.type n, _, .seq its _, _⟩ => decide (n = "tuple") && decide (its.toList = [])
    | _ => false
section
variable {K : PySem.W.Frag}
end
/-! ### the Hook -/
def obsF (fa : List He.Fa) (fn : List He.DefD) (fb : List Fb) (K : PySem.W.Frag) : He.AlD × Bool := (He.obsD fa fn K, fb.all fun f => f.ok K)
def valF (fn : List He.DefD) : He.AlD × Bool := (He.valD fn, true)
def SaysF (fa : List He.Fa) (fn : List He.DefD) (fb : List Fb) (K : PySem.W.Frag) : Prop := obsF fa fn fb K = valF fn
/-- what the head tells of K and the module's names -/
structure Wd (fa : List He.Fa) (fn : List He.DefD) (fb : List Fb) (K : PySem.W.Frag) (mg : Str → Option Value) : Prop where
  ex : ∃ h : Heap, K.In h ∧ h.Ns mainGlobals mg
  c : SaysF fa fn fb K
section
variable {fa : List He.Fa} {fn : List He.DefD} {fb : List Fb} {K : PySem.W.Frag} {mg : Str → Option Value}
theorem Wd.d (V : Wd fa fn fb K mg) : He.SaysD fa fn K := congrArg (fun z : He.AlD × Bool => z.1) V.c
theorem Wd.glo (V : Wd fa fn fb K mg) (i : Nat) {x : Str} (h : fa[i]? = some (.glo x) := by rfl) : mg x = some (.ref (He.ga K x)) := let ⟨_, X, G⟩ := V.ex; He.glo_ok X G (V.d.fact i h)
theorem Wd.free (V : Wd fa fn fb K mg) (i : Nat) {x : Str} (h : fa[i]? = some (.free x) := by rfl) : mg x = none := let ⟨_, X, G⟩ := V.ex; He.free_ok X G (V.d.fact i h)
theorem Wd.int (V : Wd fa fn fb K mg) (i : Nat) {x : Str} {n : Int} (h : fa[i]? = some (.int x n) := by rfl) : ∃ t, mg x = some (.int n t) := let ⟨_, X, G⟩ := V.ex; He.int_ok X G (V.d.fact i h)
theorem Wd.str (V : Wd fa fn fb K mg) (i : Nat) {x z : Str} (h : fa[i]? = some (.str x z) := by rfl) : ∃ t, mg x = some (.str z t) := let ⟨_, X, G⟩ := V.ex; He.str_ok X G (V.d.fact i h)
theorem Wd.cls (V : Wd fa fn fb K mg) (i : Nat) {x : Str} (h : fa[i]? = some (.cls x) := by rfl) : Cls K (He.ga K x) := He.cls_ok (V.d.fact i h)
theorem Wd.noat (V : Wd fa fn fb K mg) (i : Nat) {x f : Str} (h : fa[i]? = some (.noat x f) := by rfl) : NoAttr K (He.ga K x) f := He.noat_ok (V.d.fact i h)
theorem Wd.meth (V : Wd fa fn fb K mg) (i : Nat) {x m : Str} (h : fa[i]? = some (.meth x m) := by rfl) : Meth K (He.ga K x) m (He.ma K (He.ga K x) m) := He.meth_ok (V.d.fact i h)
theorem Wd.mkr (V : Wd fa fn fb K mg) (i : Nat) {x : Str} (h : fa[i]? = some (.mkr x) := by rfl) : Mk K (He.ga K x) (He.ma K (He.ga K x) "__init__") := He.mkr_ok (V.d.fact i h)
end
/-! ### a def's bundle -/
section
variable {P : Program} {w : World} {K : PySem.W.Frag} {mg : Str → Option Value} {base : Heap} {x qual : Str} {params : Arguments} {body : List Stmt} {scope : Scope} {dvs : List V} {kws : List (Str × V)} {f : Addr} {fd : FuncData} {N ps : List Str} {k : Nat} {den : En → SR}
/-- no defaults -/
theorem cal_A (F : FunD K x qual params body scope [] [] f fd) (S : FnScope N ps scope) (b : BodyOk P w K mg base k N qual scope f body den)
    (h : ∀ (kV doc pm : Value) (an : Option Addr) (cdv ct : Value) (us : List Value), us.length = ps.length → bindArgs (PySem.W.fnOf x qual params body scope .none kV doc pm an cdv ct) ⟨us, []⟩ = pure (ps.zip us)) :
    CalA P w K mg base (k + 1) f (runF N.length ps.length den) :=
  ⟨⟨fd, ps, [], [], [], _, fn_D F S b, F.bindsN h, .nil, fun _ => rfl, by funext as; rw [List.append_nil]⟩, F.kp⟩
theorem cal_B (F : FunD K x qual params body scope [] [] f fd) (S : FnScope N ps scope) (b : BodyOk P w K mg base k N qual scope f body den)
    (h : ∀ (kV doc pm : Value) (an : Option Addr) (cdv ct : Value) (us : List Value), us.length = ps.length → bindArgs (PySem.W.fnOf x qual params body scope .none kV doc pm an cdv ct) ⟨us, []⟩ = pure (ps.zip us)) :
    CalB P w K mg base (k + 1) f (runB N.length ps.length den) :=
  ⟨⟨fd, ps, [], [], [], _, fn_B F S b, F.bindsN h, .nil, fun _ => rfl, by funext d as; rw [List.append_nil]⟩, F.kp⟩
/-- the law -/
def noTab (H : Hp) : Hp := fun b => match H b with
  | some (.tbl _) => none
  | o => o
theorem noTab_of {H : Hp} {b : Addr} {o : HO} (h : H b = some o) (n : NT o) : noTab H b = some o := by
  unfold noTab
  rw [h]
  cases o with
  | tbl ps => exact absurd rfl (n ps)
  | _ => rfl
theorem noTab_same (H : Hp) : Same (noTab H) H := fun b o h => by
  unfold noTab at h
  split at h
  · cases h
  · exact h
theorem law_sp {n : Nat} {den0 : List D → Res D} (hd : ∀ ns : List Int, ns.length ≤ n → den0 [.scr ns] = .ok (.bl true)) (H : Hp) (hT : ∀ p ∈ Tb.T, H p.1 = some (.tbl #[])) (a : Addr) (ns : List Int) (hl : ns.length ≤ n) (hS : SqL K H a (ns.map V.int)) : spD K mg den0 [.ref a] H (fun v _ => v = .bl true) fun _ _ _ => False := by
  have hS' : SqL K (noTab H) a (ns.map V.int) := by
    rcases hS with h | h
    · refine .inl ?_
      rcases h with h | ⟨o, h⟩
      · exact .inl (noTab_of h fun _ z => nomatch z)
      · exact .inr ⟨o, noTab_of h fun _ z => nomatch z⟩
    · exact .inr h
  refine ⟨noTab H, [.scr ns], ⟨noTab_same H, fun p hp => LamX.TabS.nil (hT p hp), fun p hp => ?_⟩, ⟨_, _, rfl, ⟨a, rfl, hS'⟩, rfl⟩, ?_⟩
  · unfold noTab
    rw [hT p hp]
  rw [hd ns hl]
  exact fun v F' H' _ r => r
end
end Dl

set_option Elab.async false
set_option linter.all false
set_option maxRecDepth 100000
set_option maxHeartbeats 4000000
namespace Dl
open PySem L2
variable [Dl.Tb]

/-! ### defs that give a new object back -/
section
variable (K : PySem.W.Frag) (mg : Str → Option Value)
def PoR (W : WX) (B : Bg) (F : Hp) (Z : Ends) : Res (D × En) → Prop
  | .ok (d, r') => ∀ v σ' F' H', Rel K mg B F' H' r' σ' → Same F F' → rN K mg B σ' r' F' H' d v → Z.rt v H'
  | .er c fs r' => PoX K mg W B F c fs r'
  | .bad => False
def EntR (W : WX) (t : TS) (f : En → Res (D × En)) : Prop := ∀ B F H r σ Z, Rel K mg B F H r σ → PoR K mg W B F Z (f r) → t Z σ H
end
structure DNs (X : Cx) (W : WX) (st : List Stmt) (f : En → Res (D × En)) : Prop where
  ex : ∃ t, PSs X st t ∧ EntR X.K X.mg W t f
def nSeq (f : En → SR) (g : En → Res (D × En)) : En → Res (D × En) := fun r => match f r with
  | .nx r' => g r'
  | .er c fs r' => .er c fs r'
  | _ => .bad
/-- an owned slot is given away -/
def eMv (i : Nat) : En → Res (D × En) := fun r => match r[i]? with
  | some (some (.ow d)) => if noOwn d = true then .ok (d, r.set i none) else .bad
  | _ => .bad
section
variable {K : PySem.W.Frag} {mg : Str → Option Value} {W : WX} {B : Bg} {F F' H H' : Hp} {r : En} {σ : L2.St} {Z : Ends}
theorem PoR.weak {m : Res (D × En)} (h : PoR K mg W B F Z m) (e : Same F F') : PoR K mg W B F' Z m := by
  cases m with
  | ok a => exact fun v σ' F1 H1 R1 s x => h v σ' F1 H1 R1 (e.trans s) x
  | er c fs r' => exact PoX.weak h e
  | bad => exact h
/-- loose things may have changed -/
theorem Rel.growL {A : List Addr} (R : Rel K mg B F H r σ) (hA : ∀ a ∈ A, B.H a = none ∧ a ∉ B.bs ∧ Loose H r σ a) (g : Grow A F H F' H') : Rel K mg B F' H' r σ where
  fh := g.fh
  f0 := R.f0.trans g.f
  tabs := g.tb
  keep := fun a o hb h n => g.h a o (fun z => by rw [(hA a z).1] at h; cases h) (R.keep a o hb h n) n
  there := fun a h => g.th a (R.there a h)
  fresh := fun a h1 h2 => g.fr a (R.fresh a h1 h2) (R.there a h2)
  live := fun a hb => ⟨g.th a (R.live a hb).1, (R.live a hb).2⟩
  len := R.len
  slot := fun i s h => (R.slot i s h).mono g.f fun m q e a ha => by
    obtain ⟨o, ho⟩ := fp_live s.d (R.own_at h m e).2.2 a ha
    exact ⟨by rw [ho]; exact g.h a o (fun z => (hA a z).2.2 i s q h m e ha) ho (fp_own s.d (R.own_at h m e).2.2 a ha o ho).nt, fun z => g.fr a z (by rw [ho]; exact fun w => nomatch w)⟩
  apart := fun i j s t p q ne hi hj ms mt ei ej a ha => by
    have same : ∀ (i : Nat) (s : Sl) (p : Addr), r[i]? = some (some s) → s.mine = true → σ[i]? = some (some (.ref p)) → H' p = H p := fun i s p hi ms ei => by
      obtain ⟨o, ho⟩ := own_there s.d (R.own_at hi ms ei).2.2
      rw [ho]
      exact g.h p o (fun z => (hA p z).2.2 i s p hi ms ei fp_head) ho (own_nt (R.own_at hi ms ei).2.2 ho)
    rw [fp_eq (same i s p hi ms ei)] at ha
    rw [fp_eq (same j t q hj mt ej)]
    exact R.apart i j s t p q ne hi hj ms mt ei ej a ha
end
section
variable {X : Cx} {W : WX} {st : Stmt} {rest : List Stmt} {f : En → SR} {g h : En → Res (D × En)} {e : Expr} {pos : Pos}
end
section
variable (K : PySem.W.Frag) (mg : Str → Option Value)
def PoFN (F H : Hp) (Q : VK) (E : XK) : Res D → Prop
  | .ok d => ∀ p F' H', Grow [] F H F' H' → F' p = none → H p = none → ownS K mg F' H' p d → Q (.ref p) H'
  | .er c fs _ => ∀ C od F' H', mg c = some (.ref C) → Grow [] F H F' H' → xdOk K mg F' H' fs od → E (.ref C) od H'
  | .bad => False
def spN (den : List D → Res D) : Sp := fun vs H Q E => ∃ F ds, SF F H ∧ repL K mg F ds vs ∧ PoFN K mg F H Q E (den ds)
end
section
variable (P : Program) (w : World) (K : PySem.W.Frag) (mg : Str → Option Value) (base : Heap)
structure CalN (k : Nat) (f : Addr) (den : List D → Res D) : Prop where
  ex : ∃ (fd : FuncData) (ps : List Str) (ds : List Value) (dvs : List V) (dds : List D) (den0 : List D → Res D), FnOk P w K mg base (L2.CX P w) k f fd ps (spN K mg den0) ∧ Binds K fd ps ds ∧ Vals dvs ds ∧ (∀ F, repL K mg F dds dvs) ∧ den = fun as => den0 (as ++ dds)
  kp : PySem.W.keepIn K (.ref f) = true
end
section
variable {P : Program} {w : World} {K : PySem.W.Frag} {mg : Str → Option Value} {base : Heap} {x qual : Str} {params : Arguments} {body : List Stmt} {scope : Scope} {dvs : List V} {kws : List (Str × V)} {f : Addr} {fd : FuncData} {N ps : List Str} {k : Nat} {den : En → Res (D × En)}
end
def fstR : Res (D × D) → Res D
  | .ok p => .ok p.1
  | .er c fs r => .er c fs r
  | .bad => .bad
def eCallBN (den : D → List D → Res (D × D)) (fe : En → Res (D × En)) : En → Res (D × En) := fun r => (fe r).bind fun p => callR (fstR (den p.1 [])) p.2
section
variable {X : Cx} {W : WX} {k j : Nat} {f C : Addr} {x : Str} {p pos : Pos} {e : Expr} {es : List Expr} {fa : En → Res (List D × En)} {fe : En → Res (D × En)} {den : List D → Res D} {denB : D → List D → Res (D × D)}
/-- f(e), e a new object that f may change -/
theorem de_callBN (F : CalB X.prog X.w X.K X.mg X.base k f denB) (tk : Takes X W) (hr : Room j X.A) (hk : k ≤ j) (hg : Gl X x) (hm : X.mg x = some (.ref f)) (ha : DN X W e fe) (hdb : (x == ("__debug__" : Str)) = false := by decide)
    (he : starEach [e] X.env = (false, eval e X.env) :: starEach [] X.env := by rfl) (hpl : (backTo pos (starEach [] X.env)).any (·.1) = false := by rfl) : DE X W (.Call (.Name x p) [e] [] pos) (eCallBN denB fe) := by
  obtain ⟨fd, ps, ds, dvs, dds, den0, G, hb, hd, hdd, rfl⟩ := F.ex
  obtain ⟨t, pa, ea⟩ := ha.ex
  refine ⟨_, pe_callSD (E := WE W) G (hr.mono hk) hg hm F.kp hb hd (fun σ => passAt tk σ) (pa_cons pa pa_nil he) hdb he hpl, fun B F H r σ Q R p => ea.to R p fun d r1 v F1 H1 R1 s1 x1 p1 => ?_⟩
  obtain ⟨pa, rfl, hF, hB, nb, hl, ho⟩ := x1
  have e1 : fp H1 pa d = [pa] := fp_one (ownS_no ho)
  have hA : ∀ a ∈ [pa], B.H a = none ∧ a ∉ B.bs ∧ Loose H1 r1 σ a := fun a ha => by
    rw [List.mem_singleton.mp ha]
    exact ⟨hB, nb, hl⟩
  refine ⟨F1, pa, d, dds, dvs, rfl, R1.sf, fun a ha => ?_, by rw [e1]; simp, ownS_at ho, hdd F1, ?_⟩
  · rw [e1] at ha
    rw [List.mem_singleton.mp ha]
    exact hF
  rw [e1]
  have p2 : Po X.K X.mg W B F1 σ (rE X.K X.mg) Q (callR (fstR (den0 d dds)) r1) := p1
  cases q : den0 d dds with
  | ok dd =>
    obtain ⟨d', d1⟩ := dd
    rw [q] at p2
    exact fun v F' H' g _ _ _ _ x => p2 v F' H' (R1.growL hA g) g.f x
  | er c fs r' =>
    rw [q] at p2
    exact fun C od F' H' mm g hz x => p2 C od σ F' H' mm (R1.growL hA g) g.f x
  | bad =>
    rw [q] at p2
    exact p2.elim
end
end Dl

set_option Elab.async false
set_option linter.all false
set_option maxRecDepth 100000
set_option maxHeartbeats 4000000
namespace Dl
open PySem L2
variable [Dl.Tb]
section
variable {P : Program} {w : World} {K : PySem.W.Frag} {mg : Str → Option Value} {base : Heap} {N : List Str} {qual : Str} {scope : Scope} {f : Addr} {cdv : Value} {A : Around} {outer : List Env} {s : Shared} {H : Hp} {E : XK}
theorem tk_def : Takes (cxOf (L2.CX P w) P w K mg base N qual scope f cdv A outer s H E) (fun c d _ H' => E c d H') := takes_of (X := cxOf (L2.CX P w) P w K mg base N qual scope f cdv A outer s H E) rfl rfl rfl rfl
theorem own_def : PassesOwn (model P w) (cxOf (L2.CX P w) P w K mg base N qual scope f cdv A outer s H E).A (cxOf (L2.CX P w) P w K mg base N qual scope f cdv A outer s H E).env (cxOf (L2.CX P w) P w K mg base N qual scope f cdv A outer s H E).xe :=
  passes_of (X := cxOf (L2.CX P w) P w K mg base N qual scope f cdv A outer s H E) (K := fun e s'' => L2.CX P w outer H s E e s'') (E₁ := fun e' s'' => L2.CX P w outer H s E e' s'') rfl
end
def sPar (i j : Nat) (fa : En → Res (List D × En)) : En → SR := fun r => sBind (fa r) fun p => match p.1 with
  | [a, b] => .nx ((p.2.set i (some (.fz a))).set j (some (.fz b)))
  | _ => .bad
section
variable {X : Cx} {W : WX}
end
end Dl

set_option Elab.async false
set_option linter.all false
set_option maxRecDepth 100000
set_option maxHeartbeats 4000000
namespace Dl
open PySem L2
variable [Dl.Tb]
/-- no exception leaves the law -/
theorem no_exc {P : Program} {w : World} {K : PySem.W.Frag} {mg : Str → Option Value} {base : Heap} {k : Nat} {f : Addr} {fd : FuncData} {ps : List Str} {sp : Sp} (F : FnOk P w K mg base (L2.CX P w) k f fd ps sp) : FnOk P w K mg base L2.CX0 k f fd ps (fun vs H Q _ => sp vs H Q fun _ _ _ => False) :=
  ⟨fun vs H Q _ h => F.len vs H Q _ h, fun A outer s H args us vs Q _ hr he hb hv hs => codeAny_mono (F.run A outer s H args us vs Q _ hr he hb hv hs) fun r s' hq => by
    cases r with
    | error e =>
      obtain ⟨_, _, _, _, _, _, _, _, _, _, _, _, z⟩ := hq
      exact z.elim
    | ok fl =>
      cases fl with
      | ret u => exact hq
      | next => exact hq.elim
      | brk => exact hq.elim
      | cont => exact hq.elim⟩
/-- a law's def, from its body -/
theorem law_fn {P : Program} {w : World} {K : PySem.W.Frag} {mg : Str → Option Value} {base : Heap} {x qual : Str} {params : Arguments} {body : List Stmt} {scope : Scope} {f : Addr} {fd : FuncData} {N : List Str} {p : Str} {k : Nat} {den : En → SR}
    (F : FunD K x qual params body scope [] [] f fd) (S : FnScope N [p] scope) (b : BodyOk P w K mg base k N qual scope f body den) : FnOk P w K mg base L2.CX0 (k + 1) f fd [p] (fun vs H Q _ => spD K mg (runF N.length 1 den) vs H Q fun _ _ _ => False) := no_exc (fn_D F S b)
end Dl

set_option Elab.async false
set_option linter.all false
set_option maxRecDepth 100000
set_option maxHeartbeats 4000000
namespace Dl
open PySem L2
variable [Dl.Tb]

/-! ### calls with keywords -/
abbrev Sel : Type := List (Nat × Nat)
def pick1 {α : Type} (us its ws : List α) (q : Nat × Nat) : Option α := match q.1 with
  | 0 => us[q.2]?
  | 1 => its[q.2]?
  | _ => ws[q.2]?
def pickL {α : Type} (sel : Sel) (us its ws : List α) : List α := sel.filterMap (pick1 us its ws)
theorem vals_get {vs : List V} {us : List Value} (h : Vals vs us) (i : Nat) : (vs[i]? = none ∧ us[i]? = none) ∨ ∃ v u, vs[i]? = some v ∧ us[i]? = some u ∧ RelV v u := by
  cases e : vs[i]? with
  | none =>
    left
    refine ⟨rfl, ?_⟩
    rw [List.getElem?_eq_none_iff] at e ⊢
    rw [← h.length]
    exact e
  | some v =>
    right
    obtain ⟨u, hu, r⟩ := h.get e
    exact ⟨v, u, rfl, hu, r⟩
theorem pick_vals {vs ds zs : List V} {us its ws : List Value} (h1 : Vals vs us) (h2 : Vals ds its) (h3 : Vals zs ws) : ∀ sel : Sel, Vals (pickL sel vs ds zs) (pickL sel us its ws)
  | [] => .nil
  | q :: sel => by
    have key : (pick1 vs ds zs q = none ∧ pick1 us its ws q = none) ∨ ∃ v u, pick1 vs ds zs q = some v ∧ pick1 us its ws q = some u ∧ RelV v u := by
      unfold pick1
      split
      · exact vals_get h1 _
      · exact vals_get h2 _
      · exact vals_get h3 _
    have ih := pick_vals h1 h2 h3 sel
    unfold pickL at ih ⊢
    rw [List.filterMap_cons, List.filterMap_cons]
    rcases key with ⟨e1, e2⟩ | ⟨v, u, e1, e2, r⟩
    · rw [e1, e2]
      exact ih
    · rw [e1, e2]
      exact .cons r ih
theorem rep_get2 {K : PySem.W.Frag} {mg : Str → Option Value} {F : Hp} {ds : List D} {vs : List V} (h : repL K mg F ds vs) (i : Nat) : (ds[i]? = none ∧ vs[i]? = none) ∨ ∃ d v, ds[i]? = some d ∧ vs[i]? = some v ∧ rep K mg F d v := by
  cases e : ds[i]? with
  | none =>
    left
    refine ⟨rfl, ?_⟩
    rw [List.getElem?_eq_none_iff] at e ⊢
    rw [repL_len h]
    exact e
  | some d =>
    right
    obtain ⟨v, hv, r⟩ := repL_get h e
    exact ⟨d, v, rfl, hv, r⟩
theorem pick_rep {K : PySem.W.Frag} {mg : Str → Option Value} {F : Hp} {as dds zs : List D} {vs dvs ws : List V} (h1 : repL K mg F as vs) (h2 : repL K mg F dds dvs) (h3 : repL K mg F zs ws) : ∀ sel : Sel, repL K mg F (pickL sel as dds zs) (pickL sel vs dvs ws)
  | [] => rfl
  | q :: sel => by
    have key : (pick1 as dds zs q = none ∧ pick1 vs dvs ws q = none) ∨ ∃ d v, pick1 as dds zs q = some d ∧ pick1 vs dvs ws q = some v ∧ rep K mg F d v := by
      unfold pick1
      split
      · exact rep_get2 h1 _
      · exact rep_get2 h2 _
      · exact rep_get2 h3 _
    have ih := pick_rep h1 h2 h3 sel
    unfold pickL at ih ⊢
    rw [List.filterMap_cons, List.filterMap_cons]
    rcases key with ⟨e1, e2⟩ | ⟨v, u, e1, e2, r⟩
    · rw [e1, e2]
      exact ih
    · rw [e1, e2]
      exact ⟨u, _, rfl, r, ih⟩
section
variable (P : Program) (w : World) (K : PySem.W.Frag) (mg : Str → Option Value) (base : Heap)
/-- a def called with n values and the keywords ks -/
structure KalA (k : Nat) (f : Addr) (n : Nat) (ks : List Str) (den : List D → List D → Res D) : Prop where
  ex : ∃ (fd : FuncData) (ps : List Str) (its : List Value) (dvs : List V) (dds : List D) (den0 : List D → Res D) (sel : Sel), FnOk P w K mg base (L2.CX P w) k f fd ps (spD K mg den0) ∧
    KBn K fd ps n ks (fun us ws => pickL sel us its ws) (fun vs zs => pickL sel vs dvs zs) ∧ (∀ F, repL K mg F dds dvs) ∧ den = fun as zs => den0 (pickL sel as dds zs)
  kp : PySem.W.keepIn K (.ref f) = true
/-- .. whose first parameter is its own object's (an __init__) -/
structure KalB (k : Nat) (f : Addr) (n : Nat) (ks : List Str) (den : D → List D → List D → Res (D × D)) : Prop where
  ex : ∃ (fd : FuncData) (ps : List Str) (its : List Value) (dvs : List V) (dds : List D) (den0 : D → List D → Res (D × D)) (sel sel2 : Sel), FnOk P w K mg base (L2.CX P w) k f fd ps (spB K mg den0) ∧
    KBn K fd ps (n + 1) ks (fun us ws => pickL sel us its ws) (fun vs zs => pickL sel vs dvs zs) ∧ (∀ F, repL K mg F dds dvs) ∧ (∀ (x : V) (us zs : List V), pickL sel (x :: us) dvs zs = x :: pickL sel2 us dvs zs) ∧ den = fun d as zs => den0 d (pickL sel2 as dds zs)
  kp : PySem.W.keepIn K (.ref f) = true
end
section
variable {P : Program} {w : World} {K : PySem.W.Frag} {mg : Str → Option Value} {base : Heap} {x qual : Str} {params : Arguments} {body : List Stmt} {scope : Scope} {dvs : List V} {f : Addr} {fd : FuncData} {N ps ks : List Str} {k n : Nat} {den : En → SR}
theorem kbn0 {sel : Sel} (F : FunD K x qual params body scope [] [] f fd) (n : Nat) (ks : List Str)
    (h : ∀ (kV doc pm : Value) (an : Option Addr) (cdv ct : Value) (us ws : List Value), us.length = n → ws.length = ks.length → bindArgs (PySem.W.fnOf x qual params body scope .none kV doc pm an cdv ct) ⟨us, ks.zip ws⟩ = pure (ps.zip (pickL sel us [] ws))) :
    KBn K fd ps n ks (fun us ws => pickL sel us [] ws) (fun vs zs => pickL sel vs [] zs) := by
  obtain ⟨oc, od, dV, kV, doc, pm, an, cdv, ct, osl, rfl, lk, hcd, hD, hK⟩ := F.ex
  rcases hD with ⟨_, rfl⟩ | ⟨e, _⟩
  · exact ⟨fun s us ws X l1 l2 => .of_eq (h kV doc pm an cdv ct us ws l1 l2), fun r1 r2 => pick_vals r1 .nil r2 sel⟩
  · exact absurd rfl e
end
/-! the keywords' values -/
structure DK (X : Cx) (W : WX) (kws : List Keyword) (f : En → Res (List D × En)) : Prop where
  ex : ∃ t, PK X kws t ∧ Ent X.K X.mg W (rA X.K X.mg) t f
def eMethK (c m : Str) (n j : Nat) (den : List D → List D → Res D) (fo : En → Res (D × En)) (fa fk : En → Res (List D × En)) : En → Res (D × En) := fun r => (fo r).bind fun o => match o.1 with
  | .ins c' fs => if c' = c ∧ hasNo fs m = true then (fa o.2).bind fun p => (fk p.2).bind fun q => if p.1.length + 1 = n ∧ q.1.length = j then callR (den (.ins c' fs :: p.1) q.1) q.2 else .bad else .bad
  | _ => .bad
section
variable {X : Cx} {W : WX} {CX : CXT} {k j n : Nat} {f C : Addr} {fd : FuncData} {ps ks : List Str} {sp : Sp} {E : L2.St → XK} {x m c : Str} {p pos apos kpos : Pos} {e o : Expr} {es : List Expr} {kws : List Keyword} {t tk ta : TA} {te : TE} {nm : Option Str} {g : List Value → List Value → List Value} {gV : List V → List V → List V}
  {fa fk : En → Res (List D × En)} {h : En → Res (D × En)}
theorem dk_nil : DK X W [] aNil := ⟨_, pk_nil, fun B F H r σ Q R p => p [] F H R (Same.refl F) rfl⟩
theorem dk_cons {gs : En → Res (List D × En)} (hh : DE X W e h) (hr : DK X W kws gs) : DK X W (⟨nm, e, kpos⟩ :: kws) (aCons h gs) := by
  obtain ⟨t, hp, he⟩ := hh.ex
  obtain ⟨u, kp, ke⟩ := hr.ex
  refine ⟨_, pk_cons hp kp, fun B F H r σ Q R p => he.to R p fun d r1 v F1 H1 R1 s1 x1 p1 => ke.to R1 p1 fun ds r2 vs F2 H2 R2 s2 x2 p2 => ?_⟩
  exact p2 _ F2 H2 R2 (Same.refl F2) ⟨v, vs, rfl, rep_mono s2 _ _ x1, x2⟩
end
end Dl

set_option Elab.async false
set_option linter.all false
set_option maxRecDepth 100000
set_option maxHeartbeats 4000000
namespace Dl
open PySem L2
variable [Dl.Tb]
section
variable {X : Cx} {W : WX} {k j n : Nat} {f C : Addr} {ks : List Str} {x m c : Str} {p pos apos kpos : Pos} {e o : Expr} {es : List Expr} {kws : List Keyword} {nm : Option Str}
  {fa fk : En → Res (List D × En)} {fo : En → Res (D × En)} {den : List D → List D → Res D} {denB : D → List D → List D → Res (D × D)}
end
end Dl

set_option Elab.async false
set_option linter.all false
set_option maxRecDepth 100000
set_option maxHeartbeats 4000000
namespace Dl
open PySem L2
variable [Dl.Tb]

/-! ### methods of a list of one's own -/
def isLstAt (r : En) (i : Nat) : Bool := match r[i]? with
  | some (some s) => (match s.d with
    | .lst _ => s.mine
    | _ => false)
  | _ => false
def eLm (i : Nat) (g : List D → List D → Option (D × List D)) (fa : En → Res (List D × En)) : En → Res (D × En) := fun r => if isLstAt r i = true then (fa r).bind fun p => atMine p.2 i fun s => match s.d with
  | .lst ds => (match g ds p.1 with
    | some (z, es) => .ok (z, p.2.set i (some (s.put (.lst es))))
    | none => .bad)
  | _ => .bad else .bad
section
variable {X : Cx} {W : WX} {i : Nat} {fa : En → Res (List D × En)} {t : TA} {rr : V → List V → Hp → VK → Prop} {g : List D → List D → Option (D × List D)}
variable {y : Str} {q apos pos : Pos} {e e2 : Expr}
end
end Dl

set_option Elab.async false
set_option linter.all false
set_option maxRecDepth 100000
set_option maxHeartbeats 4000000
namespace Dl
open PySem L2
variable [Dl.Tb]
/-! ### [..] * n, is True, tuple(x), zip -/
def repD : D → D → Option D
  | .lst ds, .int k => if -1000000 < k ∧ k < 1000000 ∧ ds.length * k.toNat ≤ 100000 then some (.lst (List.replicate k.toNat ds).flatten) else none
  | _, _ => none
def isB : D → D → Option D
  | .bl a, .bl b => some (.bl (decide (a = b)))
  | _, _ => none
def notB : D → D → Option D
  | .bl a, .bl b => some (.bl (!decide (a = b)))
  | _, _ => none
def tupleD : D → Option D
  | .lst ds => some (.tup ds)
  | .tup ds => some (.tup ds)
  | _ => none
section
variable {X : Cx} {W : WX} {a b e e2 : Expr} {pos p : Pos} {fa fb : En → Res (BV × En)}
theorem repL_rep {K : PySem.W.Frag} {mg : Str → Option Value} {F : Hp} {ds : List D} {vs : List V} (h : repL K mg F ds vs) : ∀ n : Nat, repL K mg F (List.replicate n ds).flatten (List.replicate n vs).flatten
  | 0 => rfl
  | n + 1 => by
    rw [List.replicate_succ, List.replicate_succ, List.flatten_cons, List.flatten_cons]
    exact repL_app h (repL_rep h n)
theorem on_rep : OpN X rRep repD := by
  intro F H v u x y z Q s h1 h2 h3 k
  cases x with
  | lst ds =>
    cases y with
    | int j =>
      have h3' : (if -1000000 < j ∧ j < 1000000 ∧ ds.length * j.toNat ≤ 100000 then some (D.lst (List.replicate j.toNat ds).flatten) else none) = some z := h3
      by_cases hb : -1000000 < j ∧ j < 1000000 ∧ ds.length * j.toNat ≤ 100000
      · rw [if_pos hb] at h3'
        cases h3'
        obtain ⟨l, xs, rfl, hH, rx⟩ := h1
        have hl := repL_len rx
        cases (show u = .int j from h2)
        have sz : (100000 : Nat) ≤ sizeLine := by decide
        exact ⟨l, j, xs, rfl, rfl, hH, by omega, by omega, by rw [hl]; omega, fun p hp => k p _ hp ⟨_, upd_same, repL_rep rx _⟩⟩
      · rw [if_neg hb] at h3'
        cases h3'
    | _ => cases h3
  | _ => cases h3
theorem dn_rep (ha : DB X W a fa) (hb : DB X W b fb) : DN X W (.BinOp a .Mult b pos) (eBin repD fa fb) := dn_op op_rep on_rep ha hb
/-- one operand, frozen -/
theorem un_entE {t : TE} {h : En → Res (D × En)} {rr : V → Hp → VK → Prop} {g : D → Option D} {R : RR D V} (he : Ent X.K X.mg W (rE X.K X.mg) t h)
    (hr : ∀ B F H r σ v x z Q, Rel X.K X.mg B F H r σ → rep X.K X.mg F x v → g x = some z → Po X.K X.mg W B F σ R Q (.ok (z, r)) → rr v H Q) : Ent X.K X.mg W R (tUn rr t) (eUn g (bOf h)) := by
  intro B F H r σ Q R0 p
  unfold eUn bOf at p
  refine he B F H r σ _ R0 ?_
  cases q : h r with
  | ok a =>
    obtain ⟨d, r'⟩ := a
    rw [q] at p
    simp only [bind_ok, getB] at p
    intro v F' H' R' s x
    cases g3 : g d with
    | some z =>
      simp only [g3, liftR, bind_ok] at p
      exact hr B F' H' r' σ v d z Q R' x g3 (Po.weak p s)
    | none =>
      simp only [g3, liftR, bind_bad] at p
      exact p.elim
  | er c fs r' =>
    rw [q] at p
    exact p
  | bad =>
    rw [q] at p
    exact p
theorem de_tuple1 {h : En → Res (D × En)} (hm : X.mg "tuple" = none) (ha : DE X W a h) (hg : Gl X "tuple" := by rfl) (hst : starEach [a] X.env = (false, eval a X.env) :: starEach [] X.env := by rfl) : DE X W (.Call (.Name "tuple" p) [a] [] pos) (eUn tupleD (bOf h)) := by
  obtain ⟨t, hp, he⟩ := ha.ex
  refine ⟨_, pe_callTy call_tuple_of hg hm PyProof.Rows.boot_tuple (pa_cons hp pa_nil hst) (by decide) (by decide) hst rfl, un_entE (rr := fun v H Q => ∃ q ys, [v] = [V.ref q] ∧ ((SqL X.K H q ys ∧ ∀ l, H l = none → Q (.ref l) (upd H l (.tup ys))) ∨ (SqT X.K H q ys ∧ Q (.ref q) H))) he ?_⟩
  intro B F H r σ v x z Q R h1 h2 k
  cases x with
  | lst ds =>
    cases h2
    obtain ⟨l, xs, rfl, hH, rx⟩ := h1
    refine ⟨l, xs, rfl, .inl ⟨SqL.of (R.fh _ _ hH), fun q hq => ?_⟩⟩
    have fq := R.fh.free hq
    exact k _ _ _ (R.newF hq) (same_new fq) ⟨q, xs, rfl, SqT.of upd_same, repL_mono (same_new fq) _ _ rx⟩
  | tup ds =>
    cases h2
    obtain ⟨l, xs, rfl, hH, rx⟩ := id h1
    exact ⟨l, xs, rfl, .inr ⟨sqT_mono R.fh hH, k _ F H R (Same.refl F) h1⟩⟩
  | _ => cases h2
end
end Dl

set_option Elab.async false
set_option linter.all false
set_option maxRecDepth 100000
set_option maxHeartbeats 4000000
namespace Dl
open PySem L2
variable [Dl.Tb]
def slT (d : D) (lo hi : Option Int) : Option D := match d with
  | .tup ds => some (.tup (cutD ds lo hi))
  | _ => none
def slA (d : D) (lo hi : Option Int) : Option D := match slL d lo hi with
  | some z => some z
  | none => slT d lo hi
theorem eSl_or {g h : D → Option Int → Option Int → Option D} {fe : En → Res (BV × En)} {fl fh : En → Res (Option Int × En)} : eAlt (eSl g fe fl fh) (eSl h fe fl fh) = eSl (fun d l u => match g d l u with | some z => some z | none => h d l u) fe fl fh := by
  funext r
  unfold eAlt eSl
  cases fe r with
  | ok p =>
    simp only [bind_ok]
    cases fl p.2 with
    | ok l =>
      simp only [bind_ok]
      cases fh l.2 with
      | ok u =>
        simp only [bind_ok]
        cases getB p.1 u.2 with
        | ok d =>
          simp only [bind_ok]
          cases g d l.1 u.1 with
          | some z => rfl
          | none => simp only [liftR, bind_bad]
        | er c fs r' => rfl
        | bad => rfl
      | er c fs r' => rfl
      | bad => rfl
    | er c fs r' => rfl
    | bad => rfl
  | er c fs r' => rfl
  | bad => rfl
section
variable {X : Cx} {W : WX} {e e2 : Expr} {pos p p2 : Pos} {fe : En → Res (BV × En)} {fl fh : En → Res (Option Int × En)} {lo hi : Option Expr}
theorem de_slT {h : En → Res (D × En)} (he : DE X W e h) (hl : DO X W lo fl) (hu : DO X W hi fh) : DE X W (.Subscript e (.Slice lo hi none p2) pos) (eSl slT (bOf h) fl fh) := by
  obtain ⟨t, hp, ee⟩ := he.ex
  obtain ⟨tl, hpl, el⟩ := hl.ex
  obtain ⟨tu, hpu, eu⟩ := hu.ex
  refine ⟨_, pe_slice sl_tupA hp hpl hpu, fun B F H r σ Q R p => ?_⟩
  have p' : Po X.K X.mg W B F σ (rE X.K X.mg) Q ((h r).bind fun q => (fl q.2).bind fun l => (fh l.2).bind fun u => (liftR (slT q.1 l.1 u.1)).bind fun z => .ok (z, u.2)) := by
    have e : eSl slT (bOf h) fl fh r = ((h r).bind fun q => (fl q.2).bind fun l => (fh l.2).bind fun u => (liftR (slT q.1 l.1 u.1)).bind fun z => .ok (z, u.2)) := by
      unfold eSl bOf
      cases h r <;> rfl
    rw [← e]
    exact p
  refine ee.to R p' fun d r1 v F1 H1 R1 s1 x1 p1 => ?_
  refine el.to R1 p1 fun l r2 l' F2 H2 R2 s2 x2 p2 => ?_
  cases (show l = l' from x2)
  refine eu.to R2 p2 fun u r3 u' F3 H3 R3 s3 x3 p3 => ?_
  cases (show u = u' from x3)
  have x1' := rep_mono (s2.trans s3) _ _ x1
  cases d with
  | tup ds =>
    obtain ⟨a, xs, rfl, ha, ra⟩ := id x1'
    have p4 : Po X.K X.mg W B F3 σ (rE X.K X.mg) Q (.ok (D.tup (cutD ds l u), r3)) := p3
    have cut : repL X.K X.mg F3 (cutD ds l u) (cutV xs l u) := by
      unfold cutD cutV
      rw [repL_len ra]
      exact repL_take _ (repL_drop _ ra)
    refine ⟨a, xs, rfl, sqT_mono R3.fh ha, fun w => p4 _ F3 H3 R3 (Same.refl F3) ⟨a, xs, rfl, ha, ?_⟩, fun _ q hq => ?_⟩
    · have e : cutV xs l u = xs := by
        unfold cutV
        rw [w.1, w.2, List.drop_zero, Nat.sub_zero, List.take_length]
      rw [e] at cut
      exact cut
    · have fq := R3.fh.free hq
      exact p4 _ _ _ (R3.newF hq) (same_new fq) ⟨q, _, rfl, SqT.of upd_same, repL_mono (same_new fq) _ _ cut⟩
  | _ => exact p3.elim
theorem de_slA {h : En → Res (D × En)} (he : DE X W e h) (hl : DO X W lo fl) (hu : DO X W hi fh) : DE X W (.Subscript e (.Slice lo hi none p2) pos) (eSl slA (bOf h) fl fh) := by
  have := (dn_sl (pos := pos) (p2 := p2) he.db hl hu).de.alt (de_slT he hl hu)
  rw [eSl_or] at this
  exact this
/-! ### zip -/
def zipD (ds es : List D) : List D := (ds.zip es).map fun q => .tup [q.1, q.2]
def iZip (f : En → Res (List D × En)) : En → Res (List D × En) := fun r => (f r).bind fun p => match p.1 with
  | [.lst ds, .lst es] => .ok (zipD ds es, p.2)
  | [.tup ds, .tup es] => .ok (zipD ds es, p.2)
  | _ => .bad
end
end Dl

set_option Elab.async false
set_option linter.all false
set_option maxRecDepth 100000
set_option maxHeartbeats 4000000
namespace Dl
open PySem L2
variable [Dl.Tb]
/-! ### set(xs): numbers and texts -/
def memS (l : List Key) (k : Key) : Bool := l.any fun x => decide (x = k)
def dedS (l : List Key) (k : Key) : List Key := if memS l k = true then l else l ++ [k]
section
variable {prog : Program} {w : World} {A : Around} {R : Result → Shared → Prop} {I : Addr} {fp wr : List Addr} {G : Array GenState → Array GenState → Prop} {n : Nat} {P : Nat → Value → Prop} {St : Nat → Shared → Prop}
end
section
variable {prog : Program} {w : World} {A : Around} {E : Value → Shared → Prop} {s : Shared}
end
end Dl

set_option Elab.async false
set_option linter.all false
set_option maxRecDepth 100000
set_option maxHeartbeats 4000000
namespace Dl
open PySem L2
variable [Dl.Tb]
/-! ### len(set(xs)) -/
def keysD : List D → Option (List Key)
  | [] => some []
  | d :: ds => match keyD d, keysD ds with
    | some k, some ks => some (k :: ks)
    | _, _ => none
def lenSetD : D → Option D
  | .lst ds => match keysD ds with
    | some ks => if ks.length ≤ 1000 then some (.int (ks.foldl dedS []).length) else none
    | none => none
  | _ => none
section
variable {X : Cx} {W : WX} {a b e e2 : Expr} {pos p pos2 p2 : Pos} {fa fb : En → Res (BV × En)} {k : Nat}
/-! ### repr of data -/
mutual
theorem noDict_toPy : ∀ d : D, (toPy d).hasDict = false
  | .lst ds => by rw [toPy, PyData.hasDict]; exact noDict_toPyL ds
  | .tup ds => by rw [toPy, PyData.hasDict]; exact noDict_toPyL ds
  | .bl _ => rfl
  | .int _ => rfl
  | .str _ => rfl
  | .non => rfl
  | .scr _ => rfl
  | .dk _ => rfl
  | .dt _ => rfl
  | .ins _ _ => rfl
  | .ty _ => rfl
  | .gl _ => rfl
  | .own _ => rfl
  | .lam _ _ _ _ _ => rfl
  | .exv _ _ => rfl
  | .nk _ => rfl
theorem noDict_toPyL : ∀ ds : List D, PyData.hasDictAll (toPyL ds) = false
  | [] => rfl
  | d :: ds => by rw [toPyL, PyData.hasDictAll, noDict_toPy d, noDict_toPyL ds]; rfl
end
def reprD (d : D) : Option D := match d with
  | .lst _ => if isData d = true ∧ (toPy d).showable = true ∧ (toPy d).depth ≤ 20 ∧ (toPy d).shown.length ≤ 100000 then some (.str (toPy d).shown) else none
  | .tup _ => if isData d = true ∧ (toPy d).showable = true ∧ (toPy d).depth ≤ 20 ∧ (toPy d).shown.length ≤ 100000 then some (.str (toPy d).shown) else none
  | _ => none
def rRepr (X : Cx) : List V → Hp → VK → Prop := fun xs H Q => ∃ (p : Addr) (d : PyData), xs = [.ref p] ∧ Dp X.K H (.ref p) d ∧ d.hasDict = false ∧ d.showable = true ∧ d.depth ≤ 20 ∧ d.shown.length ≤ sizeLine ∧ Q (.str d.shown) H
theorem call_reprD (hr : Room k X.A) : CallR X (.builtin "repr") (rRepr X) := by
  intro pins s σ H xs us Q I r h
  obtain ⟨p, d, rfl, dp, nd, sh, dep, sz, q⟩ := h
  obtain ⟨u, rfl, rx⟩ := vals1 r
  obtain ⟨as, rd⟩ := Dp.reads I d _ u dp rx
  cases rx
  exact repr_of_reads' rd sh (PyData.noDict_hsm nd) hr.gd (by have := hr.un; omega) (fun _ _ e => e) (fun h' u tk kp => ⟨.str _, H, I.kept (t' := tk) kp, ⟨_, rfl⟩, q⟩) sz
theorem uv_reprD : UnV X (fun v H Q => rRepr X [v] H Q) reprD := by
  intro F H v d z Q s h1 h3 k
  have sz : (100000 : Nat) ≤ sizeLine := by decide
  cases d with
  | lst ds =>
    simp only [reprD] at h3
    split at h3
    · rename_i c
      cases h3
      obtain ⟨l, xs, rfl, hH, rx⟩ := id h1
      exact ⟨l, _, rfl, vw_dp s _ _ c.1 h1, noDict_toPy _, c.2.1, c.2.2.1, by have := c.2.2.2; omega, k _ rfl⟩
    · cases h3
  | tup ds =>
    simp only [reprD] at h3
    split at h3
    · rename_i c
      cases h3
      obtain ⟨l, xs, rfl, hH, rx⟩ := id h1
      exact ⟨l, _, rfl, vw_dp s _ _ c.1 h1, noDict_toPy _, c.2.1, c.2.2.1, by have := c.2.2.2; omega, k _ rfl⟩
    · cases h3
  | _ => cases h3
theorem de_reprD (hr : Room k X.A) (hm : X.mg "repr" = none) (ha : DB X W a fa) (hg : Gl X "repr" := by rfl) (hst : starEach [a] X.env = (false, eval a X.env) :: starEach [] X.env := by rfl) : DE X W (.Call (.Name "repr" p) [a] [] pos) (eUn (orU reprB reprD) fa) :=
  (de_reprB hm ha hg hst).or1 (de_b1 (call_reprD hr) uv_reprD hg hm PyProof.Rows.boot_repr ha hst (by decide) (by decide))
end
end Dl

set_option Elab.async false
set_option linter.all false
set_option maxRecDepth 100000
set_option maxHeartbeats 4000000
namespace Dl
open PySem L2
variable [Dl.Tb]
/-! ### x in a tuple -/
def inTup : D → D → Option D
  | x, .tup ds => if okPy x = true ∧ okPy (.tup ds) = true then some (.bl ((toPyL ds).any fun z => PyData.eqv z (toPy x))) else none
  | _, _ => none
def rInT (K : PySem.W.Frag) (f : Bool → Bool) : R2 := fun x y H Q => ∃ d ds, Dp K H x d ∧ Dp K H y (.tuple ds) ∧ SeqAt.shaped d = true ∧ SeqAt.shaped (.tuple ds) = true ∧ Q (.bl (f (ds.any fun z => PyData.eqv z d))) H
section
variable {X : Cx} {W : WX} {a b e e2 v : Expr} {pos p tp : Pos} {fa fb : En → Res (BV × En)} {k : Nat}
theorem op_inT (hu : X.A.units + 65 < cLine) : OpR X (compareOp .In) (rInT X.K id) := by
  intro pins s σ H x y v u Q I rx ry h
  obtain ⟨d, ds, hd, he, sd, se, q⟩ := h
  obtain ⟨as, r1⟩ := Dp.reads I d x v hd rx
  obtain ⟨bs, r2⟩ := Dp.reads I (.tuple ds) y u he ry
  exact SeqAt.in_tuple_reads r2 r1 (SeqAt.canLay_of_shaped se) (SeqAt.canLay_of_shaped sd) (PyProof.Rows.room_in_shaped sd hu) ⟨.bl _, H, I, rfl, q⟩
theorem ov_inTup : OpV X (rInT X.K id) inTup := by
  intro F H x y d e z Q s h1 h2 h3 k
  unfold inTup at h3
  split at h3
  · split at h3
    · rename_i hc
      cases h3
      obtain ⟨a1, a2⟩ := okPy_parts hc.1
      obtain ⟨b1, b2⟩ := okPy_parts hc.2
      have z := vw_dp s _ y b1 h2
      rw [toPy] at z b2
      exact ⟨_, _, vw_dp s d x a1 h1, z, a2, b2, k _ rfl⟩
    · cases h3
  · cases h3
theorem dc_inT (hr : Room k X.A) (ha : DB X W a fa) (hb : DB X W b fb) : DC X W .In a b (eBin inTup fa fb) := dc_op (op_inT (by have := hr.un; omega)) ov_inTup ha hb
theorem dc_inQ (hr : Room k X.A) (ha : DB X W a fa) (hb : DB X W b fb) : DC X W .In a b (eBin (orD inLst inTup) fa fb) := DC.or2 (dc_inL hr ha hb) (dc_inT hr ha hb)
def eDispC (ks : List Key) (n : Int) : En → Res (D × En) := fun r => .ok (.dt [(ks, .int n)], r)
end
end Dl

set_option Elab.async false
set_option linter.all false
set_option maxRecDepth 100000
set_option maxHeartbeats 4000000
namespace Dl
open PySem L2
variable [Dl.Tb]
/-! ### xs[::-1] -/
def revD : D → Option D
  | .lst ds => some (.lst ds.reverse)
  | _ => none
section
variable {X : Cx} {W : WX} {a b e e2 v tg : Expr} {pos p p1 p2 p3 tp apos cpos : Pos} {fa fb : En → Res (BV × En)} {k : Nat}
end
/-! ### walks over dicts -/
def keysOfD (kvs : List (Key × D)) : List D := kvs.map fun kv => keyE kv.1
def iKeyD (f : En → Res (D × En)) : En → Res (List D × En) := fun r => (f r).bind fun p => match p.1 with
  | .dk kvs => .ok (keysOfD kvs, p.2)
  | _ => .bad
section
variable {K : PySem.W.Frag} {mg : Str → Option Value} {F : Hp}
end
section
variable {X : Cx} {W : WX} {a b e e2 v tg : Expr} {pos p p1 p2 p3 tp apos cpos : Pos} {fa fb : En → Res (BV × En)} {f : En → Res (D × En)} {k : Nat}
end
end Dl

set_option Elab.async false
set_option linter.all false
set_option maxRecDepth 100000
set_option maxHeartbeats 4000000
namespace Dl
open PySem L2
variable [Dl.Tb]
section
variable {X : Cx} {W : WX} {pos : Pos}
end
end Dl

namespace Dl
end Dl

set_option Elab.async false
set_option linter.all false
set_option maxRecDepth 100000
set_option maxHeartbeats 4000000
namespace Dl
open PySem L2
variable [Dl.Tb]
/-! ### y.n where y's object is one's own: its own part -/
def ownFld (cs : List Str) (n : Str) (r : En) (i : Nat) : Option (Sl × D) := match r[i]? with
  | some (some s) => if s.mine = true then (match s.d with
    | .ins c fs => if c ∈ cs then (match fs.lookup n with
      | some (.own d) => some (s, d)
      | _ => none) else none
    | _ => none) else none
  | _ => none
/-- the part is put anew -/
def putOwn (n : Str) (d : D) : D → D
  | .ins c fs => .ins c (putD n (.own d) fs)
  | z => z
section
variable {K : PySem.W.Frag} {mg : Str → Option Value} {B : Bg} {F F' H H' : Hp} {r r' : En} {σ : L2.St} {i : Nat} {s : Sl} {p q : Addr} {n : Str} {d d' : D} {cs : List Str}
theorem ownFld_inv (h : ownFld cs n r i = some (s, d)) : r[i]? = some (some s) ∧ s.mine = true ∧ ∃ c fs, s.d = .ins c fs ∧ c ∈ cs ∧ fs.lookup n = some (.own d) := by
  unfold ownFld at h
  split at h
  · rename_i s0 e
    split at h
    · rename_i m
      split at h
      · rename_i c fs hd
        split at h
        · rename_i hc
          split at h
          · rename_i d0 hl
            cases h
            exact ⟨e, m, c, fs, hd, hc, hl⟩
          · cases h
        · cases h
      · cases h
    · cases h
  · cases h
theorem repO_look : ∀ {fs : List (Str × D)} {ws : List (Str × V)}, repO K mg F H fs ws → fs.lookup n = some (.own d) → ∃ q, ws.lookup n = some (.ref q) ∧ ownB K mg F H q d ∧ q ∈ fpF fs ws
  | [], _, _, h => by cases h
  | (k, d0) :: fs, _, h, e => by
    obtain ⟨w, ws, rfl, h1, h2⟩ := h
    rw [List.lookup_cons] at e ⊢
    unfold fpF
    cases z : (n == k) with
    | true =>
      rw [z] at e
      cases e
      obtain ⟨q, rfl, hq⟩ := h1
      exact ⟨q, rfl, hq, by simp [fldQ]⟩
    | false =>
      rw [z] at e
      obtain ⟨q, a1, a2, a3⟩ := repO_look h2 e
      exact ⟨q, a1, a2, List.mem_append_right _ a3⟩
/-- all that is known of such a part -/
theorem Rel.part (R : Rel K mg B F H r σ) (h : ownFld cs n r i = some (s, d)) : ∃ c fs p C dx ws q, r[i]? = some (some s) ∧ s.mine = true ∧ s.d = .ins c fs ∧ c ∈ cs ∧ fs.lookup n = some (.own d) ∧ σ[i]? = some (some (.ref p)) ∧ mg c = some (.ref C) ∧ H p = some (.ins C dx ws) ∧
    ws.lookup n = some (.ref q) ∧ ownB K mg F H q d ∧ repO K mg F H fs ws ∧ fp H p s.d = p :: fpF fs ws ∧ (p :: fpF fs ws).Nodup ∧ q ∈ fpF fs ws := by
  obtain ⟨hs, m, c, fs, hd, hc, hl⟩ := ownFld_inv h
  obtain ⟨p, e, hA, nd, ho⟩ := R.own hs m
  rw [hd] at ho
  obtain ⟨C, dx, ws, hC, hH, hr⟩ := ho
  obtain ⟨q, a1, a2, a3⟩ := repO_look hr hl
  have efp : fp H p s.d = p :: fpF fs ws := by
    rw [hd]
    unfold fp
    simp only [hH]
  rw [efp] at nd
  exact ⟨c, fs, p, C, dx, ws, q, hs, m, hd, hc, hl, e, hC, hH, a1, a2, hr, efp, nd, a3⟩
end
/-! ### rules -/
def eUnF (g : D → Option D) (cs : List Str) (n : Str) (i : Nat) : En → Res (D × En) := fun r => match ownFld cs n r i with
  | some q => (liftR (g q.2)).bind fun z => .ok (z, r)
  | none => .bad
/-- y.n[k] -/
def eAtF (g : D → D → Option D) (cs : List Str) (n : Str) (i : Nat) (fk : En → Res (D × En)) : En → Res (D × En) := fun r => match ownFld cs n r i with
  | some q => (noX (fk (r.set i none))).bind fun p => (liftR (g q.2 p.1)).bind fun z => .ok (z, p.2.set i (some q.1))
  | none => .bad
/-- k in y.n -/
def eInF (g : D → D → Option D) (cs : List Str) (n : Str) (i : Nat) (fk : En → Res (D × En)) : En → Res (D × En) := fun r => (fk r).bind fun p => match ownFld cs n p.2 i with
  | some q => (liftR (g p.1 q.2)).bind fun z => .ok (z, p.2)
  | none => .bad
/-- y.n[k] = v -/
def sDPutF (cs : List Str) (n : Str) (i : Nat) (fk fv : En → Res (D × En)) : En → SR := fun r => sBind (fv r) fun p => match ownFld cs n p.2 i with
  | some q => sBind (noX (fk (p.2.set i none))) fun z => (match q.2, keyD z.1 with
    | .dk kvs, some k => if kvs.length < 100000 then .nx (z.2.set i (some (q.1.put (putOwn n (.dk (putKD kvs k p.1)) q.1.d)))) else .bad
    | _, _ => .bad)
  | none => .bad
section
variable {X : Cx} {W : WX} {i : Nat} {y n x : Str} {cs : List Str} {id T : String} {rr : List V → Hp → VK → Prop} {g : D → Option D} {p pos p1 p2 pos' : Pos} {fk fv : En → Res (D × En)} {ke ve : Expr}
end
end Dl

set_option Elab.async false
set_option linter.all false
set_option maxRecDepth 100000
set_option maxHeartbeats 4000000
namespace Dl
open PySem L2
variable [Dl.Tb]
/-! ### a loose object is held while another thing is evaluated -/
section
variable {K : PySem.W.Frag} {mg : Str → Option Value} {W : WX} {B : Bg} {F F' H H' : Hp} {r r' : En} {σ : L2.St} {p : Addr} {o : HO}
theorem Rel.freeB (R : Rel K mg B F H r σ) (h : F p = none) : B.F p = none := by
  cases q : B.F p with
  | none => rfl
  | some u =>
    have := R.f0 _ _ q
    rw [h] at this
    cases this
/-- evaluate f, p held -/
theorem Ent.held {t : TE} {f : En → Res (D × En)} {Q1 : V → Hp → Prop} (h : Ent K mg W (rE K mg) t f) (R : Rel K mg B F H r σ) (ho : H p = some o) (hF : F p = none) (hB : B.H p = none) (hb : p ∉ B.bs) (hl : Loose H r σ p) {d : D} (e : f r = .ok (d, r'))
    (c : ∀ v F' H', Rel K mg B F' H' r' σ → Same F F' → H' p = some o → F' p = none → Loose H' r' σ p → rep K mg F' d v → Q1 v H') (nt : Wr o := by exact Own1.wr trivial) : t σ H Q1 := by
  have Rg := R.guard ho hF hB hb hl
  refine h _ F H r σ Q1 Rg ?_
  rw [e]
  intro v F1 H1 R1 s1 x1
  obtain ⟨R2, h2, f2, l2⟩ := R1.unguard hB hb (R.freeB hF) nt
  exact c v F1 H1 R2 s1 h2 f2 l2 x1
end
/-! ### {k: v} -/
def eDisp1 (fk fv : En → Res (D × En)) : En → Res (D × En) := fun r => (noX (fk r)).bind fun a => (noX (fv a.2)).bind fun b => match keyD a.1 with
  | some k => .ok (.dk [(k, b.1)], b.2)
  | none => .bad
section
variable {X : Cx} {W : WX} {kx vx a b : Expr} {fk fv fa fb : En → Res (D × En)} {pos : Pos}
theorem dn_disp1 (hk : DE X W kx fk) (hv : DE X W vx fv) : DN X W (.Dict [some kx] [vx] pos) (eDisp1 fk fv) := by
  obtain ⟨tk, pk, ek⟩ := hk.ex
  obtain ⟨tv, pv, ev⟩ := hv.ex
  refine ⟨_, pe_disp (pps_cons pk pv pps_nil) rfl rfl (by simp) (by simp), fun B F H r σ Q R p pa hpa => ?_⟩
  unfold eDisp1 at p
  rcases noX_cases (fk r) with ⟨⟨dk, r1⟩, q1, q2⟩ | q2
  · rw [q2] at p
    rcases noX_cases (fv r1) with ⟨⟨dv, r2⟩, q3, q4⟩ | q4
    · simp only [bind_ok, q4] at p
      cases hkd : keyD dk with
      | none =>
        simp only [hkd] at p
        exact p.elim
      | some key =>
        simp only [hkd] at p
        have nn := R.new_ne hpa
        refine ek.held (R.newO (o := .dK []) hpa) upd_same (R.fh.free hpa) nn.1 nn.2 (R.loose_new hpa) q1 fun v1 F1 H1 R1 s1 h1 f1 l1 x1 => ?_
        refine ev.held R1 h1 f1 nn.1 nn.2 l1 q3 fun v2 F2 H2 R2 s2 h2 f2 l2 x2 => ?_
        have ev1 : v1 = kV key := keyD_rep hkd (vw_of R1.fh _ _ x1)
        subst ev1
        refine ⟨h2, [(key, v2)], rfl, by simp, p _ F2 _ (R2.poke f2 nn.1 nn.2 l2 (fun u hu => by rw [h2] at hu; cases hu; exact Own1.wr trivial)) (s1.trans s2) ⟨pa, rfl, f2, nn.1, nn.2, l2.poke, [(key, v2)], upd_same, ⟨v2, [], rfl, x2, rfl⟩⟩⟩
    · simp only [bind_ok, q4, bind_bad] at p
      exact p.elim
  · rw [q2] at p
    exact p.elim
/-! ### x, y = (new, b) -/
def sParO (i j : Nat) (fa fb : En → Res (D × En)) : En → SR := fun r => sBind (fa r) fun p => sBind (noX (fb p.2)) fun q => .nx ((q.2.set i (some (.ow p.1))).set j (some (.fz q.1)))
end
end Dl

set_option Elab.async false
set_option linter.all false
set_option maxRecDepth 100000
set_option maxHeartbeats 4000000
namespace Dl
open PySem L2
theorem nX_ok {α : Type} (a : α) : noX (.ok a) = .ok a := rfl
/-- sorted and of the same things: the same -/
theorem perm_eq {α : Type} {le : α → α → Bool} : ∀ {l m : List α}, l.Perm m → (∀ a ∈ l, ∀ b ∈ l, le a b = true → le b a = true → a = b) → l.Pairwise (fun a b => le a b = true) → m.Pairwise (fun a b => le a b = true) → l = m
  | [], m, h, _, _, _ => (List.nil_perm.mp h).symm ▸ rfl
  | a :: l, m, h, an, h1, h2 => by
    cases m with
    | nil => exact absurd h.symm (by simp)
    | cons b m =>
      have ha : a ∈ b :: m := h.mem_iff.mp (by simp)
      have hb : b ∈ a :: l := h.mem_iff.mpr (by simp)
      have e : a = b := by
        rcases List.mem_cons.mp ha with e | ha'
        · exact e
        · rcases List.mem_cons.mp hb with e | hb'
          · exact e.symm
          · exact an a (by simp) b hb ((List.pairwise_cons.mp h1).1 b hb') ((List.pairwise_cons.mp h2).1 a ha')
      subst e
      rw [perm_eq (List.Perm.cons_inv h) (fun x hx y hy => an x (List.mem_cons_of_mem _ hx) y (List.mem_cons_of_mem _ hy)) (List.pairwise_cons.mp h1).2 (List.pairwise_cons.mp h2).2]
abbrev leD : D → D → Bool := PySem.W.dataLe false toPy
theorem leD_total (a b : D) : (leD a b || leD b a) = true := by
  have := (PySem.W.sortLe_total (PyProof.Rows.listOrd PyProof.Rows.itemOrd) false fun b => PySem.W.keyToks (toPy b)).total a b
  exact Bool.or_eq_true_iff.mpr this
theorem leD_trans (a b c : D) (h : leD a b = true) (k : leD b c = true) : leD a c = true :=
  (PySem.W.sortLe_total (PyProof.Rows.listOrd PyProof.Rows.itemOrd) false fun b => PySem.W.keyToks (toPy b)).trans a b c h k
theorem leD_anti {a b : D} (h : leD a b = true) (k : leD b a = true) : PySem.W.keyToks (toPy a) = PySem.W.keyToks (toPy b) := by
  have h1 : (PyProof.Rows.listOrd PyProof.Rows.itemOrd).blt (PySem.W.keyToks (toPy b)) (PySem.W.keyToks (toPy a)) = false := by
    have z : (!(PyProof.Rows.listOrd PyProof.Rows.itemOrd).blt (PySem.W.keyToks (toPy b)) (PySem.W.keyToks (toPy a))) = true := h
    simpa using z
  have h2 : (PyProof.Rows.listOrd PyProof.Rows.itemOrd).blt (PySem.W.keyToks (toPy a)) (PySem.W.keyToks (toPy b)) = false := by
    have z : (!(PyProof.Rows.listOrd PyProof.Rows.itemOrd).blt (PySem.W.keyToks (toPy a)) (PySem.W.keyToks (toPy b))) = true := k
    simpa using z
  exact (PyProof.Rows.listOrd PyProof.Rows.itemOrd).total _ _ h2 h1
end Dl

set_option Elab.async false
set_option linter.all false
set_option maxRecDepth 100000
set_option maxHeartbeats 4000000
namespace Dl
open PySem L2 PyProof.Rows PySem.Spec
variable [Dl.Tb]
/-! ### list(d), sorted(d) -/
def listK : D → Option D
  | .dk kvs => some (.lst (keysOfD kvs))
  | _ => none
def strK : List (Key × D) → Option (List Str)
  | [] => some []
  | (.inr x, _) :: r => (strK r).map fun l => x :: l
  | _ => none
def sortedK : D → Option D
  | .dk kvs => (match strK kvs with
    | some ks => if ks.length < 64 then some (.lst ((ks.map D.str).mergeSort leD)) else none
    | none => none)
  | _ => none
theorem leD_str (a b : Str) : leD (.str a) (.str b) = !ltCps b.cps.toList a.cps.toList := by
  show (!PyProof.Rows.lexLt PyProof.Rows.itemOrd [.inr b.cps.toList] [.inr a.cps.toList]) = _
  congr 1
  rw [ltCps_eq]
  simp [PyProof.Rows.lexLt, PyProof.Rows.itemLt]
theorem rising_le : ∀ (p : Str) (l : List Str), risingS p l = true → (D.str p :: l.map D.str).Pairwise fun a b => leD a b = true
  | p, [], _ => by simp
  | p, x :: r, h => by
    have h' : (!ltCps x.cps.toList p.cps.toList && risingS x r) = true := h
    rw [Bool.and_eq_true] at h'
    have ih := rising_le x r h'.2
    rw [List.map_cons, List.pairwise_cons]
    refine ⟨fun y hy => ?_, ih⟩
    have e1 : leD (.str p) (.str x) = true := by rw [leD_str]; exact h'.1
    rcases List.mem_cons.mp hy with z | z
    · rw [z]; exact e1
    · exact leD_trans _ _ _ e1 ((List.pairwise_cons.mp ih).1 y z)
theorem sortedS_eq {ys ks : List Str} (h : ys.Perm ks) (s : sortedS ys = true) : ys.map D.str = (ks.map D.str).mergeSort leD := by
  have p2 := List.mergeSort_perm (ks.map D.str) leD
  refine perm_eq (le := leD) ((h.map D.str).trans p2.symm) (fun a ha b hb h1 h2 => ?_) ?_ (List.pairwise_mergeSort leD_trans leD_total _)
  · obtain ⟨x, _, rfl⟩ := List.mem_map.mp ha
    obtain ⟨y, _, rfl⟩ := List.mem_map.mp hb
    have e := leD_anti h1 h2
    have e2 : x.cps.toList = y.cps.toList := by simpa [toPy, PySem.W.keyToks] using e
    have e3 : x.cps = y.cps := Array.toList_inj.mp e2
    cases x
    cases y
    simp only at e3
    rw [e3]
  · cases ys with
    | nil => simp
    | cons x r => exact rising_le x r s
section
variable {X : Cx} {W : WX} {a : Expr} {pos p : Pos} {fa : En → Res (BV × En)}
theorem repL_strs {K : PySem.W.Frag} {mg : Str → Option Value} {F : Hp} : ∀ (ys : List Str), repL K mg F (ys.map D.str) (ys.map V.str)
  | [] => rfl
  | y :: ys => ⟨_, _, rfl, rfl, repL_strs ys⟩
theorem strK_keys {K : PySem.W.Frag} {mg : Str → Option Value} {F : Hp} : ∀ {kvs : List (Key × D)} {ws : List (Key × V)} {ks : List Str}, repK K mg F kvs ws → strK kvs = some ks → ws.map (·.1) = ks.map Sum.inr
  | [], _, _, h, e => by
    cases h
    cases e
    rfl
  | (k, d) :: kvs, _, ks, ⟨w, ws, rfl, h1, h2⟩, e => by
    cases k with
    | inl i => cases e
    | inr x =>
      unfold strK at e
      cases q : strK kvs with
      | none =>
        rw [q] at e
        cases e
      | some l =>
        rw [q] at e
        cases e
        rw [List.map_cons, List.map_cons, strK_keys h2 q]
theorem un_sortedK : UnN X (fun v H Q => ∃ (a : Addr) (kvs : List (Key × V)) (ks : List Str), [v] = [.ref a] ∧ Rd H a (.dK kvs) ∧ kvs.map (·.1) = ks.map Sum.inr ∧ ks.length < 64 ∧
    ∀ ys p, ys.Perm ks → sortedS ys = true → H p = none → Q (.ref p) (upd H p (.lst (ys.map V.str)))) sortedK := by
  intro F H v d z Q s h1 h3 k
  cases d with
  | dk kvs =>
    unfold sortedK at h3
    cases q : strK kvs with
    | none => simp [q] at h3
    | some ks =>
      simp only [q] at h3
      split at h3
      · rename_i hl
        cases h3
        obtain ⟨a, ws, rfl, ha, rw'⟩ := h1
        refine ⟨a, ws, ks, rfl, ha, strK_keys rw' q, hl, fun ys p pe so hp => k p _ hp ⟨_, upd_same, ?_⟩⟩
        rw [← sortedS_eq pe so]
        exact repL_strs ys
      · cases h3
  | _ => cases h3
end
end Dl

set_option Elab.async false
set_option linter.all false
set_option maxRecDepth 100000
set_option maxHeartbeats 4000000
namespace Dl
open PySem L2
variable [Dl.Tb]
def cntD : D → D → Option D
  | .lst ds, x => if isDataL ds = true ∧ isData x = true ∧ (toPy x).depth ≤ 20 then some (.int ((toPyL ds).countP fun y => PyData.eqv y (toPy x) : Nat)) else none
  | _, _ => none
def eCnt (fa fb : En → Res (D × En)) : En → Res (D × En) := fun r => (fa r).bind fun p => (noX (fb p.2)).bind fun q => (liftR (cntD p.1 q.1)).bind fun z => .ok (z, q.2)
section
variable {X : Cx} {W : WX} {k : Nat}
variable {o e : Expr} {apos pos : Pos} {fa fb : En → Res (D × En)}
end
section
variable {X : Cx} {W : WX} {k i : Nat} {y : Str} {q apos pos : Pos} {e : Expr} {fk : En → Res (D × En)}
end
/-! ### repr of a dict of data -/
def pkD : Key → PyData
  | .inl i => .int i
  | .inr x => .str x
def toPyK (kvs : List (Key × D)) : PyData := .dict (kvs.map fun kv => (pkD kv.1, toPy kv.2))
def reprK : D → Option D
  | .dk kvs => if isDataL (kvs.map (·.2)) = true ∧ (toPyK kvs).showable = true ∧ (toPyK kvs).depth ≤ 20 ∧ (toPyK kvs).shown.length ≤ 100000 then some (.str (toPyK kvs).shown) else none
  | _ => none
theorem pairs_keys {P : Program} {w : World} {h : Heap} : ∀ {es : List DictEntry} {kvs : List (Key × Value)}, Pairs (mixKind P w) es kvs → ReadsAll h (es.map (·.key)) (kvs.map fun kv => pkD kv.1) []
  | _, _, .nil => .nil
  | _, _, .cons (e := e) (kv := kv) h1 h2 h3 => by
    rw [List.map_cons, List.map_cons]
    obtain ⟨k, v⟩ := kv
    have q1 : Reads h e.key (pkD k) [] := by
      rcases keyIs_shape h1 with ⟨i, t, e1, e2⟩ | ⟨x, t, e1, e2⟩
      · simp only at e1
        rw [e2, e1]
        exact .int i t
      · simp only at e1
        rw [e2, e1]
        exact .str x t
    exact ReadsAll.cons (as := []) (bs := []) q1 (pairs_keys h3)
theorem pairs_vals {P : Program} {w : World} : ∀ {es : List DictEntry} {kvs : List (Key × Value)}, Pairs (mixKind P w) es kvs → es.map (·.val) = kvs.map (·.2)
  | _, _, .nil => rfl
  | _, _, .cons h1 h2 h3 => by rw [List.map_cons, List.map_cons, h2, pairs_vals h3]
theorem KV.vals : ∀ {kvs : List (Key × V)} {vs : List (Key × Value)}, KV kvs vs → Vals (kvs.map (·.2)) (vs.map (·.2)) := by
  intro kvs vs r
  unfold KV at r
  induction r with
  | nil => exact .nil
  | cons h _ ih => exact .cons h.2 ih
def rReprK (K : PySem.W.Frag) : List V → Hp → VK → Prop := fun xs H Q => ∃ (p : Addr) (ws : List (Key × V)) (ds : List PyData), xs = [.ref p] ∧ Rd H p (.dK ws) ∧ DpAll K H (ws.map (·.2)) ds ∧ PyData.hasDictAll ds = false ∧
  ∃ kvs : List (PyData × PyData), kvs.map (·.1) = ws.map (fun kv => pkD kv.1) ∧ kvs.map (·.2) = ds ∧ (PyData.dict kvs).showable = true ∧ (PyData.dict kvs).depth ≤ 20 ∧ (PyData.dict kvs).shown.length ≤ sizeLine ∧ Q (.str (PyData.dict kvs).shown) H
section
variable {X : Cx} {W : WX} {k : Nat}
theorem noDict_keys {kvs : List (Key × V)} : PyData.hasDictAll (kvs.map fun kv => pkD kv.1) = false := by
  induction kvs with
  | nil => rfl
  | cons p r ih =>
    rw [List.map_cons, PyData.hasDictAll, ih]
    obtain ⟨k, v⟩ := p
    cases k <;> rfl
theorem call_reprK (hr : Room k X.A) : CallR X (.builtin "repr") (rReprK X.K) := by
  intro pins s σ H xs us Q I r h
  obtain ⟨a, ws, ds, rfl, hrd, dps, nd, kvs, ek, ev, hs, dep, hsz, q⟩ := h
  obtain ⟨u, rfl, rx⟩ := vals1 r
  cases rx
  obtain ⟨z, hsys, vs, rel, o, es, ep, h1, hx, h3, hko, hp, _⟩ := dk_rd I.hok hrd
  have h2 := hx.1
  obtain ⟨as, ra⟩ := Dp.readsAll I ds _ _ dps (KV.vals rel)
  have h4 : ReadsAll s.heap (es.toList.map (·.key)) (kvs.map (·.1)) [] := by
    rw [ek]
    have e2 : ws.map (fun kv => pkD kv.1) = vs.map fun kv => pkD kv.1 := by
      have := congrArg (List.map pkD) rel.keys
      rw [List.map_map, List.map_map] at this
      exact this
    rw [e2]
    exact pairs_keys hp
  have h5 : ReadsAll s.heap (es.toList.map (·.val)) (kvs.map (·.2)) as := by
    rw [ev, pairs_vals hp]
    exact ra
  have hz' : (dictText (PyData.shownKv kvs)).length ≤ sizeLine := by simpa only [PyData.shown] using hsz
  obtain ⟨hs1, hs2⟩ := PyData.showableKv_split kvs (by simpa [PyData.showable] using hs)
  obtain ⟨b1, hb1, k1⟩ := ReprAllK.of_readsAll (prog := X.prog) (w := X.w) h4 hs1 (fun hx' => by rw [ek, noDict_keys] at hx'; cases hx') (fun t ht => let ⟨p, hp, hl⟩ := PyData.shownKv_key_le kvs t ht; Nat.le_trans hl (Nat.le_trans (dictText_mem_le hp) hz'))
  obtain ⟨b2, hb2, k2⟩ := ReprAllK.of_readsAll (prog := X.prog) (w := X.w) h5 hs2 (fun hx' => by rw [ev, nd] at hx'; cases hx') (fun t ht => let ⟨p, hp, hl⟩ := PyData.shownKv_val_le kvs t ht; Nat.le_trans hl (Nat.le_trans (dictText_mem_le hp) hz'))
  have hb : ReadAtMost s.heap (PyData.depthKv kvs) (b1 ++ b2) := (hb1.mono (PyData.depthAll_keys_le kvs)).append (hb2.mono (PyData.depthAll_vals_le kvs))
  have hna : a ∉ b1 ++ b2 := not_mem_of_deeper (.dict h1 h2 h3 h4 h5) (by simp only [PyData.depth]; omega) hb
  have hu := hr.un
  have hd' : PyData.depthKv kvs + 1 ≤ 20 := by simpa only [PyData.depth] using dep
  have es' : (PyData.dict kvs).shown = dictText (List.zipWith (fun k v : Str => k ++ ": " ++ v) (PyData.shownAll (kvs.map (·.1))) (PyData.shownAll (kvs.map (·.2)))) := by simp only [PyData.shown, PyData.shownKv_eq]
  refine call_repr_slot (by omega) ⟨o, h1, h2⟩ PySem.F.slot_dict_repr (call_dict_reprK h1 h2 h3 hsys hna (ReprEntriesK.of_two es.toList _ _
    (k1.more_le (fun b hb => List.mem_append_left _ hb) (PyData.depthAll_keys_le kvs)) (k2.more_le (fun b hb => List.mem_append_right _ hb) (PyData.depthAll_vals_le kvs))) hr.gd (fun b _ => Clear.nil b) (by show X.A.units + 1 + _ < cLine; omega) (fun _ _ e => e) (fun h' u tk kp => ⟨_, _, rfl, .str _, H, I.kept (t' := tk) kp, ⟨u, by rw [es']⟩, q⟩) (by rw [← PyData.shownKv_eq]; exact hz'))
theorem repK_vals {K : PySem.W.Frag} {mg : Str → Option Value} {F : Hp} : ∀ {kvs : List (Key × D)} {ws : List (Key × V)}, repK K mg F kvs ws → repL K mg F (kvs.map (·.2)) (ws.map (·.2)) ∧ ws.map (fun kv => pkD kv.1) = kvs.map (fun kv => pkD kv.1)
  | [], _, h => by
    cases h
    exact ⟨rfl, rfl⟩
  | (k, d) :: kvs, _, ⟨w, ws, rfl, h1, h2⟩ => by
    obtain ⟨a, b⟩ := repK_vals h2
    exact ⟨⟨w, _, rfl, h1, a⟩, by rw [List.map_cons, List.map_cons, b]⟩
theorem uv_reprK : UnV X (fun v H Q => rReprK X.K [v] H Q) reprK := by
  intro F H v d z Q s h1 h3 k
  have sz : (100000 : Nat) ≤ sizeLine := by decide
  cases d with
  | dk kvs =>
    simp only [reprK] at h3
    split at h3
    · rename_i c
      cases h3
      obtain ⟨a, ws, rfl, ha, rw'⟩ := h1
      obtain ⟨r1, r2⟩ := repK_vals rw'
      refine ⟨a, ws, _, rfl, ha, rep_dpL s _ _ c.1 r1, noDict_toPyL _, kvs.map (fun (kv : Key × D) => (pkD kv.1, toPy kv.2)), ?_, ?_, c.2.1, c.2.2.1, by have := c.2.2.2; unfold toPyK at this; omega, k _ rfl⟩
      · rw [List.map_map, r2]
        rfl
      · rw [toPyL_map, List.map_map, List.map_map]
        rfl
    · cases h3
  | _ => cases h3
variable {a : Expr} {p pos : Pos} {fa : En → Res (BV × En)}
theorem de_reprA (hr : Room k X.A) (hm : X.mg "repr" = none) (ha : DB X W a fa) (hg : Gl X "repr" := by rfl) (hst : starEach [a] X.env = (false, eval a X.env) :: starEach [] X.env := by rfl) : DE X W (.Call (.Name "repr" p) [a] [] pos) (eUn (orU (orU reprB reprD) reprK) fa) :=
  (de_reprD hr hm ha hg hst).or1 (de_b1 (call_reprK hr) uv_reprK hg hm PyProof.Rows.boot_repr ha hst (by decide) (by decide))
end
end Dl

set_option Elab.async false
set_option linter.all false
set_option maxRecDepth 100000
set_option maxHeartbeats 4000000
namespace Dl
open PySem L2 PyProof.Rows
variable [Dl.Tb]
/-! ### sorted(tuple) -/
mutual
theorem reads_there {h : Heap} : ∀ (d : PyData) {v : Value} {as : List Addr}, Reads h v d as → ∀ b ∈ as, ∃ o, h.get? b = some o
  | .none, _, _, r, b, hb => by cases r; cases hb
  | .bool _, _, _, r, b, hb => by cases r; cases hb
  | .int _, _, _, r, b, hb => by cases r; cases hb
  | .str _, _, _, r, b, hb => by cases r; cases hb
  | .list xs, _, _, r, b, hb => by
    cases r with
    | list h1 h2 h3 h4 =>
      rcases List.mem_cons.mp hb with e | e
      · exact ⟨_, by rw [e]; exact h1⟩
      · exact readsAll_there xs h4 b e
  | .tuple xs, _, _, r, b, hb => by
    cases r with
    | tuple h1 h2 h3 h4 => exact readsAll_there xs h4 b hb
  | .dict kvs, _, _, r, b, hb => by
    cases r with
    | dict h1 h2 h3 h4 h5 =>
      rcases List.mem_append.mp hb with e | e
      · rcases List.mem_cons.mp e with e | e
        · exact ⟨_, by rw [e]; exact h1⟩
        · exact readsK_there kvs h4 b e
      · exact readsV_there kvs h5 b e
theorem readsAll_there {h : Heap} : ∀ (ds : List PyData) {vs : List Value} {as : List Addr}, ReadsAll h vs ds as → ∀ b ∈ as, ∃ o, h.get? b = some o
  | [], _, _, r, b, hb => by cases r; cases hb
  | d :: ds, _, _, r, b, hb => by
    cases r with
    | cons h1 h2 =>
      rcases List.mem_append.mp hb with e | e
      · exact reads_there d h1 b e
      · exact readsAll_there ds h2 b e
theorem readsK_there {h : Heap} : ∀ (ds : List (PyData × PyData)) {vs : List Value} {as : List Addr}, ReadsAll h vs (ds.map (·.1)) as → ∀ b ∈ as, ∃ o, h.get? b = some o
  | [], _, _, r, b, hb => by cases r; cases hb
  | (d, d') :: ds, _, _, r, b, hb => by
    cases r with
    | cons h1 h2 =>
      rcases List.mem_append.mp hb with e | e
      · exact reads_there d h1 b e
      · exact readsK_there ds h2 b e
theorem readsV_there {h : Heap} : ∀ (ds : List (PyData × PyData)) {vs : List Value} {as : List Addr}, ReadsAll h vs (ds.map (·.2)) as → ∀ b ∈ as, ∃ o, h.get? b = some o
  | [], _, _, r, b, hb => by cases r; cases hb
  | (d, d') :: ds, _, _, r, b, hb => by
    cases r with
    | cons h1 h2 =>
      rcases List.mem_append.mp hb with e | e
      · exact reads_there d' h1 b e
      · exact readsV_there ds h2 b e
end
section
variable {prog : Program} {w : World} {A : Around} {E : Value → Shared → Prop} {s : Shared}
theorem sorted_tuple_data {l : Addr} {vs : List Value} {bs : List D} {R : Value → D → Prop} {Q : Value → Shared → Prop} {o : Obj} {n : Nat} (ho : s.heap.get? l = some o) (hc : o.cls = .type "tuple") (hd : o.data = .seq vs.toArray n) (e : PySem.W.EachIs R vs bs)
    (er : PySem.W.EachIs (fun v b => ∃ as, Reads s.heap v (toPy b) as) vs bs) (hal : PySem.W.AllAlike (bs.map toPy)) (hk : PySem.W.Sortable (bs.map toPy)) (hL : bs.length ≤ sizeLine) (hu : ∀ b, b ∈ bs → A.units + 2 + (toPy b).depth < cLine)
    (h : ∀ (h1 : Heap) (out : List Value) (h' : Heap) (c : Nat), (∀ b o, s.heap.get? b = some o → h1.get? b = some o) → out.length = bs.length → PySem.W.EachIs R out (bs.mergeSort (PySem.W.dataLe false toPy)) → (∀ b o, h1.get? b = some o → h'.get? b = some o) → h'.get? h1.objs.size = some (PyProof.Rows.seqObj "list" out.toArray c) → Q (.ref h1.objs.size) { s with heap := h' }) :
    wpAny (model prog w) A (call (.builtin "sorted") [.ref l]) Q E s := by
  have hlen := e.length
  refine Calls.call_function_entry PyProof.Rows.kind_sorted PyProof.Rows.plain_sorted PyProof.Rows.entry_sorted (PyProof.Rows.args_sorted1 _) ?_
  unfold Builtin.«sorted»
  refine wpAny_bind (m := checkCount "sorted" 1 1 _) (wpAny_pure ?_)
  refine wpAny_bind (wpAny_collect_seq l (.inr rfl) ho hc hd (fun h1 k1 => ?_) (by rw [List.size_toArray]; omega))
  refine wpAny_bind (wpAny_newList ?_ (by simpa using (show vs.length ≤ sizeLine by omega)))
  have hoL : (h1.push (PyProof.Rows.seqObj "list" vs.toArray 0)).get? h1.objs.size = some (PyProof.Rows.seqObj "list" vs.toArray 0) := Heap.get?_push_size _ rfl
  have k2 : ∀ b o, s.heap.get? b = some o → (h1.push (PyProof.Rows.seqObj "list" vs.toArray 0)).get? b = some o := fun b o q => Heap.get?_push_of_some _ (k1 b o q)
  show wpAny _ _ _ _ _ { s with heap := h1.push (PyProof.Rows.seqObj "list" vs.toArray 0) }
  have er' : PySem.W.EachIs (fun v b => ∃ as, Reads (h1.push (PyProof.Rows.seqObj "list" vs.toArray 0)) v (toPy b) as ∧ h1.objs.size ∉ as) vs bs := er.mono fun v b ⟨as, r⟩ => ⟨as, PyProof.Rows.Reads.keeps k2 r, fun z => by
    obtain ⟨o', q⟩ := reads_there _ r _ z
    exact Nat.lt_irrefl _ (Heap.lt_size (k1 _ _ q))⟩
  refine wpAny_bind (wpAny_holding (PySem.W.list_sort_data (s := { s with heap := h1.push (PyProof.Rows.seqObj "list" vs.toArray 0) }) hoL e er' hal hk hL (fun b hb => by have := hu b hb; show A.units + 1 + 1 + _ < cLine; omega) fun out h1' h2' => ?_))
  obtain ⟨c, hc'⟩ := PyProof.Rows.sortedHeap_at (out := List.toArray out) hoL
  refine wpAny_pure ⟨_, rfl, h h1 out _ c k1 h1' h2' (fun b o q => ?_) hc'⟩
  have hb : b < h1.objs.size := Heap.lt_size q
  rw [PyProof.Rows.sortedHeap_old (Nat.ne_of_lt hb) (by rw [PyProof.Rows.size_push']; exact Nat.lt_succ_of_lt hb)]
  exact Heap.get?_push_of_some _ q
end
def sortedT : D → Option D
  | .tup ds => if okPyL ds = true ∧ allAlikeB (ds.map toPy) = true ∧ sortableB (ds.map toPy) = true ∧ ds.length ≤ 100000 then some (.lst (ds.mergeSort (PySem.W.dataLe false toPy))) else none
  | _ => none
def rSortT (K : PySem.W.Frag) (mg : Str → Option Value) : List V → Hp → VK → Prop := fun vs H Q => ∃ (a : Addr) (xs : List V) (F : Hp) (ds : List D), vs = [V.ref a] ∧ SqT K H a xs ∧ Same F H ∧ repL K mg F ds xs ∧ okPyL ds = true ∧ allAlikeB (ds.map toPy) = true ∧ sortableB (ds.map toPy) = true ∧ ds.length ≤ 100000 ∧
  ∀ (p : Addr) (ys : List V), H p = none → repL K mg F (ds.mergeSort (PySem.W.dataLe false toPy)) ys → Q (.ref p) (upd H p (.lst ys))
section
variable {X : Cx} {W : WX} {k : Nat}
theorem call_sortT (hu : X.A.units + 67 < cLine) : CallR X (.builtin "sorted") (rSortT X.K X.mg) := by
  intro pins s σ H vs us Q I r h
  obtain ⟨a, xs, F, ds, rfl, ha, sm, rl, ok, al, so, len, q⟩ := h
  rw [Vals.ref1 r]
  obtain ⟨its, rv, ⟨o, ho, hc, n, hd⟩, hz⟩ := I.tuple ha
  refine sorted_tuple_data (bs := ds) ho hc hd (each_of rl rv) (each_reads I sm ok rl rv) (allAlikeB_ok al) (sortableB_ok so) (sl100 len) (fun b hb => ?_) fun h1 out h' c k1 hlen he k2 hp => ?_
  · have q := SeqAt.depth_of_shaped (okPy_parts (List.all_eq_true.mp ok b hb)).2
    omega
  · obtain ⟨ys, h3, h4⟩ := of_each he
    have I1 : L2.Inv X pins σ H { s with heap := h1 } := I.kept (t' := s.toks) k1
    have hl' : ys.length ≤ sizeLine := by rw [repL_len h3, List.length_mergeSort]; exact sl100 len
    exact ⟨.ref _, upd H h1.objs.size (.lst ys), I1.laid (t' := s.toks) k2 (Nat.le_refl _) ⟨hl', out, c, h4, hp⟩, rfl, q _ ys (I1.hok.fresh (Nat.le_refl _)) h3⟩
theorem un_sortT : UnN X (fun v H Q => rSortT X.K X.mg [v] H Q) sortedT := by
  intro F H v d z Q s h1 h3 k
  unfold sortedT at h3
  split at h3
  · split at h3
    · rename_i hc
      cases h3
      obtain ⟨a, xs, rfl, ha, ra⟩ := h1
      exact ⟨a, xs, F, _, rfl, ha, s, ra, hc.1, hc.2.1, hc.2.2.1, hc.2.2.2, fun p ys hp hr => k p _ hp ⟨ys, upd_same, hr⟩⟩
    · cases h3
  · cases h3
variable {a : Expr} {pos p : Pos} {fa : En → Res (BV × En)}
theorem dn_sortedB (hc : X.calm = true) (hr : Room k X.A) (hm : X.mg "sorted" = none) (ha : DB X W a fa) (hg : Gl X "sorted" := by rfl) (hst : starEach [a] X.env = (false, eval a X.env) :: starEach [] X.env := by rfl) : DN X W (.Call (.Name "sorted" p) [a] [] pos) (eUn (orU (orU sortedD sortedT) sortedK) fa) :=
  ((dn_sorted hr hm ha hg hst).or1 (dn_b1 (call_sortT (by have := Room.u200 hr; omega)) un_sortT hg hm PyProof.Rows.boot_sorted ha hst (by decide) (by decide))).or1 (dn_b1 (call_sortedD hc) un_sortedK hg hm PyProof.Rows.boot_sorted ha hst (by decide) (by decide))
end
end Dl

set_option Elab.async false
set_option linter.all false
set_option maxRecDepth 100000
set_option maxHeartbeats 4000000
namespace Dl
open PySem L2 PyProof.Rows ItX
variable [Dl.Tb]
/-! ### an own __iter__ that returns iter(self.n), n a sealed dict -/
/-- at it stands a new iterator over the keys of d -/
def KyO (d it : Addr) (o : Obj) (n : Nat) : HO := .ext fun h => ∃ es ep, o.data = .dict es ep ∧ h.IsKeyIter it d 0 n ep
/-- what such a def promises -/
def spIt (mg : Str → Option Value) (c n : Str) (N : Nat) : Sp := fun vs H Q _ => ∃ (a C dx : Addr) (ws : List (Str × V)) (d : Addr) (o : Obj) (kvs : List (Key × V)), vs = [.ref a] ∧ mg c = some (.ref C) ∧ H a = some (.ins C dx ws) ∧ ws.lookup n = some (.ref d) ∧ H d = some (.frz o (.dK kvs)) ∧
  ∀ it, H it = none → N ≤ it → Q (.ref it) (upd H it (KyO d it o kvs.length))
section
variable {X : Cx}
end
structure FnN (P : Program) (w : World) (K : PySem.W.Frag) (mg : Str → Option Value) (base : Heap) (CX : CXT) (k : Nat) (f : Addr) (fd : FuncData) (ps : List Str) (sp : Nat → Sp) : Prop where
  run : ∀ (N : Nat) (A : Around) (outer : List Env) (s : Shared) (H : Hp) (args : Args) (us : List Value) (vs : List V) (Q : VK) (E : XK), N ≤ s.heap.objs.size →
    Room k A → Env0 P w K mg base A outer s H → BindsTo s fd args (ps.zip us) → Vals vs us → sp N vs H Q E → codeAny (model P w) A (.call (.ref f) args) (CR CX outer P w H s Q E) s
section
variable {P : Program} {w : World} {K : PySem.W.Frag} {mg : Str → Option Value} {base : Heap} {k : Nat} {f : Addr} {fd : FuncData} {ps : List Str}
variable (P w K mg base)
structure CalI (k : Nat) (f : Addr) (c n : Str) : Prop where
  ex : ∃ (fd : FuncData) (ps : List Str), FnN P w K mg base (L2.CX P w) k f fd ps (spIt mg c n) ∧ Binds K fd ps [] ∧ ps.length = 1
end
section
variable {P : Program} {w : World} {K : PySem.W.Frag} {mg : Str → Option Value} {base : Heap} {x qual self c n : Str} {params : Arguments} {body : List Stmt} {scope : Scope} {f : Addr} {fd : FuncData} {p p1 p2 pos pos' : Pos}
end
/-! ### for x in o -/
def iOwn (c n : Str) (f : En → Res (D × En)) : En → Res (List D × En) := fun r => (f r).bind fun p => match p.1 with
  | .ins c' fs => if c' = c then (match fs.lookup n with
    | some (.dk kvs) => .ok (keysOfD kvs, p.2)
    | _ => .bad) else .bad
  | _ => .bad
section
variable {X : Cx} {W : WX} {tg e : Expr} {c n : Str} {C f : Addr} {k j : Nat} {ff : En → Res (D × En)} {te : TE}
end
end Dl

set_option Elab.async false
set_option linter.all false
set_option maxRecDepth 100000
set_option maxHeartbeats 4000000
namespace Dl
open PySem L2 PyProof.Rows PpSet
variable [Dl.Tb]
/-! ### {e for .. in .. for .. in ..}: a set of numbers and texts -/
def dedL (ks : List Key) : List Key := ks.foldl dedS []
/-- at a stands the set of the ks -/
def SeO (P : Program) (w : World) (a : Addr) (ks : List Key) : HO := .ext fun h => h.SetOf (mixKind P w) a (memS (dedL ks)) (dedL ks).length
theorem seO_wr {P : Program} {w : World} {a : Addr} {ks : List Key} : Wr (SeO P w a ks) := by
  refine ⟨fun ps z => (by unfold SeO at z; cases z), fun c q z => ?_⟩
  unfold SeO LamX.CodeO at z
  have z' := HO.ext.inj z
  let oc : Obj := { cls := .none, data := .fields #[.none, .str q default] }
  let h : Heap := { objs := Array.replicate (c + 1) oc }
  have hg : ∀ b o, h.get? b = some o → o = oc := fun b o e => by
    unfold Heap.get? at e
    have e1 : h.objs[b]? = if b < c + 1 then some oc else none := by
      show (Array.replicate (c + 1) oc)[b]? = _
      rw [Array.getElem?_replicate]
    rw [e1] at e
    by_cases l : b < c + 1
    · rw [if_pos l] at e
      have e' : some oc = some o := e
      exact (Option.some.inj e').symm
    · rw [if_neg l] at e
      have e' : (none : Option Obj) = some o := e
      cases e'
  have hc : h.get? c = some oc := by
    unfold Heap.get?
    have e1 : h.objs[c]? = some oc := by
      show (Array.replicate (c + 1) oc)[c]? = _
      rw [Array.getElem?_replicate, if_pos (Nat.lt_succ_self c)]
    rw [e1]
  have yes : (fun h : Heap => ∃ (oc : Obj) (vs : Array Value) (t : Tok), h.get? c = some oc ∧ oc.data = .fields vs ∧ vs[1]? = some (.str q t)) h := ⟨oc, _, default, hc, rfl, rfl⟩
  rw [← z'] at yes
  obtain ⟨o, es, ep, t, ho, hd, r⟩ := yes
  have z1 : o.data = .set es ep t := r.1
  rw [hg _ _ ho] at z1
  cases (show Data.fields #[Value.none, Value.str q default] = Data.set es ep t from z1)
section
variable {X : Cx} {pins : List (Addr × Obj)} {σ : L2.St} {H : Hp} {s : Shared} {D : Addr} {ks : List Key}
end
/-! the turns -/
section
variable {prog : Program} {w : World} {A : Around} {R : Result → Shared → Prop} {s : Shared} {elt t0 i0 t1 i1 : Expr} {scope : Scope} {pos : Pos} {it acc : Value} {env : Env}
abbrev nb (prog : Program) (w : World) (A : Around) (env : Env) (R : Result → Shared → Prop) : Value → Shared → Prop := notedBy (model prog w) A env fun e s' => R (.error e) s'
end
end Dl

set_option Elab.async false
set_option linter.all false
set_option maxRecDepth 100000
set_option maxHeartbeats 4000000
namespace Dl
open PySem L2 PyProof.Rows PpSet
variable [Dl.Tb]
section
variable {X : Cx}
end
end Dl

set_option Elab.async false
set_option linter.all false
set_option maxRecDepth 100000
set_option maxHeartbeats 4000000
namespace Dl
open PySem L2 PyProof.Rows PpSet
variable [Dl.Tb]
end Dl

set_option Elab.async false
set_option linter.all false
set_option maxRecDepth 100000
set_option maxHeartbeats 4000000
namespace Dl
open PySem L2 PyProof.Rows PpSet
variable [Dl.Tb]
section
variable {X : Cx} {W : WX}
end
end Dl

set_option Elab.async false
set_option linter.all false
set_option maxRecDepth 100000
set_option maxHeartbeats 4000000
namespace Dl
open PySem L2
variable [Dl.Tb]
section
variable {prog : Program} {w : World} {A : Around} {E : Value → Shared → Prop} {s : Shared}
end
end Dl

set_option Elab.async false
set_option linter.all false
set_option maxRecDepth 100000
set_option maxHeartbeats 4000000
namespace Dl
open PySem L2
variable [Dl.Tb]
/-! ### len(set(t)), t a tuple -/
def lenSetT : D → Option D
  | .tup ds => match keysD ds with
    | some ks => if ks.length ≤ 1000 then some (.int (ks.foldl dedS []).length) else none
    | none => none
  | _ => none
section
variable {X : Cx} {W : WX} {a b e e2 : Expr} {pos p pos2 p2 : Pos} {fa fb : En → Res (BV × En)} {k : Nat}
end
end Dl

set_option Elab.async false
set_option linter.all false
set_option maxRecDepth 100000
set_option maxHeartbeats 4000000
namespace Dl
open PySem L2
variable [Dl.Tb]
section
variable {X : Cx}
end
section
variable {X : Cx} {W : WX} {e : Expr} {y : Str} {i : Nat} {pos pos' apos q : Pos} {f : En → Res (D × En)}
/-- one of two ways -/
def sAlt (a b : En → SR) : En → SR := fun r => match a r with
  | .bad => b r
  | x => x
theorem DS.alt {st : Stmt} {a b : En → SR} (ha : DS X W st a) (hb : DS X W st b) : DS X W st (sAlt a b) := by
  obtain ⟨t, hp, he⟩ := ha.ex
  obtain ⟨u, kp, ke⟩ := hb.ex
  refine ⟨fun D σ H => t D σ H ∨ u D σ H, ⟨fun pins s σ H D I h => h.elim (hp.run pins s σ H D I) (kp.run pins s σ H D I)⟩, fun B F H r σ Z R p => ?_⟩
  unfold sAlt at p
  cases q : a r with
  | bad =>
    rw [q] at p
    exact .inr (ke B F H r σ Z R p)
  | _ =>
    rw [q] at p
    exact .inl (he B F H r σ Z R (by rw [q]; exact p))
end
end Dl

set_option Elab.async false
set_option linter.all false
set_option maxRecDepth 100000
set_option maxHeartbeats 4000000
/-! ### exceptions of own classes over any built-in class: their fields -/
namespace Dl
open PySem PySem.W PySem.Calls PyProof.Rows PySem.HandSPX Builtin Builtin.ObjectAttr
section
variable {prog : Program} {w : World} {A : Around} {E : Value → Shared → Prop} {R : Result → Shared → Prop} {hh : Heap} {gs : Array GenState} {dr : Drawn} {t : Nat} {os : OsState}
/-- what is asked of a class's row of classes -/
structure Mro (l : List Value) : Prop where
  ne : l.isEmpty = false
  ob : l.contains (.type "object") = true
  ps : ∀ self, refuseLoop self "__setattr__" l = pure ()
theorem Mro.cons {C : Addr} {l : List Value} (m : Mro l) : Mro (.ref C :: l) := ⟨rfl, by rw [List.contains_cons, m.ob, Bool.or_true], fun self => by rw [refuseLoop_ref]; exact m.ps self⟩
/-- the first field -/
theorem fld_first {K : W.Frag} {name : Str} {tk : Tok} {v : Value} {x C : Addr} {fv : Array Value} {cd : ClassData} (KX : K.In hh) (hx : hh.get? x = some { cls := .ref C, data := .fields fv })
    (hcd : W.clsIn K C = some cd) (m : Mro cd.mro) (hasD : cd.hasDict = true) (no : W.findIn K (.ref C) name = some none)
    (hq : ∀ h2 tk2 dd, (∀ b o, b ≠ x → hh.get? b = some o → h2.get? b = some o) → hh.objs.size ≤ dd → dd ≠ x → h2.get? x = some { cls := .ref C, dict := some dd, data := .fields fv } →
      h2.Ns1 dd (fun y => if y = name then some v else none) → R (.ok (.ret .none)) ⟨h2, gs, dr, tk2, os⟩) :
    codeAny (model prog w) A (.call (.builtin "object.__setattr__") ⟨[.ref x, .str name tk, v], []⟩) R ⟨hh, gs, dr, t, os⟩ := by
  have at_ : W.InstAt hh x { cls := .ref C, data := .fields fv } C none := ⟨hx, rfl, rfl, trivial⟩
  have far : x ≠ hh.objs.size := Nat.ne_of_lt (Heap.lt_size hx)
  have isO : W.Looks (model prog w) hh (isInstance (.ref x) (.type "object")) true := by
    refine at_.type.andThen (W.looks_mroIn KX ?_)
    unfold W.mroIn
    rw [hcd, Option.bind_some, if_neg (by rw [m.ne]; decide), m.ob]
  refine codeAny_call_builtin F.store_object.slot.plain F.store_object.entry ?_
  refine @W.check_slot (model prog w) _ _ ⟨hh, gs, dr, t, os⟩ "object.__setattr__" "object" "__setattr__" (.ref x) [.str name tk, v] [] _ F.store_object.kind F.store_object.split isO (F.store_object.args _ _ _) ?_
  have lm : W.Looks (model prog w) hh (mroOf (.ref C)) cd.mro := (W.looks_clsIn KX hcd).andThen .now
  have lt : W.Looks (model prog w) hh (storeTaker? none) none := .now
  have lc : W.Looks (model prog w) hh (classData C) cd := W.looks_clsIn KX hcd
  rw [W.osa_eq, refuse_eq]
  refine wpAny_bind (wpAny_bind (at_.type.at (wpAny_bind (lm.at ?_))))
  rw [m.ps]
  refine wpAny_pure (wpAny_bind (at_.type.at (wpAny_bind ((W.looks_findIn KX no).at (wpAny_bind (lt.at ?_))))))
  show wpAny _ _ (storeInOwnDict (.ref x) (.ref C) (.str name tk) name v false) _ _ _
  cases cd with
  | mk c1 c2 c3 c4 c5 c6 c7 c8 c9 c10 c11 =>
    dsimp only at hasD
    subst hasD
    unfold storeInOwnDict ownDictForStores
    repeat (first | with_reducible refine store_in_new ?_ ?_ | with_reducible refine wpAny_loadPart_at hx ?_ | with_reducible refine lc.at ?_ | wp_step)
    · refine ⟨_, #[], _, (Heap.get?_update_ne _ _ _ _ far.symm).trans (Heap.get?_push_at rfl rfl), rfl, fun z hz => ?_, fun _ => rfl⟩
      simp at hz
    · intro h2 tk2 ns2 same
      have there := Heap.get?_push_of_some ({ cls := .type "dict", data := .dict #[] } : Obj) hx
      refine hq h2 tk2 _ (fun b o nb ob => ?_) (Nat.le_refl _) far.symm ?_ ns2
      · rw [same.2 b (Nat.ne_of_lt (Heap.lt_size ob)), Heap.get?_update_ne _ _ _ _ nb]
        exact Heap.get?_push_of_some _ ob
      · rw [same.2 x far]
        exact Heap.get?_update_self _ there rfl
/-- a further field -/
theorem fld_more {K : W.Frag} {name : Str} {tk : Tok} {v : Value} {x C dd : Addr} {fv : Array Value} {cd : ClassData} {m0 : Str → Option Value} {nl : List Str} (KX : K.In hh)
    (hx : hh.get? x = some { cls := .ref C, dict := some dd, data := .fields fv }) (hns : hh.Ns1 dd m0) (hw : Within m0 nl) (hz : nl.length ≤ 1000) (hcd : W.clsIn K C = some cd) (m : Mro cd.mro) (hasD : cd.hasDict = true)
    (no : W.findIn K (.ref C) name = some none)
    (hq : ∀ h2 tk2, (∀ b o, b ≠ dd → hh.get? b = some o → h2.get? b = some o) → h2.Ns1 dd (fun y => if y = name then some v else m0 y) → R (.ok (.ret .none)) ⟨h2, gs, dr, tk2, os⟩) :
    codeAny (model prog w) A (.call (.builtin "object.__setattr__") ⟨[.ref x, .str name tk, v], []⟩) R ⟨hh, gs, dr, t, os⟩ := by
  obtain ⟨oD, _, _, hoD, _, _⟩ := hns.count hw
  have at_ : W.InstAt hh x { cls := .ref C, dict := some dd, data := .fields fv } C (some oD) := ⟨hx, rfl, rfl, hoD⟩
  have isO : W.Looks (model prog w) hh (isInstance (.ref x) (.type "object")) true := by
    refine at_.type.andThen (W.looks_mroIn KX ?_)
    unfold W.mroIn
    rw [hcd, Option.bind_some, if_neg (by rw [m.ne]; decide), m.ob]
  refine codeAny_call_builtin F.store_object.slot.plain F.store_object.entry ?_
  refine @W.check_slot (model prog w) _ _ ⟨hh, gs, dr, t, os⟩ "object.__setattr__" "object" "__setattr__" (.ref x) [.str name tk, v] [] _ F.store_object.kind F.store_object.split isO (F.store_object.args _ _ _) ?_
  have lm : W.Looks (model prog w) hh (mroOf (.ref C)) cd.mro := (W.looks_clsIn KX hcd).andThen .now
  have lt : W.Looks (model prog w) hh (storeTaker? none) none := .now
  have lc : W.Looks (model prog w) hh (classData C) cd := W.looks_clsIn KX hcd
  rw [W.osa_eq, refuse_eq]
  refine wpAny_bind (wpAny_bind (at_.type.at (wpAny_bind (lm.at ?_))))
  rw [m.ps]
  refine wpAny_pure (wpAny_bind (at_.type.at (wpAny_bind ((W.looks_findIn KX no).at (wpAny_bind (lt.at ?_))))))
  show wpAny _ _ (storeInOwnDict (.ref x) (.ref C) (.str name tk) name v false) _ _ _
  cases cd with
  | mk c1 c2 c3 c4 c5 c6 c7 c8 c9 c10 c11 =>
    dsimp only at hasD
    subst hasD
    unfold storeInOwnDict ownDictForStores
    repeat (first | with_reducible refine OEX.store_in_old hns hw hz ?_ | with_reducible refine wpAny_loadPart_at hx ?_ | with_reducible refine lc.at ?_ | wp_step)
    intro h2 tk2 ns2 same
    exact hq h2 tk2 (fun b o nb ob => by rw [same.2 b nb]; exact ob) ns2
end
end Dl

set_option Elab.async false
set_option linter.all false
set_option maxRecDepth 100000
set_option maxHeartbeats 4000000
namespace Dl
open PySem PySem.Spec PyProof.Rows L2
/-- what the written part says of an own exception class, over any built-in one -/
structure OexG (K : PySem.W.Frag) (C : Addr) : Prop where
  cls : ∃ nm q N bs bm sn sub ab col dd k0 k1 k2 k3 k5 Bn newId initId bmB, K.lookup C = some (excClassObj nm q C N bs bm true sn sub ab col dd k0 k1 k2 k3 k5 newId) ∧ ExcBaseFacts Bn newId initId bmB ∧ (∀ Y : String, bm.contains (.type Y) = bmB.contains (.type Y)) ∧ Mro bm
  sa : PySem.W.findIn K (.ref C) "__setattr__" = some (some (.builtin "object.__setattr__"))
  exC : PySem.W.subIn K (.ref C) (.type "BaseException") = some true
  tyC : PySem.W.typeIn K (.ref C) = some (.type "type")
  kC : PySem.W.keepIn K (.ref C) = true
theorem OexG.data {K : PySem.W.Frag} {C : Addr} (T : OexG K C) : ∃ cd, PySem.W.clsIn K C = some cd ∧ Mro cd.mro ∧ cd.hasDict = true := by
  obtain ⟨nm, q, N, bs, bm, sn, sub, ab, col, dd, k0, k1, k2, k3, k5, Bn, newId, initId, bmB, hC, _, _, m⟩ := T.cls
  refine ⟨{ name := nm, bases := bs, mro := .ref C :: bm, ns := N, qualname := q, hasDict := true, slotNames := sn, subclasses := sub, abstract := ab, collection := col, hasDel := false }, ?_, m.cons (C := C), rfl⟩
  unfold PySem.W.clsIn
  rw [hC] <;> rfl
section
variable {X : Cx} {pins : List (Addr × Obj)} {σ : L2.St} {H : Hp} {s : Shared} {a C dx : Addr} {f : Str} {y : V} {u : Value} {fs : List (Str × V)} {Q : Unit → Shared → Prop} {E : Value → Shared → Prop} {A : Around}
theorem xs_first (T : OexG X.K C) (I : Inv X pins σ H s) (e : H a = some (exo a C none)) (no : PySem.W.findIn X.K (.ref C) f = some none) (ry : RelV y u)
    (k : ∀ dd s2, H dd = none → dd ≠ a → Inv X pins σ (upd (upd H dd (exd dd [(f, y)])) a (exo a C (some dd))) s2 → Q () s2) : wpAny (model X.prog X.w) A (setAttr (.ref a) f u) Q E s := by
  obtain ⟨cd, hcd, m, hasD⟩ := T.data
  obtain ⟨t1, ho⟩ := exo_at I.hok e
  obtain ⟨hh, gs, dr, tk, os⟩ := s
  refine PySem.W.set_plain I.kIn (ox := { cls := .ref C, dict := none, data := .fields #[.ref t1, .none, .none, .none, .bool false, .none] }) (od := none) ⟨ho, rfl, rfl, trivial⟩ T.sa ?_
  refine fld_first I.kIn ho hcd m hasD no fun h2 tk2 dd kp big ne hx ns => ?_
  have free : H dd = none := I.hok.fresh big
  have old : ∀ {b : Addr} {o : Obj}, hh.get? b = some o → b ≠ dd := fun {b o} z => Nat.ne_of_lt (Nat.lt_of_lt_of_le (Heap.lt_size z) big)
  have nota : ∀ {b : Addr}, H b = none → b ≠ a := fun {b} n z => by
    rw [z, e] at n
    cases n
  have same : ∀ {b : Addr} {o : HO}, b ≠ a → H b = some o → upd (upd H dd (exd dd [(f, y)])) a (exo a C (some dd)) b = some o := fun {b o} nb z => by
    rw [upd_ne nb, upd_ne (ne_of_none z free)]
    exact z
  refine k dd _ free ne (I.un (t' := tk2) { keep := ?_, slot := ?_, free := ?_, there := ?_, tups := ?_, frzs := ?_, tbls := ?_ } ?_)
  · exact fun b o z n _ _ => kp b o (nota n) z
  · exact fun b o z n _ _ => ⟨o.slots, kp b o (nota n) z⟩
  · intro b o z n _
    rw [upd_ne (nota n), upd_ne (old z)]
    exact n
  · intro b o z _
    by_cases hb : b = a
    · rw [hb]
      exact ⟨_, hx⟩
    · exact ⟨o, kp b o hb z⟩
  · exact fun b xs z => same (at_ne e z exo_tup) z
  · exact fun b o v z => same (at_ne e z exo_frz) z
  · intro b ps z
    refine ⟨#[], ?_⟩
    rw [same (at_ne e z exo_tbl) z]
    simp
  · intro b o z
    by_cases hb : b = a
    · subst hb
      rw [upd_same] at z
      cases z
      exact exo_ok hx
    rw [upd_ne hb] at z
    by_cases hd : b = dd
    · subst hd
      rw [upd_same] at z
      cases z
      exact exd_ok ns (relO_put (fs := []) ry fun _ => True.intro)
    rw [upd_ne hd] at z
    refine (I.hok b o z).stay (fun c v hc w => kp c v ?_ w) (fun c hc => same (at_ne e hc exo_own) hc) (fun c xs hc => same (at_ne e hc exo_tup) hc)
    rcases hc with hc | hc
    · rw [hc]
      exact hb
    · exact at_ne e hc exo_own
theorem xs_more (T : OexG X.K C) (I : Inv X pins σ H s) (e : H a = some (exo a C (some dx))) (ed : H dx = some (exd dx fs)) (hl : fs.length ≤ 900) (no : PySem.W.findIn X.K (.ref C) f = some none) (ry : RelV y u)
    (k : ∀ s2, Inv X pins σ (upd H dx (exd dx ((f, y) :: fs))) s2 → Q () s2) : wpAny (model X.prog X.w) A (setAttr (.ref a) f u) Q E s := by
  obtain ⟨cd, hcd, m, hasD⟩ := T.data
  obtain ⟨t1, ho⟩ := exo_at I.hok e
  obtain ⟨mA, ns, rel⟩ := exd_at I.hok ed
  obtain ⟨hh, gs, dr, tk, os⟩ := s
  obtain ⟨oD, _, _, hoD, _, _⟩ := ns.count (within_of rel)
  refine PySem.W.set_plain I.kIn (ox := { cls := .ref C, dict := some dx, data := .fields #[.ref t1, .none, .none, .none, .bool false, .none] }) (od := some oD) ⟨ho, rfl, rfl, hoD⟩ T.sa ?_
  refine fld_more I.kIn ho ns (within_of rel) (by rw [List.length_map]; omega) hcd m hasD no fun h2 tk2 kp ns2 => ?_
  obtain ⟨o2, _, _, e2, _⟩ := id ns2
  refine k _ (I.write (t' := tk2) (x := dx) (e := dx) (o := exd dx ((f, y) :: fs)) ?_ (.inl rfl) kp ⟨o2, e2⟩ (exd_ok ns2 (relO_put ry rel)))
  rw [ed]
  exact True.intro
end
/-- self.f = e, in such a class's __init__ -/
def tXs (K : PySem.W.Frag) (f : Str) (to te : TE) : TS := fun D σ H => te σ H fun y H1 => to σ H1 fun x H2 => ∃ a C : Addr, x = .ref a ∧ OexG K C ∧ PySem.W.findIn K (.ref C) f = some none ∧
  ((H2 a = some (exo a C none) ∧ ∀ dx, H2 dx = none → dx ≠ a → D.nx σ (upd (upd H2 dx (exd dx [(f, y)])) a (exo a C (some dx)))) ∨
    ∃ (dx : Addr) (fs : List (Str × V)), H2 a = some (exo a C (some dx)) ∧ H2 dx = some (exd dx fs) ∧ fs.length ≤ 900 ∧ D.nx σ (upd H2 dx (exd dx ((f, y) :: fs))))
section
variable [Dl.Tb] {X : Cx} {o e : Expr} {es : List Expr} {to te : TE} {ta : TA} {f : Str} {p p' pos : Pos}
theorem ps_xs (ho : PE X o to) (he : PE X e te) (hs : swapsWith e (some (.Attribute o f p')) pos.line X.env = pure false := by rfl) : PS X (.Assign [.Attribute o f p'] e pos) (tXs X.K f to te) := by
  refine ⟨fun pins s σ H D I h => plainObj_wpAny_Assign_Attribute (thn (he.run pins s σ H _ I h) fun v s1 hv => ?_) hs⟩
  obtain ⟨y, H1, I1, r1, q1⟩ := hv
  refine thn (ho.run pins s1 σ H1 _ I1 q1) fun u s2 hu => ?_
  obtain ⟨x, H2, I2, r2, a, C, ex, T, no, q⟩ := hu
  subst ex
  obtain rfl : u = Value.ref a := r2
  rcases q with ⟨ea, q⟩ | ⟨dx, fs, ea, ed, hl, q⟩
  · exact xs_first T I2 ea no r1 fun dd s3 n ne J => ⟨σ, _, J, q dd n ne⟩
  · exact xs_more T I2 ea ed hl no r1 fun s3 J => ⟨σ, _, J, q⟩
/-- C(e, ..) -/
theorem pmk_x {CX : CXT} {x : Str} {C fI : Addr} {k : Nat} {fd : FuncData} {ps : List Str} {sp : Sp} (T : OexG X.K C) (iC : PySem.W.findIn X.K (.ref C) "__init__" = some (some (.ref fI))) (tI : PySem.W.typeIn X.K (.ref fI) = some (.type "function"))
    (F1 : FnOk X.prog X.w X.K X.mg X.base CX k fI fd ps sp) (hr : Room (k + 1) X.A) (hb : Binds X.K fd ps []) (hx : Passes CX X (fun _ _ _ => False)) (hg : Gl X x) (hm : X.mg x = some (.ref C)) (ha : PA X (e :: es) ta)
    (hdb : (x == ("__debug__" : Str)) = false := by decide) (he : starEach (e :: es) X.env = (false, eval e X.env) :: starEach es X.env := by rfl) (hpl : (backTo pos (starEach es X.env)).any (·.1) = false := by rfl) :
    PMk X (.Call (.Name x p) (e :: es) [] pos) (tMkO C sp [] ta) := by
  intro pins s σ H Q I h
  obtain ⟨nm, q, N, bs, bm, sn, sub, ab, col, dd, k0, k1, k2, k3, k5, Bn, newId, initId, bmB, hC, FB, hT, _⟩ := T.cls
  refine wpAny_Call_Name_kw (ld_glob I hg hm ?_ hdb)
  refine PySem.W.callWith_K (h₀ := X.base) I.ok.mod.kin T.kC (thn (ha.run pos pins s σ H _ I h) fun us s1 hu => ?_) he hpl
  obtain ⟨vs, H1, I1, r1, hz, q1⟩ := hu
  refine ⟨I1.kIn, ?_⟩
  show wpAny _ _ (call (.ref C) us) _ _ _
  obtain ⟨hh, gs, dr, tk, os⟩ := s1
  have big : hh.objs.size ≤ hh.objs.size + 1 := Nat.le_succ _
  have fresh : H1 (hh.objs.size + 1) = none := I1.hok.fresh big
  have run := q1 (hh.objs.size + 1) fresh
  generalize hG : (hh.push (PySem.W.kdv_tup us)).push (PySem.HandSPX.excO C hh.objs.size) = G
  have up : ∀ b o, hh.get? b = some o → G.get? b = some o := fun b o z => by
    rw [← hG]
    exact Heap.get?_push_of_some _ (Heap.get?_push_of_some _ z)
  have new : G.get? (hh.objs.size + 1) = some (PySem.HandSPX.excO C hh.objs.size) := by
    rw [← hG]
    heap_get
  have I2 := I1.laid (t' := tk) (a := hh.objs.size + 1) (o := exo (hh.objs.size + 1) C none) (h' := G) up big (exo_ok new)
  have r2 : Vals (V.ref (hh.objs.size + 1) :: (vs ++ [])) (Value.ref (hh.objs.size + 1) :: us) := by
    rw [List.append_nil]
    exact .cons rfl r1
  have len : (Value.ref (hh.objs.size + 1) :: us).length = ps.length := by
    have z := r2.length
    rw [F1.len _ _ _ _ run] at z
    exact z.symm
  have few : us.length ≤ sizeLine := by
    rw [← Paired.length r1, sizeLine_eq]
    omega
  refine wpAny_call (PySem.HandSPX.call_own FB hT (I1.kIn _ _ hC) (PySem.W.looks_findIn I1.kIn iC) (fun self => PySem.W.bind_fn I1.kIn self tI) few ?_)
  rw [hG]
  refine codeAny_mono (F1.run _ X.stack _ _ ⟨Value.ref (hh.objs.size + 1) :: us, []⟩ (Value.ref (hh.objs.size + 1) :: us) _ _ (fun _ _ _ => False) (hr.make C us []) (I2.env0.make C us []) ?_ r2 run) fun r s3 hr3 => ?_
  · have z := hb _ (Value.ref (hh.objs.size + 1) :: us) I2.kIn (by rw [List.append_nil]; exact len)
    rw [List.append_nil] at z
    exact z
  · cases r with
    | error er => exact hx pins σ _ _ er s3 I2 hr3
    | ok fl =>
      cases fl with
      | ret u =>
        obtain ⟨v, H2, os2, bare, un, hok, rv, ev, d, fs, ea, ed, hd, q2⟩ := hr3
        subst ev
        obtain ⟨h3, g3, d3, t3, os3⟩ := s3
        exact ⟨rv, mk_end (L2.raises_own T.exC T.tyC) I1 big up un hok os2 bare ea ed hd q2⟩
      | next => exact False.elim hr3
      | brk => exact False.elim hr3
      | cont => exact False.elim hr3
end
end Dl

set_option Elab.async false
set_option linter.all false
set_option maxRecDepth 100000
set_option maxHeartbeats 4000000
namespace Dl
open PySem PySem.Spec PyProof.Rows L2
variable [Dl.Tb]
/-! ### raise C(..) -/
/-- an exception's __init__, which keeps its arguments as fields -/
def spX (C : Addr) (ns : List Str) : Sp := fun vs H Q _ => ∃ a ws, vs = .ref a :: ws ∧ ws.length = ns.length ∧ H a = some (exo a C none) ∧
  ∀ dd, H dd = none → dd ≠ a → Q .non (upd (upd H dd (exd dd (ns.zip ws).reverse)) a (exo a C (some dd)))
structure XIni (P : Program) (w : World) (K : PySem.W.Frag) (mg : Str → Option Value) (base : Heap) (k : Nat) (C : Addr) (ns : List Str) : Prop where
  T : OexG K C
  ex : ∃ (fI : Addr) (fd : FuncData) (ps : List Str), FnOk P w K mg base (L2.CX P w) k fI fd ps (spX C ns) ∧ Binds K fd ps [] ∧ PySem.W.findIn K (.ref C) "__init__" = some (some (.ref fI)) ∧ PySem.W.typeIn K (.ref fI) = some (.type "function")
section
variable {P : Program} {w : World} {K : PySem.W.Frag} {mg : Str → Option Value} {base : Heap} {x qual : Str} {params : Arguments} {scope : Scope} {fI C : Addr} {fd : FuncData} {k : Nat} {y v v2 f f2 : Str} {p1 p2 p3 pos q1 q2 q3 qos : Pos}
theorem fn_x1 (F : FunD K x qual params [.Assign [.Attribute (.Name y p1) f p2] (.Name v p3) pos] scope [] [] fI fd) (S : FnScope [y, v] [y, v] scope) (T : OexG K C) (no : PySem.W.findIn K (.ref C) f = some none)
    (hy : Vis scope y) (hv : Vis scope v) (dy : (y == ("__debug__" : Str)) = false) (cy : (y == ("__classdict__" : Str)) = false) (dv : (v == ("__debug__" : Str)) = false) (cv : (v == ("__classdict__" : Str)) = false) :
    FnOk P w K mg base (L2.CX P w) (k + 1) fI fd [y, v] (spX C [f]) := by
  refine fun_ok F S (fun vs H Q E h => ?_) (fun cdv A outer s H vs Q E hr h => ?_)
  · obtain ⟨a, ws, rfl, hl, _⟩ := h
    simpa using hl
  · obtain ⟨a, ws, rfl, hl, ha, h⟩ := h
    obtain ⟨z, rfl⟩ : ∃ z, ws = [z] := by
      match ws, hl with
      | [z], _ => exact ⟨z, rfl⟩
    refine ⟨_, pss_one (ps_xs (pe_var (i := 0) rfl hy dy cy) (pe_var (i := 1) rfl hv dv cv) rfl), ?_⟩
    refine ⟨z, rfl, .ref a, rfl, a, C, rfl, T, no, .inl ⟨ha, fun dd n ne => ?_⟩⟩
    exact h dd n ne
theorem fn_x2 (F : FunD K x qual params [.Assign [.Attribute (.Name y p1) f p2] (.Name v p3) pos, .Assign [.Attribute (.Name y q1) f2 q2] (.Name v2 q3) qos] scope [] [] fI fd) (S : FnScope [y, v, v2] [y, v, v2] scope) (T : OexG K C)
    (no : PySem.W.findIn K (.ref C) f = some none) (no2 : PySem.W.findIn K (.ref C) f2 = some none) (hy : Vis scope y) (hv : Vis scope v) (hv2 : Vis scope v2) (dy : (y == ("__debug__" : Str)) = false) (cy : (y == ("__classdict__" : Str)) = false)
    (dv : (v == ("__debug__" : Str)) = false) (cv : (v == ("__classdict__" : Str)) = false) (dw : (v2 == ("__debug__" : Str)) = false) (cw : (v2 == ("__classdict__" : Str)) = false) :
    FnOk P w K mg base (L2.CX P w) (k + 1) fI fd [y, v, v2] (spX C [f, f2]) := by
  refine fun_ok F S (fun vs H Q E h => ?_) (fun cdv A outer s H vs Q E hr h => ?_)
  · obtain ⟨a, ws, rfl, hl, _⟩ := h
    simpa using hl
  · obtain ⟨a, ws, rfl, hl, ha, h⟩ := h
    obtain ⟨z, z2, rfl⟩ : ∃ z z2, ws = [z, z2] := by
      match ws, hl with
      | [z, z2], _ => exact ⟨z, z2, rfl⟩
    refine ⟨_, pss_cons (ps_xs (pe_var (i := 0) rfl hy dy cy) (pe_var (i := 1) rfl hv dv cv) rfl) (pss_one (ps_xs (pe_var (i := 0) rfl hy dy cy) (pe_var (i := 2) rfl hv2 dw cw) rfl)), ?_⟩
    refine ⟨z, rfl, .ref a, rfl, a, C, rfl, T, no, .inl ⟨ha, fun dd n ne => ?_⟩⟩
    refine ⟨z2, rfl, .ref a, rfl, a, C, rfl, T, no2, .inr ⟨dd, [(f, z)], upd_same, ?_, by simp, ?_⟩⟩
    · rw [upd_ne ne, upd_same]
    · have e : upd (upd (upd H dd (exd dd [(f, z)])) a (exo a C (some dd))) dd (exd dd ((f2, z2) :: [(f, z)])) = upd (upd H dd (exd dd ((f2, z2) :: [(f, z)]))) a (exo a C (some dd)) := by
        funext b
        by_cases hb : b = dd
        · rw [hb, upd_same, upd_ne ne, upd_same]
        · rw [upd_ne hb]
          by_cases hc : b = a
          · rw [hc, upd_same, upd_same]
          · rw [upd_ne hc, upd_ne hb, upd_ne hc, upd_ne hb]
      rw [e]
      exact h dd n ne
end
def sRaise (c : Str) (ns : List Str) (fa : En → Res (List D × En)) : En → SR := fun r => sBind (fa r) fun p => if p.1.length = ns.length then .er c (ns.zip p.1).reverse p.2 else .bad
section
variable {K : PySem.W.Frag} {mg : Str → Option Value} {F : Hp}
theorem repF_app : ∀ {fs gs : List (Str × D)} {ws us : List (Str × V)}, repF K mg F fs ws → repF K mg F gs us → repF K mg F (fs ++ gs) (ws ++ us)
  | [], _, _, _, h, h' => by
    cases h
    exact h'
  | (k, d) :: fs, _, _, _, h, h' => by
    obtain ⟨w, ws, rfl, h1, h2⟩ := h
    exact ⟨w, _, rfl, h1, repF_app h2 h'⟩
theorem repF_zip : ∀ {ns : List Str} {ds : List D} {vs : List V}, repL K mg F ds vs → repF K mg F (ns.zip ds).reverse (ns.zip vs).reverse
  | [], ds, vs, _ => by simp [repF]
  | n :: ns, [], vs, h => by
    cases h
    simp [repF]
  | n :: ns, d :: ds, _, h => by
    obtain ⟨w, ws, rfl, h1, h2⟩ := h
    rw [List.zip_cons_cons, List.zip_cons_cons, List.reverse_cons, List.reverse_cons]
    exact repF_app (repF_zip h2) ⟨w, [], rfl, h1, rfl⟩
end
section
variable {X : Cx} {W : WX} {x : Str} {C : Addr} {k j : Nat} {ns : List Str} {e : Expr} {es : List Expr} {fa : En → Res (List D × En)} {p pos pos' : Pos}
theorem ds_raise (I : XIni X.prog X.w X.K X.mg X.base k C ns) (calm : X.calm = true) (tk : Takes X W) (hr : Room j X.A) (hk : k + 1 ≤ j) (hg : Gl X x) (hm : X.mg x = some (.ref C)) (ha : DA X W (e :: es) fa) (hn : ns.length ≤ 1000 := by decide)
    (hdb : (x == ("__debug__" : Str)) = false := by decide) (he : starEach (e :: es) X.env = (false, eval e X.env) :: starEach es X.env := by rfl) (hpl : (backTo pos' (starEach es X.env)).any (·.1) = false := by rfl) :
    DS X W (.Raise (some (.Call (.Name x p) (e :: es) [] pos')) none pos) (sRaise x ns fa) := by
  obtain ⟨fI, fd, ps, F1, hb, iC, tI⟩ := I.ex
  obtain ⟨t, pa, ea⟩ := ha.ex
  refine ⟨_, ps_raise calm tk (pmk_x I.T iC tI F1 (hr.mono hk) hb (passes_call LamX.takes0 fun _ _ _ _ z => z) hg hm pa hdb he hpl), fun B F H r σ Z R q => ?_⟩
  refine ea.toS R q fun as r1 vs F1 H1 R1 s1 x1 q1 => ?_
  simp only at q1
  by_cases hl : as.length = ns.length
  · rw [if_pos hl] at q1
    have el := repL_len x1
    refine ⟨by omega, fun a na => ⟨a, vs, by rw [List.append_nil], by omega, upd_same, fun dd nd ne => ?_⟩⟩
    rw [upd_ne ne] at nd
    have e2 : upd (del (upd (upd (upd H1 a (exo a C none)) dd (exd dd (ns.zip vs).reverse)) a (exo a C (some dd))) a) dd (.xd (ns.zip vs).reverse) = upd H1 dd (.xd (ns.zip vs).reverse) := by
      funext b
      by_cases hb : b = dd
      · rw [hb, upd_same, upd_same]
      · rw [upd_ne hb, upd_ne hb]
        by_cases hc : b = a
        · rw [hc, del_same]
          exact na.symm
        · rw [del_ne hc, upd_ne hc, upd_ne hb, upd_ne hc]
    refine ⟨rfl, dd, (ns.zip vs).reverse, upd_same, by rw [upd_ne ne, upd_same], nd, ?_⟩
    rw [e2]
    exact q1 C (some dd) σ F1 _ hm (R1.newO nd) (Same.refl F1) ⟨_, upd_same, repF_zip x1⟩
  · rw [if_neg hl] at q1
    exact q1.elim
end
end Dl

set_option Elab.async false
set_option linter.all false
set_option maxRecDepth 100000
set_option maxHeartbeats 4000000
namespace Dl
open PySem PySem.Spec PyProof.Rows L2
/-! ### try with several clauses 'except x as n', all of one name -/
abbrev HCl := Value × (Addr → Value → Option Addr → TS)
/-- the ends of a suite: the name goes -/
def endsAs (i : Nat) (D : Ends) : Ends := { nx := fun σ H => D.nx (σ.set i none) H, rt := D.rt, bk := fun σ H => D.bk (σ.set i none) H, ct := fun σ H => D.ct (σ.set i none) H }
def wTry (K : PySem.W.Frag) (i : Nat) (Wout : WX) (D : Ends) : List HCl → WX
  | [] => Wout
  | (c, ts) :: r => fun cls d σ H => ∃ b, PySem.W.exmOne K cls c = some b ∧ (b = true → ∀ a, H a = none → ts a cls d (endsAs i D) (σ.set i (some (.ref a))) H) ∧ (b = false → wTry K i Wout D r cls d σ H)
inductive Cls1 (X : Cx) (n : Str) : List ExceptHandler → List HCl → Prop
  | nil : Cls1 X n [] []
  | cons {x : Str} {c : Value} {ts : Addr → Value → Option Addr → TS} {b₀ : Stmt} {su : List Stmt} {np qos : Pos} {hs : List ExceptHandler} {l : List HCl} (hc : Names X x c)
      (hsu : ∀ (a : Addr) (oe : Obj) (cls : Value) (d : Option Addr) (pn : List (Addr × Obj)), Zc cls d oe → (∃ vs, oe.data = .fields vs) → PSs (X.suite a ((a, oe) :: pn)) (b₀ :: su) (ts a cls d)) (rest : Cls1 X n hs l) :
      Cls1 X n (.ExceptHandler (some (.Name x np)) (some n) (b₀ :: su) qos :: hs) ((c, ts) :: l)
section
variable {X : Cx} {i : Nat} {n : Str} {Wout : WX} {D : Ends} {pins : List (Addr × Obj)} {σ : L2.St} {H : Hp} {sI s : Shared} {G : Heap} {a : Addr} {cls : Value} {d : Option Addr}
/-- the suite's context, the exception on the ground -/
theorem suite_at (hst : X.stack = X.env :: X.outer) (hfr : X.env.frame = some X.env.locals) (J : Inv X pins σ H sI) (nb : ∀ b o, sI.heap.get? b = some o → b ∉ frs X.stack → G.get? b = some o) (os : s.os = sI.os) (ag : AllBare s.gens) (na : H a = none)
    {h : Heap} (fl : HandSPX.FlyingZ G (X.env :: X.outer) a (Zc cls d) h) (up : sI.heap.UpToSlots h) :
    ∃ oe vs, h.get? a = some oe ∧ Zc cls d oe ∧ oe.data = .fields vs ∧ Inv X pins σ H { s with heap := h } ∧ Inv (X.suite a ((a, oe) :: (X.pn ++ pins))) [] σ H { s with heap := h } := by
  have I : Inv X pins σ H { s with heap := h } := J.landed nb fl.1 up os ag
  obtain ⟨oe, vs, e1, e2, e3⟩ := fl.there
  have out : a ∉ frs (X.env :: X.outer) := fun z => by
    obtain ⟨_, o, q1, q2⟩ := fl.2.2.1.mem z
    rw [e1] at q1
    cases q1
    exact q2 _ e3
  refine ⟨oe, vs, e1, e2, e3, I, I.suite e1 e3 na (fun z => out ?_) fun z => out ?_⟩
  · refine List.mem_filterMap.mpr ⟨X.env, by simp, ?_⟩
    rw [hfr, z]
  · obtain ⟨e, he, q⟩ := List.mem_filterMap.mp z
    exact List.mem_filterMap.mpr ⟨e, List.mem_cons_of_mem _ he, q⟩
theorem clauses_go (hst : X.stack = X.env :: X.outer) (hfr : X.env.frame = some X.env.locals) (hN : X.N.Nodup) (hi : X.N[i]? = some n) (hln : X.env.kindOf n = some .local) (tk : Takes X Wout) (J : Inv X pins σ H sI)
    (nb : ∀ b o, sI.heap.get? b = some o → b ∉ frs X.stack → G.get? b = some o) (os : s.os = sI.os) (ag : AllBare s.gens) (na : H a = none) {h3 : Heap} (fl : HandSPX.FlyingZ G (X.env :: X.outer) a (Zc cls d) h3) (up : sI.heap.UpToSlots h3) :
    ∀ {hs : List ExceptHandler} {l : List HCl}, Cls1 X n hs l → wTry X.K i Wout D l cls d σ H → wpAny (model X.prog X.w) X.A (handleBy (.ref a) X.env hs) (SP X pins D) X.xe { s with heap := h3 } := by
  have ok := J.ok
  obtain ⟨o3, v3, g3, z3, d3, I3, S3⟩ := suite_at hst hfr J nb os ag na fl up
  intro hs l hk
  induction hk with
  | nil =>
    intro w
    have fin : wpAny (model X.prog X.w) X.A (setFlight (.ref a) X.env.frame) (fun _ s4 => wpAny (model X.prog X.w) X.A (throw (.ref a) : Sem Flow) (SP X pins D) X.xe s4) X.xe { s with heap := h3 } := by
      rw [hfr]
      refine HandSPX.setFlight_upZ fl fun h4 held up4 => wpAny_throw (tk _ _ ⟨a, G, sI, pins, σ, H, cls, d, rfl, J, nb, up.trans up4, .inr (.inr ?_), na, os, ag, w⟩)
      rw [hst]
      exact held
    obtain ⟨_, _, _, oe, vs, T, _, _, he, _, hd, h1, _⟩ := id fl
    refine wpAny_handleBy_nil ?_
    unfold PySem.passOn
    refine wpAny_bind (wpAny_field he hd h1 ?_)
    rw [if_neg (by simp)]
    first
      | exact wpAny_bind (wpAny_pure (wpAny_bind fin))
      | exact wpAny_bind fin
  | @cons x c ts b₀ su np qos hs2 l2 hc hsu rest ih =>
    rintro ⟨b, hb, yes, no⟩
    have LT : PySem.W.Looks (model X.prog X.w) h3 (typeOf (.ref a)) cls := fun A Q E s2 k q => wpAny_typeOf_ref (k _ _ g3) (by rw [z3.1]; exact q)
    have LM := PySem.W.exm_one (M := model X.prog X.w) I3.kIn LT hb
    refine wpAny_handleBy_cons (codeAny_handlers_test ?_) (by intro q; cases q)
    have name : ∀ {Q : Value → Shared → Prop} {E : Value → Shared → Prop}, Q c { s with heap := h3 } → wpAny (model X.prog X.w) (X.A.mark (some (.ref a))) (eval (.Name x np) X.env) Q E { s with heap := h3 } := by
      intro Q E q
      obtain ⟨hg, hdb, m | ⟨m, v, nn⟩⟩ := hc
      · exact ld_glob (X := X.suite a ((a, o3) :: (X.pn ++ pins))) S3 hg m q hdb
      · exact ld_blt (X := X.suite a ((a, o3) :: (X.pn ++ pins))) S3 hg m v q nn hdb
    refine name (LM.here ?_)
    cases b with
    | false =>
      show wpAny _ X.A (handleBy (.ref a) X.env hs2) _ _ _
      exact ih (no rfl)
    | true =>
      refine codeAny_handlers_suite_as (HandSPX.lands_againZ fl fun h4 fl4 up4 => ?_)
      obtain ⟨o4, v4, g4, z4, d4, I4, S4⟩ := suite_at hst hfr J nb os ag na fl4 (up.trans up4)
      refine store_ok (X := X.suite a ((a, o4) :: (X.pn ++ pins))) (v := .ref a) S4 hN hi (.inl hln) rfl (fun s5 S5 => ?_) (.inr hln)
      have gone : ∀ {σ6 : L2.St} {H6 : Hp} {s6 : Shared} {Q : Shared → Prop}, Inv (X.suite a ((a, o4) :: (X.pn ++ pins))) [] σ6 H6 s6 → (∀ s7, Inv X pins (σ6.set i none) H6 s7 → Q s7) →
          wpAny (model X.prog X.w) X.A (do bindName X.env n .none; unbindBehindTheSuite X.env n qos) (fun _ s7 => Q s7) X.xe s6 := fun S6 hq => gone_ok (S6.unsuite ok) hN hi hln hq
      refine wpAny_mono ((hsu a o4 cls d (X.pn ++ pins) z4 ⟨_, d4⟩).run [] s5 _ H _ S5 (yes rfl a na)) (fun f s6 e6 => ?_) fun _ _ z => False.elim z
      cases f with
      | ret u =>
        obtain ⟨v6, σ6, H6, S6, r6, q6⟩ := e6
        exact gone S6 fun s7 J7 => ⟨_, _, _, J7, r6, q6⟩
      | next =>
        obtain ⟨σ6, H6, S6, q6⟩ := e6
        exact gone S6 fun s7 J7 => ⟨_, _, J7, q6⟩
      | brk =>
        obtain ⟨σ6, H6, S6, q6⟩ := e6
        exact gone S6 fun s7 J7 => ⟨_, _, J7, q6⟩
      | cont =>
        obtain ⟨σ6, H6, S6, q6⟩ := e6
        exact gone S6 fun s7 J7 => ⟨_, _, J7, q6⟩
theorem ps_tryAs {body : List Stmt} {h₀ : ExceptHandler} {hs : List ExceptHandler} {l : List HCl} {tb : WX → TS} {pos : Pos} (hst : X.stack = X.env :: X.outer) (hfr : X.env.frame = some X.env.locals) (hN : X.N.Nodup) (hi : X.N[i]? = some n)
    (hln : X.env.kindOf n = some .local) (tk : Takes X Wout)
    (hb : ∀ (W : WX) (pn : List (Addr × Obj)) (xe : Value → Shared → Prop), Takes (X.tr pn xe) W → PassesOwn (model X.prog X.w) X.A X.env xe → PSs (X.tr pn xe) body (tb W))
    (hh : Cls1 X n (h₀ :: hs) l) : PS X (.Try body (h₀ :: hs) [] [] pos) (fun D σ H => tb (wTry X.K i Wout D l) D σ H) := by
  refine ⟨fun pins s σ H D I h => ?_⟩
  have ok := I.ok
  have frames : X.A.frames = some (X.env :: X.outer) := by rw [ok.frames, hst]
  refine wpAny_Try_except (wpAny_mono ((hb (wTry X.K i Wout D l) (X.pn ++ pins) (fun e s₁ => wpAny (model X.prog X.w) X.A (noteFrame e X.env) (fun _ s₂ => wpAny (model X.prog X.w) X.A (setFlight e none)
    (fun _ s₃ => wpAny (model X.prog X.w) X.A (handleBy e X.env (h₀ :: hs)) (SP X pins D) X.xe s₃) X.xe s₂) X.xe s₁) (fun u s2 xx => ?_) PassesOwn.looking).run [] s σ H D (I.toTry _) h) (fun f s1 e1 => ?_) fun _ _ he => he)
  · obtain ⟨a, G, sI, _, σ2, H2, cls, d, rfl, J0, nb, up, sky, na, os, ag, w⟩ := xx
    have sky2 : Sky G (X.env :: X.outer) a (Zc cls d) X.env.locals s2.heap := by
      rw [← hst]
      exact sky
    show wpAny (model X.prog X.w) X.A (noteFrame (.ref a) X.env) _ _ _
    exact Sky.land Zc.steady frames hfr sky2 fun h3 fl up3 => clauses_go hst hfr hN hi hln tk (J0.ofTry ok) nb os ag na fl (up.trans up3) hh w
  · cases f with
    | ret u =>
      obtain ⟨v, σ1, H1, J1, r, q⟩ := e1
      exact ⟨v, σ1, H1, J1.ofTry ok, r, q⟩
    | next =>
      obtain ⟨σ1, H1, J1, q⟩ := e1
      exact wpAny_execs_nil ⟨σ1, H1, J1.ofTry ok, q⟩
    | brk =>
      obtain ⟨σ1, H1, J1, q⟩ := e1
      exact ⟨σ1, H1, J1.ofTry ok, q⟩
    | cont =>
      obtain ⟨σ1, H1, J1, q⟩ := e1
      exact ⟨σ1, H1, J1.ofTry ok, q⟩
end
end Dl

set_option Elab.async false
set_option linter.all false
set_option maxRecDepth 100000
set_option maxHeartbeats 4000000
namespace Dl
open PySem PySem.Spec PyProof.Rows L2
variable [Dl.Tb]
/-! ### what a suite says of its exception -/
/-- what an own exception class must say -/
structure CtC (K : PySem.W.Frag) (C : Addr) : Prop where
  f : XfC K C
  cl : (PySem.W.clsIn K C).isSome = true
  ha : PySem.W.findIn K (.ref C) "__class__" = some (some (.builtin "object.__class__"))
  hn : PySem.W.specialIn K (.builtin "object.__class__") "__get__" = some (some (.builtin "getset_descriptor.__get__"))
  ht : PySem.W.takesIn K (.builtin "object.__class__") = some true
  hm : PySem.W.mroIn K C (.type "object") = some true
/-- isinstance(e, c) -/
def rIsX (K : PySem.W.Frag) (C a : Addr) (dd : Option Addr) : List V → Hp → VK → Prop := fun xs H Q => ∃ (c : V) (cv : Value) (b : Bool), xs = [.ref a, c] ∧ (∀ q, dd = some q → ∃ ws, H q = some (.xd ws)) ∧ (∀ u, RelV c u → u = cv) ∧ PySem.W.kitOne K (.ref C) cv = some b ∧ Q (.bl b) H
theorem call_isX {X : Cx} {a C : Addr} {dd : Option Addr} {oe : Obj} {pn : List (Addr × Obj)} (T : CtC X.K C) (hz : Zc (.ref C) dd oe) (hf : ∃ vs, oe.data = .fields vs) : CallR (X.suite a ((a, oe) :: pn)) (.builtin "isinstance") (rIsX X.K C a dd) := by
  intro pins s σ H xs us Q I r h
  obtain ⟨c, cv, b, rfl, hd, hcv, e, q⟩ := h
  cases r with
  | cons rx rr =>
    cases rr with
    | cons rt rr =>
      cases rr
      cases rx
      cases hcv _ rt
      obtain ⟨g1, _⟩ := I.pin (a, oe) (List.mem_append.mpr (.inl (by simp)))
      obtain ⟨vs, hv⟩ := hf
      have at_ : ∃ od, PySem.W.InstAt s.heap a oe C od := by
        cases dd with
        | none => exact ⟨none, g1, hz.1, by unfold PySem.W.notCls; rw [hv] <;> rfl, by rw [hz.2]; trivial⟩
        | some dd =>
          obtain ⟨ws, hd⟩ := hd dd rfl
          obtain ⟨mA, ns, _⟩ : ObjOk X.prog X.w H s.heap dd (.xd ws) := I.hok dd _ hd
          obtain ⟨od, ho, _⟩ := lookIn_ns ns
          exact ⟨some od, g1, hz.1, by unfold PySem.W.notCls; rw [hv] <;> rfl, by rw [hz.2]; exact ho⟩
      obtain ⟨od, at_⟩ := at_
      exact PySem.W.kia_one (PySem.W.kitx_exc T.cl T.f.ga T.f.gg T.f.exC T.ha T.hn T.ht T.hm) I.kIn at_ e (fun z => nomatch z) fun tk => ⟨.bl b, H, I.kept (t' := tk) fun _ _ z => z, rfl, q⟩
/-- an expression over the exception at slot i -/
structure DX (X : Cx) (i : Nat) (e : Expr) (g : Str → List (Str × D) → Option D) : Prop where
  ex : ∀ (c : Str) (fs : List (Str × D)) (z : D) (a C : Addr) (dd : Option Addr) (oe : Obj) (pn : List (Addr × Obj)), g c fs = some z → X.mg c = some (.ref C) → Zc (.ref C) dd oe → (∃ vs, oe.data = .fields vs) →
    ∃ t, PE (X.suite a ((a, oe) :: pn)) e t ∧ ∀ (F H : Hp) (σ : L2.St) (Q : V → Hp → Prop), Same F H → σ[i]? = some (some (.ref a)) → xdOk X.K X.mg F H fs dd → (∀ v, rep X.K X.mg F z v → Q v H) → t σ H Q
structure DXs (X : Cx) (i : Nat) (es : List Expr) (g : Str → List (Str × D) → Option (List D)) : Prop where
  ex : ∀ (c : Str) (fs : List (Str × D)) (z : List D) (a C : Addr) (dd : Option Addr) (oe : Obj) (pn : List (Addr × Obj)), g c fs = some z → X.mg c = some (.ref C) → Zc (.ref C) dd oe → (∃ vs, oe.data = .fields vs) →
    ∃ t, PA (X.suite a ((a, oe) :: pn)) es t ∧ ∀ (F H : Hp) (σ : L2.St) (Q : List V → Hp → Prop), Same F H → σ[i]? = some (some (.ref a)) → xdOk X.K X.mg F H fs dd → (∀ v, repL X.K X.mg F z v → Q v H) → t σ H Q
def xC (d : D) : Str → List (Str × D) → Option D := fun _ _ => some d
def xFld (cs : List Str) (n : Str) : Str → List (Str × D) → Option D := fun c fs => if c ∈ cs then fs.lookup n else none
def xIs (cs : List Str) : Str → List (Str × D) → Option D := fun c _ => if c ∈ cs then some (.bl true) else none
def xAnd (g h : Str → List (Str × D) → Option D) : Str → List (Str × D) → Option D := fun c fs => match g c fs with
  | some (.bl true) => h c fs
  | _ => none
def xNil : Str → List (Str × D) → Option (List D) := fun _ _ => some []
def xCons (g : Str → List (Str × D) → Option D) (h : Str → List (Str × D) → Option (List D)) : Str → List (Str × D) → Option (List D) := fun c fs => (g c fs).bind fun z => (h c fs).map (z :: ·)
section
variable {X : Cx} {i : Nat} {e e2 : Expr} {es : List Expr} {g h : Str → List (Str × D) → Option D} {gs : Str → List (Str × D) → Option (List D)} {n y x : Str} {cs : List Str} {p p1 p2 q pos : Pos}
theorem dx_str {s : Str} {j : Nat} : DX X i (.Constant (.str s) j pos) (xC (.str s)) := ⟨fun c fs z a C dd oe pn hg _ _ _ => ⟨_, pe_str, fun F H σ Q _ _ _ k => k _ (by cases hg; rfl)⟩⟩
theorem dx_fld (hcs : ∀ c ∈ cs, ∀ C, X.mg c = some (.ref C) → XfC X.K C ∧ PySem.W.findIn X.K (.ref C) n = some none) (hN : X.N[i]? = some y) (hv : Vis X.env.scope y := by first | exact Or.inl rfl | exact Or.inr (Or.inl rfl) | exact Or.inr (Or.inr rfl))
    (hd : (y == ("__debug__" : Str)) = false := by decide) (hc : (y == ("__classdict__" : Str)) = false := by decide) (hb : attributeBase (.Name y p1) n X.env (eval (.Name y p1) X.env) = eval (.Name y p1) X.env := by rfl) :
    DX X i (.Attribute (.Name y p1) n p2) (xFld cs n) := by
  refine ⟨fun c fs z a C dd oe pn hg hm hz hf => ?_⟩
  unfold xFld at hg
  split at hg
  · rename_i hc1
    obtain ⟨T, no⟩ := hcs c hc1 C hm
    cases dd with
    | none =>
      refine ⟨fun _ _ _ => False, ⟨fun _ _ _ _ _ _ h => h.elim⟩, fun F H σ Q s hs hx k => ?_⟩
      rw [show fs = [] from hx] at hg
      cases hg
    | some dd =>
      refine ⟨_, pe_xf T no hz hf (pe_var (X := X.suite a ((a, oe) :: pn)) hN hv hd hc) hb, fun F H σ Q s hs hx k => ?_⟩
      obtain ⟨ws, hx, hr⟩ := hx
      obtain ⟨v, l, r⟩ := repF_look hr hg
      exact ⟨.ref a, hs, rfl, rfl, dd, ws, v, rfl, hx, l, k v r⟩
  · cases hg
theorem dx_is {cv : Value} {tc : TE} (hcs : ∀ c ∈ cs, ∀ C, X.mg c = some (.ref C) → CtC X.K C ∧ PySem.W.kitOne X.K (.ref C) cv = some true) (hgi : Gl X "isinstance") (hmi : X.mg "isinstance" = none) (hbi : bootBuiltins "isinstance" = some (.builtin "isinstance"))
    (hcl : ∀ a pn, PE (X.suite a pn) (.Name x q) tc) (hcv : ∀ σ H Q, (∀ c, (∀ u, RelV c u → u = cv) → Q c H) → tc σ H Q) (hN : X.N[i]? = some y) (hv : Vis X.env.scope y := by first | exact Or.inl rfl | exact Or.inr (Or.inl rfl) | exact Or.inr (Or.inr rfl))
    (hd : (y == ("__debug__" : Str)) = false := by decide) (hc : (y == ("__classdict__" : Str)) = false := by decide)
    (hst : starEach [.Name y p1, .Name x q] X.env = (false, eval (.Name y p1) X.env) :: starEach [.Name x q] X.env := by rfl) (hst2 : starEach [.Name x q] X.env = (false, eval (.Name x q) X.env) :: starEach [] X.env := by rfl) :
    DX X i (.Call (.Name "isinstance" p) [.Name y p1, .Name x q] [] pos) (xIs cs) := by
  refine ⟨fun c fs z a C dd oe pn hg hm hz hf => ?_⟩
  unfold xIs at hg
  split at hg
  · rename_i hc1
    cases hg
    obtain ⟨T, e1⟩ := hcs c hc1 C hm
    refine ⟨_, pe_callB (X := X.suite a ((a, oe) :: pn)) (call_isX T hz hf) hgi hmi hbi (pa_cons (pe_var (X := X.suite a ((a, oe) :: pn)) hN hv hd hc) (pa_cons (hcl a _) pa_nil hst2) hst) (by decide) (by decide) hst (by show (backTo pos (starEach [.Name x q] X.env)).any (·.1) = false; rw [hst2]; rfl), fun F H σ Q s hs hx k => ?_⟩
    exact ⟨.ref a, hs, hcv _ _ _ fun cc hcc => ⟨cc, cv, true, rfl, fun q hq => by
      subst hq
      obtain ⟨ws, hx, _⟩ := hx
      exact ⟨ws, hx⟩, hcc, e1, k _ rfl⟩⟩
  · cases hg
theorem dx_and (hg : DX X i e g) (hh : DX X i (.BoolOp .And (e2 :: es) pos) h) : DX X i (.BoolOp .And (e :: e2 :: es) pos) (xAnd g h) := by
  refine ⟨fun c fs z a C dd oe pn hz hm hc hf => ?_⟩
  unfold xAnd at hz
  split at hz
  · rename_i hg1
    obtain ⟨t, pt, kt⟩ := hg.ex c fs _ a C dd oe pn hg1 hm hc hf
    obtain ⟨u, pu, ku⟩ := hh.ex c fs _ a C dd oe pn hz hm hc hf
    exact ⟨_, pe_and pt pu, fun F H σ Q s hs hx k => kt F H σ _ s hs hx fun v hv => ⟨true, hv, ku F H σ Q s hs hx k⟩⟩
  · cases hz
theorem dx_one {op : BoolOp} (hg : DX X i e g) : DX X i (.BoolOp op [e] pos) g := by
  refine ⟨fun c fs z a C dd oe pn hz hm hc hf => ?_⟩
  obtain ⟨t, pt, kt⟩ := hg.ex c fs _ a C dd oe pn hz hm hc hf
  exact ⟨t, pe_one pt, kt⟩
theorem dxs_nil : DXs X i [] xNil := ⟨fun c fs z a C dd oe pn hg _ _ _ => ⟨_, pa_nil, fun F H σ Q _ _ _ k => k [] (by cases hg; rfl)⟩⟩
theorem dxs_cons (hg : DX X i e g) (hh : DXs X i es gs) (hst : starEach (e :: es) X.env = (false, eval e X.env) :: starEach es X.env := by rfl) : DXs X i (e :: es) (xCons g gs) := by
  refine ⟨fun c fs z a C dd oe pn hz hm hc hf => ?_⟩
  unfold xCons at hz
  cases q1 : g c fs with
  | none => rw [q1] at hz; cases hz
  | some z1 =>
    cases q2 : gs c fs with
    | none => rw [q1, q2] at hz; cases hz
    | some z2 =>
      rw [q1, q2] at hz
      cases hz
      obtain ⟨t, pt, kt⟩ := hg.ex c fs _ a C dd oe pn q1 hm hc hf
      obtain ⟨u, pu, ku⟩ := hh.ex c fs _ a C dd oe pn q2 hm hc hf
      exact ⟨_, pa_cons pt pu hst, fun F H σ Q s hs hx k => kt F H σ _ s hs hx fun v hv => ku F H σ _ s hs hx fun vs hvs => k _ ⟨v, vs, rfl, hv, hvs⟩⟩
end
end Dl

set_option Elab.async false
set_option linter.all false
set_option maxRecDepth 100000
set_option maxHeartbeats 4000000
namespace Dl
open PySem PySem.Spec PyProof.Rows L2
variable [Dl.Tb]
/-! ### try -/
abbrev noW : WX := fun _ _ _ _ => False
/-- a suite, by the exception's class and fields -/
structure DXS (X : Cx) (i : Nat) (su : List Stmt) (g : Str → List (Str × D) → En → SR) : Prop where
  ex : ∀ (c : Str) (fs : List (Str × D)) (a C : Addr) (dd : Option Addr) (oe : Obj) (pn : List (Addr × Obj)), X.mg c = some (.ref C) → Zc (.ref C) dd oe → (∃ vs, oe.data = .fields vs) →
    ∃ t, PSs (X.suite a ((a, oe) :: pn)) su t ∧ ∀ (B : Bg) (F H : Hp) (r : En) (σ : L2.St) (Z : Ends), Rel X.K X.mg B F H r σ → σ[i]? = some (some (.ref a)) → xdOk X.K X.mg F H fs dd → PoS X.K X.mg noW B F Z (g c fs r) → t Z σ H
section
variable {X : Cx} {i j : Nat} {es : List Expr} {gs : Str → List (Str × D) → Option (List D)} {x : Str} {px lp pos : Pos}
end
def dropS (i : Nat) : SR → SR
  | .nx r => .nx (r.set i none)
  | .rt d r => .rt d r
  | .rv d r => .rv d r
  | _ => .bad
abbrev XCl := List Str × List Str × (Str → List (Str × D) → En → SR)
def trySel (i : Nat) : List XCl → Str → List (Str × D) → En → SR
  | [], _, _, _ => .bad
  | (ms, ns, g) :: l, c, fs, r => if c ∈ ms then (if i < r.length then dropS i (g c fs (r.set i none)) else .bad) else if c ∈ ns then trySel i l c fs r else .bad
def sTry (i : Nat) (fb : En → SR) (l : List XCl) : En → SR := fun r => match fb r with
  | .nx r' => .nx r'
  | .rt d r' => .rt d r'
  | .rv d r' => .rv d r'
  | .er c fs r' => trySel i l c fs r'
  | _ => .bad
inductive XCls (X : Cx) (n : Str) (i : Nat) : List ExceptHandler → List XCl → Prop
  | nil : XCls X n i [] []
  | cons {x : Str} {cv : Value} {ms ns : List Str} {g : Str → List (Str × D) → En → SR} {b₀ : Stmt} {su : List Stmt} {np qos : Pos} {hs : List ExceptHandler} {l : List XCl} (hc : Names X x cv)
      (hm : ∀ c ∈ ms, ∀ C, X.mg c = some (.ref C) → PySem.W.exmOne X.K (.ref C) cv = some true) (hn : ∀ c ∈ ns, ∀ C, X.mg c = some (.ref C) → PySem.W.exmOne X.K (.ref C) cv = some false) (hsu : DXS X i (b₀ :: su) g) (rest : XCls X n i hs l) :
      XCls X n i (.ExceptHandler (some (.Name x np)) (some n) (b₀ :: su) qos :: hs) ((ms, ns, g) :: l)
section
variable {X : Cx} {W : WX} {i : Nat} {n : Str} {body : List Stmt} {h₀ : ExceptHandler} {hs : List ExceptHandler} {l : List XCl} {fb : En → SR} {pos : Pos}
theorem DSs.weak {f : En → SR} (h : DSs X W body f) : PSs X body (fun Z σ H => ∃ B F r, Rel X.K X.mg B F H r σ ∧ PoS X.K X.mg W B F Z (f r)) := by
  obtain ⟨t, pt, kt⟩ := h.ex
  refine ⟨fun pins s σ H D I hh => ?_⟩
  obtain ⟨B, F, r, R, p⟩ := hh
  exact pt.run pins s σ H D I (kt B F H r σ D R p)
/-- a suite's reading, of any exception -/
def tSu (X : Cx) (i : Nat) (g : Str → List (Str × D) → En → SR) : Addr → Value → Option Addr → TS := fun a cls d Z σ H => ∃ (C : Addr) (c : Str) (fs : List (Str × D)) (B : Bg) (F : Hp) (r : En), cls = .ref C ∧ X.mg c = some (.ref C) ∧ σ[i]? = some (some (.ref a)) ∧
  Rel X.K X.mg B F H r σ ∧ xdOk X.K X.mg F H fs d ∧ PoS X.K X.mg noW B F Z (g c fs r)
theorem DXS.weak {su : List Stmt} {g : Str → List (Str × D) → En → SR} (h : DXS X i su g) (a : Addr) (oe : Obj) (cls : Value) (d : Option Addr) (pn : List (Addr × Obj)) (hz : Zc cls d oe) (hf : ∃ vs, oe.data = .fields vs) : PSs (X.suite a ((a, oe) :: pn)) su (tSu X i g a cls d) := by
  refine ⟨fun pins s σ H D I hh => ?_⟩
  obtain ⟨C, c, fs, B, F, r, rfl, hm, hs, R, hx, p⟩ := hh
  obtain ⟨t, pt, kt⟩ := h.ex c fs a C d oe pn hm hz hf
  exact pt.run pins s σ H D I (kt B F H r σ D R hs hx p)
theorem XCls.toCls : ∀ {hs : List ExceptHandler} {l : List XCl}, XCls X n i hs l → ∃ l2 : List HCl, Cls1 X n hs l2 ∧ ∀ (c : Str) (fs : List (Str × D)) (B : Bg) (F H : Hp) (r : En) (σ : L2.St) (Z : Ends) (C : Addr) (od : Option Addr), X.mg c = some (.ref C) → Rel X.K X.mg B F H r σ → xdOk X.K X.mg F H fs od →
    PoS X.K X.mg W B F Z (trySel i l c fs r) → wTry X.K i noW Z l2 (.ref C) od σ H := by
  intro hs l hk
  induction hk with
  | nil => exact ⟨[], .nil, fun c fs B F H r σ Z C od hm R hx p => p.elim⟩
  | @cons x cv ms ns g b₀ su np qos hs2 l2 hc hm hn hsu rest ih =>
    obtain ⟨l3, k3, e3⟩ := ih
    refine ⟨(cv, tSu X i g) :: l3, .cons hc (fun a oe cls d pn hz hf => hsu.weak a oe cls d pn hz hf) k3, fun c fs B F H r σ Z C od hmc R hx p => ?_⟩
    unfold trySel at p
    by_cases h1 : c ∈ ms
    · rw [if_pos h1] at p
      refine ⟨true, hm c h1 C hmc, fun _ a na => ?_, fun z => (by cases z)⟩
      by_cases h2 : i < r.length
      · rw [if_pos h2] at p
        refine ⟨C, c, fs, B, F, r.set i none, rfl, hmc, ?_, R.drop, hx, ?_⟩
        · rw [get_set, if_pos rfl, if_pos (by rw [← R.len]; exact h2)]
        · cases q : g c fs (r.set i none) with
          | nx r2 =>
            rw [q] at p
            exact fun σ2 F2 H2 R2 s2 => p _ F2 H2 R2.drop s2
          | rt d r2 =>
            rw [q] at p
            exact p
          | rv d r2 =>
            rw [q] at p
            exact p
          | bk r2 =>
            rw [q] at p
            exact p.elim
          | ct r2 =>
            rw [q] at p
            exact p.elim
          | er c2 fs2 r2 =>
            rw [q] at p
            exact p.elim
          | bad =>
            rw [q] at p
            exact p.elim
      · rw [if_neg h2] at p
        exact p.elim
    · rw [if_neg h1] at p
      by_cases h2 : c ∈ ns
      · rw [if_pos h2] at p
        exact ⟨false, hn c h2 C hmc, fun z => (by cases z), fun _ => e3 c fs B F H r σ Z C od hmc R hx p⟩
      · rw [if_neg h2] at p
        exact p.elim
theorem ds_try (hst : X.stack = X.env :: X.outer) (hfr : X.env.frame = some X.env.locals) (hN : X.N.Nodup) (hi : X.N[i]? = some n) (hln : X.env.kindOf n = some .local)
    (hb : ∀ (W : WX) (pn : List (Addr × Obj)) (xe : Value → Shared → Prop), Takes (X.tr pn xe) W → PassesOwn (model X.prog X.w) X.A X.env xe → DSs (X.tr pn xe) W body fb) (hcl : XCls X n i (h₀ :: hs) l) : DS X W (.Try body (h₀ :: hs) [] [] pos) (sTry i fb l) := by
  obtain ⟨l2, k2, e2⟩ := hcl.toCls (W := W)
  refine ⟨_, ps_tryAs hst hfr hN hi hln LamX.takes0 (tb := fun W2 Z σ H => ∃ B F r, Rel X.K X.mg B F H r σ ∧ PoS X.K X.mg W2 B F Z (fb r)) (fun W2 pn xe tk ps => (hb W2 pn xe tk ps).weak) k2, fun B F H r σ Z R p => ⟨B, F, r, R, ?_⟩⟩
  unfold sTry at p
  cases q : fb r with
  | nx r2 =>
    rw [q] at p
    exact p
  | rt d r2 =>
    rw [q] at p
    exact p
  | rv d r2 =>
    rw [q] at p
    exact p
  | er c fs r2 =>
    rw [q] at p
    simp only at p
    intro C od σ2 F2 H2 hm R2 s2 hx
    refine e2 c fs B F2 H2 r2 σ2 Z C od hm R2 hx ?_
    exact PoS.weak p s2
  | bk r2 =>
    rw [q] at p
    exact p.elim
  | ct r2 =>
    rw [q] at p
    exact p.elim
  | bad =>
    rw [q] at p
    exact p.elim
end
end Dl

set_option Elab.async false
set_option linter.all false
set_option maxRecDepth 100000
set_option maxHeartbeats 4000000
namespace Dl
open PySem PySem.Spec PyProof.Rows L2 LamX
variable [Dl.Tb]
/-! ### x(lambda: body): what the lambda lets out may be told by the slots of the def that calls it -/
abbrev heardCx (X : Cx) (Ng : List Str) (x : Str) (sg : Scope) (g : Addr) (cdg : Value) (s : Shared) (H : Hp) : Cx := cxOf C8.CX0 X.prog X.w X.K X.mg X.base Ng x sg g cdg X.A X.stack s H C8.E0
section
variable {X : Cx} {pins : List (Addr × Obj)} {σ : L2.St} {H : Hp} {s : Shared} {Ng : List Str} {x a : Str} {sg scope : Scope} {g f c' : Addr} {cdg pm ctv : Value} {params : Arguments} {body : Expr} {k i : Nat} {W : WX} {tb : XK → TE} {pn : List (Addr × Obj)} {xe : Value → Shared → Prop} {p1 p2 : Pos}
theorem pe_actS (I : Inv X pins σ H s) (L : LamS X.env.scope scope) (hf : s.heap.get? f = some (PySem.W.kla_obj "<lambda>" (X.env.qual ++ "<lambda>") params body scope (cloFrom X.env.cells scope.names []) pm c' ctv)) (hfn : H f = none) (hfr : f ∉ frs X.stack)
    (hbind : bindArgs (PySem.W.kla_fn "<lambda>" (X.env.qual ++ "<lambda>") params body scope (cloFrom X.env.cells scope.names []) pm (.ref c') ctv) ⟨[], []⟩ = pure []) (tk : Takes ((heardCx X Ng x sg g cdg s H).tr pn xe) W)
    (hr : Room (k + 1) (X.A.deeper (envOfC x sg s.heap.objs.size g cdg))) (hbody : ∀ (E : XK) (A : Around) (outer : List Env) (s : Shared) (H : Hp), Room k (A.deeper (lamEnv X scope s.heap.objs.size f c')) → PE (lamCx X A outer s H E scope f c') body (tb E))
    (hN : Ng[i]? = some a) (hv : Vis sg a) (hd : (a == ("__debug__" : Str)) = false) (hcd : (a == ("__classdict__" : Str)) = false) :
    PE ((heardCx X Ng x sg g cdg s H).tr pn xe) (.Call (.Name a p1) [] [] p2) (fun σZ HZ Q => σZ[i]? = some (some (.ref f)) ∧ HZ c' = some (CodeO c' (X.env.qual ++ "<lambda>")) ∧ tb (WE W σZ) σ HZ Q) := by
  refine ⟨fun pinsZ sZ σZ HZ Q IZ h => ?_⟩
  obtain ⟨at_, hc, ht⟩ := h
  refine wpAny_Call_Name_kw (thn ((pe_var (pos := p1) (i := i) hN hv hd hcd).run pinsZ sZ σZ HZ (fun v H1 => v = .ref f ∧ H1 = HZ) IZ ⟨.ref f, at_, rfl, rfl⟩) fun u s1 hu => ?_)
  obtain ⟨v, H1, I1, r1, ev, rfl⟩ := hu
  subst ev
  obtain rfl : u = Value.ref f := r1
  have ob := I1.base.keep f _ hf hfn hfr (fun z => nomatch (show f ∈ ([] : List Addr) from z))
  refine PySem.W.callWith_F0 ⟨_, _, _, _, ob⟩ ?_
  obtain ⟨⟨oc, vs, t, q1, q2, q3⟩, _, _⟩ := I1.hok c' _ hc
  have out : codeAny (model X.prog X.w) (X.A.deeper (envOfC x sg s.heap.objs.size g cdg)) (.call (.ref f) ⟨[], []⟩) (CR (L2.CX X.prog X.w) (envOfC x sg s.heap.objs.size g cdg :: X.stack) X.prog X.w H1 s1 Q (WE W σZ)) s1 := by
    refine PySem.W.kla_callFunE hr.depth ob rfl L.co L.gen rfl ⟨c', oc, vs, t, rfl, q1, q2, q3⟩ ?_
    rw [hbind]
    refine wpAny_pure (wpAny_newFunctionEnv (fun y hy => (L.own y hy).2) (fun y hy => absurd hy (by simp)) (fun h1 ns sb => ⟨I1.nolimit.fresh _ sb, ?_⟩) L.kind)
    show codeAny _ _ (.expr body (lamEnv X scope s1.heap.objs.size f c')) _ _
    have up : ∀ b o, s1.heap.get? b = some o → h1.get? b = some o := fun b o z => sb.extBut b o (Nat.ne_of_lt (Heap.lt_size z)) (Heap.get?_push_of_some _ z)
    have J := lam_start2 (E := WE W σZ) (f := f) (c' := c') (tk := s1.toks + ([] : List (Str × Value)).length) I L I1.env0 hr.hd (show Un (frs X.stack) [] H H1 s.heap s1.heap from I1.base) ns up
    refine PySem.W.kla_codeExpr (wpAny_mono ((hbody _ _ _ s1 H1 (hr.deeper _)).run [] _ _ H1 Q J ht) (fun v2 s2 h2 => ?_) fun _ _ z => z)
    obtain ⟨w2, H2, J2, r2, q2⟩ := h2
    exact ⟨w2, H2, J2.os, J2.bare, J2.base, J2.hok, r2, q2⟩
  refine wpAny_call (codeAny_mono out fun r s2 h2 => ?_)
  cases r with
  | error e => exact passAt (X := (heardCx X Ng x sg g cdg s H).tr pn xe) tk σZ pinsZ H1 s1 e s2 I1 h2
  | ok fl =>
    cases fl with
    | ret u => exact I1.after h2
    | next => exact False.elim h2
    | brk => exact False.elim h2
    | cont => exact False.elim h2
end
/-- the heap behind the making of a lambda: its table is longer, or nothing has changed -/
def LamH (H H1 : Hp) (P : Addr) (q : Str) : Prop := H1 = H ∨ ∃ (ps qs : Array Value) (c : Addr), H P = some (.tbl ps) ∧ H c = none ∧ H1 = upd (upd H P (.tbl qs)) c (CodeO c q)
theorem LamH.ext {H H1 : Hp} {P : Addr} {q : Str} (h : LamH H H1 P q) : ExtN H H1 := by
  rcases h with rfl | ⟨ps, qs, c, hP, hc, rfl⟩
  · exact ExtN.refl _
  · intro b o e n
    have nP : b ≠ P := fun z => by
      rw [z, hP] at e
      cases e
      exact n ps rfl
    rw [upd_ne (ne_of_none e hc), upd_ne nP]
    exact e
theorem LamH.all {H H1 : Hp} {P : Addr} {q : Str} (h : LamH H H1 P q) : ∀ b, H b ≠ none → H1 b ≠ none := by
  rcases h with rfl | ⟨ps, qs, c, hP, hc, rfl⟩
  · exact fun _ h => h
  · intro b hb
    rw [upd_ne fun z => hb (by rw [z]; exact hc)]
    by_cases nP : b = P
    · rw [nP, upd_same]
      exact fun z => nomatch z
    · rw [upd_ne nP]
      exact hb
theorem LamH.same {F H H1 : Hp} {P : Addr} {q : Str} (h : LamH H H1 P q) (s : Same F H) (hP : F P = none) : Same F H1 := by
  rcases h with rfl | ⟨ps, qs, c, _, hc, rfl⟩
  · exact s
  · intro b o e
    rw [upd_ne (ne_of_none (s _ _ e) hc), upd_ne (ne_of_none e hP)]
    exact s _ _ e
section
variable {X : Cx} {pins : List (Addr × Obj)} {σ : L2.St} {H : Hp} {s : Shared} {T : List (Addr × Str)} {c P : Addr} {params : Arguments} {body : Expr} {scope : Scope} {pos : Pos} {E : Value → Shared → Prop} {Q : Value → Shared → Prop}
theorem lam_make3 (I : Inv X pins σ H s) (TB : TabB X.base X.mg c P) (hcode : X.env.code = .ref c) (hm : (P, X.env.qual ++ "<lambda>") ∈ T) (hu : ∀ p ∈ T, p.1 = P → p.2 = X.env.qual ++ "<lambda>") (hT : Tabs T H) (hdef : defaultsOf params X.env = ([], []))
    (hfree : ∀ y ∈ scope.names, y.2 = .free → ∃ c, X.env.cells.lookup y.1 = some c)
    (go : ∀ (f c' : Addr) (pm ctv : Value) (H1 : Hp) (s1 : Shared), Inv X pins σ H1 s1 → LamH H H1 P (X.env.qual ++ "<lambda>") → Tabs T H1 →
      s1.heap.get? f = some (PySem.W.kla_obj "<lambda>" (X.env.qual ++ "<lambda>") params body scope (cloFrom X.env.cells scope.names []) pm c' ctv) → H1 f = none → f ∉ frs X.stack → H1 c' = some (CodeO c' (X.env.qual ++ "<lambda>")) → Q (.ref f) s1) :
    wpAny (model X.prog X.w) X.A (eval (.Lambda params body scope pos) X.env) Q E s := by
  obtain ⟨ps, hP, tri, known⟩ := hT _ hm
  have tab : s.heap.get? P = some { cls := .none, data := .fields ps } := I.hok P _ hP
  have out : ∀ f, s.heap.objs.size ≤ f → f ∉ frs X.stack := by
    intro f big z
    rcases List.mem_cons.mp (I.stkSub _ z) with e | e
    · have l := I.lt
      rw [← e] at l
      exact Nat.lt_irrefl _ (Nat.lt_of_lt_of_le l big)
    · exact I.nofs big e
  refine PySem.W.kla_eval hdef ?_
  cases hit : codeAmong pos ps.toList with
  | some cv =>
    obtain ⟨c', rfl, hco⟩ := known pos cv hit
    refine PySem.W.kla_makeFunctionHit (mg := X.mg) (c := c) (P := P) (ps := ps) (closure_ok hfree) I.ok.glob (I.mod.glob.keeps I.bk) hcode (TB.code.keeps I.bk) tab tri hit (TB.bm.keeps I.bk) fun ctv h2 tk up big => ?_
    exact go h2.objs.size c' _ ctv H _ (I.kept fun b o z => Heap.get?_push_of_some _ (up b o z)) (.inl rfl) hT (Heap.get?_push_size _ rfl) (I.hok.fresh big) (out _ big) hco
  | none =>
    refine PySem.W.kla_makeFunction (mg := X.mg) (c := c) (P := P) (ps := ps) (closure_ok hfree) I.ok.glob (I.mod.glob.keeps I.bk) hcode (TB.code.keeps I.bk) tab tri hit TB.gP (TB.bm.keeps I.bk) fun c' ctv h2 tk up big lt rec grown => ?_
    obtain ⟨c2, oc, vs, t, e2, q1, q2, q3⟩ := rec
    cases e2
    have far : s.heap.objs.size ≤ h2.objs.size := Nat.le_trans big (Nat.le_of_lt lt)
    have fresh : H c' = none := I.hok.fresh big
    have l : LamH H (upd (upd H P (.tbl (ps ++ #[rawInt pos.line, rawInt pos.col, .ref c']))) c' (CodeO c' (X.env.qual ++ "<lambda>"))) P (X.env.qual ++ "<lambda>") := .inr ⟨ps, _, c', hP, fresh, rfl⟩
    have snoc : (ps ++ #[rawInt pos.line, rawInt pos.col, .ref c']).toList = ps.toList ++ [rawInt pos.line, rawInt pos.col, .ref c'] := by simp
    refine go h2.objs.size c' ((X.mg "__name__").getD .none) ctv _ _ (inv_table (t' := tk) (more := #[rawInt pos.line, rawInt pos.col, .ref c']) I hP (fun b o nb z => Heap.get?_push_of_some _ (up b o nb z)) (Heap.get?_push_of_some _ grown) big
      ⟨oc, vs, t, Heap.get?_push_of_some _ q1, q2, q3⟩) l (fun p hp => ?_) (Heap.get?_push_size _ rfl) ?_ (out _ far) upd_same
    · by_cases hb : p.1 = P
      · rw [hu p hp hb, hb]
        refine ⟨_, by rw [upd_ne (ne_of_none hP fresh), upd_same], by rw [snoc]; exact PySem.TriplesOk_snoc _ _ _ _ tri, fun p2 cv2 z => ?_⟩
        rw [snoc] at z
        rcases among_app _ tri z with w | w
        · obtain ⟨c0, e1, e3⟩ := known p2 cv2 w
          exact ⟨c0, e1, l.ext _ _ e3 codeO_ne⟩
        · exact ⟨c', w, upd_same⟩
      · obtain ⟨ps2, a1, a2, a3⟩ := hT p hp
        refine ⟨ps2, by rw [upd_ne (ne_of_none a1 fresh), upd_ne hb]; exact a1, a2, fun p2 cv2 z => ?_⟩
        obtain ⟨c0, e1, e3⟩ := a3 p2 cv2 z
        exact ⟨c0, e1, l.ext _ _ e3 codeO_ne⟩
    · rw [upd_ne (Nat.ne_of_gt lt), upd_ne (Nat.ne_of_gt (Nat.lt_of_lt_of_le (Heap.lt_size tab) far))]
      exact I.hok.fresh far
end
/-- the def that calls what it got -/
def GivesS (X : Cx) (Ng : List Str) (x : Str) (sg : Scope) (g : Addr) (cdg : Value) (bg : List Stmt) (a : Str) (q : Str) (TT : Addr → Addr → (XK → Hp → VK → Prop) → Hp → VK → Prop) : Prop :=
  ∀ (f c' : Addr) (s : Shared) (H : Hp) (Q : VK) (tl : XK → Hp → VK → Prop),
    (∀ (W : WX) (pn : List (Addr × Obj)) (xe : Value → Shared → Prop) (p1 p2 : Pos), Takes ((heardCx X Ng x sg g cdg s H).tr pn xe) W →
      PE ((heardCx X Ng x sg g cdg s H).tr pn xe) (.Call (.Name a p1) [] [] p2) (fun σZ HZ Q => σZ[0]? = some (some (.ref f)) ∧ HZ c' = some (CodeO c' q) ∧ tl (WE W σZ) HZ Q)) →
    H c' = some (CodeO c' q) → TT f c' tl H Q →
    ∃ t, PSs (heardCx X Ng x sg g cdg s H).nox bg t ∧ t { nx := fun _ H' => Q .non H', rt := Q } (L2.start Ng [.ref f]) H
def tLamS (T : List (Addr × Str)) (P : Addr) (q : Str) (TT : Addr → Addr → (XK → Hp → VK → Prop) → Hp → VK → Prop) (t : XK → TE) : TE := fun σ H Q => Tabs T H ∧ ∀ H1 f c', LamH H H1 P q → Tabs T H1 → H1 c' = some (CodeO c' q) → TT f c' (fun E H' Q' => t E σ H' Q') H1 Q
section
variable {X : Cx} {T : List (Addr × Str)} {TT : Addr → Addr → (XK → Hp → VK → Prop) → Hp → VK → Prop} {x a : Str} {g c P : Addr} {k : Nat} {pg : Arguments} {bg : List Stmt} {sg : Scope} {dV kV doc pm cdv ct oc : Value} {an od : Option Addr} {osl : Array (Option Value)} {Ng : List Str}
    {params : Arguments} {body : Expr} {scope : Scope} {t : XK → TE} {p lpos pos : Pos}
theorem pe_lamS (hg : Gl X x) (hm : X.mg x = some (.ref g)) (hk : PySem.W.keepIn X.K (.ref g) = true) (lk : X.K.lookup g = some ⟨oc, od, .func (PySem.W.fnOf x x pg bg sg dV kV doc pm an cdv ct), osl⟩) (hcg : PySem.W.codeIn X.K cdv x = true)
    (hb : L2.Binds X.K (PySem.W.fnOf x x pg bg sg dV kV doc pm an cdv ct) [a] []) (Sg : FnScope Ng [a] sg) (hNg : Ng[0]? = some a) (hva : Vis sg a) (hG : GivesS X Ng x sg g cdv bg a (X.env.qual ++ "<lambda>") TT)
    (TB : TabB X.base X.mg c P) (hcode : X.env.code = .ref c) (hmT : (P, X.env.qual ++ "<lambda>") ∈ T) (hu : ∀ p ∈ T, p.1 = P → p.2 = X.env.qual ++ "<lambda>") (hr : Room (k + 2) X.A) (L : LamS X.env.scope scope) (hdef : defaultsOf params X.env = ([], []))
    (hbind : ∀ (q : Str) (cl : List (Str × Addr)) (pm cv ctv : Value), bindArgs (PySem.W.kla_fn "<lambda>" q params body scope cl pm cv ctv) ⟨[], []⟩ = pure [])
    (hbody : ∀ (E : XK) (A : Around) (outer : List Env) (s : Shared) (H : Hp) (f c' : Addr), Room k (A.deeper (lamEnv X scope s.heap.objs.size f c')) → PE (lamCx X A outer s H E scope f c') body (t E))
    (hdb : (x == ("__debug__" : Str)) = false) (hd : (a == ("__debug__" : Str)) = false) (hcd : (a == ("__classdict__" : Str)) = false) :
    PE X (.Call (.Name x p) [.Lambda params body scope lpos] [] pos) (tLamS T P (X.env.qual ++ "<lambda>") TT t) := by
  refine ⟨fun pins s σ H Q I h => ?_⟩
  obtain ⟨hT, h⟩ := h
  refine wpAny_Call_Name_kw (ld_glob I hg hm (PySem.W.callWith_K (h₀ := X.base) I.ok.mod.kin hk ?_ (by rfl) (by rfl)) hdb)
  show wpAny _ _ (spliced ((false, eval (.Lambda params body scope lpos) X.env) :: backTo pos (starEach [] X.env))) _ _ s
  refine Calls.spliced_cons (lam_make3 I TB hcode hmT hu hT hdef (L.has I.ok) fun f c' pm2 ctv H1 s1 I1 ext T1 hf hfn hfr hco => Calls.spliced_nil ⟨I1.kIn, ?_⟩)
  have out : codeAny (model X.prog X.w) X.A (.call (.ref g) ⟨[.ref f], []⟩) (CR C8.CX0 X.stack X.prog X.w H1 s1 Q C8.E0) s1 := by
    refine run_ofS (N := Ng) (ps := [a]) (us := [.ref f]) (vs := [.ref f]) lk hcg Sg hr.r2 I1.env0 (hb s1 [.ref f] I1.kIn rfl) (.cons rfl .nil) rfl fun hr2 => ?_
    obtain ⟨t2, pt, qt⟩ := hG f c' s1 H1 Q (fun E H' Q' => t E σ H' Q') (fun W pn xe p1 p2 tk => pe_actS (i := 0) I1 L hf hfn hfr (hbind _ _ _ _ _) tk (hr.deeper _) (fun E A outer s H hr3 => hbody E A outer s H f c' hr3) hNg hva hd hcd) hco (h H1 f c' ext T1 hco)
    exact ⟨t2, pt.nox, qt⟩
  refine wpAny_call (codeAny_mono out fun r s2 h2 => ?_)
  cases r with
  | error e => exact (show False from h2).elim
  | ok fl =>
    cases fl with
    | ret u => exact I1.after h2
    | next => exact False.elim h2
    | brk => exact False.elim h2
    | cont => exact False.elim h2
end
end Dl

set_option Elab.async false
set_option linter.all false
set_option maxRecDepth 100000
set_option maxHeartbeats 4000000
namespace Dl
open PySem PySem.Spec PyProof.Rows L2 LamX
variable [Dl.Tb]
/-! ### heard(lambda: body): the body is evaluated over the frozen slots; what it gives or raises is told -/
def frzOnly (r : En) : En := r.map fun o => match o with
  | some (.fz d) => some (.fz d)
  | _ => none
def cloD (r : En) : List D := r.map fun o => match o with
  | some (.fz d) => d
  | _ => .non
def cloV (r : En) (σ : L2.St) : List V := List.zipWith (fun o v => match o, v with
  | some (.fz _), some v => v
  | _, _ => .non) r σ
section
variable {K : PySem.W.Frag} {mg : Str → Option Value} {B : Bg} {F F' H H' : Hp} {r : En} {σ : L2.St}
theorem repL_of_get : ∀ {ds : List D} {vs : List V}, ds.length = vs.length → (∀ (i : Nat) (d : D) (v : V), ds[i]? = some d → vs[i]? = some v → rep K mg F d v) → repL K mg F ds vs
  | [], [], _, _ => rfl
  | [], _ :: _, h, _ => by simp at h
  | _ :: _, [], h, _ => by simp at h
  | d :: ds, v :: vs, h, k => ⟨v, vs, rfl, k 0 d v rfl rfl, repL_of_get (by simpa using h) fun i d' v' h1 h2 => k (i + 1) d' v' (by simpa using h1) (by simpa using h2)⟩
theorem Rel.clo (R : Rel K mg B F H r σ) : repL K mg F (cloD r) (cloV r σ) := by
  refine repL_of_get (by unfold cloD cloV; simp [R.len]) fun i d v h1 h2 => ?_
  unfold cloD at h1
  unfold cloV at h2
  rw [List.getElem?_map] at h1
  rw [List.getElem?_zipWith] at h2
  cases q : r[i]? with
  | none => rw [q] at h1; cases h1
  | some o =>
    cases z : σ[i]? with
    | none => rw [q, z] at h2; cases h2
    | some u =>
      rw [q] at h1
      rw [q, z] at h2
      simp only [Option.map_some, Option.some.injEq] at h1
      simp only [Option.some.injEq] at h2
      cases o with
      | none =>
        simp only at h1 h2
        subst h1 h2
        rfl
      | some s =>
        cases s with
        | fz d0 =>
          obtain ⟨v', e', hr⟩ := R.slot i _ q
          rw [z] at e'
          cases e'
          simp only at h1 h2
          subst h1 h2
          exact hr
        | ow d0 =>
          simp only at h1 h2
          subst h1 h2
          rfl
        | bo d0 =>
          simp only at h1 h2
          subst h1 h2
          rfl
        | lm f c q0 ds vs =>
          simp only at h1 h2
          subst h1 h2
          rfl
/-- the lambda's own state -/
theorem Rel.lamAt (R : Rel K mg B F H r σ) (sf : SF F' H') (h : repL K mg F' (cloD r) (cloV r σ)) : Rel K mg ⟨F', H', []⟩ F' H' (frzOnly r) σ where
  fh := sf.s
  f0 := Same.refl F'
  tabs := sf.t
  keep := fun _ _ _ h _ => h
  there := fun _ h => h
  fresh := fun _ h _ => h
  live := fun _ h => by cases h
  len := by unfold frzOnly; rw [List.length_map]; exact R.len
  slot := fun i s hs => by
    unfold frzOnly at hs
    rw [List.getElem?_map] at hs
    cases q : r[i]? with
    | none => rw [q] at hs; cases hs
    | some o =>
      rw [q] at hs
      simp only [Option.map_some, Option.some.injEq] at hs
      cases o with
      | none => cases hs
      | some s0 =>
        cases s0 with
        | fz d =>
          simp only [Option.some.injEq] at hs
          subst hs
          obtain ⟨v, e, _⟩ := R.slot i _ q
          obtain ⟨v', e', hr⟩ := repL_get (i := i) (d := d) h (by unfold cloD; rw [List.getElem?_map, q]; rfl)
          unfold cloV at e'
          rw [List.getElem?_zipWith, q, e] at e'
          cases e'
          exact ⟨_, e, hr⟩
        | ow d => cases hs
        | bo d => cases hs
        | lm f c q0 ds vs => cases hs
  apart := fun i j s t p q ne hi _ ms => by
    exfalso
    unfold frzOnly at hi
    rw [List.getElem?_map] at hi
    cases q : r[i]? with
    | none => rw [q] at hi; cases hi
    | some o =>
      rw [q] at hi
      simp only [Option.map_some, Option.some.injEq] at hi
      cases o with
      | none => cases hi
      | some s0 =>
        cases s0 with
        | fz d =>
          simp only [Option.some.injEq] at hi
          subst hi
          cases ms
        | ow d => cases hi
        | bo d => cases hi
        | lm f c q0 ds vs => cases hi
theorem rel_grow {A : List Addr} {r1 : En} {σ1 : L2.St} (hb : B.bs = []) (R : Rel K mg B F' H' r1 σ1) : Grow [] B.F B.H F' H' := ⟨fun a o _ h n => R.keep a o (by rw [hb]; simp) h n, R.f0, R.fh, R.fresh, R.tabs, R.there⟩
end
def resD : Res (D × En) → Res D
  | .ok (d, _) => .ok d
  | .er c fs _ => .er c fs []
  | .bad => .bad
def eHeard (h : Res D → Option D) (f : En → Res (D × En)) : En → Res (D × En) := fun r => match f (frzOnly r) with
  | .bad => .bad
  | m => (match h (resD m) with
    | some d => .ok (d, r)
    | none => .bad)
open Classical in
/-- the call of what was handed in -/
noncomputable def eAct (L : Sl) (ρ : Res D) : En → Res (D × En) := fun r => if r[0]? = some (some L) then (match ρ with
  | .ok d => .ok (d, r)
  | .er c fs _ => .er c fs r
  | .bad => .bad) else .bad
/-- the start of the def that calls it -/
def startL (n : Nat) (L : Sl) : En := some L :: List.replicate (n - 1) none
section
variable {X : Cx} {W : WX} {x a : Str} {g c P : Addr} {k : Nat} {pg : Arguments} {bg : List Stmt} {sg : Scope} {dV kV doc pm cdv ct oc : Value} {an od : Option Addr} {osl : Array (Option Value)} {Ng : List Str} {params : Arguments} {body : Expr} {scope : Scope} {p lpos pos : Pos} {fE : En → Res (D × En)}
  {h : Res D → Option D} {sh : Sl → Res D → En → SR}
theorem DE.weak {e : Expr} {f : En → Res (D × En)} (hh : DE X W e f) : PE X e (fun σ H Q => ∃ B F r, Rel X.K X.mg B F H r σ ∧ Po X.K X.mg W B F σ (rE X.K X.mg) Q (f r)) := by
  obtain ⟨t, pt, kt⟩ := hh.ex
  refine ⟨fun pins s σ H Q I w => ?_⟩
  obtain ⟨B, F, r, R, po⟩ := w
  exact pt.run pins s σ H Q I (kt B F H r σ Q R po)
theorem rel_startL {N : List Str} {K : PySem.W.Frag} {mg : Str → Option Value} {F H : Hp} {f c' : Addr} {q : Str} {ds : List D} {vs : List V} (hn : 1 ≤ N.length) (sf : SF F H) (hc : H c' = some (CodeO c' q)) (hd : repL K mg F ds vs) :
    Rel K mg ⟨F, H, []⟩ F H (startL N.length (.lm f c' q ds vs)) (L2.start N [.ref f]) where
  fh := sf.s
  f0 := Same.refl F
  tabs := sf.t
  keep := fun _ _ _ h _ => h
  there := fun _ h => h
  fresh := fun _ h _ => h
  live := fun _ h => by cases h
  len := by
    unfold startL L2.start
    simp
  slot := fun i s hs => by
    unfold startL at hs
    cases i with
    | zero =>
      simp only [List.getElem?_cons_zero, Option.some.injEq] at hs
      subst hs
      refine ⟨by unfold L2.start; simp, hc, by simp, hd⟩
    | succ i =>
      rw [List.getElem?_cons_succ, List.getElem?_replicate] at hs
      split at hs <;> cases hs
  apart := fun i j s t p q ne hi hj ms mt => by
    exfalso
    unfold startL at hi
    cases i with
    | zero =>
      simp only [List.getElem?_cons_zero, Option.some.injEq] at hi
      subst hi
      cases ms
    | succ i =>
      rw [List.getElem?_cons_succ, List.getElem?_replicate] at hi
      split at hi <;> cases hi
theorem de_heard (hg : Gl X x) (hm : X.mg x = some (.ref g)) (hk : PySem.W.keepIn X.K (.ref g) = true) (lk : X.K.lookup g = some ⟨oc, od, .func (PySem.W.fnOf x x pg bg sg dV kV doc pm an cdv ct), osl⟩) (hcg : PySem.W.codeIn X.K cdv x = true)
    (hb : L2.Binds X.K (PySem.W.fnOf x x pg bg sg dV kV doc pm an cdv ct) [a] []) (Sg : FnScope Ng [a] sg) (hNg : Ng[0]? = some a) (hva : Vis sg a)
    (hcal : ∀ (s : Shared) (H : Hp) (L : Sl) (ρ : Res D), (∀ (W : WX) (pn : List (Addr × Obj)) (xe : Value → Shared → Prop) (p1 p2 : Pos), Takes ((heardCx X Ng x sg g cdv s H).tr pn xe) W → DE ((heardCx X Ng x sg g cdv s H).tr pn xe) W (.Call (.Name a p1) [] [] p2) (eAct L ρ)) →
      DSs (heardCx X Ng x sg g cdv s H).nox noW bg (sh L ρ))
    (hind : ∀ (L : Sl) (ρ : Res D) (d : D), h ρ = some d → ∃ r', sh L ρ (startL Ng.length L) = .rt d r')
    (TB : TabB X.base X.mg c P) (hcode : X.env.code = .ref c) (hmT : (P, X.env.qual ++ "<lambda>") ∈ Tb.T) (hu : ∀ p ∈ Tb.T, p.1 = P → p.2 = X.env.qual ++ "<lambda>") (hr : Room (k + 2) X.A) (L : LamS X.env.scope scope) (hdef : defaultsOf params X.env = ([], []))
    (hbind : ∀ (q : Str) (cl : List (Str × Addr)) (pm cv ctv : Value), bindArgs (PySem.W.kla_fn "<lambda>" q params body scope cl pm cv ctv) ⟨[], []⟩ = pure [])
    (hbody : ∀ (E : XK) (A : Around) (outer : List Env) (s : Shared) (H : Hp) (f c' : Addr), Room k (A.deeper (lamEnv X scope s.heap.objs.size f c')) → DE (lamCx X A outer s H E scope f c') (fun c d _ H' => E c d H') body fE)
    (hdb : (x == ("__debug__" : Str)) = false) (hd : (a == ("__debug__" : Str)) = false) (hcd : (a == ("__classdict__" : Str)) = false) :
    DE X W (.Call (.Name x p) [.Lambda params body scope lpos] [] pos) (eHeard h fE) := by
  refine ⟨_, pe_lamS (T := Tb.T) (TT := fun f c' tl H Q => ∃ (B : Bg) (F : Hp) (r : En) (σ : L2.St), Rel X.K X.mg B F H r σ ∧
      (tl = fun E H' Q' => ∃ B F r, Rel X.K X.mg B F H' r σ ∧ Po X.K X.mg (fun c d _ H' => E c d H') B F σ (rE X.K X.mg) Q' (fE r)) ∧ Po X.K X.mg W B F σ (rE X.K X.mg) Q (eHeard h fE r))
    (t := fun E σ H Q => ∃ B F r, Rel X.K X.mg B F H r σ ∧ Po X.K X.mg (fun c d _ H' => E c d H') B F σ (rE X.K X.mg) Q (fE r)) hg hm hk lk hcg hb Sg hNg hva ?_ TB hcode hmT hu hr L hdef hbind (fun E A outer s H f c' hr2 => (hbody E A outer s H f c' hr2).weak) hdb hd hcd, ?_⟩
  · -- the callee
    intro f c' s H Q tl act hco hTT
    obtain ⟨B, F, r, σ, R, rfl, po⟩ := hTT
    have hclo := R.clo
    have hact : ∀ (W2 : WX) (pn : List (Addr × Obj)) (xe : Value → Shared → Prop) (p1 p2 : Pos), Takes ((heardCx X Ng x sg g cdv s H).tr pn xe) W2 → DE ((heardCx X Ng x sg g cdv s H).tr pn xe) W2 (.Call (.Name a p1) [] [] p2) (eAct (.lm f c' (X.env.qual ++ "<lambda>") (cloD r) (cloV r σ)) (resD (fE (frzOnly r)))) := by
      intro W2 pn xe p1 p2 tk
      refine ⟨_, act W2 pn xe p1 p2 tk, fun B2 F2 H2 r2 σ2 Q2 R2 p2' => ?_⟩
      unfold eAct at p2'
      split at p2'
      · rename_i h0
        obtain ⟨e0, c1, c2, c3⟩ := R2.slot 0 _ h0
        have hcode2 : H2 c' = some (CodeO c' (X.env.qual ++ "<lambda>")) := R2.keep c' _ c2 c1 (fun ps => codeO_ne ps)
        refine ⟨e0, hcode2, ⟨F2, H2, []⟩, F2, frzOnly r, R.lamAt R2.sf c3, ?_⟩
        cases q : fE (frzOnly r) with
        | bad =>
          rw [q] at p2'
          exact p2'.elim
        | ok dr =>
          obtain ⟨d, r3⟩ := dr
          rw [q] at p2'
          exact fun v F3 H3 R3 s3 x3 => p2' v F3 H3 (R2.growN (rel_grow (A := []) rfl R3)) s3 x3
        | er c1 fs r3 =>
          rw [q] at p2'
          exact fun C od σ3 F3 H3 hm3 R3 s3 x3 => p2' C od σ2 F3 H3 hm3 (R2.growN (rel_grow (A := []) rfl R3)) s3 x3
      · exact p2'.elim
    obtain ⟨t2, pt, kt⟩ := (hcal s H (.lm f c' (X.env.qual ++ "<lambda>") (cloD r) (cloV r σ)) (resD (fE (frzOnly r))) hact).ex
    · refine ⟨t2, pt, kt ⟨F, H, []⟩ F H _ _ _ (rel_startL (List.length_pos_iff.mpr (fun z => by rw [z] at hNg; cases hNg)) R.sf hco hclo) ?_⟩
      unfold eHeard at po
      cases q : fE (frzOnly r) with
      | bad =>
        rw [q] at po
        exact po.elim
      | ok dr =>
        rw [q] at po
        cases z : h (resD (.ok dr)) with
        | none =>
          simp only [z] at po
          exact po.elim
        | some d =>
          simp only [z] at po
          obtain ⟨r', e'⟩ := hind (.lm f c' (X.env.qual ++ "<lambda>") (cloD r) (cloV r σ)) _ d z
          rw [e']
          exact fun v σ' F' H' R' s' x' => po v F' H' (R.growN (rel_grow (A := []) rfl R')) (s') x'
      | er c1 fs r1 =>
        rw [q] at po
        cases z : h (resD (.er c1 fs r1)) with
        | none =>
          simp only [z] at po
          exact po.elim
        | some d =>
          simp only [z] at po
          obtain ⟨r', e'⟩ := hind (.lm f c' (X.env.qual ++ "<lambda>") (cloD r) (cloV r σ)) _ d z
          rw [e']
          exact fun v σ' F' H' R' s' x' => po v F' H' (R.growN (rel_grow (A := []) rfl R')) (s') x'
  · -- the caller
    intro B F H r σ Q R po
    refine ⟨R.tabs.tb, fun H1 f c' ext T1 hco => ⟨B, F, r, σ, ?_, rfl, po⟩⟩
    refine R.growT ⟨T1, R.tabs.fn⟩ (fun a o ho n => ext.ext a o ho n) ext.all (Same.refl F) (ext.same R.fh (R.tabs.fn _ hmT)) fun a h1 _ => h1
end
end Dl

set_option Elab.async false
set_option linter.all false
set_option maxRecDepth 100000
set_option maxHeartbeats 4000000
namespace Dl
open PySem PySem.Spec PyProof.Rows L2
/-! ### defs that make lambdas: their code objects and tables -/
def tabOf (K : PySem.W.Frag) (f : Addr) : Option (Addr × Addr) := match K.lookup f with
  | some ⟨_, _, .func fd, _⟩ => (match fd.code with
    | .ref c => (match K.lookup c with
      | some ⟨.type t, _, .fields vs, _⟩ => (match vs.getD 11 .none, vs.getD 18 .none, vs.getD 7 .none, vs.getD 9 .none, vs.getD 10 .none with
        | .ref P, .str _ _, .int _ _, .bool _, .int _ _ => if t = "code" ∧ c ≠ P then some (c, P) else none
        | _, _, _, _, _ => none)
      | _ => none)
    | _ => none)
  | _ => none
section
variable {K : PySem.W.Frag} {h : Heap} {f c P : Addr}
theorem getD_some {vs : Array Value} {i : Nat} {a : Addr} (e : vs.getD i .none = .ref a) : vs[i]? = some (.ref a) := by
  rw [Array.getD_eq_getD_getElem?] at e
  cases q : vs[i]? with
  | none =>
    rw [q] at e
    cases e
  | some u =>
    rw [q] at e
    exact congrArg some e
theorem tabOf_hd (KX : K.In h) (e : tabOf K f = some (c, P)) : PySem.W.CodeHd h c P ∧ ∀ oc od fd osl, K.lookup f = some ⟨oc, od, .func fd, osl⟩ → fd.code = .ref c := by
  unfold tabOf at e
  split at e
  · rename_i o1 o2 fd o3 hf
    split at e
    · rename_i c0 hcode
      split at e
      · rename_i t o4 vs o5 hc
        split at e
        · rename_i P0 s1 t1 i1 t2 b1 i2 t3 q1 q2 q3 q4 q5
          split at e
          · rename_i hh
            cases e
            obtain ⟨ht, hne⟩ := hh
            subst ht
            refine ⟨⟨_, vs, s1, t1, i1, t2, b1, i2, t3, KX _ _ hc, rfl, rfl, getD_some q1, q1, q2, q3, q4, q5, hne⟩, fun oc od fd2 osl e2 => ?_⟩
            rw [hf] at e2
            cases e2
            exact hcode
          · cases e
        · cases e
      · cases e
    · cases e
  · cases e
end
def emptyT (g : Addr → Option Obj) (P : Addr) : Bool := match g P with
  | some ⟨.none, none, .fields vs, sl⟩ => decide (vs.toList = []) && decide (sl.toList = [])
  | _ => false
theorem emptyT_ok {g : Addr → Option Obj} {P : Addr} (e : emptyT g P = true) : g P = some { cls := .none, data := .fields #[] } := by
  unfold emptyT at e
  split at e
  · rename_i vs sl q
    obtain ⟨h1, h2⟩ := Bool.and_eq_true_iff.mp e
    have e1 : vs = #[] := Array.toList_eq_nil_iff.mp (of_decide_eq_true h1)
    have e2 : sl = #[] := Array.toList_eq_nil_iff.mp (of_decide_eq_true h2)
    rw [q, e1, e2]
  · cases e
def lamN (x : Str) : Str := x ++ ".<locals>." ++ "<lambda>"
def csOf (K : PySem.W.Frag) (lams : List Str) : List (Addr × Addr) := lams.filterMap fun x => tabOf K (He.ga K x)
def TOf (K : PySem.W.Frag) (lams : List Str) : List (Addr × Str) := lams.filterMap fun x => (tabOf K (He.ga K x)).map fun q => (q.2, lamN x)
/-- what is looked at: each has its table, no two the same, all empty, none in K -/
def tabsB (g : Addr → Option Obj) (K : PySem.W.Frag) (lams : List Str) : Bool := (lams.all fun x => (tabOf K (He.ga K x)).isSome) && (decide ((csOf K lams).map (·.2)).Nodup && (csOf K lams).all fun q => emptyT g q.2 && (K.lookup q.2).isNone)
structure TabsOk (K : PySem.W.Frag) (h : Heap) (lams : List Str) : Prop where
  so : ∀ x ∈ lams, ∃ q, tabOf K (He.ga K x) = some q
  nd : ((csOf K lams).map (·.2)).Nodup
  hT : ∀ q ∈ csOf K lams, h.get? q.2 = some { cls := .none, data := .fields #[] }
  nK : ∀ q ∈ csOf K lams, K.lookup q.2 = none
theorem tabsB_ok {K : PySem.W.Frag} {h : Heap} {lams : List Str} (e : tabsB h.get? K lams = true) : TabsOk K h lams := by
  unfold tabsB at e
  obtain ⟨h1, e⟩ := Bool.and_eq_true_iff.mp e
  obtain ⟨h2, h3⟩ := Bool.and_eq_true_iff.mp e
  refine ⟨fun x hx => Option.isSome_iff_exists.mp (List.all_eq_true.mp h1 x hx), of_decide_eq_true h2, fun q hq => ?_, fun q hq => ?_⟩
  · exact emptyT_ok (Bool.and_eq_true_iff.mp (List.all_eq_true.mp h3 q hq)).1
  · exact Option.isNone_iff_eq_none.mp (Bool.and_eq_true_iff.mp (List.all_eq_true.mp h3 q hq)).2
theorem TabsOk.keeps {K : PySem.W.Frag} {h h' : Heap} {lams : List Str} (t : TabsOk K h lams) (k : ∀ a o, h.get? a = some o → h'.get? a = some o) : TabsOk K h' lams := ⟨t.so, t.nd, fun q hq => k _ _ (t.hT q hq), t.nK⟩
theorem TOf_cs {K : PySem.W.Frag} {lams : List Str} {p : Addr × Str} (h : p ∈ TOf K lams) : ∃ q ∈ csOf K lams, q.2 = p.1 := by
  obtain ⟨x, hx, e⟩ := List.mem_filterMap.mp h
  cases z : tabOf K (He.ga K x) with
  | none => rw [z] at e; cases e
  | some q =>
    rw [z] at e
    cases e
    exact ⟨q, List.mem_filterMap.mpr ⟨x, hx, z⟩, rfl⟩
/-- two of one table: one and the same -/
theorem TOf_one : ∀ {K : PySem.W.Frag} {lams : List Str}, ((csOf K lams).map (·.2)).Nodup → ∀ p ∈ TOf K lams, ∀ p' ∈ TOf K lams, p.1 = p'.1 → p.2 = p'.2 := by
  intro K lams
  induction lams with
  | nil => intro _ p hp; cases hp
  | cons x l ih =>
    intro nd p hp p' hp' e
    unfold csOf at nd
    unfold TOf at hp hp'
    cases z : tabOf K (He.ga K x) with
    | none =>
      rw [List.filterMap_cons, z] at nd hp hp'
      exact ih nd p hp p' hp' e
    | some q =>
      rw [List.filterMap_cons, z] at nd hp hp'
      simp only [Option.map_some, List.map_cons] at nd hp hp'
      have nd' := List.nodup_cons.mp nd
      have out : ∀ p ∈ TOf K l, p.1 ≠ q.2 := fun p hp e => by
        obtain ⟨q', hq', e'⟩ := TOf_cs hp
        exact nd'.1 (List.mem_map.mpr ⟨q', hq', e'.trans e⟩)
      rcases List.mem_cons.mp hp with a | a
      · rcases List.mem_cons.mp hp' with b | b
        · rw [a, b]
        · rw [a] at e
          exact absurd e.symm (out p' b)
      · rcases List.mem_cons.mp hp' with b | b
        · rw [b] at e
          exact absurd e (out p a)
        · exact ih nd'.2 p a p' b e
end Dl

set_option Elab.async false
set_option linter.all false
set_option maxRecDepth 100000
set_option maxHeartbeats 4000000
namespace Dl
open PySem L2 PySem.Spec PyProof.Rows
variable [Dl.Tb]
/-! ### defs that make lambdas -/
/-- the def's code object has a table that is told -/
def CodeT (base : Heap) (mg : Str → Option Value) (cdv : Value) (q : Str) : Prop := ∃ c P : Addr, cdv = .ref c ∧ LamX.TabB base mg c P ∧ (P, q) ∈ Tb.T ∧ ∀ p ∈ Tb.T, p.1 = P → p.2 = q
section
variable {CX : CXT} {P : Program} {w : World} {K : PySem.W.Frag} {mg : Str → Option Value} {base : Heap} {j k : Nat} {f : Addr} {fd : FuncData} {ps : List Str} {sp : Sp}
theorem fun_okC {x qual : Str} {params : Arguments} {body : List Stmt} {scope : Scope} {dvs : List V} {kws : List (Str × V)} {N : List Str} (FD : FunD K x qual params body scope dvs kws f fd) (S : FnScope N ps scope) (len : ∀ vs H Q E, sp vs H Q E → vs.length = ps.length)
    (hcd : ∀ oc od fd osl, K.lookup f = some ⟨oc, od, .func fd, osl⟩ → CodeT base mg fd.code (lamN qual))
    (hb : ∀ (cdv : Value) (A : Around) (outer : List Env) (s : Shared) (H : Hp) (vs : List V) (Q : VK) (E : XK), CodeT base mg cdv (lamN qual) → Room k (A.deeper (envOfC qual scope s.heap.objs.size f cdv)) → sp vs H Q E →
      ∃ t, PSs (cxOf CX P w K mg base N qual scope f cdv A outer s H E) body t ∧ t { nx := fun _ H' => Q .non H', rt := Q } (start N vs) H) : FnOk P w K mg base CX (k + 1) f fd ps sp := by
  obtain ⟨oc, od, dV, kV, doc, pm, an, cdv, ct, osl, rfl, lk, hcdv, _, _⟩ := FD.ex
  refine ⟨len, fun A outer s H args us vs Q E room e0 bt rel prom => ?_⟩
  have there : ∀ b o, base.get? b = some o → s.heap.get? b = some o := fun b o e => (e0.bs b o e).1
  have kin : K.In s.heap := e0.mod.kin.keeps there
  have nol : s.heap.NoLimit := e0.mod.nolimit.keeps there
  have kinds : ∀ y ∈ ps.zip us, scope.names.lookup y.1 = some .local ∨ (scope.names.lookup y.1 = some .cell ∧ ((cellsFrom (s.heap.objs.size + 1) scope.names []).lookup y.1).isSome = true) := by
    intro y my
    rcases S.par y.1 (List.of_mem_zip (a := y.1) (b := y.2) my).1 with h | h
    · exact Or.inl h
    · exact Or.inr ⟨h, PySem.W.cellsFrom_some _ _ _ (Or.inl h)⟩
  refine codeAny_call_function room.depth (kin _ _ lk) rfl S.co S.gen rfl (PySem.W.codeRec_of kin hcdv) (bt _ _ _ _ ?_)
  refine wpAny_newFunctionEnv_cells S.kind kinds fun env ee s1 entry => ?_
  subst ee
  refine ⟨nol.keeps entry.toInCall.keep, codeAny_func ?_⟩
  obtain ⟨t, pt, ht⟩ := hb cdv A outer s H vs Q E (hcd _ _ _ _ lk) (room.deeper _) prom
  have I0 := inv_start (CX := CX) (E := E) (qual := qual) (f := f) (cd := cdv) S room.hd e0 (len _ _ _ _ prom) rel entry
  refine wpAny_mono (pt.run [] s1 (start N vs) H _ I0 ht) (fun fl s' out => ?_) fun _ _ z => z
  cases fl with
  | ret u =>
    obtain ⟨v, σ1, H1, J, rv, q⟩ := out
    exact ⟨v, H1, J.os, J.bare, J.base, J.hok, rv, q⟩
  | next =>
    obtain ⟨σ1, H1, J, q⟩ := out
    exact ⟨V.non, H1, J.os, J.bare, J.base, J.hok, rfl, q⟩
  | brk =>
    obtain ⟨_, _, _, no⟩ := out
    exact no.elim
  | cont =>
    obtain ⟨_, _, _, no⟩ := out
    exact no.elim
end
/-! ### the end of a law with tables -/
theorem law_goT {P : Program} {w : World} {K : PySem.W.Frag} {mg mb : Str → Option Value} {CX : CXT} {k : Nat} {fa a : Addr} {cs : List (Addr × Addr)} {fd : FuncData} {x : Str} {sp : Sp} {s₁ : Shared} {vs : List Value} {ns : List Int} (KX : K.In s₁.heap) (hns : s₁.heap.Ns mainGlobals mg)
    (hb : s₁.heap.Ns builtinsNs mb) (hbb : ∀ x : Str, x ≠ "__name__" → mb x = bootBuiltins x) (hlim : s₁.heap.NoLimit) (hg : s₁.gens = #[]) (hT : ∀ p ∈ cs, s₁.heap.get? p.2 = some { cls := .none, data := .fields #[] }) (nT : ∀ p ∈ cs, K.lookup p.2 = none)
    (C : ∀ p ∈ cs, PySem.W.CodeHd s₁.heap p.1 p.2) (hbm : ∃ (bm : Addr) (ob : Obj), mg "__builtins__" = some (.ref bm) ∧ bm ≠ builtinsNs ∧ s₁.heap.get? bm = some ob ∧ ob.cls = .type "module" ∧ ob.dict = some builtinsNs ∧ ob.data = .plain)
    (ha : s₁.heap.get? a = some { cls := .type "list", data := .seq vs.toArray }) (hi : IntsAre vs ns) (hl : ns.length ≤ sizeLine) (hr : L2.Room k callerA)
    (F : ∀ base : Heap, K.In base → base.Ns mainGlobals mg → (∀ p ∈ cs, LamX.TabB base mg p.1 p.2) → FnOk P w K mg base CX k fa fd [x] sp) (hbind : ∀ (s : Shared) (u : Value), BindsTo s fd ⟨[u], []⟩ [(x, u)])
    (hsp : ∀ H : Hp, (∀ p ∈ cs, H p.2 = some (.tbl #[])) → SqL K H a (ns.map V.int) → sp [.ref a] H (fun v _ => v = .bl true) fun _ _ _ => False) (hCX : ∀ H e s', CX [] H s₁ (fun _ _ _ => False) e s' → False) :
    codeAny (model P w) callerA (.call (.ref fa) ⟨[.ref a], []⟩) (fun r s' => r = .ok (.ret (.bool true)) ∧ OldK s₁.heap s'.heap ∧ s'.os = s₁.os ∧ AllBare s'.gens) s₁ := by
  have nov : ∀ b : Addr, b ∉ ([] : List Addr) := fun b => List.not_mem_nil
  have tab : ∀ b ∈ cs.map (·.2), s₁.heap.get? b = some { cls := .none, data := .fields #[] } := fun b hb => by
    obtain ⟨p, hp, rfl⟩ := List.mem_map.mp hb
    exact hT p hp
  have isP : ∀ p ∈ cs, p.2 ∈ cs.map (·.2) := fun p hp => List.mem_map.mpr ⟨p, hp, rfl⟩
  have aT : a ∉ cs.map (·.2) := fun z => by
    have q := tab a z
    rw [ha] at q
    cases (show Data.seq vs.toArray _ = Data.fields #[] from congrArg Obj.data (Option.some.inj q))
  have main : ∀ H : Hp, (∀ p ∈ cs, H p.2 = some (.tbl #[])) → (∀ b, H b = none ∨ b ∈ cs.map (·.2) ∨ ∃ o xs, H b = some (.frz o (.lst xs))) → SqL K H a (ns.map V.int) → HOk P w H s₁.heap → (∀ b, H b ≠ none → b = a ∨ b ∈ cs.map (·.2)) → (H a ≠ none → K.lookup a = none) →
      codeAny (model P w) callerA (.call (.ref fa) ⟨[.ref a], []⟩) (fun r s' => r = .ok (.ret (.bool true)) ∧ OldK s₁.heap s'.heap ∧ s'.os = s₁.os ∧ AllBare s'.gens) s₁ := by
    intro H all only sq ok one notK
    have none_of : ∀ {b : Addr} {o : Obj}, s₁.heap.get? b = some o → (∀ (us : Array Value) n, o.data ≠ .seq us n) → o.data ≠ .fields #[] → H b = none := fun {b o} e n1 n2 => Classical.byContradiction fun q => by
      rcases one b q with z | z
      · rw [z, ha] at e
        cases e
        exact n1 _ _ rfl
      · rw [tab b z] at e
        cases e
        exact n2 rfl
    have names : ∀ {b : Addr} {m : Str → Option Value}, s₁.heap.Ns b m → (hidT s₁.heap H).Ns b m := fun {b m} n => by
      obtain ⟨o, es, ep, e, d, rest⟩ := n
      refine ⟨o, es, ep, hidT_get e (none_of e (fun us n z => ?_) fun z => ?_), d, rest⟩ <;> (rw [d] at z; cases z)
    have kb : K.In (hidT s₁.heap H) := fun b o e => hidT_get (KX b o e) (Classical.byContradiction fun q => by
      rcases one b q with z | z
      · rw [z] at e q
        rw [notK q] at e
        cases e
      · obtain ⟨p, hp, rfl⟩ := List.mem_map.mp z
        rw [nT p hp] at e
        cases e)
    have nl : (hidT s₁.heap H).NoLimit := by
      obtain ⟨mc, h1, h2⟩ := hlim
      exact ⟨mc, names h1, h2⟩
    have TB : ∀ p ∈ cs, LamX.TabB (hidT s₁.heap H) mg p.1 p.2 := fun p hp => by
      refine ⟨?_, ?_, fun z => ?_⟩
      · obtain ⟨o, us, file, tf, flags, tg, inF, text, tt, e1, r1, r2, r3, rest⟩ := C p hp
        refine ⟨o, us, file, tf, flags, tg, inF, text, tt, hidT_get e1 (none_of e1 (fun u2 n z => ?_) fun z => ?_), r1, r2, r3, rest⟩
        · rw [r2] at z
          cases z
        · rw [r2] at z
          cases z
          simp at r3
      · obtain ⟨bm, ob, b1, b2, b3, b4, b5, b6⟩ := hbm
        refine ⟨bm, ob, b1, b2, fun q => ?_, fun q => ?_, hidT_get b3 (none_of b3 (fun us n z => ?_) fun z => ?_), b4, b5, b6⟩
        · obtain ⟨o, es, ep, e, hd, _⟩ := hns
          rw [q, e] at b3
          cases b3
          rw [hd] at b6
          cases b6
        · rw [q, hT p hp] at b3
          cases b3
          cases b6
        · rw [b6] at z
          cases z
        · rw [b6] at z
          cases z
      · obtain ⟨o, es, ep, e, hd, _⟩ := hns
        rw [z, hT p hp] at e
        cases e
        cases hd
    have e0 : Env0 P w K mg (hidT s₁.heap H) callerA [] s₁ H := ⟨rfl, ⟨kb, names hns, ⟨mb, names hb, hbb⟩, nl⟩, fun b o e => of_hidT e, Nat.le_of_eq (hidT_size _ _), trivial, fun b hb => (nov b hb).elim, ok, .of_eq hg⟩
    have go := (F _ kb (names hns) TB).run callerA [] s₁ H ⟨[.ref a], []⟩ [.ref a] [.ref a] _ _ ⟨hr, rfl⟩ e0 (hbind s₁ (.ref a)) (.cons rfl .nil) (hsp H all sq)
    refine codeAny_mono go fun out s' z => ?_
    match out, z with
    | .error e, z => exact (hCX H e s' z).elim
    | .ok .next, z => exact z.elim
    | .ok .brk, z => exact z.elim
    | .ok .cont, z => exact z.elim
    | .ok (.ret u), z =>
      obtain ⟨v, H', eos, bare, un, ok', rv, ev⟩ := z
      cases (show v = .bl true from ev)
      cases (show u = Value.bool true from rv)
      have kept : ∀ b o, b ∉ cs.map (·.2) → s₁.heap.get? b = some o → s'.heap.get? b = some o := fun b o nb e => by
        rcases only b with q | q | ⟨ob, xs, q⟩
        · exact un.keep b o e q (fun z => (nov b z).elim) (by simp)
        · exact absurd q nb
        · have e1 := (ok b _ q).1
          have e2 := (ok' b _ (un.frzs b ob _ q)).1
          rw [e] at e1
          cases e1
          exact e2
      have longer : ∀ p ∈ cs, ∃ more : Array Value, s'.heap.get? p.2 = some { cls := .none, data := .fields more } := fun p hp => by
        obtain ⟨more, q⟩ := un.tbls p.2 #[] (all p hp)
        exact ⟨_, ok' p.2 _ q⟩
      refine ⟨rfl, ⟨fun b o e => ?_, fun b o e => ?_⟩, eos, bare⟩
      · by_cases hb : b ∈ cs.map (·.2)
        · obtain ⟨p, hp, rfl⟩ := List.mem_map.mp hb
          obtain ⟨more, hm⟩ := longer p hp
          rw [hT p hp] at e
          cases e
          exact .inr (.inl ⟨((C p hp).tab (hT p hp)).isCodeTable, rfl, #[], more, rfl, by rw [Array.empty_append]; exact hm⟩)
        · exact .inl (kept b o hb e)
      · by_cases hb : b ∈ cs.map (·.2)
        · obtain ⟨p, hp, rfl⟩ := List.mem_map.mp hb
          obtain ⟨more, hm⟩ := longer p hp
          exact ⟨_, hm⟩
        · exact ⟨o, kept b o hb e⟩
  have rv := vals_ints hi
  have lenV := hi.length
  cases lk : K.lookup a with
  | some o =>
    have e := KX a o lk
    rw [ha] at e
    cases e
    have sz : vs.toArray.size ≤ sizeLine := by rw [List.size_toArray, lenV]; exact hl
    refine main (fun b => if b ∈ cs.map (·.2) then some (.tbl #[]) else none) (fun p hp => if_pos (isP p hp)) (fun b => ?_) (Or.inr ⟨_, vs.toArray, _, lk, rfl, rfl, rfl, sz, by simpa using rv⟩) (fun b u z => ?_) (fun b z => ?_) fun z => absurd (if_neg aT) z
    · by_cases hb : b ∈ cs.map (·.2)
      · exact .inr (.inl hb)
      · exact .inl (if_neg hb)
    · by_cases hb : b ∈ cs.map (·.2)
      · cases (if_pos hb).symm.trans z
        exact tab b hb
      · cases (if_neg hb).symm.trans z
    · exact .inr (Classical.byContradiction fun hb => z (if_neg hb))
  | none =>
    let ob : HO := .frz { cls := .type "list", data := .seq vs.toArray } (.lst (ns.map V.int))
    refine main (fun b => if b ∈ cs.map (·.2) then some (.tbl #[]) else if b = a then some ob else none) (fun p hp => if_pos (isP p hp)) (fun b => ?_) (Or.inl (Or.inr ⟨_, (if_neg aT).trans (if_pos rfl)⟩)) (fun b u z => ?_) (fun b z => ?_) fun _ => lk
    · by_cases hb : b ∈ cs.map (·.2)
      · exact .inr (.inl hb)
      · by_cases e : b = a
        · exact .inr (.inr ⟨_, _, (if_neg hb).trans (if_pos e)⟩)
        · exact .inl ((if_neg hb).trans (if_neg e))
    · by_cases hb : b ∈ cs.map (·.2)
      · cases (if_pos hb).symm.trans z
        exact tab b hb
      · have z1 := (if_neg hb).symm.trans z
        by_cases e : b = a
        · cases (if_pos e).symm.trans z1
          subst e
          exact ⟨ha, by rw [List.length_map]; exact hl, vs, _, rv, ha⟩
        · cases (if_neg e).symm.trans z1
    · by_cases hb : b ∈ cs.map (·.2)
      · exact .inr hb
      · exact .inl (Classical.byContradiction fun e => z ((if_neg hb).trans (if_neg e)))
theorem walk_lawT {l : PySem.W.OpenLaw} {n k : Nat} {q : Program} {loose : List Str} {XP : (Str → Option Value) → Heap → Prop} {YP : World → Heap → Prop} {d : DefRec} {CX : CXT} {x : Str} (hn : l.most = some n) (hn2 : n ≤ sizeLine) (hdf : d.params.defaults = []) (hr : L2.Room k callerA)
    (F : ∀ (w : World) (mg : Str → Option Value) (fa : Addr) (h : Heap), YP w h → h.Ns mainGlobals mg → mg d.name = some (.ref fa) → ∃ (K : PySem.W.Frag) (fd : FuncData) (sp : Sp) (cs : List (Addr × Addr)), K.In h ∧ (∀ (s : Shared) (u : Value), BindsTo s fd ⟨[u], []⟩ [(x, u)]) ∧
      (∀ p ∈ cs, h.get? p.2 = some { cls := .none, data := .fields #[] }) ∧ (∀ p ∈ cs, K.lookup p.2 = none) ∧ (∀ p ∈ cs, PySem.W.CodeHd h p.1 p.2) ∧
      (∀ (H : Hp) (a : Addr) (ns : List Int), ns.length ≤ n → (∀ p ∈ cs, H p.2 = some (.tbl #[])) → SqL K H a (ns.map V.int) → sp [.ref a] H (fun v _ => v = .bl true) fun _ _ _ => False) ∧
      ∀ base : Heap, K.In base → base.Ns mainGlobals mg → (∀ p ∈ cs, LamX.TabB base mg p.1 p.2) → FnOk l.prog w K mg base CX k fa fd [x] sp)
    (hCX : ∀ (H : Hp) (s : Shared) (e : Value) (s' : Shared), CX [] H s (fun _ _ _ => False) e s' → False) : PySem.W.WalkO q loose XP YP l.row.toRowW d [] (fun f vs => PySem.call f vs) := by
  refine Att.attach_call hn hdf fun w s₀ s₁ mg mb fa o pm cd doc a vs ns G Y _ _ _ at_ obj isI len gens => ?_
  obtain ⟨K, fd, sp, cs, KX, bi, hT, nT, C, prom, ok⟩ := F w mg fa _ Y G.T.g at_
  exact law_goT KX G.T.g G.T.b G.T.builtins G.T.nolimit gens hT nT C G.T.bmain obj isI (Nat.le_trans len hn2) hr ok bi (fun H o z => prom H a ns len o z) fun H e s' => hCX H s₁ e s'
end Dl

set_option Elab.async false
set_option linter.all false
set_option maxRecDepth 100000
set_option maxHeartbeats 4000000
namespace Dl
open PySem PySem.Spec PyProof.Rows L2
/-! ### facts of exception classes -/
def tailOf : Bool → List Value
  | false => [.type "ValueError", .type "Exception", .type "BaseException", .type "object"]
  | true => [.type "ArithmeticError", .type "Exception", .type "BaseException", .type "object"]
def newOf : Bool → String
  | false => "ValueError.__new__"
  | true => "ArithmeticError.__new__"
/-- own classes, then the tail -/
def refsT (tl : List Value) : List Value → Bool
  | .ref _ :: r => refsT tl r
  | l => l == tl
theorem mro_tail (ar : Bool) : Mro (tailOf ar) := by
  cases ar with
  | false => exact ⟨rfl, by decide +kernel, fun self => PySem.F.store_ValueError.passes self⟩
  | true => exact ⟨rfl, by decide +kernel, fun self => PySem.F.store_ArithmeticError.passes self⟩
theorem refsT_ok (ar : Bool) : ∀ l : List Value, refsT (tailOf ar) l = true → Mro l ∧ ∀ Y : String, l.contains (.type Y) = (tailOf ar).contains (.type Y)
  | .ref c :: r, e => by
    obtain ⟨h1, h2⟩ := refsT_ok ar r e
    exact ⟨h1.cons, fun Y => by rw [List.contains_cons, h2 Y]; rfl⟩
  | [], e => by
    rw [beq_iff_eq.mp (show (([] : List Value) == tailOf ar) = true from e)]
    exact ⟨mro_tail ar, fun _ => rfl⟩
  | .none :: l, e => by
    rw [beq_iff_eq.mp (show ((Value.none :: l) == tailOf ar) = true from e)]
    exact ⟨mro_tail ar, fun _ => rfl⟩
  | .ellipsis :: l, e => by
    rw [beq_iff_eq.mp (show ((Value.ellipsis :: l) == tailOf ar) = true from e)]
    exact ⟨mro_tail ar, fun _ => rfl⟩
  | .notImplemented :: l, e => by
    rw [beq_iff_eq.mp (show ((Value.notImplemented :: l) == tailOf ar) = true from e)]
    exact ⟨mro_tail ar, fun _ => rfl⟩
  | .bool b :: l, e => by
    rw [beq_iff_eq.mp (show ((Value.bool b :: l) == tailOf ar) = true from e)]
    exact ⟨mro_tail ar, fun _ => rfl⟩
  | .int a b :: l, e => by
    rw [beq_iff_eq.mp (show ((Value.int a b :: l) == tailOf ar) = true from e)]
    exact ⟨mro_tail ar, fun _ => rfl⟩
  | .float a b :: l, e => by
    rw [beq_iff_eq.mp (show ((Value.float a b :: l) == tailOf ar) = true from e)]
    exact ⟨mro_tail ar, fun _ => rfl⟩
  | .str a b :: l, e => by
    rw [beq_iff_eq.mp (show ((Value.str a b :: l) == tailOf ar) = true from e)]
    exact ⟨mro_tail ar, fun _ => rfl⟩
  | .bytes a b :: l, e => by
    rw [beq_iff_eq.mp (show ((Value.bytes a b :: l) == tailOf ar) = true from e)]
    exact ⟨mro_tail ar, fun _ => rfl⟩
  | .type a :: l, e => by
    rw [beq_iff_eq.mp (show ((Value.type a :: l) == tailOf ar) = true from e)]
    exact ⟨mro_tail ar, fun _ => rfl⟩
  | .builtin a :: l, e => by
    rw [beq_iff_eq.mp (show ((Value.builtin a :: l) == tailOf ar) = true from e)]
    exact ⟨mro_tail ar, fun _ => rfl⟩
def excB (K : PySem.W.Frag) (C : Addr) (ar : Bool) : Bool := match K.lookup C with
  | some ⟨.type "type", _, .cls cd, sl⟩ => (match cd.mro, sl.toList with
    | .ref C' :: bm, [_, _, _, _, some (.builtin n), _] => decide (C' = C) && (decide (n = newOf ar) && (!cd.hasDel && (cd.hasDict && refsT (tailOf ar) bm)))
    | _, _ => false)
  | _ => false
inductive Fc where
  | oex (x : Str) (ar : Bool)
  | ini (x : Str)
  | nof (x f : Str)
  | ct (x : Str)
  | exm (c x : Str) (b : Bool)
  | kitC (c x : Str)
  | kitT (c : Str) (T : String)
  | opT (c : Str) (nm : String)
  | ex0 (x : Str)
def runTail : List Value := [.type "RuntimeError", .type "Exception", .type "BaseException", .type "object"]
def eqV (a b : Option Value) : Bool := decide (a = b)
def Fc.ok (K : PySem.W.Frag) : Fc → Bool
  | .oex x ar => excB K (He.ga K x) ar && (He.eqO (PySem.W.findIn K (.ref (He.ga K x)) "__setattr__") (some (some (.builtin "object.__setattr__"))) && (eqB (PySem.W.subIn K (.ref (He.ga K x)) (.type "BaseException")) (some true) && (eqV (PySem.W.typeIn K (.ref (He.ga K x))) (some (.type "type")) && PySem.W.keepIn K (.ref (He.ga K x)))))
  | .ini x => He.eqO (PySem.W.findIn K (.ref (He.ga K x)) "__init__") (some (some (.ref (He.ma K (He.ga K x) "__init__")))) && eqV (PySem.W.typeIn K (.ref (He.ma K (He.ga K x) "__init__"))) (some (.type "function"))
  | .nof x f => He.eqO (PySem.W.findIn K (.ref (He.ga K x)) f) (some none)
  | .ct x => xfB K (He.ga K x) && ((PySem.W.clsIn K (He.ga K x)).isSome && (He.eqO (PySem.W.findIn K (.ref (He.ga K x)) "__class__") (some (some (.builtin "object.__class__"))) && (He.eqO (PySem.W.specialIn K (.builtin "object.__class__") "__get__") (some (some (.builtin "getset_descriptor.__get__"))) && (eqB (PySem.W.takesIn K (.builtin "object.__class__")) (some true) && eqB (PySem.W.mroIn K (He.ga K x) (.type "object")) (some true)))))
  | .exm c x b => eqB (PySem.W.exmOne K (.ref (He.ga K c)) (.ref (He.ga K x))) (some b)
  | .kitC c x => eqB (PySem.W.kitOne K (.ref (He.ga K c)) (.ref (He.ga K x))) (some true)
  | .kitT c T => eqB (PySem.W.kitOne K (.ref (He.ga K c)) (.type T)) (some true)
  | .opT c nm => He.eqO (PySem.W.findIn K (.ref (He.ga K c)) (PySem.dunderR nm)) (some none) && tyNs.all fun T => (PySem.W.findIn K (.type T) (PySem.dunder nm)).isSome && ((PySem.W.findIn K (.type T) (PySem.dunderR nm)).isSome && eqB (PySem.W.subIn K (.type T) (.ref (He.ga K c))) (some false))
  | .ex0 x => PySem.W.excIn K (He.ga K x) runTail "RuntimeError.__new__" && (eqB (PySem.W.subIn K (.ref (He.ga K x)) (.type "BaseException")) (some true) && (eqV (PySem.W.typeIn K (.ref (He.ga K x))) (some (.type "type")) && PySem.W.keepIn K (.ref (He.ga K x))))
theorem oex_ok {K : PySem.W.Frag} {x : Str} {ar : Bool} (h : (Fc.oex x ar).ok K = true) : OexG K (He.ga K x) := by
  obtain ⟨h1, h⟩ := Bool.and_eq_true_iff.mp (show (_ && _) = true from h)
  obtain ⟨h2, h⟩ := Bool.and_eq_true_iff.mp h
  obtain ⟨h3, h⟩ := Bool.and_eq_true_iff.mp h
  obtain ⟨h4, h5⟩ := Bool.and_eq_true_iff.mp h
  refine ⟨?_, He.eqO_ok h2, of_decide_eq_true h3, of_decide_eq_true h4, h5⟩
  unfold excB at h1
  split at h1
  · rename_i dd cd sl ho
    split at h1
    · rename_i C' bm k0 k1 k2 k3 n k5 hm hs
      obtain ⟨e1, h1⟩ := Bool.and_eq_true_iff.mp h1
      obtain ⟨e2, h1⟩ := Bool.and_eq_true_iff.mp h1
      obtain ⟨e3, h1⟩ := Bool.and_eq_true_iff.mp h1
      obtain ⟨e4, e5⟩ := Bool.and_eq_true_iff.mp h1
      have e1' := of_decide_eq_true e1
      have e2' := of_decide_eq_true e2
      obtain ⟨nm, bs, mro, ns, qn, hd, sn, sub, ab, col, del⟩ := cd
      simp only at hm e3 e4
      subst hm e1' e2'
      have e3' : del = false := by cases del <;> simp_all
      subst e3'
      subst e4
      have hsl : sl = #[k0, k1, k2, k3, some (.builtin (newOf ar)), k5] := by
        cases sl with
        | mk l => exact congrArg Array.mk hs
      subst hsl
      obtain ⟨m, hT⟩ := refsT_ok ar bm e5
      cases ar with
      | false => exact ⟨nm, qn, ns, bs, bm, sn, sub, ab, col, dd, k0, k1, k2, k3, k5, _, _, _, _, ho, PySem.F.excBase_ValueError, hT, m⟩
      | true => exact ⟨nm, qn, ns, bs, bm, sn, sub, ab, col, dd, k0, k1, k2, k3, k5, _, _, _, _, ho, PySem.F.excBase_ArithmeticError, hT, m⟩
    · cases h1
  · cases h1
theorem ct_ok {K : PySem.W.Frag} {x : Str} (h : (Fc.ct x).ok K = true) : CtC K (He.ga K x) := by
  obtain ⟨h1, h⟩ := Bool.and_eq_true_iff.mp (show (_ && _) = true from h)
  obtain ⟨h2, h⟩ := Bool.and_eq_true_iff.mp h
  obtain ⟨h3, h⟩ := Bool.and_eq_true_iff.mp h
  obtain ⟨h4, h⟩ := Bool.and_eq_true_iff.mp h
  obtain ⟨h5, h6⟩ := Bool.and_eq_true_iff.mp h
  exact ⟨xfB_ok h1, h2, He.eqO_ok h3, He.eqO_ok h4, of_decide_eq_true h5, of_decide_eq_true h6⟩
structure SaysM (fa : List He.Fa) (fn : List He.DefD) (fb : List Fb) (fc : List Fc) (lams : List Str) (K : PySem.W.Frag) (h : Heap) : Prop where
  s : SaysF fa fn fb K
  t : TabsOk K h lams
  c : (fc.all fun f => f.ok K) = true
variable [Dl.Tb]
/-- what the head tells, over a base -/
structure WdM (fa : List He.Fa) (fn : List He.DefD) (fb : List Fb) (fc : List Fc) (lams : List Str) (K : PySem.W.Frag) (mg : Str → Option Value) (base : Heap) : Prop extends Wd fa fn fb K mg where
  fcs : (fc.all fun f => f.ok K) = true
  nd : ((csOf K lams).map (·.2)).Nodup
  so : ∀ x ∈ lams, ∃ q, tabOf K (He.ga K x) = some q
  tb : Tb.T = TOf K lams
  kb : K.In base
  TB : ∀ p ∈ csOf K lams, LamX.TabB base mg p.1 p.2
section
variable {fa : List He.Fa} {fn : List He.DefD} {fb : List Fb} {fc : List Fc} {lams : List Str} {K : PySem.W.Frag} {mg : Str → Option Value} {base : Heap}
theorem WdM.fc_ (V : WdM fa fn fb fc lams K mg base) (i : Nat) {f : Fc} (h : fc[i]? = some f := by rfl) : f.ok K = true := List.all_eq_true.mp V.fcs f (List.mem_of_getElem? h)
/-- a def that makes lambdas -/
theorem WdM.code (V : WdM fa fn fb fc lams K mg base) {x : Str} (hx : x ∈ lams) (oc : Value) (od : Option Addr) (fd : FuncData) (osl : Array (Option Value)) (h : K.lookup (He.ga K x) = some ⟨oc, od, .func fd, osl⟩) : CodeT base mg fd.code (lamN x) := by
  obtain ⟨⟨c, P⟩, e⟩ := V.so x hx
  have hcs : (c, P) ∈ csOf K lams := List.mem_filterMap.mpr ⟨x, hx, e⟩
  have hm : (P, lamN x) ∈ TOf K lams := List.mem_filterMap.mpr ⟨x, hx, by rw [e]; rfl⟩
  refine ⟨c, P, (tabOf_hd V.kb e).2 oc od fd osl h, V.TB _ hcs, by rw [V.tb]; exact hm, fun p hp e2 => ?_⟩
  rw [V.tb] at hp
  exact TOf_one V.nd p hp _ hm e2
end
/-! ### bodies that make lambdas -/
def BodyOkL (P : Program) (w : World) (K : PySem.W.Frag) (mg : Str → Option Value) (base : Heap) (k : Nat) (N : List Str) (qual : Str) (scope : Scope) (f : Addr) (body : List Stmt) (den : En → SR) : Prop :=
  ∀ (cdv : Value) (A : Around) (outer : List Env) (s : Shared) (H : Hp) (E : XK), CodeT base mg cdv (lamN qual) → Room k (A.deeper (envOfC qual scope s.heap.objs.size f cdv)) → DSs (cxOf (L2.CX P w) P w K mg base N qual scope f cdv A outer s H E) (fun c d _ H' => E c d H') body den
section
variable {P : Program} {w : World} {K : PySem.W.Frag} {mg : Str → Option Value} {base : Heap} {x qual : Str} {params : Arguments} {body : List Stmt} {scope : Scope} {dvs : List V} {kws : List (Str × V)} {f : Addr} {fd : FuncData} {N ps : List Str} {k : Nat} {den : En → SR}
theorem fn_BL (F : FunD K x qual params body scope dvs kws f fd) (S : FnScope N ps scope) (hcd : ∀ oc od fd osl, K.lookup f = some ⟨oc, od, .func fd, osl⟩ → CodeT base mg fd.code (lamN qual)) (b : BodyOkL P w K mg base k N qual scope f body den) : FnOk P w K mg base (L2.CX P w) (k + 1) f fd ps (spB K mg (runB N.length ps.length den)) := by
  refine fun_okC F S (fun vs H Q E h => ?_) hcd (fun cdv A outer s H vs Q E ct hr h => ?_)
  · obtain ⟨F', p, d0, ds, ws, rfl, _, _, _, _, r, q⟩ := h
    rw [List.length_cons, repL_len r]
    unfold runB at q
    split at q
    · assumption
    · exact q.elim
  · obtain ⟨F', p, d0, ds, ws, rfl, s', hp0, nd0, ho, r, q0⟩ := h
    have hhd : (fp H p d0).head? = some p := by
      unfold fp
      split
      · split <;> rfl
      · split <;> rfl
      · rfl
    obtain ⟨t, hp, he⟩ := (b cdv A outer s H E ct hr).ex
    refine ⟨t, hp, he ⟨F', H, fp H p d0⟩ F' H _ _ _ (rel_startB s' hp0 nd0 ho r) ?_⟩
    have kp : ∀ {F1 H1 : Hp} {r1 : En} {σ1 : L2.St}, Rel K mg ⟨F', H, fp H p d0⟩ F1 H1 r1 σ1 → Same F' F1 → Grow (fp H p d0) F' H F1 H1 := fun R1 s1 => ⟨fun a o ne h => R1.keep a o ne h, s1, R1.fh, R1.fresh, R1.tabs, R1.there⟩
    unfold runB at q0
    split at q0
    · cases q : den (startB N.length d0 ds) with
      | rt d r' =>
        rw [q] at q0
        intro v σ' F1 H1 R1 s1 x
        cases z : endB d r' with
        | ok dd =>
          obtain ⟨d', d1⟩ := dd
          simp only [z] at q0
          obtain ⟨rfl, h1, h2, h3⟩ := endB_ok R1 hhd z
          exact q0 v F1 H1 (kp R1 s1) (fun a ha => (R1.live a ha).1) h1 h2 h3 x
        | er c fs r2 =>
          unfold endB at z
          split at z <;> cases z
        | bad =>
          simp only [z] at q0
          exact q0.elim
      | nx r' =>
        rw [q] at q0
        intro σ' F1 H1 R1 s1
        cases z : endB .non r' with
        | ok dd =>
          obtain ⟨d', d1⟩ := dd
          simp only [z] at q0
          obtain ⟨rfl, h1, h2, h3⟩ := endB_ok R1 hhd z
          exact q0 .non F1 H1 (kp R1 s1) (fun a ha => (R1.live a ha).1) h1 h2 h3 rfl
        | er c fs r2 =>
          unfold endB at z
          split at z <;> cases z
        | bad =>
          simp only [z] at q0
          exact q0.elim
      | er c fs r' =>
        rw [q] at q0
        exact fun C od σ' F1 H1 m R1 s1 x => q0 C od F1 H1 m (kp R1 s1) (fun a ha => (R1.live a ha).1) x
      | rv d r' =>
        rw [q] at q0
        exact q0.elim
      | bk r' =>
        rw [q] at q0
        exact q0.elim
      | ct r' =>
        rw [q] at q0
        exact q0.elim
      | bad =>
        rw [q] at q0
        exact q0.elim
    · exact q0.elim
theorem cal_BL (F : FunD K x qual params body scope [] [] f fd) (S : FnScope N ps scope) (hcd : ∀ oc od fd osl, K.lookup f = some ⟨oc, od, .func fd, osl⟩ → CodeT base mg fd.code (lamN qual)) (b : BodyOkL P w K mg base k N qual scope f body den)
    (h : ∀ (kV doc pm : Value) (an : Option Addr) (cdv ct : Value) (us : List Value), us.length = ps.length → bindArgs (PySem.W.fnOf x qual params body scope .none kV doc pm an cdv ct) ⟨us, []⟩ = pure (ps.zip us)) : CalB P w K mg base (k + 1) f (runB N.length ps.length den) :=
  ⟨⟨fd, ps, [], [], [], _, fn_BL F S hcd b, F.bindsN h, .nil, fun _ => rfl, by funext d as; rw [List.append_nil]⟩, F.kp⟩
end
/-! ### heard -/
theorem tk_lam {X : Cx} {A : Around} {outer : List Env} {s : Shared} {H : Hp} {E : XK} {scope : Scope} {f c' : Addr} : Takes (LamX.lamCx X A outer s H E scope f c') (fun c d _ H' => E c d H') := takes_of (X := LamX.lamCx X A outer s H E scope f c') rfl rfl rfl rfl
section
variable {X : Cx} {W : WX} {x a : Str} {g : Addr} {k : Nat} {pg : Arguments} {bg : List Stmt} {sg : Scope} {fd : FuncData} {Ng : List Str} {params : Arguments} {body : Expr} {scope : Scope} {p lpos pos : Pos} {fE : En → Res (D × En)} {h : Res D → Option D} {sh : Sl → Res D → En → SR}
theorem de_heardF (F : FunD X.K x x pg bg sg [] [] g fd) (Sg : FnScope Ng [a] sg) (hbd : ∀ (kV doc pm : Value) (an : Option Addr) (cdv ct : Value) (us : List Value), us.length = [a].length → bindArgs (PySem.W.fnOf x x pg bg sg .none kV doc pm an cdv ct) ⟨us, []⟩ = pure ([a].zip us))
    (hcal : ∀ (cdv : Value) (s : Shared) (H : Hp) (L : Sl) (ρ : Res D), (∀ (W : WX) (pn : List (Addr × Obj)) (xe : Value → Shared → Prop) (p1 p2 : Pos), Takes ((heardCx X Ng x sg g cdv s H).tr pn xe) W → DE ((heardCx X Ng x sg g cdv s H).tr pn xe) W (.Call (.Name a p1) [] [] p2) (eAct L ρ)) →
      DSs (heardCx X Ng x sg g cdv s H).nox noW bg (sh L ρ))
    (hind : ∀ (L : Sl) (ρ : Res D) (d : D), h ρ = some d → ∃ r', sh L ρ (startL Ng.length L) = .rt d r') (hg : Gl X x) (hm : X.mg x = some (.ref g)) (ct : CodeT X.base X.mg X.env.code (X.env.qual ++ "<lambda>")) (hr : Room (k + 2) X.A)
    (hbody : ∀ (E : XK) (A : Around) (outer : List Env) (s : Shared) (H : Hp) (f c' : Addr), Room k (A.deeper (LamX.lamEnv X scope s.heap.objs.size f c')) → DE (LamX.lamCx X A outer s H E scope f c') (fun c d _ H' => E c d H') body fE)
    (L : LamX.LamS X.env.scope scope) (hdef : defaultsOf params X.env = ([], []) := by rfl)
    (hbind : ∀ (q : Str) (cl : List (Str × Addr)) (pm cv ctv : Value), bindArgs (PySem.W.kla_fn "<lambda>" q params body scope cl pm cv ctv) ⟨[], []⟩ = pure [] := by intros; rfl) (hNg : Ng[0]? = some a := by rfl) (hva : Vis sg a := by first | exact Or.inl rfl | exact Or.inr (Or.inl rfl))
    (hdb : (x == ("__debug__" : Str)) = false := by decide) (hd : (a == ("__debug__" : Str)) = false := by decide) (hcd : (a == ("__classdict__" : Str)) = false := by decide) :
    DE X W (.Call (.Name x p) [.Lambda params body scope lpos] [] pos) (eHeard h fE) := by
  have hb := F.bindsN hbd
  obtain ⟨oc, od, dV, kV, doc, pm, an, cdv, ctv, osl, rfl, lk, hcdv, _, _⟩ := F.ex
  obtain ⟨c, P, hcode, TB, hmT, hu⟩ := ct
  exact de_heard hg hm F.kp lk hcdv hb Sg hNg hva (hcal cdv) hind TB hcode hmT hu hr L hdef hbind hbody hdb hd hcd
end
/-! what a def that calls what was handed in gives back -/
open Classical in
noncomputable def hOf (n : Nat) (sh : Sl → Res D → En → SR) : Res D → Option D := fun ρ => if hh : ∃ d, ∀ L, ∃ r', sh L ρ (startL n L) = .rt d r' then some hh.choose else none
theorem hOf_ind {n : Nat} {sh : Sl → Res D → En → SR} (L : Sl) (ρ : Res D) (d : D) (h : hOf n sh ρ = some d) : ∃ r', sh L ρ (startL n L) = .rt d r' := by
  unfold hOf at h
  split at h
  · rename_i hh
    cases h
    exact hh.choose_spec L
  · cases h
theorem hOf_ok {n : Nat} {sh : Sl → Res D → En → SR} {ρ : Res D} {d : D} (h : ∀ L, ∃ r', sh L ρ (startL n L) = .rt d r') : hOf n sh ρ = some d := by
  unfold hOf
  have hh : ∃ d, ∀ L, ∃ r', sh L ρ (startL n L) = .rt d r' := ⟨d, h⟩
  rw [dif_pos hh]
  obtain ⟨r1, e1⟩ := h (.fz .non)
  obtain ⟨r2, e2⟩ := hh.choose_spec (.fz .non)
  rw [e1] at e2
  cases e2
  rfl
end Dl

set_option Elab.async false
set_option linter.all false
set_option maxRecDepth 100000
set_option maxHeartbeats 4000000
namespace Dl
open PySem PySem.Spec PyProof.Rows L2
variable [Dl.Tb]
/-! ### C(e, .., k = v, ..) -/
def mkR : Res (D × D) → En → Res (D × En)
  | .ok (.non, d1), r => if noOwn d1 = true then .ok (d1, r) else .bad
  | .er c fs _, r => .er c fs r
  | _, _ => .bad
def eMakeJ (c : Str) (n m : Nat) (den : D → List D → List D → Res (D × D)) (fa fk : En → Res (List D × En)) : En → Res (D × En) := fun r => (fa r).bind fun p => (fk p.2).bind fun q => if p.1.length = n ∧ q.1.length = m then mkR (den (.ins c []) p.1 q.1) q.2 else .bad
section
variable {K : PySem.W.Frag} {mg : Str → Option Value} {W : WX} {B : Bg} {F1 H1 : Hp} {r1 : En} {σ : L2.St}
theorem make_po {x : Str} {C : Addr} {den0 : D → List D → Res (D × D)} {as : List D} {vs : List V} {Q : V → Hp → Prop} (R1 : Rel K mg B F1 H1 r1 σ) (hc : mg x = some (.ref C)) (x1 : repL K mg F1 as vs) (p1 : Po K mg W B F1 σ (rN K mg) Q (mkR (den0 (.ins x []) as) r1)) (a dx : Addr) (na : H1 a = none) (ndx : H1 dx = none)
    (nd : dx ≠ a) : spB K mg den0 (.ref a :: vs) (upd (upd H1 dx (.own a)) a (.ins C dx [])) (fun v H2 => v = .non ∧ Q (.ref a) H2) (WE W σ) := by
  have fa0 : F1 a = none := R1.fh.free na
  have sm : Same H1 (upd (upd H1 dx (.own a)) a (.ins C dx [])) := fun b o hb => by
    rw [upd_ne (ne_of_none hb na), upd_ne (ne_of_none hb ndx)]
    exact hb
  have ne2 : ∀ b, H1 b ≠ none → upd (upd H1 dx (.own a)) a (.ins C dx []) b ≠ none := same_th sm
  have e1 : fp (upd (upd H1 dx (.own a)) a (.ins C dx [])) a (.ins x []) = [a] := fp_one rfl
  refine ⟨F1, a, .ins x [], as, vs, rfl, ⟨R1.fh.trans sm, R1.tabs.grow sm fun _ h _ => h⟩, fun b hb => ?_, by rw [e1]; simp, ⟨C, dx, [], hc, upd_same, rfl⟩, x1, ?_⟩
  · rw [e1] at hb
    rw [List.mem_singleton.mp hb]
    exact fa0
  rw [e1]
  cases z : den0 (.ins x []) as with
  | ok dd =>
    obtain ⟨d, d1⟩ := dd
    rw [z] at p1
    intro v F' H' g lv hq nd' ho' hrep
    cases d with
    | non =>
      refine ⟨hrep, ?_⟩
      unfold mkR at p1
      by_cases no : noOwn d1 = true
      · simp only [if_pos no] at p1
        have eH : ∀ b o, H1 b = some o → NT o → H' b = some o := fun b o hb n => g.h b o (fun w => by rw [List.mem_singleton.mp w, na] at hb; cases hb) (sm b o hb) n
        have R2 : Rel K mg B F' H' r1 σ := R1.growT g.tb eH (fun b h => g.th b (ne2 b h)) g.f g.fh fun b h1 h2 => g.fr b h1 (ne2 b h2)
        refine p1 _ F' H' R2 g.f ⟨a, rfl, (hq a fp_head).1, (R1.new_ne na).1, (R1.new_ne na).2, fun i s q hi ms ei ha => ?_, ownS_of no ho'⟩
        obtain ⟨o1, h1⟩ := own_there s.d (R1.own_at hi ms ei).2.2
        rw [fp_eq ((eH _ _ h1 (own_nt (R1.own_at hi ms ei).2.2 h1)).trans h1.symm)] at ha
        exact R1.loose_new0 na i s q hi ms ei ha
      · simp only [if_neg no] at p1
        exact p1.elim
    | _ => exact p1.elim
  | er c' fs r' =>
    rw [z] at p1
    intro C' od F' H' mm g hz hx
    have R2 : Rel K mg B F' H' r1 σ := R1.growT g.tb (fun b o hb n => g.h b o (fun w => by rw [List.mem_singleton.mp w, na] at hb; cases hb) (sm b o hb) n) (fun b h => g.th b (ne2 b h)) g.f g.fh fun b h1 h2 => g.fr b h1 (ne2 b h2)
    exact p1 C' od σ F' H' mm R2 g.f hx
  | bad =>
    rw [z] at p1
    exact p1.elim
end
section
variable {X : Cx} {W : WX} {CX : CXT} {k j n : Nat} {f C : Addr} {fd : FuncData} {ps ks : List Str} {sp : Sp} {E : L2.St → XK} {x : Str} {p pos : Pos} {e : Expr} {es : List Expr} {kws : List Keyword} {g : List Value → List Value → List Value} {gV : List V → List V → List V}
  {den : D → List D → List D → Res (D × D)} {fa fk : En → Res (List D × En)}
theorem run_makeK {pins : List (Addr × Obj)} {σ : L2.St} {H : Hp} {s : Shared} {Q : VK} {us ws : List Value} {vs zs : List V} (M : Mk X.K C f) (F : FnOk X.prog X.w X.K X.mg X.base CX k f fd ps sp) (hr : Room (k + 1) X.A) (hb : KBn X.K fd ps (n + 1) ks g gV)
    (hx : PassesAt CX X σ (E σ)) (I : Inv X pins σ H s) (r : Vals vs us) (rz : Vals zs ws) (l1 : vs.length = n) (l2 : zs.length = ks.length)
    (go : ∀ a dx, H a = none → H dx = none → dx ≠ a → sp (gV (.ref a :: vs) zs) (upd (upd H dx (.own a)) a (.ins C dx [])) (fun v H2 => v = .non ∧ Q (.ref a) H2) (E σ)) :
    wpAny (model X.prog X.w) X.A (call (.ref C) us (ks.zip ws)) (EP X pins σ Q) X.xe s := by
  have want := go (s.heap.objs.size + 1) s.heap.objs.size (I.hok.fresh (Nat.le_succ _)) (I.hok.fresh (Nat.le_refl _)) (Nat.ne_of_lt (Nat.lt_succ_self _))
  have J := Inv.made (C := C) I
  have q1 : Vals (V.ref (s.heap.objs.size + 1) :: vs) (Value.ref (s.heap.objs.size + 1) :: us) := .cons rfl r
  have n1 : (Value.ref (s.heap.objs.size + 1) :: us).length = n + 1 := q1.length.symm.trans (congrArg Nat.succ l1)
  have n2 : ws.length = ks.length := rz.length.symm.trans l2
  have run := F.run _ X.stack _ _ ⟨Value.ref (s.heap.objs.size + 1) :: us, ks.zip ws⟩ (g (Value.ref (s.heap.objs.size + 1) :: us) ws) _ _ (E σ) (hr.make C us (ks.zip ws)) (J.env0.make C us (ks.zip ws)) (hb.to _ _ ws J.kIn n1 n2) (hb.rel q1 rz) want
  refine wpAny_call (make_map (f := f) I.kIn M.makes M.init (beq_iff_eq.mp M.fn) (codeAny_mono run fun out s2 h2 => ?_))
  match out, h2 with
  | .error e, h2 => exact hx pins _ _ e s2 J h2
  | .ok .next, h2 => exact False.elim h2
  | .ok .brk, h2 => exact False.elim h2
  | .ok .cont, h2 => exact False.elim h2
  | .ok (.ret u), h2 =>
    obtain ⟨v, H3, J3, rv, ev, q3⟩ := J.after h2
    subst ev
    exact ⟨rv, ⟨V.ref (s.heap.objs.size + 1), H3, J3, rfl, q3⟩⟩
theorem dn_makeK (F : KalB X.prog X.w X.K X.mg X.base k f n ks den) (tk : Takes X W) (hr : Room j X.A) (hk : k + 1 ≤ j) (hg : Gl X x) (hm : X.mg x = some (.ref C)) (M : Mk X.K C f) (ha : DA X W (e :: es) fa) (hw : DK X W kws fk)
    (hall : (backToKw pos (keywordEach kws X.env)).all (·.1.isSome) = true := by rfl) (hks : (backToKw pos (keywordEach kws X.env)).filterMap (·.1) = ks := by rfl) (hdb : (x == ("__debug__" : Str)) = false := by decide)
    (he : starEach (e :: es) X.env = (false, eval e X.env) :: starEach es X.env := by rfl) (hpl : ((backTo pos (starEach (e :: es) X.env)).any (·.1) || (backToKw pos (keywordEach kws X.env)).any (·.1.isNone)) = false := by rfl) :
    DN X W (.Call (.Name x p) (e :: es) kws pos) (eMakeJ x n ks.length den fa fk) := by
  obtain ⟨fd, ps, its, dvs, dds, den0, sel, sel2, G, hb, hdd, hsel, rfl⟩ := F.ex
  obtain ⟨t, pa, ea⟩ := ha.ex
  obtain ⟨u, pk, ek⟩ := hw.ex
  refine ⟨fun σ H Q => t σ H fun vs H1 => u σ H1 fun zs H2 => vs.length = n ∧ zs.length = ks.length ∧ ∀ a dx, H2 a = none → H2 dx = none → dx ≠ a → spB X.K X.mg den0 (pickL sel (.ref a :: vs) dvs zs) (upd (upd H2 dx (.own a)) a (.ins C dx [])) (fun v H3 => v = .non ∧ Q (.ref a) H3) (WE W σ), ⟨fun pins s σ H Q I h => ?_⟩, fun B F H r σ Q R p => ?_⟩
  · refine wpAny_Call_Name_kw (ld_glob I hg hm (PySem.W.callWith_KW (h₀ := X.base) I.ok.mod.kin M.kp hall (thn (pa.run pos pins s σ H _ I h) fun us s1 h1 => ?_) hpl he) hdb)
    obtain ⟨vs, H1, I1, r, q⟩ := h1
    refine thn (pk.run pos pins s1 σ H1 _ I1 q) fun ws s2 h2 => ?_
    obtain ⟨zs, H2, I2, rz, l1, l2, q2⟩ := h2
    refine ⟨I2.kIn, ?_⟩
    rw [hks]
    exact run_makeK (E := WE W) M G (hr.mono hk) hb (passAt tk σ) I2 r rz l1 l2 q2
  · refine ea.to R p fun as r1 vs F1 H1 R1 s1 x1 p1 => ek.to R1 p1 fun zs r2 ws F2 H2 R2 s2 x2 p2 => ?_
    by_cases hl : as.length = n ∧ zs.length = ks.length
    · simp only [if_pos hl] at p2
      refine ⟨(repL_len x1).trans hl.1, (repL_len x2).trans hl.2, fun a dx na ndx ne => ?_⟩
      rw [hsel]
      exact make_po R2 hm (pick_rep (repL_mono s2 _ _ x1) (hdd F2) x2 sel2) p2 a dx na ndx ne
    · simp only [if_neg hl] at p2
      exact p2.elim
theorem dn_makeK0 (F : KalB X.prog X.w X.K X.mg X.base k f 0 ks den) (tk : Takes X W) (hr : Room j X.A) (hk : k + 1 ≤ j) (hg : Gl X x) (hm : X.mg x = some (.ref C)) (M : Mk X.K C f) (hw : DK X W kws fk)
    (hall : (backToKw pos (keywordEach kws X.env)).all (·.1.isSome) = true := by rfl) (hks : (backToKw pos (keywordEach kws X.env)).filterMap (·.1) = ks := by rfl) (hdb : (x == ("__debug__" : Str)) = false := by decide)
    (hpl : ((backTo pos (starEach [] X.env)).any (·.1) || (backToKw pos (keywordEach kws X.env)).any (·.1.isNone)) = false := by rfl) :
    DN X W (.Call (.Name x p) [] kws pos) (eMakeJ x 0 ks.length den aNil fk) := by
  obtain ⟨fd, ps, its, dvs, dds, den0, sel, sel2, G, hb, hdd, hsel, rfl⟩ := F.ex
  obtain ⟨u, pk, ek⟩ := hw.ex
  refine ⟨fun σ H Q => u σ H fun zs H2 => zs.length = ks.length ∧ ∀ a dx, H2 a = none → H2 dx = none → dx ≠ a → spB X.K X.mg den0 (pickL sel [.ref a] dvs zs) (upd (upd H2 dx (.own a)) a (.ins C dx [])) (fun v H3 => v = .non ∧ Q (.ref a) H3) (WE W σ), ⟨fun pins s σ H Q I h => ?_⟩, fun B F H r σ Q R p => ?_⟩
  · refine wpAny_Call_Name_kw (ld_glob I hg hm (PySem.W.callWith_KW0 (h₀ := X.base) I.ok.mod.kin M.kp hall (thn (pk.run pos pins s σ H _ I h) fun ws s2 h2 => ?_) hpl) hdb)
    obtain ⟨zs, H2, I2, rz, l2, q2⟩ := h2
    refine ⟨I2.kIn, ?_⟩
    rw [hks]
    exact run_makeK (E := WE W) (us := []) (vs := []) M G (hr.mono hk) hb (passAt tk σ) I2 .nil rz rfl l2 q2
  · have p' : Po X.K X.mg W B F σ (rN X.K X.mg) Q ((fk r).bind fun q => if (0 : Nat) = 0 ∧ q.1.length = ks.length then mkR (den0 (.ins x []) (pickL sel2 [] dds q.1)) q.2 else .bad) := p
    refine ek.to R p' fun zs r2 ws F2 H2 R2 s2 x2 p2 => ?_
    by_cases hl : (0 : Nat) = 0 ∧ zs.length = ks.length
    · rw [if_pos hl] at p2
      refine ⟨(repL_len x2).trans hl.2, fun a dx na ndx ne => ?_⟩
      rw [hsel]
      exact make_po R2 hm (pick_rep (as := []) (vs := []) rfl (hdd F2) x2 sel2) p2 a dx na ndx ne
    · rw [if_neg hl] at p2
      exact p2.elim
end
end Dl

set_option Elab.async false
set_option linter.all false
set_option maxRecDepth 100000
set_option maxHeartbeats 4000000
namespace Dl
open PySem L2
variable [Dl.Tb]
/-! ### an own operator, a built-in value on the right -/
structure OpT (K : PySem.W.Frag) (C : Addr) (nm : String) : Prop where
  rc : PySem.W.findIn K (.ref C) (PySem.dunderR nm) = some none
  ty : ∀ T ∈ tyNs, (∃ fo, PySem.W.findIn K (.type T) (PySem.dunder nm) = some fo) ∧ (∃ ro, PySem.W.findIn K (.type T) (PySem.dunderR nm) = some ro) ∧ PySem.W.subIn K (.type T) (.ref C) = some false
section
open PySem.W PySem.Calls PyProof.Rows
variable {prog : Program} {w : World} {A : Around} {E : Value → Shared → Prop} {s : Shared} {K : Frag} {x C L f : Addr} {h₀ : Heap} {m : Str → Option Value} {ox : Obj} {od : Option Obj} {T : String}
end
section
variable {X : Cx} {W : WX} {k j : Nat} {f C : Addr} {c m : Str} {a b e : Expr} {pos p : Pos} {fa fb : En → Res (D × En)} {den : List D → Res D}
def eOpX (c : Str) (den : List D → Res D) (fa fb : En → Res (D × En)) : En → Res (D × En) := fun r => (fa r).bind fun p => (fb p.2).bind fun q => match p.1 with
  | .ins c' fs => if c' = c ∧ (tnD q.1).isSome = true then callR (mapR some (den [.ins c' fs, q.1])) q.2 else .bad
  | _ => .bad
/-! ### len of an own object -/
def toLen : D → Option D
  | .int n => if 0 ≤ n ∧ n < 2 ^ 63 then some (.int n) else none
  | _ => none
def eLenO (c : Str) (den : List D → Res D) (fa : En → Res (D × En)) : En → Res (D × En) := fun r => (fa r).bind fun p => match p.1 with
  | .ins c' fs => if c' = c then callR (mapR toLen (den [.ins c' fs])) p.2 else .bad
  | _ => .bad
theorem hP_L {Q : VK} : ∀ (d z : D) (v : V) (F' H' : Hp), toLen d = some z → rep X.K X.mg F' d v → (∀ w, rep X.K X.mg F' z w → Q w H') → ∃ n : Int, v = .int n ∧ (0 ≤ n ∧ n < 2 ^ 63) ∧ Q (.int n) H' := by
  intro d z v F' H' e h q
  cases d with
  | int n =>
    unfold toLen at e
    by_cases hn : 0 ≤ n ∧ n < 2 ^ 63
    · simp only [if_pos hn] at e
      cases e
      exact ⟨n, h, hn, q _ rfl⟩
    · simp only [if_neg hn] at e
      cases e
  | _ => cases e
theorem de_lenO (F : CalA X.prog X.w X.K X.mg X.base k f den) (tk : Takes X W) (hr : Room j X.A) (hk : k + 1 ≤ j) (hc : X.mg c = some (.ref C)) (hm : Meth X.K C "__len__" f) (hml : X.mg "len" = none) (ha : DE X W e fa) (hg : Gl X "len" := by rfl)
    (hst : starEach [e] X.env = (false, eval e X.env) :: starEach [] X.env := by rfl) : DE X W (.Call (.Name "len" p) [e] [] pos) (eLenO c den fa) := by
  obtain ⟨fd, ps, ds, dvs, dds, den0, G, hbi, hd, hdd, rfl⟩ := F.ex
  obtain ⟨ta, pa, ea⟩ := ha.ex
  refine ⟨fun σ H Q => ta σ H fun x H1 => ∃ a dx fs, x = .ref a ∧ H1 a = some (.ins C dx fs) ∧ spD X.K X.mg den0 ([x] ++ dvs) H1 (fun v H3 => ∃ n : Int, v = .int n ∧ (0 ≤ n ∧ n < 2 ^ 63) ∧ Q (.int n) H3) (WE W σ), ⟨fun pins s σ H Q I h => ?_⟩, fun B F H r σ Q R p => ?_⟩
  · refine wpAny_Call_Name_kw (ld_blt I hg hml boot_len ?_ (by decide) (by decide))
    refine PyProof.Rows.callWith_builtin1 (thn ((pa_cons pa pa_nil hst).run pos pins s σ H (fun vs H1 => ∃ x, vs = [x] ∧ ∃ a dx fs, x = .ref a ∧ H1 a = some (.ins C dx fs) ∧ spD X.K X.mg den0 ([x] ++ dvs) H1 (fun v H3 => ∃ n : Int, v = .int n ∧ (0 ≤ n ∧ n < 2 ^ 63) ∧ Q (.int n) H3) (WE W σ)) I ?_) fun us s1 ⟨vs, H1, I1, r1, q1⟩ => ?_) hst rfl
    · have e0 : (fun (x : V) (H1 : Hp) => ∃ a dx fs, x = .ref a ∧ H1 a = some (.ins C dx fs) ∧ spD X.K X.mg den0 ([x] ++ dvs) H1 (fun v H3 => ∃ n : Int, v = .int n ∧ (0 ≤ n ∧ n < 2 ^ 63) ∧ Q (.int n) H3) (WE W σ)) = fun x H1 => ∃ y, [x] = [y] ∧ ∃ a dx fs, y = .ref a ∧ H1 a = some (.ins C dx fs) ∧ spD X.K X.mg den0 ([y] ++ dvs) H1 (fun v H3 => ∃ n : Int, v = .int n ∧ (0 ≤ n ∧ n < 2 ^ 63) ∧ Q (.int n) H3) (WE W σ) := by
        funext x H1
        refine propext ⟨fun z => ⟨x, rfl, z⟩, ?_⟩
        rintro ⟨y, h, z⟩
        cases h
        exact z
      rw [e0] at h
      exact h
    · obtain ⟨x, rfl, a, dx, fs, rfl, e, q⟩ := q1
      obtain ⟨u, rfl, rx⟩ := vals1 r1
      cases (show u = Value.ref a from rx)
      obtain ⟨ox, od, J⟩ := inst_of I1 e
      obtain ⟨m, hF⟩ := I1.fr
      refine PySem.W.len_K hF I1.ok.mod.kin J hm.at_ hm.fn (wpAny_mono (run_fnSDin (us := [.ref a]) (vs := [.ref a]) G (hr.mono hk) hbi hd (passAt tk σ) I1 (.cons rfl .nil) q) (fun w s' z => ?_) fun _ _ e => e)
      obtain ⟨v', H', I', r', n, rfl, hn, qb⟩ := z
      obtain ⟨t, rfl⟩ := (show ∃ t, w = Value.int n t from r')
      exact ⟨hn, .int n, H', I'.tok _, ⟨_, rfl⟩, qb⟩
  · refine ea.to R p fun d r1 v F1 H1 R1 s1 x1 p1 => ?_
    cases d with
    | ins c' fs =>
      simp only at p1
      by_cases hcc : c' = c
      · rw [if_pos hcc] at p1
        subst hcc
        obtain ⟨a, C', dx, ws, rfl, hC, hF, hrf⟩ := id x1
        rw [hc] at hC
        cases hC
        exact ⟨a, dx, ws, rfl, R1.fh _ _ hF, callM_po (ds := [_]) (vs := [_]) R1 ⟨_, _, rfl, x1, rfl⟩ hdd hP_L p1⟩
      · rw [if_neg hcc] at p1
        exact p1.elim
    | _ => exact p1.elim
end
end Dl

set_option Elab.async false
set_option linter.all false
set_option maxRecDepth 100000
set_option maxHeartbeats 4000000
namespace Dl
open PySem L2
variable [Dl.Tb]
/-! ### a slot's object lent: the slot is forgotten, and comes back as it was -/
def bgLend (B : Bg) (H : Hp) (A : List Addr) (bo : Bool) : Bg where
  F := B.F
  H := fun a => if a ∈ A then H a else if bo = true ∧ a ∈ B.bs then some (.tbl #[]) else B.H a
  bs := if bo = true then [] else B.bs
def Sl.isBo : Sl → Bool
  | .bo _ => true
  | _ => false
section
variable {K : PySem.W.Frag} {mg : Str → Option Value} {B : Bg} {F F' H H' : Hp} {r : En} {σ : L2.St} {i : Nat} {s : Sl} {p : Addr}
theorem lend_own {A : List Addr} {bo : Bool} {a : Addr} (h : (bgLend B H A bo).H a = none) (hA : ∀ a ∈ A, H a ≠ none) : a ∉ A ∧ B.H a = none ∧ (bo = true → a ∉ B.bs) := by
  unfold bgLend at h
  simp only at h
  by_cases q : a ∈ A
  · rw [if_pos q] at h
    exact absurd h (hA a q)
  · rw [if_neg q] at h
    by_cases z : bo = true ∧ a ∈ B.bs
    · rw [if_pos z] at h
      cases h
    · rw [if_neg z] at h
      exact ⟨q, h, fun w v => z ⟨w, v⟩⟩
theorem lend_H {A : List Addr} {bo : Bool} {a : Addr} (h : a ∈ A) : (bgLend B H A bo).H a = H a := by
  unfold bgLend
  simp only [if_pos h]
theorem lend_H' {A : List Addr} {bo : Bool} {a : Addr} (h : a ∉ A) (h2 : ¬ (bo = true ∧ a ∈ B.bs)) : (bgLend B H A bo).H a = B.H a := by
  unfold bgLend
  simp only [if_neg h, if_neg h2]
theorem lend_Hb {A : List Addr} {bo : Bool} {a : Addr} (h : a ∉ A) (h2 : bo = true ∧ a ∈ B.bs) : (bgLend B H A bo).H a = some (.tbl #[]) := by
  unfold bgLend
  simp only [if_neg h, if_pos h2]
/-- .. and back -/
theorem Rel.back {F2 H2 : Hp} {r2 : En} (R : Rel K mg B F H r σ) (hs : r[i]? = some (some s)) (m : s.mine = true) (e : σ[i]? = some (some (.ref p))) (eF : Same F F2) (R2 : Rel K mg (bgLend B H (fp H p s.d) s.isBo) F2 H2 r2 σ) :
    Rel K mg B F2 H2 (r2.set i (some s)) σ ∧ ∀ a ∈ fp H p s.d, H2 a = H a := by
  obtain ⟨hA, nd, ho⟩ := R.own_at hs m e
  have lvA : ∀ a ∈ fp H p s.d, H a ≠ none := fun a ha => by
    obtain ⟨o, q⟩ := fp_live s.d ho a ha
    rw [q]
    exact fun z => nomatch z
  have sl := R.slot i s hs
  have ob : s.isBo = true ∨ (s.isBo = false ∧ ∀ a ∈ fp H p s.d, a ∉ B.bs) := by
    cases s with
    | bo d => exact .inl rfl
    | ow d =>
      obtain ⟨p', e', h1, _⟩ := sl
      rw [e] at e'
      cases e'
      exact .inr ⟨rfl, fun a ha => (h1 a ha).2.2⟩
    | fz d => cases m
    | lm _ _ _ _ _ => cases m
  have nin : ∀ a ∈ fp H p s.d, a ∉ (bgLend B H (fp H p s.d) s.isBo).bs := fun a ha => by
    unfold bgLend
    simp only
    rcases ob with z | ⟨z, w⟩
    · rw [if_pos z]
      exact fun z => nomatch z
    · rw [if_neg (by rw [z]; decide)]
      exact w a ha
  have hk : ∀ a ∈ fp H p s.d, H2 a = H a := fun a ha => by
    obtain ⟨o, q⟩ := fp_live s.d ho a ha
    rw [q]
    exact R2.keep a o (nin a ha) (by rw [lend_H ha]; exact q) (fp_own s.d ho a ha o q).nt
  have BF : ∀ a ∈ fp H p s.d, B.F a = none := fun a ha => by
    cases q : B.F a with
    | none => rfl
    | some o =>
      have := R.f0 _ _ q
      rw [(hA a ha).1] at this
      cases this
  have hf2 : ∀ a ∈ fp H p s.d, F2 a = none := fun a ha => R2.fresh a (BF a ha) (by rw [lend_H ha]; exact lvA a ha)
  have ef : fp H2 p s.d = fp H p s.d := fp_eq (hk p fp_head)
  have nobs : ∀ a, a ∉ (bgLend B H (fp H p s.d) s.isBo).bs → (bgLend B H (fp H p s.d) s.isBo).H a = none → a ∉ fp H p s.d ∧ B.H a = none ∧ a ∉ B.bs := fun a h1 h2 => by
    obtain ⟨k1, k2, k3⟩ := lend_own h2 lvA
    refine ⟨k1, k2, fun z => ?_⟩
    exact (R.live a z).2 k2
  have hi : i < r.length := (List.getElem?_eq_some_iff.mp hs).1
  have hi2 : i < r2.length := by rw [R2.len, ← R.len]; exact hi
  refine ⟨⟨R2.fh, R2.f0, R2.tabs, fun a o hb h n => ?_, fun a h => ?_, fun a h1 h2 => ?_, fun a hb => ?_, by rw [List.length_set]; exact R2.len, fun j t hj => ?_, fun a b s1 t1 p1 q1 ne ha hb ms mt ea eb x hx hy => ?_⟩, hk⟩
  · have na : a ∉ fp H p s.d := fun z => by
      rcases (hA a z).2 with w | w
      · exact hb w
      · rw [w] at h
        cases h
    refine R2.keep a o ?_ (by rw [lend_H' na (fun w => hb w.2)]; exact h) n
    unfold bgLend
    simp only
    split
    · exact fun z => nomatch z
    · exact hb
  · by_cases q : a ∈ fp H p s.d
    · rw [hk a q]
      exact lvA a q
    · refine R2.there a ?_
      by_cases z : s.isBo = true ∧ a ∈ B.bs
      · rw [lend_Hb q z]
        exact fun z => nomatch z
      · rw [lend_H' q z]
        exact h
  · by_cases q : a ∈ fp H p s.d
    · exact hf2 a q
    · refine R2.fresh a h1 ?_
      by_cases z : s.isBo = true ∧ a ∈ B.bs
      · rw [lend_Hb q z]
        exact fun z => nomatch z
      · rw [lend_H' q z]
        exact h2
  · obtain ⟨l1, l2⟩ := R.live a hb
    refine ⟨?_, l2⟩
    by_cases q : a ∈ fp H p s.d
    · rw [hk a q]
      exact l1
    · refine R2.there a ?_
      by_cases z : s.isBo = true ∧ a ∈ B.bs
      · rw [lend_Hb q z]
        exact fun z => nomatch z
      · rw [lend_H' q z]
        exact l2
  · rw [get_set] at hj
    by_cases q : i = j
    · rw [if_pos q] at hj
      rw [if_pos (by rw [← q]; exact hi2)] at hj
      cases hj
      rw [← q]
      cases s with
      | fz d => cases m
      | ow d =>
        obtain ⟨p', e', h1, h2, h3⟩ := sl
        rw [e] at e'
        cases e'
        exact ⟨p, e, fun a ha => ⟨hf2 a (by have z := ha; rw [show fp H2 p d = fp H p d from ef] at z; exact z), (h1 a (by have z := ha; rw [show fp H2 p d = fp H p d from ef] at z; exact z)).2⟩, (by rw [show fp H2 p d = fp H p d from ef]; exact h2), own_mono eF d hk h3⟩
      | bo d =>
        obtain ⟨p', e', hb, h1, h2, h3⟩ := sl
        rw [e] at e'
        cases e'
        exact ⟨p, e, hb, fun a ha => ⟨hf2 a (by have z := ha; rw [show fp H2 p d = fp H p d from ef] at z; exact z), (h1 a (by have z := ha; rw [show fp H2 p d = fp H p d from ef] at z; exact z)).2⟩, (by rw [show fp H2 p d = fp H p d from ef]; exact h2), own_mono eF d hk h3⟩
      | lm _ _ _ _ _ => cases m
    · rw [if_neg q] at hj
      have sj := R2.slot j t hj
      cases t with
      | fz d => exact sj
      | ow d =>
        obtain ⟨p', e', h1, h2, h3⟩ := sj
        exact ⟨p', e', fun a ha => ⟨(h1 a ha).1, (nobs a (h1 a ha).2.2 (h1 a ha).2.1).2⟩, h2, h3⟩
      | bo d =>
        obtain ⟨p', e', hb, h1, h2, h3⟩ := sj
        unfold bgLend at hb
        simp only at hb
        by_cases y : s.isBo = true
        · rw [if_pos y] at hb
          cases hb
        · rw [if_neg y] at hb
          refine ⟨p', e', hb, fun a ha => ?_, h2, h3⟩
          obtain ⟨k1, k2⟩ := h1 a ha
          refine ⟨k1, ?_⟩
          rcases k2 with k2 | k2
          · unfold bgLend at k2
            simp only [if_neg y] at k2
            exact .inl k2
          · exact .inr (lend_own k2 lvA).2.1
      | lm f c q0 ds vs =>
        obtain ⟨e', h1, h2, h3⟩ := sj
        have nA : c ∉ fp H p s.d := fun w => by
          rw [lend_H w] at h1
          exact (fp_own s.d ho c w _ h1).nc rfl
        have nB : ¬ (s.isBo = true ∧ c ∈ B.bs) := fun w => by
          rw [lend_Hb nA w] at h1
          unfold LamX.CodeO at h1
          cases h1
        rw [lend_H' nA nB] at h1
        refine ⟨e', h1, fun w => ?_, h3⟩
        unfold bgLend at h2
        simp only at h2
        by_cases y : s.isBo = true
        · exact nB ⟨y, w⟩
        · rw [if_neg y] at h2
          exact h2 w
  · rw [get_set] at ha hb
    have key : ∀ (j : Nat) (t : Sl) (q : Addr), i ≠ j → r2[j]? = some (some t) → t.mine = true → σ[j]? = some (some (.ref q)) → ∀ x ∈ fp H p s.d, x ∉ fp H2 q t.d := fun j t q nj hj mj ej x hx hy => by
      rcases ((R2.own_at hj mj ej).1 x hy).2 with w | w
      · exact nin x hx w
      · rw [lend_H hx] at w
        exact lvA x hx w
    by_cases qa : i = a
    · rw [if_pos qa] at ha
      rw [if_pos (by rw [← qa]; exact hi2)] at ha
      cases ha
      rw [← qa, e] at ea
      cases ea
      rw [ef] at hx
      have nb : i ≠ b := fun z => ne (qa.symm.trans z)
      rw [if_neg nb] at hb
      exact key b t1 q1 nb hb mt eb x hx hy
    · rw [if_neg qa] at ha
      by_cases qb : i = b
      · rw [if_pos qb] at hb
        rw [if_pos (by rw [← qb]; exact hi2)] at hb
        cases hb
        rw [← qb, e] at eb
        cases eb
        rw [ef] at hy
        exact key a s1 p1 qa ha ms ea x hy hx
      · rw [if_neg qb] at hb
        exact R2.apart a b s1 t1 p1 q1 ne ha hb ms mt ea eb x hx hy
end
end Dl

set_option Elab.async false
set_option linter.all false
set_option maxRecDepth 100000
set_option maxHeartbeats 4000000
namespace Dl
open PySem L2
variable [Dl.Tb]
section
variable {K : PySem.W.Frag} {mg : Str → Option Value} {F F' H H' : Hp} {q : Addr}
end
section
variable {X : Cx} {W : WX} {i : Nat} {y n : Str} {cs : List Str} {rr : R2} {g : D → D → Option D} {p1 p2 pos pos' : Pos} {fk fv f : En → Res (D × En)} {k v e : Expr} {tk : TE}
end
end Dl

set_option Elab.async false
set_option linter.all false
set_option maxRecDepth 100000
set_option maxHeartbeats 4000000
namespace Dl
open PySem L2
variable [Dl.Tb]
/-! ### y.n = a new list or dict, one's own part -/
def isPart : D → Bool
  | .lst _ => true
  | .dk _ => true
  | _ => false
def sFldOwn (cs : List Str) (n : Str) (i : Nat) (f : En → Res (D × En)) : En → SR := fun r => sBind (f r) fun p => atMineS p.2 i fun s => match s.d with
  | .ins c fs => if c ∈ cs ∧ fs.length < 1000 ∧ isPart p.1 = true then .nx (p.2.set i (some (s.put (.ins c (putD n (.own p.1) fs))))) else .bad
  | _ => .bad
section
variable {K : PySem.W.Frag} {mg : Str → Option Value} {F F' H H' : Hp} {q p : Addr} {n : Str} {d : D}
end
section
variable {X : Cx} {W : WX} {i : Nat} {y n : Str} {cs : List Str} {pos pos' q : Pos} {f : En → Res (D × En)} {e : Expr}
end
/-! ### new objects with own parts -/
structure DM (X : Cx) (W : WX) (e : Expr) (f : En → Res (D × En)) : Prop where
  ex : ∃ t, PE X e t ∧ Ent X.K X.mg W (rM X.K X.mg) t f
def eMakeM (c : Str) (den : D → List D → Res (D × D)) (fa : En → Res (List D × En)) : En → Res (D × En) := fun r => (fa r).bind fun p => match den (.ins c []) p.1 with
  | .ok (.non, d1) => .ok (d1, p.2)
  | .er c' fs _ => .er c' fs p.2
  | _ => .bad
section
variable {X : Cx} {W : WX} {k j : Nat} {C f : Addr} {x : Str} {e : Expr} {es : List Expr} {pos p : Pos} {denB : D → List D → Res (D × D)} {fa : En → Res (List D × En)}
theorem DN.dm {fe : En → Res (D × En)} (h : DN X W e fe) : DM X W e fe := by
  obtain ⟨t, hp, he⟩ := h.ex
  refine ⟨t, hp, fun B F H r σ Q R p => he B F H r σ Q R ?_⟩
  cases q : fe r with
  | ok a =>
    obtain ⟨d, r'⟩ := a
    rw [q] at p
    rintro b F' H' R' s ⟨pa, rfl, h1, h2, h3, h4, h5⟩
    have e1 : fp H' pa d = [pa] := fp_one (ownS_no h5)
    exact p _ _ _ R' s ⟨pa, rfl, fun a ha => by rw [e1] at ha; rw [List.mem_singleton.mp ha]; exact ⟨h1, h2, h3, h4⟩, by rw [e1]; simp, ownS_at h5⟩
  | er c fs r' =>
    rw [q] at p
    exact p
  | bad =>
    rw [q] at p
    exact p
end
end Dl

set_option Elab.async false
set_option linter.all false
set_option maxRecDepth 100000
set_option maxHeartbeats 4000000
namespace Dl
open PySem L2
variable [Dl.Tb]
/-! ### an object with own parts is frozen, its parts with it -/
def Seal : List Addr → Hp → Hp → Prop
  | [], H, H' => H' = H
  | p :: A, H, H' => ∃ u o, H p = some u ∧ okSeal u o ∧ Seal A (upd H p o) H'
def un1 : D → D
  | .own d => d
  | d => d
def unF : List (Str × D) → List (Str × D)
  | [] => []
  | (k, d) :: fs => (k, un1 d) :: unF fs
def kwD (fs : List (Str × D)) : List (Key × D) := fs.map fun q => (Sum.inr q.1, q.2)
theorem repK_kw {K : PySem.W.Frag} {mg : Str → Option Value} {F : Hp} : ∀ {fs : List (Str × D)} {ws : List (Str × V)}, repF K mg F fs ws → repK K mg F (kwD fs) (kwS ws)
  | [], _, h => by
    cases h
    rfl
  | (k, d) :: fs, _, h => by
    obtain ⟨w, ws, rfl, h1, h2⟩ := h
    exact ⟨w, _, rfl, h1, repK_kw h2⟩
def unown : D → D
  | .ins c fs => .ins c (unF fs)
  | .nk fs => .dk (kwD (unF fs))
  | d => d
theorem seal_run {X : Cx} {pins : List (Addr × Obj)} {σ : L2.St} {s : Shared} : ∀ (A : List Addr) {H : Hp}, L2.Inv X pins σ H s → A.Nodup → (∀ a ∈ A, ∃ u, H a = some u) → ∃ H2, Seal A H H2 ∧ L2.Inv X pins σ H2 s
  | [], H, I, _, _ => ⟨H, rfl, I⟩
  | p :: A, H, I, nd, hl => by
    obtain ⟨u, hu⟩ := hl p (by simp)
    rw [List.nodup_cons] at nd
    have rest : ∀ o, ∀ a ∈ A, ∃ u, upd H p o a = some u := fun o a ha => by
      rw [upd_ne fun z => nd.1 (by rw [← z]; exact ha)]
      exact hl a (List.mem_cons_of_mem _ ha)
    by_cases d : ∃ kvs, u = .dK kvs
    · obtain ⟨kvs, rfl⟩ := d
      obtain ⟨ob, I2⟩ := I.lock hu True.intro
      obtain ⟨H2, h1, h2⟩ := seal_run A I2 nd.2 (rest _)
      exact ⟨H2, ⟨_, _, hu, ⟨ob, rfl⟩, h1⟩, h2⟩
    · have k : okSeal u u := by
        cases u with
        | dK kvs => exact absurd ⟨kvs, rfl⟩ d
        | _ => exact rfl
      obtain ⟨H2, h1, h2⟩ := seal_run A I nd.2 fun a ha => hl a (List.mem_cons_of_mem _ ha)
      exact ⟨H2, ⟨_, _, hu, k, by rw [upd_id hu]; exact h1⟩, h2⟩
def tSealA (t : TE) : TE := fun σ H Q => t σ H fun v H1 => ∃ A : List Addr, (∀ a ∈ A, ∃ u, H1 a = some u) ∧ A.Nodup ∧ ∀ H2, Seal A H1 H2 → Q v H2
theorem pe_sealA {X : Cx} {e : Expr} {t : TE} (h : PE X e t) : PE X e (tSealA t) := by
  refine ⟨fun pins s σ H Q I q => thn (h.run pins s σ H _ I q) fun w s1 ⟨v, H1, I1, r1, A, a1, a2, q1⟩ => ?_⟩
  obtain ⟨H2, h1, h2⟩ := seal_run A I1 a2 a1
  exact ⟨_, _, h2, r1, q1 H2 h1⟩
section
variable {K : PySem.W.Frag} {mg : Str → Option Value} {B : Bg} {F F2 H : Hp} {r : En} {σ : L2.St} {p : Addr} {d : D} {i : Nat}
theorem Loose.poke2 {q : Addr} {o : HO} (h : Loose H r σ q) (hp : Loose H r σ p) : Loose (upd H p o) r σ q := fun i s x hs m e ha => by
  rw [fp_eq (upd_ne (hp.ne hs m e))] at ha
  exact h i s x hs m e ha
theorem Rel.freezeA : ∀ (A : List Addr) {F H : Hp}, Rel K mg B F H r σ → A.Nodup → (∀ a ∈ A, F a = none ∧ B.H a = none ∧ a ∉ B.bs ∧ Loose H r σ a ∧ ∀ o, H a = some o → Own1 o) → ∀ H2, Seal A H H2 → ∃ F2, Rel K mg B F2 H2 r σ ∧ Same F F2 ∧ ∀ a ∈ A, ∃ u o, H a = some u ∧ okSeal u o ∧ F2 a = some o
  | [], F, H, R, _, _, H2, h => by
    cases (show H2 = H from h)
    exact ⟨F, R, Same.refl F, fun _ z => nomatch z⟩
  | p :: A, F, H, R, nd, hA, H2, h => by
    obtain ⟨u, o, hu, ks, h2⟩ := h
    rw [List.nodup_cons] at nd
    obtain ⟨f1, f2, f3, f4, f5⟩ := hA p (by simp)
    have R1 := R.freezeT (o := o) f1 f2 f3 f4 f5
    have ne : ∀ a ∈ A, a ≠ p := fun a ha z => nd.1 (by rw [← z]; exact ha)
    obtain ⟨F2, R2, s2, k2⟩ := Rel.freezeA A R1 nd.2 (fun a ha => by
      obtain ⟨g1, g2, g3, g4, g5⟩ := hA a (List.mem_cons_of_mem _ ha)
      refine ⟨by rw [upd_ne (ne a ha)]; exact g1, g2, g3, g4.poke2 f4, fun o ho => ?_⟩
      rw [upd_ne (ne a ha)] at ho
      exact g5 o ho) H2 h2
    refine ⟨F2, R2, (same_new f1).trans s2, fun a ha => ?_⟩
    rcases List.mem_cons.mp ha with z | z
    · rw [z]
      exact ⟨u, o, hu, ks, s2 _ _ upd_same⟩
    · obtain ⟨u', o', e1, e2, e3⟩ := k2 a z
      rw [upd_ne (ne a z)] at e1
      exact ⟨u', o', e1, e2, e3⟩
theorem rep_unF (s : Same F F2) : ∀ {fs : List (Str × D)} {ws : List (Str × V)}, repO K mg F H fs ws → (∀ a ∈ fpF fs ws, ∃ u o, H a = some u ∧ okSeal u o ∧ F2 a = some o) → repF K mg F2 (unF fs) ws
  | [], _, h, _ => h
  | (k, d) :: fs, _, h, hA => by
    obtain ⟨w, ws, rfl, h1, h2⟩ := h
    have rest := rep_unF s h2 fun a ha => hA a (by unfold fpF; exact List.mem_append_right _ ha)
    refine ⟨w, ws, rfl, ?_, rest⟩
    cases d with
    | own d =>
      obtain ⟨q, rfl, hq⟩ := h1
      obtain ⟨u, o, e1, e2, e3⟩ := hA q (by unfold fpF; simp [fldQ])
      cases d with
      | lst ds =>
        obtain ⟨xs, k1, k2⟩ := hq
        rw [k1] at e1
        cases e1
        cases (show o = _ from e2)
        exact ⟨q, xs, rfl, e3, repL_mono s _ _ k2⟩
      | dk ds =>
        obtain ⟨xs, k1, k2⟩ := hq
        rw [k1] at e1
        cases e1
        obtain ⟨ob, rfl⟩ := e2
        exact ⟨q, ob, xs, rfl, e3, repK_mono s _ _ k2⟩
      | _ => exact hq.elim
    | _ => exact rep_mono s _ _ h1
theorem rep_unown (s : Same F F2) (h : ownAt K mg F H p d) (hA : ∀ a ∈ fp H p d, ∃ u o, H a = some u ∧ okSeal u o ∧ F2 a = some o) : rep K mg F2 (unown d) (.ref p) := by
  obtain ⟨u, o, e1, e2, e3⟩ := hA p fp_head
  cases d with
  | lst ds =>
    obtain ⟨xs, k1, k2⟩ := h
    rw [k1] at e1
    cases e1
    cases (show o = _ from e2)
    exact ⟨p, xs, rfl, e3, repL_mono s _ _ k2⟩
  | dk ds =>
    obtain ⟨xs, k1, k2⟩ := h
    rw [k1] at e1
    cases e1
    obtain ⟨ob, rfl⟩ := e2
    exact ⟨p, ob, xs, rfl, e3, repK_mono s _ _ k2⟩
  | dt ds =>
    obtain ⟨xs, k1, k2⟩ := h
    rw [k1] at e1
    cases e1
    cases (show o = _ from e2)
    exact ⟨p, xs, rfl, e3, repT_mono s _ _ k2⟩
  | ins c fs =>
    obtain ⟨C, dx, ws, m, k1, k2⟩ := h
    have e1' := e1
    rw [k1] at e1'
    cases e1'
    cases (show o = _ from e2)
    refine ⟨p, C, dx, ws, rfl, m, e3, rep_unF s k2 fun a ha => hA a ?_⟩
    unfold fp
    simp only [k1]
    exact List.mem_cons_of_mem _ ha
  | nk fs =>
    obtain ⟨ws, k1, k2⟩ := h
    have e1' := e1
    rw [k1] at e1'
    cases e1'
    obtain ⟨ob, rfl⟩ := e2
    refine ⟨p, ob, _, rfl, e3, repK_kw (rep_unF s k2 fun a ha => hA a ?_)⟩
    unfold fp
    simp only [k1]
    rw [fpK_kwS]
    exact List.mem_cons_of_mem _ ha
  | _ => exact h.elim
end
def eFrz (f : En → Res (D × En)) : En → Res (D × En) := fun r => (f r).bind fun p => .ok (unown p.1, p.2)
section
variable {X : Cx} {W : WX} {e : Expr} {f : En → Res (D × En)} {i : Nat} {x : Str} {pos : Pos}
theorem DM.de (h : DM X W e f) : DE X W e (eFrz f) := by
  obtain ⟨t, hp, he⟩ := h.ex
  refine ⟨_, pe_sealA hp, fun B F H r σ Q R p => he B F H r σ _ R ?_⟩
  unfold eFrz at p
  cases q : f r with
  | ok a =>
    obtain ⟨d, r'⟩ := a
    rw [q] at p
    rintro b F' H' R' s ⟨pa, rfl, hA, nd, ho⟩
    refine ⟨fp H' pa d, fun a ha => fp_live d ho a ha, nd, fun H2 h2 => ?_⟩
    obtain ⟨F2, R2, s2, k2⟩ := Rel.freezeA (fp H' pa d) R' nd (fun a ha => ⟨(hA a ha).1, (hA a ha).2.1, (hA a ha).2.2.1, (hA a ha).2.2.2, fun o hoo => fp_own d ho a ha o hoo⟩) H2 h2
    exact (show Po X.K X.mg W B F σ _ Q (.ok (unown d, r')) from p) _ F2 H2 R2 (s.trans s2) (rep_unown s2 ho k2)
  | er c fs r' =>
    rw [q] at p
    exact p
  | bad =>
    rw [q] at p
    exact p
end
end Dl

set_option Elab.async false
set_option linter.all false
set_option maxRecDepth 100000
set_option maxHeartbeats 4000000
namespace Dl
open PySem L2
variable [Dl.Tb]
/-! ### values that may be new: a new object's reading stands in .own -/
section
variable (K : PySem.W.Frag) (mg : Str → Option Value)
def rV : RR D V := fun B σ r F H d v => rep K mg F d v ∨ ∃ d', d = .own d' ∧ rM K mg B σ r F H d' v
end
structure DV (X : Cx) (W : WX) (e : Expr) (f : En → Res (D × En)) : Prop where
  ex : ∃ t, PE X e t ∧ Ent X.K X.mg W (rV X.K X.mg) t f
def eOwn (f : En → Res (D × En)) : En → Res (D × En) := fun r => (f r).bind fun p => .ok (.own p.1, p.2)
def unV : D → D
  | .own d => unown d
  | d => d
def eFrzV (f : En → Res (D × En)) : En → Res (D × En) := fun r => (f r).bind fun p => .ok (unV p.1, p.2)
def slV : D → Sl
  | .own d => .ow d
  | d => .fz d
def sSetV (i : Nat) (f : En → Res (D × En)) : En → SR := fun r => sBind (f r) fun p => .nx (p.2.set i (some (slV p.1)))
def retV (d : D) (r : En) : SR := match d with
  | .own d => .rv d r
  | d => .rt d r
def sRetV (f : En → Res (D × En)) : En → SR := fun r => sBind (f r) fun p => retV p.1 p.2
/-- a slot's object is given away, a frozen value is told -/
def eMvV (i : Nat) : En → Res (D × En) := fun r => match r[i]? with
  | some (some (.fz d)) => .ok (d, r)
  | some (some (.ow d)) => .ok (.own d, r.set i none)
  | _ => .bad
section
variable {X : Cx} {W : WX} {e a b : Expr} {f h k : En → Res (D × En)} {i : Nat} {x : Str} {pos : Pos}
theorem DE.dv (hh : DE X W e f) : DV X W e f := by
  obtain ⟨t, hp, he⟩ := hh.ex
  refine ⟨t, hp, fun B F H r σ Q R p => he B F H r σ Q R ?_⟩
  cases q : f r with
  | ok a =>
    rw [q] at p
    exact fun b F' H' R' s x => p b F' H' R' s (.inl x)
  | er c fs r' =>
    rw [q] at p
    exact p
  | bad =>
    rw [q] at p
    exact p
theorem DM.dv (hh : DM X W e f) : DV X W e (eOwn f) := by
  obtain ⟨t, hp, he⟩ := hh.ex
  exact ⟨t, hp, fun B F H r σ Q R p => he.to R p fun d r' v F' H' R' s x q => q v F' H' R' (Same.refl F') (.inr ⟨d, rfl, x⟩)⟩
theorem DN.dv (hh : DN X W e f) : DV X W e (eOwn f) := hh.dm.dv
theorem DV.de (hh : DV X W e f) : DE X W e (eFrzV f) := by
  obtain ⟨t, hp, he⟩ := hh.ex
  refine ⟨_, PE.or hp (pe_sealA hp), fun B F H r σ Q R p => ?_⟩
  unfold eFrzV at p
  cases q : f r with
  | ok a =>
    obtain ⟨d, r'⟩ := a
    rw [q] at p
    by_cases c : ∃ d', d = .own d'
    · obtain ⟨d', rfl⟩ := c
      refine .inr (he B F H r σ _ R ?_)
      rw [q]
      rintro b F' H' R' s (hr | ⟨d2, e2, pa, rfl, hA, nd, ho⟩)
      · exact hr.elim
      · cases e2
        refine ⟨fp H' pa d', fun a ha => fp_live d' ho a ha, nd, fun H2 h2 => ?_⟩
        obtain ⟨F2, R2, s2, k2⟩ := Rel.freezeA (fp H' pa d') R' nd (fun a ha => ⟨(hA a ha).1, (hA a ha).2.1, (hA a ha).2.2.1, (hA a ha).2.2.2, fun o hoo => fp_own d' ho a ha o hoo⟩) H2 h2
        exact (show Po X.K X.mg W B F σ _ Q (.ok (unown d', r')) from p) _ F2 H2 R2 (s.trans s2) (rep_unown s2 ho k2)
    · refine .inl (he B F H r σ _ R ?_)
      rw [q]
      have e1 : unV d = d := by
        cases d with
        | own d => exact absurd ⟨d, rfl⟩ c
        | _ => rfl
      have p' : Po X.K X.mg W B F σ (rE X.K X.mg) Q (.ok (unV d, r')) := p
      rw [e1] at p'
      rintro b F' H' R' s (hr | ⟨d2, e2, _⟩)
      · exact p' b F' H' R' s hr
      · exact absurd ⟨d2, e2⟩ c
  | er c fs r' =>
    rw [q] at p
    refine .inl (he B F H r σ _ R ?_)
    rw [q]
    exact p
  | bad =>
    rw [q] at p
    exact p.elim
theorem ds_setV {x : Str} {pos' : Pos} (hN : X.N.Nodup) (hh : DV X W e f) (hi : X.N[i]? = some x := by rfl) (hx : Loc X.env.scope x := by first | exact .inl rfl | exact .inr rfl) (hs : swapsWith e (some (.Name x pos')) pos.line X.env = pure false := by rfl)
    (hf : X.fn x = true ∨ X.env.scope.names.lookup x = some .local := by first | exact .inl rfl | exact .inr rfl) : DS X W (.Assign [.Name x pos'] e pos) (sSetV i f) := by
  obtain ⟨t, hp, he⟩ := hh.ex
  refine ⟨_, ps_set hN hi hx hp hs hf, fun B F H r σ Z R p => he.toS R p fun d r' v F' H' R' s x q => ?_⟩
  rcases x with h1 | ⟨d', rfl, pa, rfl, hA, nd, ho⟩
  · have e1 : slV d = .fz d := by
      cases d with
      | own d => exact h1.elim
      | _ => rfl
    rw [e1] at q
    exact q _ F' H' (R'.setF h1) (Same.refl F')
  · exact q _ F' H' (R'.setO hA nd ho) (Same.refl F')
theorem ds_retV (hh : DV X W e f) : DS X W (.Return (some e) pos) (sRetV f) := by
  obtain ⟨t, hp, he⟩ := hh.ex
  refine ⟨_, ps_ret hp, fun B F H r σ Z R p => he.toS R p fun d r' v F' H' R' s x q => ?_⟩
  rcases x with h1 | ⟨d', rfl, h2⟩
  · have e1 : retV d r' = .rt d r' := by
      cases d with
      | own d => exact h1.elim
      | _ => rfl
    simp only at q
    rw [e1] at q
    exact q v σ F' H' R' (Same.refl F') h1
  · exact q v σ F' H' R' (Same.refl F') h2
end
/-! ### defs that give such a value back -/
section
variable (K : PySem.W.Frag) (mg : Str → Option Value)
def newV (F' H H' : Hp) (d : D) (v : V) : Prop := rep K mg F' d v ∨ ∃ d' p, d = .own d' ∧ v = .ref p ∧ (∀ a ∈ fp H' p d', F' a = none ∧ H a = none) ∧ (fp H' p d').Nodup ∧ ownAt K mg F' H' p d'
def PoFV (F H : Hp) (Q : VK) (E : XK) : Res D → Prop
  | .ok d => ∀ v F' H', Grow [] F H F' H' → newV K mg F' H H' d v → Q v H'
  | .er c fs _ => ∀ C od F' H', mg c = some (.ref C) → Grow [] F H F' H' → xdOk K mg F' H' fs od → E (.ref C) od H'
  | .bad => False
def spV (den : List D → Res D) : Sp := fun vs H Q E => ∃ F ds, SF F H ∧ repL K mg F ds vs ∧ PoFV K mg F H Q E (den ds)
def newB (q : Addr) (d1 : D) (F' H H' : Hp) (d : D) (v : V) : Prop := rep K mg F' d v ∨ ∃ d' p, d = .own d' ∧ v = .ref p ∧ (∀ a ∈ fp H' p d', F' a = none ∧ H a = none ∧ a ∉ fp H' q d1) ∧ (fp H' p d').Nodup ∧ ownAt K mg F' H' p d'
def PoBV (A : List Addr) (p : Addr) (F H : Hp) (Q : VK) (E : XK) : Res (D × D) → Prop
  | .ok (d, d1) => ∀ v F' H', Grow A F H F' H' → (∀ a ∈ A, H' a ≠ none) → (∀ a ∈ fp H' p d1, F' a = none ∧ (a ∈ A ∨ H a = none)) → (fp H' p d1).Nodup → ownAt K mg F' H' p d1 → newB K mg p d1 F' H H' d v → Q v H'
  | .er c fs _ => ∀ C od F' H', mg c = some (.ref C) → Grow A F H F' H' → (∀ a ∈ A, H' a ≠ none) → xdOk K mg F' H' fs od → E (.ref C) od H'
  | .bad => False
def spBV (den : D → List D → Res (D × D)) : Sp := fun vs H Q E => ∃ F p d0 ds ws, vs = .ref p :: ws ∧ SF F H ∧ (∀ a ∈ fp H p d0, F a = none) ∧ (fp H p d0).Nodup ∧ ownAt K mg F H p d0 ∧ repL K mg F ds ws ∧ PoBV K mg (fp H p d0) p F H Q E (den d0 ds)
end
def runV (n np : Nat) (f : En → SR) (ds : List D) : Res D := if ds.length = np then (match f (startE n ds) with
  | .rt d _ => .ok d
  | .rv d _ => .ok (.own d)
  | .nx _ => .ok .non
  | .er c fs r => .er c fs r
  | _ => .bad) else .bad
section
variable (P : Program) (w : World) (K : PySem.W.Frag) (mg : Str → Option Value) (base : Heap)
structure CalV (k : Nat) (f : Addr) (den : List D → Res D) : Prop where
  ex : ∃ (fd : FuncData) (ps : List Str) (ds : List Value) (dvs : List V) (dds : List D) (den0 : List D → Res D), FnOk P w K mg base (L2.CX P w) k f fd ps (spV K mg den0) ∧ Binds K fd ps ds ∧ Vals dvs ds ∧ (∀ F, repL K mg F dds dvs) ∧ den = fun as => den0 (as ++ dds)
  kp : PySem.W.keepIn K (.ref f) = true
structure CalBV (k : Nat) (f : Addr) (den : D → List D → Res (D × D)) : Prop where
  ex : ∃ (fd : FuncData) (ps : List Str) (ds : List Value) (dvs : List V) (dds : List D) (den0 : D → List D → Res (D × D)), FnOk P w K mg base (L2.CX P w) k f fd ps (spBV K mg den0) ∧ Binds K fd ps ds ∧ Vals dvs ds ∧ (∀ F, repL K mg F dds dvs) ∧ den = fun d as => den0 d (as ++ dds)
  kp : PySem.W.keepIn K (.ref f) = true
end
section
variable {P : Program} {w : World} {K : PySem.W.Frag} {mg : Str → Option Value} {base : Heap} {x qual : Str} {params : Arguments} {body : List Stmt} {scope : Scope} {dvs : List V} {kws : List (Str × V)} {f : Addr} {fd : FuncData} {N ps : List Str} {k : Nat} {den : En → SR}
theorem fn_V (F : FunD K x qual params body scope dvs kws f fd) (S : FnScope N ps scope) (b : BodyOk P w K mg base k N qual scope f body den) : FnOk P w K mg base (L2.CX P w) (k + 1) f fd ps (spV K mg (runV N.length ps.length den)) := by
  refine fun_ok F S (fun vs H Q E h => ?_) (fun cdv A outer s H vs Q E hr h => ?_)
  · obtain ⟨F', ds, _, r, p⟩ := h
    rw [repL_len r]
    unfold runV at p
    split at p
    · assumption
    · exact p.elim
  · obtain ⟨F', ds, s', r, p⟩ := h
    obtain ⟨t, hp, he⟩ := (b cdv A outer s H E hr).ex
    refine ⟨t, hp, he ⟨F', H, []⟩ F' H _ _ _ (rel_start s' r) ?_⟩
    unfold runV at p
    split at p
    · cases q : den (startE N.length ds) with
      | rt d r' =>
        rw [q] at p
        exact fun v σ' F1 H1 R1 s1 x => p v F1 H1 ⟨fun a o _ h => R1.keep a o (by simp) h, s1, R1.fh, R1.fresh, R1.tabs, R1.there⟩ (.inl x)
      | rv d r' =>
        rw [q] at p
        rintro v σ' F1 H1 R1 s1 ⟨pa, rfl, hA, nd, ho⟩
        exact p _ F1 H1 ⟨fun a o _ h => R1.keep a o (by simp) h, s1, R1.fh, R1.fresh, R1.tabs, R1.there⟩ (.inr ⟨d, pa, rfl, rfl, fun a ha => ⟨(hA a ha).1, (hA a ha).2.1⟩, nd, ho⟩)
      | nx r' =>
        rw [q] at p
        exact fun σ' F1 H1 R1 s1 => p .non F1 H1 ⟨fun a o _ h => R1.keep a o (by simp) h, s1, R1.fh, R1.fresh, R1.tabs, R1.there⟩ (.inl rfl)
      | er c fs r' =>
        rw [q] at p
        exact fun C od σ' F1 H1 m R1 s1 x => p C od F1 H1 m ⟨fun a o _ h => R1.keep a o (by simp) h, s1, R1.fh, R1.fresh, R1.tabs, R1.there⟩ x
      | _ =>
        rw [q] at p
        exact p.elim
    · exact p.elim
theorem cal_V (F : FunD K x qual params body scope [] [] f fd) (S : FnScope N ps scope) (b : BodyOk P w K mg base k N qual scope f body den)
    (h : ∀ (kV doc pm : Value) (an : Option Addr) (cdv ct : Value) (us : List Value), us.length = ps.length → bindArgs (PySem.W.fnOf x qual params body scope .none kV doc pm an cdv ct) ⟨us, []⟩ = pure (ps.zip us)) :
    CalV P w K mg base (k + 1) f (runV N.length ps.length den) :=
  ⟨⟨fd, ps, [], [], [], _, fn_V F S b, F.bindsN h, .nil, fun _ => rfl, by funext as; rw [List.append_nil]⟩, F.kp⟩
end
section
variable {K : PySem.W.Frag} {mg : Str → Option Value} {W : WX} {B : Bg} {F H F' H' : Hp} {r : En} {σ : L2.St}
theorem Rel.newM (R : Rel K mg B F H r σ) (g : Grow [] F H F' H') {d : D} {v : V} (h : newV K mg F' H H' d v) : rV K mg B σ r F' H' d v := by
  rcases h with h | ⟨d', p, rfl, rfl, hA, nd, ho⟩
  · exact .inl h
  · exact .inr ⟨d', rfl, p, rfl, fun a ha => ⟨(hA a ha).1, (R.new_ne (hA a ha).2).1, (R.new_ne (hA a ha).2).2, R.loose_growT (fun a o h => g.h a o List.not_mem_nil h) (R.loose_new0 (hA a ha).2)⟩, nd, ho⟩
theorem callV_po {den0 : List D → Res D} {ds dds : List D} {vs dvs : List V} {Q : VK} (R : Rel K mg B F H r σ) (h : repL K mg F ds vs) (hd : ∀ F, repL K mg F dds dvs) (p : Po K mg W B F σ (rV K mg) Q (callR (den0 (ds ++ dds)) r)) : spV K mg den0 (vs ++ dvs) H Q (WE W σ) := by
  refine ⟨F, ds ++ dds, R.sf, repL_app h (hd F), ?_⟩
  cases q : den0 (ds ++ dds) with
  | ok d =>
    rw [q] at p
    exact fun v F' H' g x => p v F' H' (R.growN g) g.f (R.newM g x)
  | er c fs r' =>
    rw [q] at p
    exact fun C od F' H' m g x => p C od σ F' H' m (R.growN g) g.f x
  | bad =>
    rw [q] at p
    exact p.elim
end
section
variable {X : Cx} {W : WX} {k j : Nat} {f C : Addr} {x c m y : Str} {p pos apos q : Pos} {o e : Expr} {es : List Expr} {fa : En → Res (List D × En)} {ff : En → Res (D × En)} {den : List D → Res D} {denB : D → List D → Res (D × D)}
theorem dv_call (F : CalV X.prog X.w X.K X.mg X.base k f den) (tk : Takes X W) (hr : Room j X.A) (hk : k ≤ j) (hg : Gl X x) (hm : X.mg x = some (.ref f)) (ha : DA X W (e :: es) fa) (hdb : (x == ("__debug__" : Str)) = false := by decide)
    (he : starEach (e :: es) X.env = (false, eval e X.env) :: starEach es X.env := by rfl) (hpl : (backTo pos (starEach es X.env)).any (·.1) = false := by rfl) : DV X W (.Call (.Name x p) (e :: es) [] pos) (eCall den fa) := by
  obtain ⟨fd, ps, ds, dvs, dds, den0, G, hb, hd, hdd, rfl⟩ := F.ex
  obtain ⟨t, pa, ea⟩ := ha.ex
  exact ⟨_, pe_callSD (E := WE W) G (hr.mono hk) hg hm F.kp hb hd (fun σ => passAt tk σ) pa hdb he hpl, fun B F H r σ Q R p => ea.to R p fun as r1 vs F1 H1 R1 s1 x1 p1 => callV_po R1 x1 hdd p1⟩
end
end Dl

set_option Elab.async false
set_option linter.all false
set_option maxRecDepth 100000
set_option maxHeartbeats 4000000
namespace Dl
open PySem L2
variable [Dl.Tb]
section
variable {X : Cx} {W : WX} {k j : Nat} {f C : Addr} {x c m y : Str} {p pos apos q : Pos} {o e : Expr} {es : List Expr} {fa : En → Res (List D × En)} {ff : En → Res (D × En)} {den : List D → Res D} {denB : D → List D → Res (D × D)}
end
theorem DV.alt {X : Cx} {W : WX} {e : Expr} {f g : En → Res (D × En)} (h : DV X W e f) (k : DV X W e g) : DV X W e (eAlt f g) := by
  obtain ⟨t, hp, he⟩ := h.ex
  obtain ⟨u, kp, ke⟩ := k.ex
  exact ⟨_, PE.or hp kp, ent_or he ke⟩
theorem DM.alt {X : Cx} {W : WX} {e : Expr} {f g : En → Res (D × En)} (h : DM X W e f) (k : DM X W e g) : DM X W e (eAlt f g) := by
  obtain ⟨t, hp, he⟩ := h.ex
  obtain ⟨u, kp, ke⟩ := k.ex
  exact ⟨_, PE.or hp kp, ent_or he ke⟩
/-! ### x.clear() -/
def sClear (i : Nat) : En → SR := fun r => atMineS r i fun s => match s.d with
  | .lst _ => .nx (r.set i (some (s.put (.lst []))))
  | .dk _ => .nx (r.set i (some (s.put (.dk []))))
  | _ => .bad
section
variable {X : Cx} {W : WX} {i : Nat} {y : Str} {pos pos' apos q : Pos}
end
end Dl

set_option Elab.async false
set_option linter.all false
set_option maxRecDepth 100000
set_option maxHeartbeats 4000000
namespace Dl
open PySem L2
variable [Dl.Tb]
/-! ### new objects held while other things are evaluated -/
def bgHold (B : Bg) (H : Hp) (A : List Addr) : Bg := { B with H := fun a => if a ∈ A then H a else B.H a }
section
variable {K : PySem.W.Frag} {mg : Str → Option Value} {B : Bg} {F F2 H H2 : Hp} {r r2 : En} {σ : L2.St} {A : List Addr}
theorem hold_in {a : Addr} (h : a ∈ A) : (bgHold B H A).H a = H a := by
  unfold bgHold
  simp only [if_pos h]
theorem hold_out {a : Addr} (h : a ∉ A) : (bgHold B H A).H a = B.H a := by
  unfold bgHold
  simp only [if_neg h]
/-- what is known of things that are held -/
def Held (B : Bg) (F H : Hp) (r : En) (σ : L2.St) (A : List Addr) : Prop := ∀ a ∈ A, F a = none ∧ B.H a = none ∧ a ∉ B.bs ∧ Loose H r σ a ∧ ∃ o, H a = some o ∧ Own1 o
theorem Rel.hold (R : Rel K mg B F H r σ) (hA : Held B F H r σ A) : Rel K mg (bgHold B H A) F H r σ where
  fh := R.fh
  f0 := R.f0
  tabs := R.tabs
  keep := fun a o hb h n => by
    by_cases q : a ∈ A
    · rw [hold_in q] at h
      exact h
    · rw [hold_out q] at h
      exact R.keep a o hb h n
  there := fun a h => by
    by_cases q : a ∈ A
    · rw [hold_in q] at h
      exact h
    · rw [hold_out q] at h
      exact R.there a h
  fresh := fun a h1 h2 => by
    by_cases q : a ∈ A
    · exact (hA a q).1
    · rw [hold_out q] at h2
      exact R.fresh a h1 h2
  live := fun a hb => by
    have q : a ∉ A := fun z => (hA a z).2.2.1 hb
    rw [hold_out q]
    exact R.live a hb
  len := R.len
  slot := fun i s h => by
    have q := R.slot i s h
    have nA : s.mine = true → ∀ p, σ[i]? = some (some (.ref p)) → ∀ a ∈ fp H p s.d, a ∉ A := fun m p e a ha z => (hA a z).2.2.2.1 i s p h m e ha
    cases s with
    | fz d => exact q
    | ow d =>
      obtain ⟨p, e, h1, h2, h3⟩ := q
      exact ⟨p, e, fun a ha => ⟨(h1 a ha).1, by rw [hold_out (nA rfl p e a ha)]; exact (h1 a ha).2.1, (h1 a ha).2.2⟩, h2, h3⟩
    | bo d =>
      obtain ⟨p, e, hd, h1, h2, h3⟩ := q
      exact ⟨p, e, hd, fun a ha => ⟨(h1 a ha).1, (h1 a ha).2.imp id fun z => by rw [hold_out (nA rfl p e a ha)]; exact z⟩, h2, h3⟩
    | lm f c q0 ds vs =>
      obtain ⟨e, h1, h2, h3⟩ := q
      refine ⟨e, ?_, h2, h3⟩
      rw [hold_out fun z => by have := (hA c z).2.1; rw [this] at h1; cases h1]
      exact h1
  apart := R.apart
theorem Rel.unhold (R : Rel K mg B F H r σ) (hA : Held B F H r σ A) {σ2 : L2.St} (R2 : Rel K mg (bgHold B H A) F2 H2 r2 σ2) : Rel K mg B F2 H2 r2 σ2 ∧ ∀ a ∈ A, H2 a = H a ∧ F2 a = none ∧ Loose H2 r2 σ2 a := by
  have nn : ∀ a ∈ A, H a ≠ none := fun a ha => by
    obtain ⟨o, h, _⟩ := (hA a ha).2.2.2.2
    rw [h]
    exact fun z => nomatch z
  have back : ∀ a, (bgHold B H A).H a = none → a ∉ A ∧ B.H a = none := fun a z => by
    by_cases q : a ∈ A
    · rw [hold_in q] at z
      exact absurd z (nn a q)
    · rw [hold_out q] at z
      exact ⟨q, z⟩
  have hk : ∀ a ∈ A, H2 a = H a := fun a ha => by
    obtain ⟨o, h, w⟩ := (hA a ha).2.2.2.2
    rw [h]
    exact R2.keep a o (hA a ha).2.2.1 (by rw [hold_in ha]; exact h) w.nt
  have BF : ∀ a ∈ A, B.F a = none := fun a ha => by
    cases q : B.F a with
    | none => rfl
    | some o =>
      have := R.f0 _ _ q
      rw [(hA a ha).1] at this
      cases this
  refine ⟨⟨R2.fh, R2.f0, R2.tabs, fun a o hb h n => ?_, fun a h => R2.there a fun z => h (back a z).2, fun a h1 h2 => ?_, fun a hb => ?_, R2.len, fun i s h => ?_, R2.apart⟩, fun a ha => ⟨hk a ha, R2.fresh a (BF a ha) (by rw [hold_in ha]; exact nn a ha), fun i s q h m e hx => ?_⟩⟩
  · refine R2.keep a o hb ?_ n
    rw [hold_out fun z => by rw [(hA a z).2.1] at h; cases h]
    exact h
  · refine R2.fresh a h1 ?_
    by_cases q : a ∈ A
    · rw [hold_in q]
      exact nn a q
    · rw [hold_out q]
      exact h2
  · obtain ⟨k1, k2⟩ := R2.live a hb
    refine ⟨k1, fun z => ?_⟩
    by_cases q : a ∈ A
    · exact (hA a q).2.2.1 hb
    · rw [hold_out q] at k2
      exact k2 z
  · have q := R2.slot i s h
    cases s with
    | fz d => exact q
    | ow d =>
      obtain ⟨p, e, h1, h2, h3⟩ := q
      exact ⟨p, e, fun a ha => ⟨(h1 a ha).1, (back a (h1 a ha).2.1).2, (h1 a ha).2.2⟩, h2, h3⟩
    | bo d =>
      obtain ⟨p, e, hd, h1, h2, h3⟩ := q
      exact ⟨p, e, hd, fun a ha => ⟨(h1 a ha).1, (h1 a ha).2.imp id fun z => (back a z).2⟩, h2, h3⟩
    | lm f c q0 ds vs =>
      obtain ⟨e, h1, h2, h3⟩ := q
      refine ⟨e, ?_, h2, h3⟩
      by_cases z : c ∈ A
      · rw [hold_in z] at h1
        obtain ⟨o, g1, g2⟩ := (hA c z).2.2.2.2
        rw [g1] at h1
        exact absurd (Option.some.inj h1) g2.nc
      · rw [hold_out z] at h1
        exact h1
  · rcases ((R2.own_at h m e).1 a hx).2 with z | z
    · exact (hA a ha).2.2.1 z
    · exact (back a z).1 ha
end
/-! ### values side by side, some of them new -/
section
variable (K : PySem.W.Frag) (mg : Str → Option Value)
def rL1 (B : Bg) (σ : L2.St) (r : En) (F H : Hp) : Sl → V → Prop
  | .fz d, v => rep K mg F d v
  | .ow d, v => rM K mg B σ r F H d v
  | _, _ => False
def repS (B : Bg) (σ : L2.St) (r : En) (F H : Hp) : List Sl → List V → Prop
  | [], vs => vs = []
  | s :: ss, vs => ∃ v ws, vs = v :: ws ∧ rL1 K mg B σ r F H s v ∧ repS B σ r F H ss ws
end
def own1 (H : Hp) : Sl → V → List Addr
  | .ow d, v => (match v with
    | .ref p => fp H p d
    | _ => [])
  | _, _ => []
def ownsA (H : Hp) : List Sl → List V → List Addr
  | s :: ss, v :: vs => own1 H s v ++ ownsA H ss vs
  | _, _ => []
def rL (K : PySem.W.Frag) (mg : Str → Option Value) : RR (List Sl) (List V) := fun B σ r F H ss vs => repS K mg B σ r F H ss vs ∧ (ownsA H ss vs).Nodup
structure DL (X : Cx) (W : WX) (es : List Expr) (f : En → Res (List Sl × En)) : Prop where
  ex : ∃ t, PA X es t ∧ Ent X.K X.mg W (rL X.K X.mg) t f
def lNil : En → Res (List Sl × En) := fun r => .ok ([], r)
def lFz (f : En → Res (D × En)) (g : En → Res (List Sl × En)) : En → Res (List Sl × En) := fun r => (f r).bind fun p => (g p.2).bind fun q => .ok (.fz p.1 :: q.1, q.2)
def lOw (f : En → Res (D × En)) (g : En → Res (List Sl × En)) : En → Res (List Sl × En) := fun r => (f r).bind fun p => (g p.2).bind fun q => .ok (.ow p.1 :: q.1, q.2)
section
variable {K : PySem.W.Frag} {mg : Str → Option Value} {B : Bg} {F F2 H H2 : Hp} {r r2 : En} {σ : L2.St} {A : List Addr}
theorem repS_unhold (R : Rel K mg B F H r σ) (hA : Held B F H r σ A) : ∀ {ss : List Sl} {vs : List V}, repS K mg (bgHold B H A) σ r2 F2 H2 ss vs → repS K mg B σ r2 F2 H2 ss vs ∧ ∀ a ∈ ownsA H2 ss vs, a ∉ A
  | [], _, h => by
    cases (show _ = [] from h)
    exact ⟨rfl, fun _ z => nomatch z⟩
  | s :: ss, _, h => by
    obtain ⟨v, ws, rfl, h1, h2⟩ := h
    obtain ⟨a1, a2⟩ := repS_unhold R hA h2
    have nn : ∀ a ∈ A, H a ≠ none := fun a ha => by
      obtain ⟨o, h, _⟩ := (hA a ha).2.2.2.2
      rw [h]
      exact fun z => nomatch z
    cases s with
    | fz d => exact ⟨⟨v, ws, rfl, h1, a1⟩, fun a ha => a2 a (by simpa [ownsA, own1] using ha)⟩
    | ow d =>
      obtain ⟨p, rfl, k1, k2, k3⟩ := h1
      have out : ∀ a ∈ fp H2 p d, a ∉ A := fun a ha z => by
        have := (k1 a ha).2.1
        rw [hold_in z] at this
        exact nn a z this
      refine ⟨⟨_, ws, rfl, ⟨p, rfl, fun a ha => ⟨(k1 a ha).1, ?_, (k1 a ha).2.2⟩, k2, k3⟩, a1⟩, fun a ha => ?_⟩
      · have := (k1 a ha).2.1
        rw [hold_out (out a ha)] at this
        exact this
      · rcases List.mem_append.mp (show a ∈ fp H2 p d ++ ownsA H2 ss ws from ha) with z | z
        · exact out a z
        · exact a2 a z
    | bo d => exact h1.elim
    | lm f c q ds vs => exact h1.elim
end
section
variable {X : Cx} {W : WX} {e : Expr} {es : List Expr} {f : En → Res (D × En)} {g : En → Res (List Sl × En)}
theorem dl_nil : DL X W [] lNil := ⟨_, pa_nil, fun B F H r σ Q R p => p [] F H R (Same.refl F) ⟨rfl, .nil⟩⟩
theorem dl_fz (hh : DE X W e f) (hg : DL X W es g) (hs : starEach (e :: es) X.env = (false, eval e X.env) :: starEach es X.env := by rfl) : DL X W (e :: es) (lFz f g) := by
  obtain ⟨t, hp, he⟩ := hh.ex
  obtain ⟨u, kp, ke⟩ := hg.ex
  exact ⟨_, pa_cons hp kp hs, fun B F H r σ Q R p => he.to R p fun d r1 v F1 H1 R1 s1 x1 p1 => ke.to R1 p1 fun ss r2 vs F2 H2 R2 s2 x2 p2 => p2 _ F2 H2 R2 (Same.refl F2) ⟨⟨v, vs, rfl, rep_mono s2 _ _ x1, x2.1⟩, x2.2⟩⟩
theorem dl_ow (hh : DM X W e f) (hg : DL X W es g) (hs : starEach (e :: es) X.env = (false, eval e X.env) :: starEach es X.env := by rfl) : DL X W (e :: es) (lOw f g) := by
  obtain ⟨t, hp, he⟩ := hh.ex
  obtain ⟨u, kp, ke⟩ := hg.ex
  refine ⟨_, pa_cons hp kp hs, fun B F H r σ Q R p => he.to R p fun d r1 v F1 H1 R1 s1 x1 p1 => ?_⟩
  obtain ⟨pa, rfl, hA, nd, ho⟩ := x1
  have hh : Held B F1 H1 r1 σ (fp H1 pa d) := fun a ha => by
    obtain ⟨o, h⟩ := fp_live d ho a ha
    exact ⟨(hA a ha).1, (hA a ha).2.1, (hA a ha).2.2.1, (hA a ha).2.2.2, o, h, fp_own d ho a ha o h⟩
  refine ke _ F1 H1 r1 σ _ (R1.hold hh) ?_
  simp only at p1
  cases z : g r1 with
  | ok x =>
    obtain ⟨ss, r2⟩ := x
    simp only [z, bind_ok] at p1
    intro vs F2 H2 R2 s2 x2
    obtain ⟨R3, hk⟩ := R1.unhold hh R2
    obtain ⟨y1, y2⟩ := repS_unhold R1 hh x2.1
    have ef : fp H2 pa d = fp H1 pa d := fp_eq (hk pa fp_head).1
    refine p1 _ F2 H2 R3 s2 ⟨⟨.ref pa, vs, rfl, ⟨pa, rfl, fun a ha => ?_, by rw [ef]; exact nd, own_mono s2 d (fun a ha => (hk a ha).1) ho⟩, y1⟩, ?_⟩
    · rw [ef] at ha
      exact ⟨(hk a ha).2.1, (hA a ha).2.1, (hA a ha).2.2.1, (hk a ha).2.2⟩
    · show (fp H2 pa d ++ ownsA H2 ss vs).Nodup
      rw [ef, List.nodup_append]
      exact ⟨nd, x2.2, fun a ha b hb e => y2 b hb (by rw [← e]; exact ha)⟩
  | er c fs r' =>
    simp only [z] at p1
    exact fun C od σ' F' H' m R' s' x => p1 C od σ' F' H' m (R1.unhold hh R').1 s' x
  | bad =>
    simp only [z] at p1
    exact p1.elim
end
def setL (r : En) : List Nat → List Sl → En
  | i :: is, s :: ss => setL (r.set i (some s)) is ss
  | _, _ => r
def setLV (σ : L2.St) : List Nat → List V → L2.St
  | i :: is, v :: vs => setLV (σ.set i (some v)) is vs
  | _, _ => σ
section
variable {K : PySem.W.Frag} {mg : Str → Option Value} {B : Bg} {F H : Hp}
theorem repS_set {r r' : En} {σ σ' : L2.St} : ∀ {ss : List Sl} {vs : List V}, (∀ a ∈ ownsA H ss vs, Loose H r σ a → Loose H r' σ' a) → repS K mg B σ r F H ss vs → repS K mg B σ' r' F H ss vs
  | [], _, _, h => h
  | s :: ss, _, hl, h => by
    obtain ⟨v, ws, rfl, h1, h2⟩ := h
    refine ⟨v, ws, rfl, ?_, repS_set (fun a ha => hl a (List.mem_append_right _ ha)) h2⟩
    cases s with
    | fz d => exact h1
    | ow d =>
      obtain ⟨p, rfl, k1, k2, k3⟩ := h1
      exact ⟨p, rfl, fun a ha => ⟨(k1 a ha).1, (k1 a ha).2.1, (k1 a ha).2.2.1, hl a (List.mem_append_left _ ha) (k1 a ha).2.2.2⟩, k2, k3⟩
    | bo d => exact h1.elim
    | lm f c q ds vs => exact h1.elim
theorem Rel.setLs : ∀ {is : List Nat} {ss : List Sl} {vs : List V} {r : En} {σ : L2.St}, Rel K mg B F H r σ → repS K mg B σ r F H ss vs → (ownsA H ss vs).Nodup → is.length = ss.length → Rel K mg B F H (setL r is ss) (setLV σ is vs)
  | [], [], vs, r, σ, R, h, _, _ => by
    cases (show vs = [] from h)
    exact R
  | i :: is, s :: ss, vs, r, σ, R, h, nd, hl => by
    obtain ⟨v, ws, rfl, h1, h2⟩ := h
    have nd' : (own1 H s v ++ ownsA H ss ws).Nodup := nd
    rw [List.nodup_append] at nd'
    cases s with
    | fz d =>
      refine Rel.setLs (r := r.set i (some (.fz d))) (σ := σ.set i (some v)) (R.setF h1) (repS_set (fun a ha hL j t q hj mj ej hx => ?_) h2) nd'.2.1 (by simpa using hl)
      rw [get_set] at hj ej
      by_cases z : i = j
      · rw [if_pos z] at hj
        split at hj
        · cases hj
          cases mj
        · cases hj
      · rw [if_neg z] at hj ej
        exact hL j t q hj mj ej hx
    | ow d =>
      obtain ⟨p, rfl, k1, k2, k3⟩ := h1
      refine Rel.setLs (r := r.set i (some (.ow d))) (σ := σ.set i (some (.ref p))) (R.setO k1 k2 k3) (repS_set (fun a ha hL j t q hj mj ej hx => ?_) h2) nd'.2.1 (by simpa using hl)
      rw [get_set] at hj ej
      by_cases z : i = j
      · rw [if_pos z] at hj ej
        split at hj
        · cases hj
          split at ej
          · cases ej
            exact nd'.2.2 a hx a ha rfl
          · cases ej
        · cases hj
      · rw [if_neg z] at hj ej
        exact hL j t q hj mj ej hx
    | bo d => exact h1.elim
    | lm f c q ds vs => exact h1.elim
end
def sParL (is : List Nat) (g : En → Res (List Sl × En)) : En → SR := fun r => sBind (g r) fun p => if is.length = p.1.length then .nx (setL p.2 is p.1) else .bad
section
variable {X : Cx} {W : WX} {a b c : Expr} {g : En → Res (List Sl × En)} {i j l : Nat} {x y z : Str} {px py pz pt pos : Pos} {kt k2 pt2}
end
end Dl

set_option Elab.async false
set_option linter.all false
set_option maxRecDepth 100000
set_option maxHeartbeats 4000000
namespace Dl
open PySem L2
variable [Dl.Tb]
/-! ### dicts whose keys are tuples: d[a, b], d[a, b] = e -/
def getTD (kvs : List (List Key × D)) (k : List Key) : Option D := (kvs.find? fun kv => decide (kv.1 = k)).map (·.2)
def putTD (kvs : List (List Key × D)) (k : List Key) (d : D) : List (List Key × D) :=
  if (kvs.any fun kv => decide (kv.1 = k)) = true then kvs.map (fun kv => if kv.1 = k then (kv.1, d) else kv) else kvs ++ [(k, d)]
section
variable {K : PySem.W.Frag} {mg : Str → Option Value} {F H : Hp}
end
def eDict0T : En → Res (D × En) := fun r => .ok (.dt [], r)
def eAtT (fd : En → Res (BV × En)) (fa : En → Res (List D × En)) : En → Res (D × En) := fun r => (fd r).bind fun p => (fa p.2).bind fun q => (getB p.1 q.2).bind fun x => match x, keysD q.1 with
  | .dt kvs, some ks => if q.1.length ≤ 1000 then (liftR (getTD kvs ks)).bind fun z => .ok (z, q.2) else .bad
  | _, _ => .bad
def sDPutT (i : Nat) (fa : En → Res (List D × En)) (fv : En → Res (D × En)) : En → SR := fun r => sBind (fv r) fun p => if isMine p.2 i = true then sBind (fa p.2) fun q => atMineS q.2 i fun s => match s.d, keysD q.1 with
  | .dt kvs, some ks => if kvs.length < 100000 ∧ q.1.length ≤ 1000 then .nx (q.2.set i (some (s.put (.dt (putTD kvs ks p.1))))) else .bad
  | _, _ => .bad else .bad
section
variable {X : Cx} {W : WX} {d v : Expr} {es : List Expr} {fd : En → Res (BV × En)} {fa : En → Res (List D × En)} {fv : En → Res (D × En)} {pos pos' pt q : Pos} {x1} {i j : Nat} {y : Str}
end
end Dl

set_option Elab.async false
set_option linter.all false
set_option maxRecDepth 100000
set_option maxHeartbeats 4000000
namespace Dl
open PySem L2
variable [Dl.Tb]
/-! ### d.get(k, e) -/
def isDk : D → Bool
  | .dk _ => true
  | _ => false
def dgetE : D → D → D → Option D
  | .dk kvs, k, z => (keyD k).map fun k => (getKD kvs k).getD z
  | _, _, _ => none
def eGet2 (fd : En → Res (BV × En)) (fk fx : En → Res (D × En)) : En → Res (D × En) := fun r => (fd r).bind fun p => (getB p.1 p.2).bind fun d => if isDk d = true then (fk p.2).bind fun q => (fx q.2).bind fun z => (getB p.1 z.2).bind fun d => (liftR (dgetE d q.1 z.1)).bind fun y => .ok (y, z.2) else .bad
/-- .. of one's own part -/
def eGetF2 (cs : List Str) (n : Str) (i : Nat) (fk fx : En → Res (D × En)) : En → Res (D × En) := fun r => match ownFld cs n r i with
  | some q => if isDk q.2 = true then (noX (fk (r.set i none))).bind fun p => (noX (fx p.2)).bind fun z => (liftR (dgetE q.2 p.1 z.1)).bind fun y => .ok (y, z.2.set i (some q.1)) else .bad
  | none => .bad
section
variable {K : PySem.W.Frag} {mg : Str → Option Value} {F H : Hp}
end
section
variable {X : Cx} {W : WX} {o k x : Expr} {fd : En → Res (BV × En)} {fk fx : En → Res (D × En)} {apos cpos p1 : Pos} {i j : Nat} {y n : Str} {cs : List Str}
end
/-! ### {k: v, ..} -/
def DPs (K : PySem.W.Frag) (mg : Str → Option Value) (F : Hp) : List (D × D) → List (V × V) → Prop
  | [], vs => vs = []
  | (k, d) :: ds, vs => ∃ u w ws, vs = (u, w) :: ws ∧ rep K mg F k u ∧ rep K mg F d w ∧ DPs K mg F ds ws
def rP (K : PySem.W.Frag) (mg : Str → Option Value) : RR (List (D × D)) (List (V × V)) := fun _ _ _ F _ ds vs => DPs K mg F ds vs
structure DP (X : Cx) (W : WX) (pos : Pos) (ks : List (Option Expr)) (vs : List Expr) (f : En → Res (List (D × D) × En)) : Prop where
  ex : ∃ trs, PPs X pos ks vs trs ∧ Ent X.K X.mg W (rP X.K X.mg) (tPairs trs) f
def pNil : En → Res (List (D × D) × En) := fun r => .ok ([], r)
def pCons (fk fv : En → Res (D × En)) (g : En → Res (List (D × D) × En)) : En → Res (List (D × D) × En) := fun r => (fk r).bind fun p => (fv p.2).bind fun q => (g q.2).bind fun z => .ok ((p.1, q.1) :: z.1, z.2)
def keyPs : List (D × D) → Option (List (Key × D))
  | [] => some []
  | (k, d) :: ds => match keyD k, keyPs ds with
    | some k, some l => some ((k, d) :: l)
    | _, _ => none
def eDispN (f : En → Res (List (D × D) × En)) : En → Res (D × En) := fun r => (noX (f r)).bind fun p => match keyPs p.1 with
  | some kvs => if kvs.length ≤ 15 then .ok (.dk (mergeKD [] kvs), p.2) else .bad
  | none => .bad
section
variable {K : PySem.W.Frag} {mg : Str → Option Value} {F H : Hp}
end
section
variable {X : Cx} {W : WX} {k v : Expr} {ks : List (Option Expr)} {vs : List Expr} {fk fv : En → Res (D × En)} {g : En → Res (List (D × D) × En)} {pos : Pos}
end
/-! ### a method of a new thing, that may change it -/
def eMethW (c m : Str) (den : D → List D → Res (D × D)) (fo : En → Res (D × En)) (fa : En → Res (List D × En)) : En → Res (D × En) := fun r => (fo r).bind fun p => match p.1 with
  | .own (.ins c' fs) => if c' = c ∧ hasNo fs m = true then (fa p.2).bind fun q => callR (fstR (den (.ins c' fs) q.1)) q.2 else .bad
  | _ => .bad
section
variable {X : Cx} {W : WX} {k j : Nat} {f C : Addr} {x c m y : Str} {p pos apos q : Pos} {o e : Expr} {es : List Expr} {fa : En → Res (List D × En)} {ff : En → Res (D × En)} {denB : D → List D → Res (D × D)}
end
end Dl

set_option Elab.async false
set_option linter.all false
set_option maxRecDepth 100000
set_option maxHeartbeats 4000000
namespace Dl
open PySem PySem.Spec PyProof.Rows L2
/-! ### raise C(), C an own class over RuntimeError without an own __init__ -/
structure Ex0 (K : PySem.W.Frag) (C : Addr) : Prop where
  e : PySem.W.excIn K C runTail "RuntimeError.__new__" = true
  s : PySem.W.subIn K (.ref C) (.type "BaseException") = some true
  t : PySem.W.typeIn K (.ref C) = some (.type "type")
  k : PySem.W.keepIn K (.ref C) = true
variable [Dl.Tb]
def sRaise0 (c : Str) : En → SR := fun r => .er c [] r
end Dl

set_option Elab.async false
set_option linter.all false
set_option maxRecDepth 100000
set_option maxHeartbeats 4000000
namespace Dl
open PySem L2
variable [Dl.Tb]
/-! ### len of one's own part; what may be new, side by side -/
section
variable {X : Cx} {W : WX} {i : Nat} {y n : Str} {cs : List Str} {p pos p1 p2 : Pos}
end
def lV (f : En → Res (D × En)) (g : En → Res (List Sl × En)) : En → Res (List Sl × En) := fun r => (f r).bind fun p => (g p.2).bind fun q => .ok (slV p.1 :: q.1, q.2)
section
variable {X : Cx} {W : WX} {e : Expr} {es : List Expr} {f : En → Res (D × En)} {g : En → Res (List Sl × En)}
end
/-! ### defs that make lambdas and change nothing -/
section
open PySem.Spec PyProof.Rows
variable {P : Program} {w : World} {K : PySem.W.Frag} {mg : Str → Option Value} {base : Heap} {x qual : Str} {params : Arguments} {body : List Stmt} {scope : Scope} {dvs : List V} {kws : List (Str × V)} {f : Addr} {fd : FuncData} {N ps : List Str} {k : Nat} {den : En → SR}
theorem fn_DL (F : FunD K x qual params body scope dvs kws f fd) (S : FnScope N ps scope) (hcd : ∀ oc od fd osl, K.lookup f = some ⟨oc, od, .func fd, osl⟩ → CodeT base mg fd.code (lamN qual)) (b : BodyOkL P w K mg base k N qual scope f body den) : FnOk P w K mg base (L2.CX P w) (k + 1) f fd ps (spD K mg (runF N.length ps.length den)) := by
  refine fun_okC F S (fun vs H Q E h => ?_) hcd (fun cdv A outer s H vs Q E ct hr h => ?_)
  · obtain ⟨F', ds, _, r, p⟩ := h
    rw [repL_len r]
    unfold runF at p
    split at p
    · assumption
    · exact p.elim
  · obtain ⟨F', ds, s', r, p⟩ := h
    obtain ⟨t, hp, he⟩ := (b cdv A outer s H E ct hr).ex
    refine ⟨t, hp, he ⟨F', H, []⟩ F' H _ _ _ (rel_start s' r) ?_⟩
    unfold runF at p
    split at p
    · cases q : den (startE N.length ds) with
      | rt d r' =>
        rw [q] at p
        exact fun v σ' F1 H1 R1 s1 x => p v F1 H1 ⟨fun a o _ h => R1.keep a o (by simp) h, s1, R1.fh, R1.fresh, R1.tabs, R1.there⟩ x
      | nx r' =>
        rw [q] at p
        exact fun σ' F1 H1 R1 s1 => p .non F1 H1 ⟨fun a o _ h => R1.keep a o (by simp) h, s1, R1.fh, R1.fresh, R1.tabs, R1.there⟩ rfl
      | er c fs r' =>
        rw [q] at p
        exact fun C od σ' F1 H1 m R1 s1 x => p C od F1 H1 m ⟨fun a o _ h => R1.keep a o (by simp) h, s1, R1.fh, R1.fresh, R1.tabs, R1.there⟩ x
      | _ =>
        rw [q] at p
        exact p.elim
    · exact p.elim
theorem cal_AL (F : FunD K x qual params body scope [] [] f fd) (S : FnScope N ps scope) (hcd : ∀ oc od fd osl, K.lookup f = some ⟨oc, od, .func fd, osl⟩ → CodeT base mg fd.code (lamN qual)) (b : BodyOkL P w K mg base k N qual scope f body den)
    (h : ∀ (kV doc pm : Value) (an : Option Addr) (cdv ct : Value) (us : List Value), us.length = ps.length → bindArgs (PySem.W.fnOf x qual params body scope .none kV doc pm an cdv ct) ⟨us, []⟩ = pure (ps.zip us)) : CalA P w K mg base (k + 1) f (runF N.length ps.length den) :=
  ⟨⟨fd, ps, [], [], [], _, fn_DL F S hcd b, F.bindsN h, .nil, fun _ => rfl, by funext as; rw [List.append_nil]⟩, F.kp⟩
end
end Dl

set_option Elab.async false
set_option linter.all false
set_option maxRecDepth 100000
set_option maxHeartbeats 4000000
namespace Dl
open PySem L2
variable [Dl.Tb]
/-! ### a look at all slots as they stand: what is owned is frozen for this while, the answer is flat -/
def isFlat : D → Bool
  | .non => true
  | .bl _ => true
  | .int _ => true
  | .str _ => true
  | _ => false
def frz1 : Option Sl → Option Sl
  | some (.fz d) => some (.fz d)
  | some (.ow d) => some (.fz (unown d))
  | some (.bo d) => some (.fz (unown d))
  | _ => none
def frzAll (r : En) : En := r.map frz1
def eSnap (f : En → Res (D × En)) : En → Res (D × En) := fun r => match f (frzAll r) with
  | .ok (z, _) => if isFlat z = true then .ok (z, r) else .bad
  | _ => .bad
section
variable {K : PySem.W.Frag} {mg : Str → Option Value} {B : Bg} {F F2 H H2 : Hp} {r : En} {σ : L2.St}
end
end Dl

set_option Elab.async false
set_option linter.all false
set_option maxRecDepth 100000
namespace Dl
open PySem L2
variable [Dl.Tb]
section
variable {X : Cx} {pins : List (Addr × Obj)} {σ : St} {H F : Hp} {s : Shared}
variable {W : WX} {a b : Expr} {fa fb : En → Res (BV × En)} {k : Nat}
end
end Dl

set_option Elab.async false
set_option linter.all false
set_option maxRecDepth 100000
set_option maxHeartbeats 4000000
/-! ### list(d.items()) of a dict whose keys are tuples -/
namespace Dl
open PySem PySem.W PySem.Calls PyProof.Rows PyProof.V PySem.Spec
section
variable {prog : Program} {w : World} {A : Around} {E : Value → Shared → Prop} {s : Shared} {r d : Addr} {es : Array DictEntry} {ep : Nat}
end
end Dl
namespace Dl
open PySem L2
variable [Dl.Tb]
section
variable {X : Cx}
variable {W : WX} {e : Expr} {te : TE} {p p2 apos cpos pos pos2 : Pos} {fa : En → Res (BV × En)} {k : Nat}
end
end Dl

set_option Elab.async false
set_option linter.all false
set_option maxRecDepth 100000
set_option maxHeartbeats 4000000
namespace Dl
open PySem L2
variable [Dl.Tb]
/-! ### repr of None and of a whole number -/
def reprS : D → Option D
  | .non => some (.str (PyData.shown .none))
  | .int i => if i.natAbs.log2 < 1920 then some (.str (PyData.shown (.int i))) else none
  | .str x => if (PyData.shown (.str x)).length ≤ 100000 then some (.str (PyData.shown (.str x))) else none
  | _ => none
def rReprS : List V → Hp → VK → Prop := fun xs H Q => (xs = [.non] ∧ Q (.str (PyData.shown .none)) H) ∨ (∃ i, xs = [.int i] ∧ i.natAbs.log2 < 1920 ∧ Q (.str (PyData.shown (.int i))) H) ∨ ∃ x : Str, xs = [.str x] ∧ (PyData.shown (.str x)).length ≤ sizeLine ∧ Q (.str (PyData.shown (.str x))) H
section
variable {X : Cx} {W : WX} {a : Expr} {pos p : Pos} {fa : En → Res (BV × En)} {k : Nat}
theorem call_reprS : CallR X (.builtin "repr") rReprS := by
  intro pins s σ H xs us Q I r h
  rcases h with ⟨rfl, q⟩ | ⟨i, rfl, hi, q⟩ | ⟨x, rfl, hi, q⟩
  · obtain ⟨u, rfl, rx⟩ := vals1 r
    cases rx
    exact PySem.P.repr_of_none ⟨.str _, H, I.tok _, ⟨_, rfl⟩, q⟩
  · obtain ⟨u, rfl, rx⟩ := vals1 r
    obtain ⟨t, rfl⟩ := rx
    exact PySem.P.repr_of_int hi ⟨.str _, H, I.tok _, ⟨_, rfl⟩, q⟩
  · obtain ⟨u, rfl, rx⟩ := vals1 r
    obtain ⟨t, rfl⟩ := rx
    exact PySem.P.repr_of_str ⟨.str _, H, I.tok _, ⟨_, rfl⟩, q⟩ hi
theorem uv_reprS : UnV X (fun v H Q => rReprS [v] H Q) reprS := by
  intro F H v d z Q s h1 h3 k
  cases d with
  | non =>
    cases h3
    cases (show v = .non from h1)
    exact .inl ⟨rfl, k _ rfl⟩
  | int i =>
    simp only [reprS] at h3
    split at h3
    · rename_i hi
      cases h3
      cases (show v = .int i from h1)
      exact .inr (.inl ⟨i, rfl, hi, k _ rfl⟩)
    · cases h3
  | str x =>
    simp only [reprS] at h3
    split at h3
    · rename_i hi
      cases h3
      cases (show v = .str x from h1)
      exact .inr (.inr ⟨x, rfl, Nat.le_trans hi (by decide), k _ rfl⟩)
    · cases h3
  | _ => cases h3
theorem de_reprS (hr : Room k X.A) (hm : X.mg "repr" = none) (ha : DB X W a fa) (hg : Gl X "repr" := by rfl) (hst : starEach [a] X.env = (false, eval a X.env) :: starEach [] X.env := by rfl) : DE X W (.Call (.Name "repr" p) [a] [] pos) (eUn (orU (orU (orU reprB reprD) reprK) reprS) fa) :=
  (de_reprA hr hm ha hg hst).or1 (de_b1 call_reprS uv_reprS hg hm PyProof.Rows.boot_repr ha hst (by decide) (by decide))
end
end Dl

set_option Elab.async false
set_option linter.all false
set_option maxRecDepth 100000
set_option maxHeartbeats 4000000
namespace Dl
open PySem L2
/-! ### the Hook, its addresses found level by level, each once: those that were met are the bits of a number -/
def frN {β : Type} (n : Nat) (k : Nat → β) : β := match n with
  | 0 => k 0
  | m + 1 => k (m + 1)
def meet {β : Type} : List Addr → Nat → List Addr → (Nat → List Addr → β) → β
  | [], m, ns, k => k m ns
  | r :: rs, m, ns, k => match Nat.beq (Nat.land (Nat.shiftRight m r) 1) 0 with
    | true => frN (Nat.lor m (Nat.shiftLeft 1 r)) fun m' => frN r fun r' => meet rs m' (r' :: ns) k
    | false => meet rs m ns k
def meetAll {β : Type} (g : Addr → Option Obj) : List Addr → Nat → List Addr → (Nat → List Addr → β) → β
  | [], m, ns, k => k m ns
  | a :: as, m, ns, k => match g a with
    | some o => meet (He.refsD o) m ns fun m' ns' => meetAll g as m' ns' k
    | none => meetAll g as m ns k
def asG (g : Addr → Option Obj) : Nat → List Addr → Nat → List Addr → List Addr
  | 0, _, _, acc => acc
  | n + 1, fr, m, acc => meetAll g fr m [] fun m' ns => asG g n ns.reverse m' (acc ++ ns.reverse)
def asN (g : Addr → Option Obj) (n : Nat) : List Addr := asG g n [mainGlobals] (Nat.shiftLeft 1 mainGlobals) [mainGlobals]
def kN (g : Addr → Option Obj) (n : Nat) : List Str → PySem.W.Frag
  | [] => He.frG g (asN g n)
  | l :: lams => He.frG g ((asN g n).filter fun a => !((csOf (He.frG g (asN g n)) (l :: lams)).map (·.2)).contains a)
theorem kN_in {h : Heap} {n : Nat} {lams : List Str} : (kN h.get? n lams).In h := by
  cases lams with
  | nil => exact He.frG_in
  | cons l lams => exact He.frG_in
def obsN (n : Nat) (fa : List He.Fa) (fn : List He.DefD) (fb : List Fb) (fc : List Fc) (lams : List Str) (g : Addr → Option Obj) : (He.AlD × Bool) × Bool := (obsF fa fn fb (kN g n lams), tabsB g (kN g n lams) lams && fc.all fun f => f.ok (kN g n lams))
def hookN (n : Nat) (fa : List He.Fa) (fn : List He.DefD) (fb : List Fb) (fc : List Fc) (lams : List Str) : PySem.W.Hook where
  α := (He.AlD × Bool) × Bool
  obs := fun s => obsN n fa fn fb fc lams s.heap.get?
  val := fun _ => (valF fn, true)
  says := fun _ h => ∃ K : PySem.W.Frag, K.In h ∧ SaysM fa fn fb fc lams K h
  of := fun _ _ e => by
    have e2 := Bool.and_eq_true_iff.mp (congrArg (fun z : (He.AlD × Bool) × Bool => z.2) e)
    exact ⟨_, kN_in, congrArg (fun z : (He.AlD × Bool) × Bool => z.1) e, tabsB_ok e2.1, e2.2⟩
  keeps := fun _ _ _ ⟨K, hK, c⟩ k => ⟨K, PySem.W.Frag.In.keeps hK k, c.s, c.t.keeps k, c.c⟩
theorem obsN_eq {n : Nat} {fa : List He.Fa} {fn : List He.DefD} {fb : List Fb} {fc : List Fc} {lams : List Str} {g : Addr → Option Obj} {s : Shared} (h : ∀ a, g a = s.heap.get? a) : obsN n fa fn fb fc lams g = (hookN n fa fn fb fc lams).obs s := by
  have e : g = s.heap.get? := funext h
  rw [e] <;> rfl
end Dl

set_option Elab.async false
set_option linter.all false
set_option maxRecDepth 100000
set_option maxHeartbeats 4000000
namespace Dl
open PySem L2
variable [Dl.Tb]
/-! ### a value that is new for sure: a call that tells a new list or dict, used as one's own -/
def eNewV (f : En → Res (D × En)) : En → Res (D × En) := fun r => (f r).bind fun p => match p.1 with
  | .own d => if isPart d = true then .ok (d, p.2) else .bad
  | _ => .bad
section
variable {X : Cx} {W : WX} {e : Expr} {f : En → Res (D × En)}
theorem own_S {K : PySem.W.Frag} {mg : Str → Option Value} {F H : Hp} {p : Addr} {d : D} (h : isPart d = true) (k : ownAt K mg F H p d) : ownS K mg F H p d := by
  cases d with
  | lst ds => exact k
  | dk kvs => exact k
  | dt kvs => exact k
  | _ => cases h
theorem part_fp {H : Hp} {p : Addr} {d : D} (h : isPart d = true) : fp H p d = [p] := by
  cases d with
  | ins c fs => cases h
  | nk fs => cases h
  | _ => rfl
theorem dn_newV (h : DV X W e f) : DN X W e (eNewV f) := by
  obtain ⟨t, pe, en⟩ := h.ex
  refine ⟨t, pe, fun B F H r σ Q R p => en.to R p fun d r1 v F1 H1 R1 s1 x1 p1 => ?_⟩
  rcases x1 with x1 | ⟨d', rfl, pa, rfl, hA, nd, ho⟩
  · cases d with
    | own d' => cases x1
    | _ => exact p1.elim
  · by_cases q : isPart d' = true
    · simp only [if_pos q] at p1
      rw [part_fp q] at hA
      obtain ⟨h1, h2, h3, h4⟩ := hA pa (by simp)
      exact p1 (.ref pa) F1 H1 R1 (Same.refl F1) ⟨pa, rfl, h1, h2, h3, h4, own_S q ho⟩
    · simp only [if_neg q] at p1
      exact p1.elim
end
end Dl

set_option Elab.async false
set_option linter.all false
set_option maxRecDepth 100000
set_option maxHeartbeats 4000000
namespace Dl
open PySem L2
variable [Dl.Tb]
section
variable {X : Cx} {W : WX} {a : Expr} {pos p : Pos} {fa : En → Res (BV × En)}
end
end Dl

set_option Elab.async false
set_option linter.all false
set_option maxRecDepth 100000
set_option maxHeartbeats 4000000
namespace Dl
open PySem L2
variable [Dl.Tb]
/-! ### f(..).m(..) whose answer may be new -/
section
variable {X : Cx} {W : WX} {k j : Nat} {f C : Addr} {x c m y : Str} {p pos apos q : Pos} {o e : Expr} {es : List Expr} {fa : En → Res (List D × En)} {ff : En → Res (D × En)} {denB : D → List D → Res (D × D)}
end
end Dl

set_option Elab.async false
set_option linter.all false
set_option maxRecDepth 100000
set_option maxHeartbeats 4000000
namespace Dl
open PySem L2
variable [Dl.Tb]
/-! ### keyword calls of defs that may tell new things -/
section
variable (P : Program) (w : World) (K : PySem.W.Frag) (mg : Str → Option Value) (base : Heap)
/-- a def called with n values and the keywords ks -/
structure KalV (k : Nat) (f : Addr) (n : Nat) (ks : List Str) (den : List D → List D → Res D) : Prop where
  ex : ∃ (fd : FuncData) (ps : List Str) (its : List Value) (dvs : List V) (dds : List D) (den0 : List D → Res D) (sel : Sel), FnOk P w K mg base (L2.CX P w) k f fd ps (spV K mg den0) ∧
    KBn K fd ps n ks (fun us ws => pickL sel us its ws) (fun vs zs => pickL sel vs dvs zs) ∧ (∀ F, repL K mg F dds dvs) ∧ den = fun as zs => den0 (pickL sel as dds zs)
  kp : PySem.W.keepIn K (.ref f) = true
end
section
variable {P : Program} {w : World} {K : PySem.W.Frag} {mg : Str → Option Value} {base : Heap} {x qual : Str} {params : Arguments} {body : List Stmt} {scope : Scope} {dvs : List V} {f : Addr} {fd : FuncData} {N ps ks : List Str} {k n : Nat} {den : En → SR}
end
section
variable {X : Cx} {W : WX} {k j n : Nat} {f C : Addr} {ks : List Str} {x m c : Str} {p pos apos kpos : Pos} {e o : Expr} {es : List Expr} {kws : List Keyword} {nm : Option Str}
  {fa fk : En → Res (List D × En)} {fo : En → Res (D × En)} {den : List D → List D → Res D} {denB : D → List D → List D → Res (D × D)}
end
end Dl

set_option Elab.async false
set_option linter.all false
set_option maxRecDepth 100000
set_option maxHeartbeats 4000000
/-! ### a value among the items of a list, in one world -/
namespace PySem.SeqAt
open AutoSeq1 (wpAny_loadPart')
open MeetsSeq MeetsSeq2 MeetsSeq3 SeqRoads2
variable {prog : Program} {w : World}
variable {A : Around} {E : Value → Shared → Prop} {s : Shared}
end PySem.SeqAt

set_option Elab.async false
set_option linter.all false
set_option maxRecDepth 100000
set_option maxHeartbeats 4000000
namespace Dl
open PySem L2
variable [Dl.Tb]
section
variable {X : Cx}
variable {W : WX} {a b : Expr} {fa fb : En → Res (BV × En)} {k : Nat}
end
section
variable {X : Cx}
variable {W : WX} {a b : Expr} {fa fb : En → Res (BV × En)} {k : Nat}
end
end Dl

set_option Elab.async false
set_option linter.all false
set_option maxRecDepth 100000
set_option maxHeartbeats 4000000
/-! ### dicts by tuples compared -/
namespace PySem.W
open Lean Elab Tactic Meta PySem PySem.Calls PyProof.Rows PyProof.V PySem.Spec
section
variable {prog : Program} {w : World} {K : Type} [DecidableEq K] {knd : HeapKind prog w K} {A : Around} {E : Value → Shared → Prop} {s : Shared}
inductive TeqHits {K : Type} [DecidableEq K] (A : Around) (s : Shared) (kb : List (K × Addr × Value)) : List (K × Addr × Value) → Bool → Prop
  | nil : TeqHits A s kb [] true
  | miss {k : K} {p : Addr} {v : Value} {r : List (K × Addr × Value)} : atKey kb k = none → TeqHits A s kb ((k, p, v) :: r) false
  | hit {k : K} {p p' : Addr} {v y : Value} {r : List (K × Addr × Value)} {e b : Bool} : atKey kb k = some (p', y) → SeqAt.EqAt A s v y e → TeqHits A s kb r b → TeqHits A s kb ((k, p, v) :: r) (e && b)
end
end PySem.W
namespace Dl
open PySem L2
variable [Dl.Tb]
section
variable {X : Cx} {pins : List (Addr × Obj)} {σ : St} {H F : Hp} {s : Shared}
variable {W : WX} {a b : Expr} {fa fb : En → Res (BV × En)} {k : Nat}
end
end Dl

set_option Elab.async false
set_option linter.all false
set_option maxRecDepth 100000
set_option maxHeartbeats 4000000
namespace Dl
open PySem L2
variable [Dl.Tb]
section
variable {X : Cx} {W : WX} {i : Nat} {y : Str} {pos pos' apos q : Pos}
end
end Dl

set_option Elab.async false
set_option linter.all false
set_option maxRecDepth 100000
set_option maxHeartbeats 4000000
namespace Dl
open PySem L2
variable [Dl.Tb]
section
variable {X : Cx} {W : WX} {tg e e2 e3 : Expr} {p pos : Pos}
end
end Dl

set_option Elab.async false
set_option linter.all false
set_option maxRecDepth 100000
set_option maxHeartbeats 4000000
/-! ### None compared with a dict -/
namespace PySem.W
open Lean Elab Tactic Meta PySem PySem.Calls PyProof.Rows PyProof.V PySem.Spec
section
variable {prog : Program} {w : World} {A : Around} {E : Value → Shared → Prop} {s : Shared} {a : Addr} {Q : Value → Shared → Prop}
end
end PySem.W
namespace PySem.SeqAt
open AutoSeq1 (wpAny_loadPart')
open MeetsSeq MeetsSeq2 MeetsSeq3 SeqRoads2
section
variable {prog : Program} {w : World} {A : Around} {E : Value → Shared → Prop} {s : Shared} {a : Addr} {Q : Value → Shared → Prop}
end
end PySem.SeqAt
namespace Dl
open PySem L2
variable [Dl.Tb]
section
variable {X : Cx}
variable {W : WX} {a b : Expr} {fa fb : En → Res (BV × En)} {k : Nat}
end
end Dl

set_option Elab.async false
set_option linter.all false
set_option maxRecDepth 100000
set_option maxHeartbeats 4000000
namespace Dl
open PySem L2
variable [Dl.Tb]
section
variable {K : PySem.W.Frag} {mg : Str → Option Value} {B : Bg} {F F2 H H2 : Hp} {r r2 : En} {σ σ2 : L2.St} {A : List Addr}
theorem repS_len : ∀ {ss : List Sl} {vs : List V}, repS K mg B σ r F H ss vs → vs.length = ss.length
  | [], _, h => by
    cases (show _ = [] from h)
    rfl
  | s :: ss, _, h => by
    obtain ⟨v, ws, rfl, _, h2⟩ := h
    simp [repS_len h2]
theorem repS_held : ∀ {ss : List Sl} {vs : List V}, repS K mg B σ r F H ss vs → Held B F H r σ (ownsA H ss vs)
  | [], _, h => fun a ha => by
    cases (show _ = [] from h)
    cases ha
  | s :: ss, _, h => fun a ha => by
    obtain ⟨v, ws, rfl, h1, h2⟩ := h
    rcases List.mem_append.mp (show a ∈ own1 H s v ++ ownsA H ss ws from ha) with z | z
    · cases s with
      | fz d => cases z
      | ow d =>
        obtain ⟨p, rfl, k1, k2, k3⟩ := h1
        obtain ⟨o, ho⟩ := fp_live d k3 a z
        exact ⟨(k1 a z).1, (k1 a z).2.1, (k1 a z).2.2.1, (k1 a z).2.2.2, o, ho, fp_own d k3 a z o ho⟩
      | bo d => exact h1.elim
      | lm f c q ds vs => exact h1.elim
    · exact repS_held h2 a z
theorem repS_after (s : Same F F2) : ∀ {ss : List Sl} {vs : List V}, repS K mg B σ r F H ss vs → (∀ a ∈ ownsA H ss vs, H2 a = H a ∧ F2 a = none ∧ Loose H2 r2 σ2 a) → repS K mg B σ2 r2 F2 H2 ss vs ∧ ownsA H2 ss vs = ownsA H ss vs
  | [], _, h, _ => by
    cases (show _ = [] from h)
    exact ⟨rfl, rfl⟩
  | t :: ss, _, h, hk => by
    obtain ⟨v, ws, rfl, h1, h2⟩ := h
    obtain ⟨a1, a2⟩ := repS_after s h2 fun a ha => hk a (List.mem_append_right _ ha)
    cases t with
    | fz d =>
      refine ⟨⟨v, ws, rfl, rep_mono s _ _ h1, a1⟩, ?_⟩
      show [] ++ ownsA H2 ss ws = [] ++ ownsA H ss ws
      rw [a2]
    | ow d =>
      obtain ⟨p, rfl, k1, k2, k3⟩ := h1
      have hk1 : ∀ a ∈ fp H p d, H2 a = H a ∧ F2 a = none ∧ Loose H2 r2 σ2 a := fun a ha => hk a (List.mem_append_left _ ha)
      have ef : fp H2 p d = fp H p d := fp_eq (hk1 p fp_head).1
      refine ⟨⟨_, ws, rfl, ⟨p, rfl, fun a ha => ?_, by rw [ef]; exact k2, own_mono s d (fun a ha => (hk1 a ha).1) k3⟩, a1⟩, ?_⟩
      · rw [ef] at ha
        exact ⟨(hk1 a ha).2.1, (k1 a ha).2.1, (k1 a ha).2.2.1, (hk1 a ha).2.2⟩
      · show fp H2 p d ++ ownsA H2 ss ws = fp H p d ++ ownsA H ss ws
        rw [ef, a2]
    | bo d => exact h1.elim
    | lm f c q ds vs => exact h1.elim
end
section
variable {X : Cx} {W : WX} {pos lpos tpos : Pos}
end
end Dl

set_option Elab.async false
set_option linter.all false
set_option maxRecDepth 100000
set_option maxHeartbeats 4000000
namespace Dl
open PySem L2
variable [Dl.Tb]
/-! ### x, y = a, b by way of a tuple, some of the values new -/
section
variable {X : Cx} {W : WX} {a b : Expr} {g : En → Res (List Sl × En)} {i j : Nat} {x y : Str} {px py pt pt2 pos : Pos} {kt : Nat} {k2}
theorem ds_parT2 (hc : X.calm = true) (hN : X.N.Nodup) (ha : DL X W [a, b] g) (hi : X.N[i]? = some x := by rfl) (hj : X.N[j]? = some y := by rfl)
    (hx : Loc X.env.scope x := by first | exact .inl rfl | exact .inr rfl) (hy : Loc X.env.scope y := by first | exact .inl rfl | exact .inr rfl)
    (hfx : X.fn x = true ∨ X.env.scope.names.lookup x = some .local := by first | exact .inl rfl | exact .inr rfl) (hfy : X.fn y = true ∨ X.env.scope.names.lookup y = some .local := by first | exact .inl rfl | exact .inr rfl)
    (h1 : (assignEach [.Name x px, .Name y py] X.env).map (·.2) = assign (.Name x px) X.env :: (assignEach [.Name y py] X.env).map (·.2) := by rfl)
    (h2 : (assignEach [.Name y py] X.env).map (·.2) = assign (.Name y py) X.env :: (assignEach [] X.env).map (·.2) := by rfl)
    (hn : (assignEach [.Name x px, .Name y py] X.env).length = 2 := by rfl) (hst : (assignEach [.Name x px, .Name y py] X.env).findIdx? (·.1) = none := by rfl)
    (hw : swappedStores [.Tuple [.Name x px, .Name y py] kt pt] (.Tuple [a, b] k2 pt2) X.env = pure none := by rfl)
    (hs : swapsWithSole [.Tuple [.Name x px, .Name y py] kt pt] (.Tuple [a, b] k2 pt2) pos.line X.env = pure false := by rfl)
    (h3 : (assignEach [.Tuple [.Name x px, .Name y py] kt pt] X.env).map (·.2) = [assign (.Tuple [.Name x px, .Name y py] kt pt) X.env] := by rfl) :
    DS X W (.Assign [.Tuple [.Name x px, .Name y py] kt pt] (.Tuple [a, b] k2 pt2) pos) (sParL [i, j] g) := by
  obtain ⟨t, hp, he⟩ := ha.ex
  refine ⟨_, ps_asg (pe_tup hp) (pg_tup hc (pgs_cons (pg_name hN hi hx hfx) (pgs_cons (pg_name hN hj hy hfy) pgs_nil h2) h1) hn hst) hs hw h3, fun B F H r σ Z R p => he.toS R p fun ss r1 vs F1 H1 R1 s1 x1 q => ?_⟩
  by_cases hl : [i, j].length = ss.length
  · simp only [if_pos hl] at q
    have hvl := repS_len x1.1
    refine ⟨Nat.le_of_lt (small1000 (by rw [hvl, ← hl]; simp)), fun l hl0 => ?_⟩
    have R2 := R1.newF (o := .tup vs) hl0
    have hne : ∀ a ∈ ownsA H1 ss vs, a ≠ l := fun a ha z => by
      obtain ⟨o, ho, _⟩ := (repS_held x1.1 a ha).2.2.2.2
      rw [z, hl0] at ho
      cases ho
    obtain ⟨y1, y2⟩ := repS_after (F2 := upd F1 l (.tup vs)) (H2 := upd H1 l (.tup vs)) (r2 := r1) (σ2 := σ) (same_new (R1.fh.free hl0)) x1.1 fun a ha => by
      have hd := repS_held x1.1 a ha
      exact ⟨upd_ne (hne a ha), by rw [upd_ne (hne a ha)]; exact hd.1, R1.loose_grow (same_new hl0) hd.2.2.2.1⟩
    have R3 := R2.setLs y1 (by rw [y2]; exact x1.2) hl
    refine ⟨l, vs, rfl, SqT.of upd_same, by rw [hvl, ← hl]; rfl, ?_⟩
    match ss, hl, y1, R3, q with
    | [s1, s2], _, h, R3, q =>
      obtain ⟨v1, _, rfl, _, v2, _, rfl, _, rfl⟩ := h
      exact ⟨v1, _, rfl, v2, _, rfl, rfl, q _ _ _ R3 (same_new (R1.fh.free hl0))⟩
  · simp only [if_neg hl] at q
    exact q.elim
end
end Dl

set_option Elab.async false
set_option linter.all false
set_option maxRecDepth 100000
set_option maxHeartbeats 4000000
namespace Dl
open PySem L2
variable [Dl.Tb]
/-! ### keyword-only parameters -/
section
variable {P : Program} {w : World} {K : PySem.W.Frag} {mg : Str → Option Value} {base : Heap} {x qual : Str} {params : Arguments} {body : List Stmt} {scope : Scope} {kws : List (Str × V)} {f : Addr} {fd : FuncData} {N ps ks : List Str} {k n : Nat} {den : En → SR}
theorem kbnK {sel : Sel} (F : FunD K x qual params body scope [] kws f fd) (n : Nat) (ks : List Str) (ms : List (Str × V)) (hk : kws ≠ []) (hms : ∀ q ∈ ms, q ∈ kws)
    (h : ∀ (D : Addr) (doc pm : Value) (an : Option Addr) (cdv ct : Value) (us mv ws : List Value), us.length = n → mv.length = ms.length → ws.length = ks.length →
      KwChain D ((ms.map (·.1)).zip mv) (bindArgs (PySem.W.fnOf x qual params body scope .none (.ref D) doc pm an cdv ct) ⟨us, ks.zip ws⟩) (ps.zip (pickL sel us mv ws))) :
    ∃ mv : List Value, KBn K fd ps n ks (fun us ws => pickL sel us mv ws) (fun vs zs => pickL sel vs (ms.map (·.2)) zs) := by
  obtain ⟨oc, od, dV, kV, doc, pm, an, cdv, ct, osl, rfl, lk, hcd, hD, hK⟩ := F.ex
  rcases hD with ⟨_, rfl⟩ | ⟨e, _⟩
  · rcases hK with e | ⟨D, rfl, hq⟩
    · exact absurd e hk
    · obtain ⟨mv, hl, rk, hks⟩ := kwd_vals (ms := ms) fun q hm => hq q (hms q hm)
      exact ⟨mv, ⟨fun s us ws X l1 l2 => BindsTo.of_looks fun M => KwChain.looks X hks (h D doc pm an cdv ct us mv ws l1 hl l2), fun r1 r2 => pick_vals r1 rk r2 sel⟩⟩
  · exact absurd rfl e
theorem kal_BK {dds : List D} (sel sel2 : Sel) (F : FunD K x qual params body scope [] kws f fd) (S : FnScope N ps scope) (b : BodyOk P w K mg base k N qual scope f body den) (n : Nat) (ks : List Str) (ms : List (Str × V)) (hk : kws ≠ []) (hms : ∀ q ∈ ms, q ∈ kws) (hdd : ∀ F, repL K mg F dds (ms.map (·.2)))
    (hs : ∀ (x : V) (us zs : List V), pickL sel (x :: us) (ms.map (·.2)) zs = x :: pickL sel2 us (ms.map (·.2)) zs)
    (h : ∀ (D : Addr) (doc pm : Value) (an : Option Addr) (cdv ct : Value) (us mv ws : List Value), us.length = n + 1 → mv.length = ms.length → ws.length = ks.length →
      KwChain D ((ms.map (·.1)).zip mv) (bindArgs (PySem.W.fnOf x qual params body scope .none (.ref D) doc pm an cdv ct) ⟨us, ks.zip ws⟩) (ps.zip (pickL sel us mv ws))) :
    KalB P w K mg base (k + 1) f n ks (fun d as zs => runB N.length ps.length den d (pickL sel2 as dds zs)) := by
  obtain ⟨mv, hb⟩ := kbnK (sel := sel) F (n + 1) ks ms hk hms h
  exact ⟨⟨fd, ps, mv, ms.map (·.2), dds, _, sel, sel2, fn_B F S b, hb, hdd, hs, rfl⟩, F.kp⟩
end
end Dl

set_option Elab.async false
set_option linter.all false
set_option maxRecDepth 100000
set_option maxHeartbeats 4000000
namespace Dl
open PySem L2
variable [Dl.Tb]
/-! ### a call of a local name that holds a known def -/
def eCallG (i : Nat) (x : Str) (den : List D → Res D) (fa : En → Res (List D × En)) : En → Res (D × En) := fun r => match r[i]? with
  | some (some (.fz (.gl y))) => if y = x then (fa r).bind fun p => callR (den p.1) p.2 else .bad
  | _ => .bad
section
variable {X : Cx} {W : WX} {CX : CXT} {k j i : Nat} {f : Addr} {fd : FuncData} {ps : List Str} {sp : Sp} {dvs : List V} {ds : List Value} {E : L2.St → XK} {x y : Str} {p pos : Pos} {e : Expr} {es : List Expr} {t : TA} {fa : En → Res (List D × En)} {den : List D → Res D}
def tCallLS (i : Nat) (f : Addr) (sp : Sp) (dvs : List V) (E : L2.St → XK) (t : TA) : TE := fun σ H Q => σ[i]? = some (some (.ref f)) ∧ t σ H fun vs H1 => sp (vs ++ dvs) H1 Q (E σ)
theorem pe_callLS (F : FnOk X.prog X.w X.K X.mg X.base CX k f fd ps sp) (hr : Room k X.A) (hN : X.N[i]? = some y) (hv : Vis X.env.scope y) (hk : PySem.W.keepIn X.K (.ref f) = true) (hb : Binds X.K fd ps ds) (hd : Vals dvs ds) (hx : ∀ σ, PassesAt CX X σ (E σ)) (ha : PA X (e :: es) t)
    (hdb : (y == ("__debug__" : Str)) = false := by decide) (hcd : (y == ("__classdict__" : Str)) = false := by decide)
    (he : starEach (e :: es) X.env = (false, eval e X.env) :: starEach es X.env := by rfl) (hpl : (backTo pos (starEach es X.env)).any (·.1) = false := by rfl) : PE X (.Call (.Name y p) (e :: es) [] pos) (tCallLS i f sp dvs E t) := by
  refine ⟨fun pins s σ H Q I h => ?_⟩
  obtain ⟨hs, ht⟩ := h
  refine wpAny_Call_Name_kw (thn ((pe_var (pos := p) hN hv hdb hcd).run pins s σ H (fun v H1 => v = .ref f ∧ H1 = H) I ⟨.ref f, hs, rfl, rfl⟩) fun u s1 ⟨v, H1, I1, r1, q1⟩ => ?_)
  obtain ⟨rfl, rfl⟩ := q1
  cases r1
  refine PySem.W.callWith_K (h₀ := X.base) I.ok.mod.kin hk (thn (ha.run pos pins s1 σ _ _ I1 ht) fun us s2 ⟨vs, H2, I2, r, q⟩ => ⟨I2.kIn, ?_⟩) he hpl
  exact run_fnSD F hr hb hd (hx σ) I2 r q
theorem de_callG (F : CalA X.prog X.w X.K X.mg X.base k f den) (tk : Takes X W) (hr : Room j X.A) (hk : k ≤ j) (hm : X.mg x = some (.ref f)) (ha : DA X W (e :: es) fa) (hN : X.N[i]? = some y := by rfl)
    (hv : Vis X.env.scope y := by first | exact Or.inl rfl | exact Or.inr (Or.inl rfl) | exact Or.inr (Or.inr rfl)) (hdb : (y == ("__debug__" : Str)) = false := by decide) (hcd : (y == ("__classdict__" : Str)) = false := by decide)
    (he : starEach (e :: es) X.env = (false, eval e X.env) :: starEach es X.env := by rfl) (hpl : (backTo pos (starEach es X.env)).any (·.1) = false := by rfl) : DE X W (.Call (.Name y p) (e :: es) [] pos) (eCallG i x den fa) := by
  obtain ⟨fd, ps, ds, dvs, dds, den0, G, hb, hd, hdd, rfl⟩ := F.ex
  obtain ⟨t, pa, ea⟩ := ha.ex
  refine ⟨_, pe_callLS (i := i) (E := WE W) G (hr.mono hk) hN hv F.kp hb hd (fun σ => passAt tk σ) pa hdb hcd he hpl, fun B F H r σ Q R p => ?_⟩
  unfold eCallG at p
  cases q : r[i]? with
  | none =>
    simp only [q] at p
    exact p.elim
  | some o =>
    cases o with
    | none =>
      simp only [q] at p
      exact p.elim
    | some s =>
      cases s with
      | fz d =>
        cases d with
        | gl z =>
          simp only [q] at p
          by_cases hz : z = x
          · rw [if_pos hz] at p
            obtain ⟨v, e1, a, rfl, e2⟩ := R.slot i _ q
            have ef : a = f := by
              rw [hz, hm] at e2
              cases e2
              rfl
            subst ef
            exact ⟨e1, ea.to R p fun as r1 vs F1 H1 R1 s1 x1 p1 => call_po R1 x1 hdd p1⟩
          · rw [if_neg hz] at p
            exact p.elim
        | _ =>
          simp only [q] at p
          exact p.elim
      | _ =>
        simp only [q] at p
        exact p.elim
end
end Dl

set_option Elab.async false
set_option linter.all false
set_option maxRecDepth 100000
set_option maxHeartbeats 4000000
namespace Dl
open PySem PySem.Spec PyProof.Rows L2
variable [Dl.Tb]
/-! ### suites that tell a list; repr of what an exception holds -/
def xRetL (gs : Str → List (Str × D) → Option (List D)) : Str → List (Str × D) → En → SR := fun c fs r => match gs c fs with
  | some zs => if zs.length ≤ 1000 then .rt (.lst zs) r else .bad
  | none => .bad
def xUn (u : D → Option D) (g : Str → List (Str × D) → Option D) : Str → List (Str × D) → Option D := fun c fs => (g c fs).bind u
def xOr (g h : Str → List (Str × D) → Option D) : Str → List (Str × D) → Option D := fun c fs => match g c fs with
  | some z => some z
  | none => h c fs
section
variable {X : Cx} {i : Nat} {e : Expr} {es : List Expr} {g h : Str → List (Str × D) → Option D} {gs : Str → List (Str × D) → Option (List D)} {x : Str} {p lp pos : Pos} {k : Nat} {id : String} {u : D → Option D} {rr : List V → Hp → VK → Prop}
theorem call_reprDg (hgd : X.A.guards = some []) (hun : X.A.units + 199 < cLine) : CallR X (.builtin "repr") (rRepr X) := by
  intro pins s σ H xs us Q I r h
  obtain ⟨p, d, rfl, dp, nd, sh, dep, sz, q⟩ := h
  obtain ⟨u, rfl, rx⟩ := vals1 r
  obtain ⟨as, rd⟩ := Dp.reads I d _ u dp rx
  cases rx
  exact repr_of_reads' rd sh (PyData.noDict_hsm nd) hgd (by have := hun; omega) (fun _ _ e => e) (fun h' u tk kp => ⟨.str _, H, I.kept (t' := tk) kp, ⟨_, rfl⟩, q⟩) sz
theorem call_reprKg (hgd : X.A.guards = some []) (hun : X.A.units + 199 < cLine) : CallR X (.builtin "repr") (rReprK X.K) := by
  intro pins s σ H xs us Q I r h
  obtain ⟨a, ws, ds, rfl, hrd, dps, nd, kvs, ek, ev, hs, dep, hsz, q⟩ := h
  obtain ⟨u, rfl, rx⟩ := vals1 r
  cases rx
  obtain ⟨z, hsys, vs, rel, o, es, ep, h1, hx, h3, hko, hp, _⟩ := dk_rd I.hok hrd
  have h2 := hx.1
  obtain ⟨as, ra⟩ := Dp.readsAll I ds _ _ dps (KV.vals rel)
  have h4 : ReadsAll s.heap (es.toList.map (·.key)) (kvs.map (·.1)) [] := by
    rw [ek]
    have e2 : ws.map (fun kv => pkD kv.1) = vs.map fun kv => pkD kv.1 := by
      have := congrArg (List.map pkD) rel.keys
      rw [List.map_map, List.map_map] at this
      exact this
    rw [e2]
    exact pairs_keys hp
  have h5 : ReadsAll s.heap (es.toList.map (·.val)) (kvs.map (·.2)) as := by
    rw [ev, pairs_vals hp]
    exact ra
  have hz' : (dictText (PyData.shownKv kvs)).length ≤ sizeLine := by simpa only [PyData.shown] using hsz
  obtain ⟨hs1, hs2⟩ := PyData.showableKv_split kvs (by simpa [PyData.showable] using hs)
  obtain ⟨b1, hb1, k1⟩ := ReprAllK.of_readsAll (prog := X.prog) (w := X.w) h4 hs1 (fun hx' => by rw [ek, noDict_keys] at hx'; cases hx') (fun t ht => let ⟨p, hp, hl⟩ := PyData.shownKv_key_le kvs t ht; Nat.le_trans hl (Nat.le_trans (dictText_mem_le hp) hz'))
  obtain ⟨b2, hb2, k2⟩ := ReprAllK.of_readsAll (prog := X.prog) (w := X.w) h5 hs2 (fun hx' => by rw [ev, nd] at hx'; cases hx') (fun t ht => let ⟨p, hp, hl⟩ := PyData.shownKv_val_le kvs t ht; Nat.le_trans hl (Nat.le_trans (dictText_mem_le hp) hz'))
  have hb : ReadAtMost s.heap (PyData.depthKv kvs) (b1 ++ b2) := (hb1.mono (PyData.depthAll_keys_le kvs)).append (hb2.mono (PyData.depthAll_vals_le kvs))
  have hna : a ∉ b1 ++ b2 := not_mem_of_deeper (.dict h1 h2 h3 h4 h5) (by simp only [PyData.depth]; omega) hb
  have hu := hun
  have hd' : PyData.depthKv kvs + 1 ≤ 20 := by simpa only [PyData.depth] using dep
  have es' : (PyData.dict kvs).shown = dictText (List.zipWith (fun k v : Str => k ++ ": " ++ v) (PyData.shownAll (kvs.map (·.1))) (PyData.shownAll (kvs.map (·.2)))) := by simp only [PyData.shown, PyData.shownKv_eq]
  refine call_repr_slot (by omega) ⟨o, h1, h2⟩ PySem.F.slot_dict_repr (call_dict_reprK h1 h2 h3 hsys hna (ReprEntriesK.of_two es.toList _ _
    (k1.more_le (fun b hb => List.mem_append_left _ hb) (PyData.depthAll_keys_le kvs)) (k2.more_le (fun b hb => List.mem_append_right _ hb) (PyData.depthAll_vals_le kvs))) hgd (fun b _ => Clear.nil b) (by show X.A.units + 1 + _ < cLine; omega) (fun _ _ e => e) (fun h' u tk kp => ⟨_, _, rfl, .str _, H, I.kept (t' := tk) kp, ⟨u, by rw [es']⟩, q⟩) (by rw [← PyData.shownKv_eq]; exact hz'))
theorem dxs_retL (hl : DXs X i es gs) : DXS X i [.Return (some (.List es lp)) pos] (xRetL gs) := by
  refine ⟨fun c fs a C dd oe pn hm hz hf => ?_⟩
  cases q : gs c fs with
  | none =>
    refine ⟨fun _ _ _ => False, ⟨fun _ _ _ _ _ _ h => h.elim⟩, fun B F H r σ Z R hs hx p => ?_⟩
    unfold xRetL at p
    rw [q] at p
    exact p.elim
  | some zs =>
    obtain ⟨t, pt, kt⟩ := hl.ex c fs zs a C dd oe pn q hm hz hf
    refine ⟨_, pss_one (ps_ret (X := X.suite a ((a, oe) :: pn)) (pe_lst pt)), fun B F H r σ Z R hs hx p => ?_⟩
    unfold xRetL at p
    rw [q] at p
    simp only at p
    by_cases hz : zs.length ≤ 1000
    · rw [if_pos hz] at p
      refine kt F H σ _ R.fh hs hx fun vs hvs => ⟨Nat.le_of_lt (small1000 (by rw [repL_len hvs]; exact hz)), fun pa hp => ?_⟩
      have R2 : Rel X.K X.mg B (upd F pa (.lst vs)) (upd H pa (.lst vs)) r σ := R.newF hp
      exact p _ _ _ _ R2 (same_new (R.fh.free hp)) ⟨pa, vs, rfl, upd_same, repL_mono (same_new (R.fh.free hp)) _ _ hvs⟩
    · rw [if_neg hz] at p
      exact p.elim
theorem DX.or (hg : DX X i e g) (hh : DX X i e h) : DX X i e (xOr g h) := by
  refine ⟨fun c fs z a C dd oe pn hz hm hc hf => ?_⟩
  unfold xOr at hz
  split at hz
  · rename_i q
    cases hz
    exact hg.ex c fs _ a C dd oe pn q hm hc hf
  · exact hh.ex c fs _ a C dd oe pn hz hm hc hf
theorem dx_b1 (hc : ∀ a pn, CallR (X.suite a pn) (.builtin id) rr) (hv : UnV X (fun v H Q => rr [v] H Q) u) (hg : Gl X x) (hm : X.mg x = none) (hb : bootBuiltins x = some (.builtin id)) (ha : DX X i e g) (hst : starEach [e] X.env = (false, eval e X.env) :: starEach [] X.env := by rfl)
    (hn : x ≠ "__name__" := by decide) (hdb : (x == ("__debug__" : Str)) = false := by decide) : DX X i (.Call (.Name x p) [e] [] pos) (xUn u g) := by
  refine ⟨fun c fs z a C dd oe pn hz hm1 hc1 hf => ?_⟩
  unfold xUn at hz
  cases q : g c fs with
  | none =>
    rw [q] at hz
    cases hz
  | some y =>
    rw [q] at hz
    obtain ⟨t, pt, kt⟩ := ha.ex c fs y a C dd oe pn q hm1 hc1 hf
    exact ⟨_, pe_callB (X := X.suite a ((a, oe) :: pn)) (hc a _) hg hm hb (pa_cons pt pa_nil hst) hn hdb hst rfl, fun F H σ Q s hs hx k => kt F H σ _ s hs hx fun v hv1 => hv F H v y z Q s (vw_of s y v hv1) hz k⟩
theorem dx_repr (hr : Room k X.A) (hm : X.mg "repr" = none) (ha : DX X i e g) (hg : Gl X "repr" := by rfl) (hst : starEach [e] X.env = (false, eval e X.env) :: starEach [] X.env := by rfl) : DX X i (.Call (.Name "repr" p) [e] [] pos) (xOr (xUn reprB g) (xOr (xUn reprD g) (xOr (xUn reprK g) (xUn reprS g)))) := by
  have hu := hr.u200
  exact (dx_b1 (fun a pn => call_reprB) uv_reprB hg hm PyProof.Rows.boot_repr ha hst).or ((dx_b1 (fun a pn => call_reprDg (X := X.suite a pn) hr.gd hu) uv_reprD hg hm PyProof.Rows.boot_repr ha hst).or ((dx_b1 (fun a pn => call_reprKg (X := X.suite a pn) hr.gd hu) uv_reprK hg hm PyProof.Rows.boot_repr ha hst).or (dx_b1 (fun a pn => call_reprS) uv_reprS hg hm PyProof.Rows.boot_repr ha hst)))
end
end Dl

set_option Elab.async false
set_option linter.all false
set_option maxRecDepth 100000
set_option maxHeartbeats 4000000
namespace Dl
open PySem PySem.Spec PyProof.Rows L2
variable [Dl.Tb]
/-! ### repr of an own object; f-strings; joined texts -/
def toTx : D → Option D
  | .str x => some (.str x)
  | _ => none
def eReprO (c : Str) (den : List D → Res D) (fa : En → Res (D × En)) : En → Res (D × En) := fun r => (fa r).bind fun p => match p.1 with
  | .ins c' fs => if c' = c then callR (mapR toTx (den [.ins c' fs])) p.2 else .bad
  | _ => .bad
section
variable {X : Cx} {W : WX} {k j : Nat} {f C : Addr} {c : Str} {e : Expr} {p pos : Pos} {fa : En → Res (D × En)} {den : List D → Res D}
theorem hP_T {Q : VK} : ∀ (d z : D) (v : V) (F' H' : Hp), toTx d = some z → rep X.K X.mg F' d v → (∀ w, rep X.K X.mg F' z w → Q w H') → ∃ t : Str, v = .str t ∧ Q (.str t) H' := by
  intro d z v F' H' e h q
  cases d with
  | str x =>
    cases e
    exact ⟨x, h, q _ rfl⟩
  | _ => cases e
theorem de_reprO (F : CalA X.prog X.w X.K X.mg X.base k f den) (tk : Takes X W) (hr : Room j X.A) (hk : k + 1 ≤ j) (hc : X.mg c = some (.ref C)) (hm : Meth X.K C "__repr__" f) (hml : X.mg "repr" = none) (ha : DE X W e fa) (hg : Gl X "repr" := by rfl)
    (hst : starEach [e] X.env = (false, eval e X.env) :: starEach [] X.env := by rfl) : DE X W (.Call (.Name "repr" p) [e] [] pos) (eReprO c den fa) := by
  obtain ⟨fd, ps, ds, dvs, dds, den0, G, hbi, hd, hdd, rfl⟩ := F.ex
  obtain ⟨ta, pa, ea⟩ := ha.ex
  refine ⟨fun σ H Q => ta σ H fun x H1 => ∃ a dx fs, x = .ref a ∧ H1 a = some (.ins C dx fs) ∧ spD X.K X.mg den0 ([x] ++ dvs) H1 (fun v H3 => ∃ t : Str, v = .str t ∧ Q (.str t) H3) (WE W σ), ⟨fun pins s σ H Q I h => ?_⟩, fun B F H r σ Q R p => ?_⟩
  · refine wpAny_Call_Name_kw (ld_blt I hg hml boot_repr ?_ (by decide) (by decide))
    refine PyProof.Rows.callWith_builtin1 (thn ((pa_cons pa pa_nil hst).run pos pins s σ H (fun vs H1 => ∃ x, vs = [x] ∧ ∃ a dx fs, x = .ref a ∧ H1 a = some (.ins C dx fs) ∧ spD X.K X.mg den0 ([x] ++ dvs) H1 (fun v H3 => ∃ t : Str, v = .str t ∧ Q (.str t) H3) (WE W σ)) I ?_) fun us s1 ⟨vs, H1, I1, r1, q1⟩ => ?_) hst rfl
    · have e0 : (fun (x : V) (H1 : Hp) => ∃ a dx fs, x = .ref a ∧ H1 a = some (.ins C dx fs) ∧ spD X.K X.mg den0 ([x] ++ dvs) H1 (fun v H3 => ∃ t : Str, v = .str t ∧ Q (.str t) H3) (WE W σ)) = fun x H1 => ∃ y, [x] = [y] ∧ ∃ a dx fs, y = .ref a ∧ H1 a = some (.ins C dx fs) ∧ spD X.K X.mg den0 ([y] ++ dvs) H1 (fun v H3 => ∃ t : Str, v = .str t ∧ Q (.str t) H3) (WE W σ) := by
        funext x H1
        refine propext ⟨fun z => ⟨x, rfl, z⟩, ?_⟩
        rintro ⟨y, h, z⟩
        cases h
        exact z
      rw [e0] at h
      exact h
    · obtain ⟨x, rfl, a, dx, fs, rfl, e, q⟩ := q1
      obtain ⟨u, rfl, rx⟩ := vals1 r1
      cases (show u = Value.ref a from rx)
      obtain ⟨ox, od, J⟩ := inst_of I1 e
      obtain ⟨m, hF⟩ := I1.fr
      have hu : X.A.in1.units < cLine := by
        have := hr.u200
        show X.A.units + 1 < cLine
        omega
      refine PySem.W.repr_K hu hF I1.ok.mod.kin J hm.at_ hm.fn (wpAny_mono (run_fnSDin (us := [.ref a]) (vs := [.ref a]) G (hr.mono hk) hbi hd (passAt tk σ) I1 (.cons rfl .nil) q) (fun w s' z => ?_) fun _ _ e => e)
      obtain ⟨v', H', I', r', t, rfl, qb⟩ := z
      obtain ⟨tk, rfl⟩ := (show ∃ tk, w = Value.str t tk from r')
      exact ⟨.str t, H', I', ⟨_, rfl⟩, qb⟩
  · refine ea.to R p fun d r1 v F1 H1 R1 s1 x1 p1 => ?_
    cases d with
    | ins c' fs =>
      simp only at p1
      by_cases hcc : c' = c
      · rw [if_pos hcc] at p1
        subst hcc
        obtain ⟨a, C', dx, ws, rfl, hC, hF, hrf⟩ := id x1
        rw [hc] at hC
        cases hC
        exact ⟨a, dx, ws, rfl, R1.fh _ _ hF, callM_po (ds := [_]) (vs := [_]) R1 ⟨_, _, rfl, x1, rfl⟩ hdd hP_T p1⟩
      · rw [if_neg hcc] at p1
        exact p1.elim
    | _ => exact p1.elim
end
/-! f-strings -/
def fmtD : D → Option D
  | .str y => if y.length ≤ 100000 then some (.str y) else none
  | .int i => if i.natAbs.log2 < 1920 then some (.str (toString i)) else none
  | .bl b => some (.str (if b then "True" else "False"))
  | _ => none
def eFmt (f : En → Res (D × En)) : En → Res (D × En) := fun r => (f r).bind fun p => (liftR (fmtD p.1)).bind fun z => .ok (z, p.2)
def jNil : Str → En → Res (Str × En) := fun acc r => .ok (acc, r)
def jCons (f : En → Res (D × En)) (g : Str → En → Res (Str × En)) : Str → En → Res (Str × En) := fun acc r => (f r).bind fun p => match p.1 with
  | .str y => if (acc ++ y).length ≤ 1000000 then g (acc ++ y) p.2 else .bad
  | _ => .bad
def eJs (g : Str → En → Res (Str × En)) : En → Res (D × En) := fun r => (g Str.empty r).bind fun p => .ok (.str p.1, p.2)
def rTx : RR Str Str := fun _ _ _ _ _ a b => a = b
def tFmtB (te : TE) : TE := fun σ H Q => te σ H fun x H1 => (∃ y : Str, x = .str y ∧ y.length ≤ sizeLine ∧ Q (.str y) H1) ∨ (∃ i : Int, x = .int i ∧ i.natAbs.log2 < 1920 ∧ Q (.str (toString i)) H1) ∨ ∃ b : Bool, x = .bl b ∧ Q (.str (if b then "True" else "False")) H1
structure DJ (X : Cx) (W : WX) (es : List Expr) (g : Str → En → Res (Str × En)) : Prop where
  ex : ∃ ts, PJ X es ts ∧ ∀ acc B F H r σ Q, Rel X.K X.mg B F H r σ → Po X.K X.mg W B F σ rTx Q (g acc r) → tJs ts acc σ H Q
section
variable {X : Cx} {W : WX} {e v1 v2 : Expr} {es : List Expr} {pos : Pos} {f : En → Res (D × En)} {g : Str → En → Res (Str × En)}
theorem pe_fmtB {te : TE} (he : PE X e te) : PE X (.FormattedValue e (-1) none pos) (tFmtB te) := by
  refine ⟨fun pins s σ H Q I h => ?_⟩
  refine wpAny_FormattedValue_plain (thn (he.run pins s σ H _ I h) fun v s1 hv => ?_)
  obtain ⟨x, H1, I1, r1, q⟩ := hv
  rcases q with ⟨y, rfl, hz, q⟩ | ⟨i, rfl, hz, q⟩ | ⟨b, rfl, q⟩
  · obtain ⟨t, rfl⟩ := r1
    exact wpAny_formatField_str ⟨.str y, H1, I1, ⟨t, rfl⟩, q⟩ ⟨.str y, H1, I1.tok _, ⟨_, rfl⟩, q⟩ hz
  · obtain ⟨t, rfl⟩ := r1
    exact wpAny_formatField_int hz ⟨.str (toString i), H1, I1.tok _, ⟨_, rfl⟩, q⟩
  · cases (show v = Value.bool b from r1)
    exact wpAny_formatField_bool ⟨.str (if b then "True" else "False"), H1, I1.tok _, ⟨_, rfl⟩, q⟩
theorem de_fmt (ha : DE X W e f) : DE X W (.FormattedValue e (-1) none pos) (eFmt f) := by
  obtain ⟨t, hp, he⟩ := ha.ex
  have sz : (100000 : Nat) ≤ sizeLine := by decide
  refine ⟨_, pe_fmtB hp, fun B F H r σ Q R p => he.to R p fun d r1 v F1 H1 R1 s1 x1 p1 => ?_⟩
  cases d with
  | str y =>
    cases (show v = .str y from x1)
    unfold fmtD at p1
    by_cases hy : y.length ≤ 100000
    · simp only [if_pos hy, liftR, bind_ok] at p1
      exact .inl ⟨y, rfl, Nat.le_trans hy sz, p1 _ F1 H1 R1 (Same.refl F1) rfl⟩
    · simp only [if_neg hy, liftR, bind_bad] at p1
      exact p1.elim
  | int i =>
    cases (show v = .int i from x1)
    unfold fmtD at p1
    by_cases hy : i.natAbs.log2 < 1920
    · simp only [if_pos hy, liftR, bind_ok] at p1
      exact .inr (.inl ⟨i, rfl, hy, p1 _ F1 H1 R1 (Same.refl F1) rfl⟩)
    · simp only [if_neg hy, liftR, bind_bad] at p1
      exact p1.elim
  | bl b =>
    cases (show v = .bl b from x1)
    unfold fmtD at p1
    simp only [liftR, bind_ok] at p1
    exact .inr (.inr ⟨b, rfl, p1 _ F1 H1 R1 (Same.refl F1) rfl⟩)
  | _ => exact p1.elim
theorem dj_nil : DJ X W [] jNil := ⟨[], .nil, fun acc B F H r σ Q R p => p acc F H R (Same.refl F) rfl⟩
theorem dj_cons (ha : DE X W e f) (hr : DJ X W es g) : DJ X W (e :: es) (jCons f g) := by
  obtain ⟨t, hp, he⟩ := ha.ex
  obtain ⟨ts, kp, ke⟩ := hr.ex
  have sz : (1000000 : Nat) ≤ sizeLine := by decide
  refine ⟨t :: ts, .cons hp kp, fun acc B F H r σ Q R p => ?_⟩
  unfold tJs
  refine he.to R p fun d r1 v F1 H1 R1 s1 x1 p1 => ?_
  cases d with
  | str y =>
    cases (show v = .str y from x1)
    simp only at p1
    by_cases hy : (acc ++ y).length ≤ 1000000
    · rw [if_pos hy] at p1
      exact ⟨y, rfl, Nat.le_trans hy sz, ke _ _ _ _ _ _ _ R1 p1⟩
    · rw [if_neg hy] at p1
      exact p1.elim
  | _ => exact p1.elim
theorem de_js (h : DJ X W (v1 :: v2 :: es) g) : DE X W (.JoinedStr (v1 :: v2 :: es) pos) (eJs g) := by
  obtain ⟨ts, hp, he⟩ := h.ex
  refine ⟨_, pe_joined hp, fun B F H r σ Q R p => he _ B F H r σ _ R ?_⟩
  exact Po.bind (m := g Str.empty r) (R' := rE X.K X.mg) (Q := Q) (k := fun p => .ok (.str p.1, p.2)) p fun a r' b F' H' R' s x q => by
    cases (show a = b from x)
    exact q _ F' H' R' (Same.refl F') rfl
end
/-! sep.join(texts) -/
def strsD : List D → Option (List Str)
  | [] => some []
  | .str x :: ds => (strsD ds).map (x :: ·)
  | _ :: _ => none
def joinD : D → D → Option D
  | .str a, .lst ds => (strsD ds).bind fun ys => if (ys.map (·.length)).sum + ys.length * a.length ≤ 1000000 then some (.str (Txt.join a ys)) else none
  | _, _ => none
def eJoin (fa fb : En → Res (D × En)) : En → Res (D × En) := fun r => (fa r).bind fun p => (noX (fb p.2)).bind fun q => (liftR (joinD p.1 q.1)).bind fun z => .ok (z, q.2)
section
variable {X : Cx} {W : WX} {o e : Expr} {apos pos : Pos} {fa fb : En → Res (D × En)}
theorem strs_rep : ∀ {ds : List D} {ys : List Str} {vs : List V} {K : PySem.W.Frag} {mg : Str → Option Value} {F : Hp}, strsD ds = some ys → repL K mg F ds vs → vs = ys.map V.str
  | [], ys, vs, _, _, _, h, r => by
    cases h
    exact r
  | d :: ds, ys, vs, _, _, _, h, r => by
    obtain ⟨w, ws, rfl, h1, h2⟩ := r
    cases d with
    | str x =>
      unfold strsD at h
      cases q : strsD ds with
      | none => rw [q] at h; cases h
      | some zs =>
        rw [q] at h
        cases h
        rw [strs_rep q h2, show w = .str x from h1]
        rfl
    | _ => cases h
theorem de_join (ha : DE X W o fa) (hb : DE X W e fb) (hbase : attributeBase o "join" X.env (eval o X.env) = eval o X.env := by rfl)
    (hfew : ((backTo pos (starEach [e] X.env)).all (fun x => !x.1) && (backToKw pos (keywordEach [] X.env)).all (fun x => x.1.isSome)
      && decide (([e] : List Expr).length + ([] : List Keyword).length + (if ([] : List Keyword).isEmpty then 0 else 1) < 30)) = true := by rfl)
    (hline : (apos.endLine == pos.line) = true := by rfl) (hst : starEach [e] X.env = (false, eval e X.env) :: starEach [] X.env := by rfl) :
    DE X W (.Call (.Attribute o "join" apos) [e] [] pos) (eJoin fa fb) := by
  obtain ⟨ta, pa, ea⟩ := ha.ex
  obtain ⟨tb, pb, eb⟩ := hb.ex
  refine ⟨_, pe_bm PySem.F.plainAttrs_str PySem.F.slot_str_join PySem.F.type_str_join mt_join pa (pa_cons pb pa_nil hst) hbase hfew hline hst rfl, fun B F H r σ Q R p => ?_⟩
  unfold eJoin at p
  refine ea.to R p fun d r1 v F1 H1 R1 s1 x1 p1 => ?_
  rcases noX_cases (fb r1) with ⟨⟨d2, r2⟩, z1, z2⟩ | z2
  · simp only [z2, bind_ok] at p1
    cases hz : joinD d d2 with
    | none =>
      simp only [hz, liftR, bind_bad] at p1
      exact p1.elim
    | some z =>
      simp only [hz, liftR, bind_ok] at p1
      cases d with
      | str a =>
        cases (show v = .str a from x1)
        cases d2 with
        | lst ds =>
          simp only [joinD] at hz
          cases q : strsD ds with
          | none =>
            rw [q] at hz
            cases hz
          | some ys =>
            rw [q] at hz
            simp only [Option.bind_some] at hz
            split at hz
            · rename_i c
              cases hz
              refine ⟨rfl, eb B F1 H1 r1 σ _ R1 ?_⟩
              rw [z1]
              intro w F2 H2 R2 s2 x2
              obtain ⟨l, xs, rfl, hF, rx⟩ := id x2
              have := strs_rep q rx
              subst this
              exact ⟨a, l, ys, rfl, rfl, .inl (SqL.of (R2.fh _ _ hF)), Nat.le_trans c (by decide), p1 _ F2 H2 R2 s2 rfl⟩
            · cases hz
        | _ => cases hz
      | _ => cases hz
  · simp only [z2, bind_bad] at p1
    exact p1.elim
end
end Dl

set_option Elab.async false
set_option linter.all false
set_option maxRecDepth 100000
set_option maxHeartbeats 4000000
namespace Dl
open PySem L2
variable [Dl.Tb]
section
variable {K : PySem.W.Frag} {mg : Str → Option Value} {B : Bg} {F F' H H' : Hp} {r r' r2 : En} {σ : L2.St} {i : Nat} {s : Sl} {p q : Addr} {n : Str} {d d' : D}
end
section
variable {X : Cx} {W : WX} {i j : Nat} {y n : Str} {rr : R2} {g : D → D → Option D} {p1 p2 p3 pos pos' apos : Pos} {jj : Nat} {fk fv f : En → Res (D × En)} {k v e : Expr} {tk : TE}
end
end Dl

set_option Elab.async false
set_option linter.all false
set_option maxRecDepth 100000
set_option maxHeartbeats 4000000
namespace Dl
open PySem L2
variable [Dl.Tb]
structure DPn (X : Cx) (W : WX) (pos : Pos) (ks : List (Option Expr)) (vs : List Expr) (ns : List Str) (g : En → Res (List Sl × En)) : Prop where
  ex : ∃ trs, PPs X pos ks vs trs ∧ ∀ B F H r σ (Q : List (V × V) → Hp → Prop), Rel X.K X.mg B F H r σ → Po X.K X.mg W B F σ (rL X.K X.mg) (fun us H1 => Q ((ns.zip us).map fun q => (V.str q.1, q.2)) H1) (g r) → tPairs trs σ H Q
section
variable {K : PySem.W.Frag} {mg : Str → Option Value} {B : Bg} {F H : Hp} {r : En} {σ : L2.St}
end
section
variable {X : Cx} {W : WX} {v : Expr} {ks : List (Option Expr)} {vs : List Expr} {f : En → Res (D × En)} {g : En → Res (List Sl × En)} {pos kp : Pos} {n : Str} {ns : List Str} {jj : Nat}
end
end Dl

set_option Elab.async false
set_option linter.all false
set_option maxRecDepth 100000
set_option maxHeartbeats 4000000
namespace Dl
open PySem PySem.Spec PyProof.Rows L2
variable [Dl.Tb]
/-! ### an own exception made as a value, by keywords, too -/
section
open PySem.HandSPX
variable {M : Model} {prog : Program} {w : World} {A : Around} {E : Value → Shared → Prop} {R : Result → Shared → Prop} {h : Heap} {g : Array GenState} {d : Drawn} {t : Nat} {os : OsState}
variable {nm q : Str} {C N : Addr} {bs bm bmB : List Value} {hdct : Bool} {sn : List Str} {sub : List Value} {ab : Bool} {col : Option Bool} {dd : Option Addr} {k0 k1 k2 k3 k5 : Option Value} {B newId initId : String}
omit [Dl.Tb] in
theorem check_new_kw (F : ExcBaseFacts B newId initId bmB) (hT : ∀ X : String, bm.contains (.type X) = bmB.contains (.type X)) {rest : List Value} {kw : List (Str × Value)} {Q : Unit → Shared → Prop}
    (hC : h.get? C = some (excClassObj nm q C N bs bm hdct sn sub ab col dd k0 k1 k2 k3 k5 newId)) (hq : Q () ⟨h, g, d, t, os⟩) : wpAny M A (checkBuiltinCall newId ⟨.ref C :: rest, kw⟩) Q E ⟨h, g, d, t, os⟩ := by
  have isB : (Value.ref C :: bm).contains (.type B) = true := by rw [List.contains_cons, hT, F.hasB, Bool.or_true]
  have hstar := F.noStar
  simp only [checkBuiltinCall, F.newKind, F.newSplit, F.newRow]
  repeat (first | refine wpAny_loadPart_at hC ?_ | (refine wpAny_isSubtype_exc hC ?_; rw [isB]) | refine wpAny_staticBase_exc hC ?_ | refine wpAny_madeBy_exc hC ?_ | simp only [bne_self_eq_false, Bool.false_eq_true, if_false] | wp_step)
  exact hq
omit [Dl.Tb] in
theorem new_kw (F : ExcBaseFacts B newId initId bmB) (hT : ∀ X : String, bm.contains (.type X) = bmB.contains (.type X)) {rest : List Value} {kw : List (Str × Value)}
    (hC : h.get? C = some (excClassObj nm q C N bs bm hdct sn sub ab col dd k0 k1 k2 k3 k5 newId))
    (hq : R (.ok (.ret (.ref (h.objs.size + 1)))) ⟨(h.push { cls := .type "tuple", data := .seq rest.toArray }).push { cls := .ref C, data := .fields #[.ref h.objs.size, .none, .none, .none, .bool false, .none] }, g, d, t, os⟩) (few : rest.length ≤ sizeLine) :
    codeAny (model prog w) A (.builtin newId ⟨.ref C :: rest, kw⟩) R ⟨h, g, d, t, os⟩ := by
  have hends := F.ends
  have isB : (Value.ref C :: bm).contains (.type B) = true := by rw [List.contains_cons, hT, F.hasB, Bool.or_true]
  have isA : (Value.ref C :: bm).contains (.type "AttributeError") = false := by rw [List.contains_cons, hT, F.noAttr]; rfl
  have isN : (Value.ref C :: bm).contains (.type "NameError") = false := by rw [List.contains_cons, hT, F.noName]; rfl
  refine codeAny_builtinAt F.entry ?_
  unfold Builtin.«BaseException.__new__»
  refine PySem.wpAt_bind ?_
  show PySem.wpAt _ _ _ (stack >>= _) _ _ _
  refine PySem.wpAt_bind (PySem.wpAt_stack fun p below => wpAt_of_wpAny ?_)
  wp_walk
  refine wpAt_of_wpAny ?_
  rw [F.owner]
  repeat (first | with_reducible refine wpAny_madeHere_exc F.canon hC ?_ | with_reducible refine wpAny_loadPart_at hC ?_ | (with_reducible refine wpAny_isSubtype_exc hC ?_; first | rw [isB] | rw [isA] | rw [isN]) | wp_step)
  show R _ _
  rw [Heap.size_push]
  exact hq
omit [Dl.Tb] in
theorem made_kw (F : ExcBaseFacts B newId initId bmB) (hT : ∀ X : String, bm.contains (.type X) = bmB.contains (.type X)) {rest : List Value} {kw : List (Str × Value)} {fI : Addr} {Q : Fin → Shared → Prop}
    (hC : h.get? C = some (excClassObj nm q C N bs bm hdct sn sub ab col dd k0 k1 k2 k3 k5 newId))
    (hi : W.Looks (model prog w) h (typeLookup (.ref C) "__init__") (some (.ref fI))) (hb : ∀ self, W.Looks (model prog w) h (bindSpecial (.ref fI) self) (.ref fI, [self])) (few : rest.length ≤ sizeLine)
    (hq : codeAny (model prog w) A (.call (.ref fI) ⟨.ref (h.objs.size + 1) :: rest, kw⟩)
      (fun r s' => match r with | .ok (.ret v) => v = .none ∧ Q (.done (.ret (.ref (h.objs.size + 1)))) s' | .ok _ => False | .error e => E e s')
      ⟨(h.push (W.kdv_tup rest)).push (excO C h.objs.size), g, d, t, os⟩) :
    wpAny (model prog w) A (Builtin.«type.__call__» ⟨.ref C :: rest, kw⟩) Q E ⟨h, g, d, t, os⟩ := by
  repeat (first | with_reducible refine wpAny_loadPart_at hC ?_ | with_reducible refine wpAny_madeBy_exc hC ?_ | wp_step)
  refine codeAny_call_builtin_code (Code.quiet_builtin _ F.quiet) (check_new_kw F hT hC ?_)
  refine new_kw F hT hC ?_ few
  show wpAny _ _ _ _ _ _
  have k : ∀ b o, h.get? b = some o → ((h.push (W.kdv_tup rest)).push (excO C h.objs.size)).get? b = some o := fun b o e => Heap.get?_push_of_some _ (Heap.get?_push_of_some _ e)
  have c1 := k _ _ hC
  have new : ((h.push (W.kdv_tup rest)).push (excO C h.objs.size)).get? (h.objs.size + 1) = some (excO C h.objs.size) := by heap_get
  have self : (Value.ref C :: bm).contains (.ref C) = true := by simp
  have i1 := hi.keeps k
  have b1 := (hb (.ref (h.objs.size + 1))).keeps k
  unfold isInstance
  repeat (first | with_reducible refine wpAny_loadPart_at new ?_ | (with_reducible refine wpAny_isSubtype_exc c1 ?_; rw [self]) | wp_step)
  show wpAny _ _ (typeLookup (.ref C) _) _ _ _
  refine i1.at ?_
  refine wpAny_holding (wpAny_bind (b1.at ?_))
  refine wpAny_bind (wpAny_call (codeAny_mono hq fun r s' z => ?_))
  rcases r with e | (v | _ | _ | _) <;> first | exact z | exact z.elim | skip
  obtain ⟨rfl, z⟩ := z
  first
    | exact wpAny_pure (wpAny_pure z)
    | (wp_walk; exact z)
omit [Dl.Tb] in
theorem check_type_kw {rest : List Value} {kw : List (Str × Value)} {Q : Unit → Shared → Prop} (hC : h.get? C = some (excClassObj nm q C N bs bm hdct sn sub ab col dd k0 k1 k2 k3 k5 newId))
    (hq : Q () ⟨h, g, d, t, os⟩) : wpAny M A (checkBuiltinCall "type.__call__" ⟨.ref C :: rest, kw⟩) Q E ⟨h, g, d, t, os⟩ := by
  have f3 := tc_sub
  have hT : (⟨h, g, d, t, os⟩ : Shared).TypeIs (.ref C) "type" := ⟨_, hC, rfl⟩
  simp only [checkBuiltinCall, tc_kind, tc_split]
  repeat (any_goals (first | assumption | with_reducible refine wpAny_loadPart_at hC ?_ | with_reducible refine wpAny_onRaise ?_ | with_reducible refine wpAny_map ?_ | wp_step))
omit [Dl.Tb] in
theorem call_kw (F : ExcBaseFacts B newId initId bmB) (hT : ∀ X : String, bm.contains (.type X) = bmB.contains (.type X)) {rest : List Value} {kw : List (Str × Value)} {fI : Addr}
    (hC : h.get? C = some (excClassObj nm q C N bs bm hdct sn sub ab col dd k0 k1 k2 k3 k5 newId))
    (hi : W.Looks (model prog w) h (typeLookup (.ref C) "__init__") (some (.ref fI))) (hb : ∀ self, W.Looks (model prog w) h (bindSpecial (.ref fI) self) (.ref fI, [self])) (few : rest.length ≤ sizeLine)
    (hq : codeAny (model prog w) (A.under (.builtin "type.__call__" ⟨.ref C :: rest, kw⟩)) (.call (.ref fI) ⟨.ref (h.objs.size + 1) :: rest, kw⟩) (W.InitBack (h.objs.size + 1) R)
      ⟨(h.push (W.kdv_tup rest)).push (excO C h.objs.size), g, d, t, os⟩) :
    codeAny (model prog w) A (.call (.ref C) ⟨rest, kw⟩) R ⟨h, g, d, t, os⟩ := by
  have f1 := tc_lookup
  have f2 := tc_bind (.ref C)
  have isT : (⟨h, g, d, t, os⟩ : Shared).TypeIs (.ref C) "type" := ⟨_, hC, rfl⟩
  refine codeAny_of_tree ?_
  show wpAny _ _ (callAny (.ref C) _) _ _ _
  repeat (any_goals (first | assumption | with_reducible refine wpAny_loadPart_at hC ?_ | wp_step))
  refine ⟨rfl, ?_⟩
  refine codeAny_call_builtin_at (Code.quiet_builtin _ (by decide +kernel)) entry_typeCall (check_type_kw hC (made_kw F hT hC hi hb few ?_))
  refine codeAny_mono hq fun r s' z => ?_
  rcases r with e | (v | _ | _ | _) <;> exact z
end
/-- a class of exceptions called with n values and the keywords ks -/
structure XIniK (P : Program) (w : World) (K : PySem.W.Frag) (mg : Str → Option Value) (base : Heap) (k : Nat) (C : Addr) (ns : List Str) (n : Nat) (ks : List Str) (sel2 : Sel) : Prop where
  T : OexG K C
  ex : ∃ (fI : Addr) (fd : FuncData) (ps : List Str) (sel : Sel), FnOk P w K mg base (L2.CX P w) k fI fd ps (spX C ns) ∧ KBn K fd ps (n + 1) ks (fun us ws => pickL sel us [] ws) (fun vs zs => pickL sel vs [] zs) ∧
    PySem.W.findIn K (.ref C) "__init__" = some (some (.ref fI)) ∧ PySem.W.typeIn K (.ref fI) = some (.type "function") ∧ ∀ (x : V) (us zs : List V), pickL sel (x :: us) [] zs = x :: pickL sel2 us [] zs
def eXv (c : Str) (ns : List Str) (sel : Sel) (n m : Nat) (fa fk : En → Res (List D × En)) : En → Res (D × En) := fun r => (fa r).bind fun p => (fk p.2).bind fun q =>
  if p.1.length = n ∧ q.1.length = m ∧ (pickL sel p.1 [] q.1).length = ns.length then .ok (.exv c (ns.zip (pickL sel p.1 [] q.1)).reverse, q.2) else .bad
section
variable {X : Cx} {W : WX} {k j n : Nat} {C : Addr} {ns ks : List Str} {sel : Sel} {x : Str} {p pos : Pos} {e : Expr} {es : List Expr} {kws : List Keyword} {fa fk : En → Res (List D × En)}
theorem run_xv {pins : List (Addr × Obj)} {σ : L2.St} {H : Hp} {s : Shared} {Q : VK} {us ws : List Value} {vs zs : List V} (Y : XIniK X.prog X.w X.K X.mg X.base k C ns n ks sel) (hr : Room (k + 1) X.A)
    (I : Inv X pins σ H s) (r : Vals vs us) (rz : Vals zs ws) (l1 : vs.length = n) (l2 : zs.length = ks.length) (few : us.length ≤ 1000)
    (h : ∀ a, H a = none → spX C ns (.ref a :: pickL sel vs [] zs) (upd H a (exo a C none)) (fun v H2 => v = .non ∧ Q (.ref a) H2) (fun _ _ _ => False)) : wpAny (model X.prog X.w) X.A (call (.ref C) us (ks.zip ws)) (EP X pins σ Q) X.xe s := by
  obtain ⟨fI, fd, ps, sel1, F1, hb, iC, tI, hs⟩ := Y.ex
  have T := Y.T
  obtain ⟨nm, q, N, bs, bm, sn, sub, ab, col, dd, k0, k1, k2, k3, k5, Bn, newId, initId, bmB, hC, FB, hT, _⟩ := T.cls
  obtain ⟨hh, gs, dr, tk, os⟩ := s
  have big : hh.objs.size ≤ hh.objs.size + 1 := Nat.le_succ _
  have fresh : H (hh.objs.size + 1) = none := I.hok.fresh big
  have run := h (hh.objs.size + 1) fresh
  rw [← hs] at run
  generalize hG : (hh.push (PySem.W.kdv_tup us)).push (PySem.HandSPX.excO C hh.objs.size) = G
  have up : ∀ b o, hh.get? b = some o → G.get? b = some o := fun b o z => by
    rw [← hG]
    exact Heap.get?_push_of_some _ (Heap.get?_push_of_some _ z)
  have new : G.get? (hh.objs.size + 1) = some (PySem.HandSPX.excO C hh.objs.size) := by
    rw [← hG]
    heap_get
  have I2 := I.laid (t' := tk) (a := hh.objs.size + 1) (o := exo (hh.objs.size + 1) C none) (h' := G) up big (exo_ok new)
  have small : us.length ≤ sizeLine := by
    rw [sizeLine_eq]
    omega
  refine wpAny_call (call_kw FB hT (I.kIn _ _ hC) (PySem.W.looks_findIn I.kIn iC) (fun self => PySem.W.bind_fn I.kIn self tI) small ?_)
  rw [hG]
  refine codeAny_mono (F1.run _ X.stack _ _ ⟨Value.ref (hh.objs.size + 1) :: us, ks.zip ws⟩ (pickL sel1 (Value.ref (hh.objs.size + 1) :: us) [] ws) (pickL sel1 (V.ref (hh.objs.size + 1) :: vs) [] zs) _ (fun _ _ _ => False) (hr.make C us (ks.zip ws)) (I2.env0.make C us (ks.zip ws)) ?_ (hb.rel (.cons rfl r) rz) run) fun r s3 hr3 => ?_
  · exact hb.to _ (Value.ref (hh.objs.size + 1) :: us) ws I2.kIn (by rw [List.length_cons, ← r.length, l1]) (by rw [← rz.length, l2])
  · cases r with
    | error er => exact (passes_call LamX.takes0 (fun _ _ _ _ z => z)) pins σ _ _ er s3 I2 hr3
    | ok fl =>
      cases fl with
      | ret u =>
        obtain ⟨v, H2, I3, rv, ev, q2⟩ := I2.after hr3
        subst ev
        exact ⟨rv, .ref (hh.objs.size + 1), H2, I3, rfl, q2⟩
      | next => exact False.elim hr3
      | brk => exact False.elim hr3
      | cont => exact False.elim hr3
/-- the heap and the frozen part with a new exception -/
theorem xv_po {R0 : Type} {B : Bg} {F H : Hp} {r : En} {σ : L2.St} {Q : VK} {ds : List D} {vs : List V} (R : Rel X.K X.mg B F H r σ) (hm : X.mg x = some (.ref C)) (hv : repL X.K X.mg F ds vs) (hl : ds.length = ns.length)
    (p : Po X.K X.mg W B F σ (rE X.K X.mg) Q (.ok (.exv x (ns.zip ds).reverse, r))) : ∀ a, H a = none → spX C ns (.ref a :: vs) (upd H a (exo a C none)) (fun v H2 => v = .non ∧ Q (.ref a) H2) (fun _ _ _ => False) := by
  intro a na
  refine ⟨a, vs, rfl, by rw [← hl]; exact repL_len hv, upd_same, fun dd nd ne => ⟨rfl, ?_⟩⟩
  rw [upd_ne ne] at nd
  have e2 : upd (upd (upd H a (exo a C none)) dd (exd dd (ns.zip vs).reverse)) a (exo a C (some dd)) = upd (upd H dd (exd dd (ns.zip vs).reverse)) a (exo a C (some dd)) := by
    funext b
    by_cases hb : b = a
    · rw [hb, upd_same, upd_same]
    · rw [upd_ne hb, upd_ne hb]
      by_cases hc : b = dd
      · rw [hc, upd_same, upd_same]
      · rw [upd_ne hc, upd_ne hc, upd_ne hb]
  rw [e2]
  have R1 : Rel X.K X.mg B (upd F dd (exd dd (ns.zip vs).reverse)) (upd H dd (exd dd (ns.zip vs).reverse)) r σ := R.newF nd
  have na1 : upd H dd (exd dd (ns.zip vs).reverse) a = none := (upd_ne (Ne.symm ne)).trans na
  have R2 : Rel X.K X.mg B (upd (upd F dd (exd dd (ns.zip vs).reverse)) a (exo a C (some dd))) (upd (upd H dd (exd dd (ns.zip vs).reverse)) a (exo a C (some dd))) r σ := R1.newF na1
  have s1 : Same F (upd F dd (exd dd (ns.zip vs).reverse)) := same_new (R.fh.free nd)
  have s2 : Same (upd F dd (exd dd (ns.zip vs).reverse)) (upd (upd F dd (exd dd (ns.zip vs).reverse)) a (exo a C (some dd))) := same_new (R1.fh.free na1)
  exact p _ _ _ R2 (s1.trans s2) ⟨a, C, dd, (ns.zip vs).reverse, rfl, hm, upd_same, s2 _ _ upd_same, repF_mono (s1.trans s2) _ _ (repF_zip hv)⟩
theorem de_xv (Y : XIniK X.prog X.w X.K X.mg X.base k C ns n [] sel) (hr : Room j X.A) (hk : k + 1 ≤ j) (hg : Gl X x) (hm : X.mg x = some (.ref C)) (ha : DA X W (e :: es) fa) (hn : n ≤ 1000 := by decide)
    (hdb : (x == ("__debug__" : Str)) = false := by decide) (he : starEach (e :: es) X.env = (false, eval e X.env) :: starEach es X.env := by rfl) (hpl : (backTo pos (starEach es X.env)).any (·.1) = false := by rfl) :
    DE X W (.Call (.Name x p) (e :: es) [] pos) (eXv x ns sel n 0 fa aNil) := by
  obtain ⟨t, pa, ea⟩ := ha.ex
  refine ⟨fun σ H Q => t σ H fun vs H1 => vs.length = n ∧ ∀ a, H1 a = none → spX C ns (.ref a :: pickL sel vs [] []) (upd H1 a (exo a C none)) (fun v H2 => v = .non ∧ Q (.ref a) H2) (fun _ _ _ => False), ⟨fun pins s σ H Q I h => ?_⟩, fun B F H r σ Q R p => ?_⟩
  · refine wpAny_Call_Name_kw (ld_glob I hg hm ?_ hdb)
    refine PySem.W.callWith_K (h₀ := X.base) I.ok.mod.kin Y.T.kC (thn (pa.run pos pins s σ H _ I h) fun us s1 hu => ?_) he hpl
    obtain ⟨vs, H1, I1, r1, l1, q1⟩ := hu
    exact ⟨I1.kIn, run_xv (us := us) (ks := []) (ws := []) (zs := []) Y (hr.mono hk) I1 r1 .nil l1 rfl (by rw [← r1.length, l1]; exact hn) q1⟩
  · unfold eXv at p
    refine ea.to R p fun as r1 vs F1 H1 R1 s1 x1 p1 => ?_
    have p2 : Po X.K X.mg W B F1 σ (rE X.K X.mg) Q (if as.length = n ∧ ([] : List D).length = 0 ∧ (pickL sel as [] []).length = ns.length then .ok (.exv x (ns.zip (pickL sel as [] [])).reverse, r1) else .bad) := p1
    by_cases hl : as.length = n ∧ ([] : List D).length = 0 ∧ (pickL sel as [] []).length = ns.length
    · rw [if_pos hl] at p2
      exact ⟨(repL_len x1).trans hl.1, xv_po (R0 := Unit) R1 hm (pick_rep (dds := []) (dvs := []) (zs := []) (ws := []) x1 rfl rfl sel) hl.2.2 p2⟩
    · rw [if_neg hl] at p2
      exact p2.elim
theorem de_xvK (Y : XIniK X.prog X.w X.K X.mg X.base k C ns 0 ks sel) (hr : Room j X.A) (hk : k + 1 ≤ j) (hg : Gl X x) (hm : X.mg x = some (.ref C)) (hw : DK X W kws fk)
    (hall : (backToKw pos (keywordEach kws X.env)).all (·.1.isSome) = true := by rfl) (hks : (backToKw pos (keywordEach kws X.env)).filterMap (·.1) = ks := by rfl)
    (hdb : (x == ("__debug__" : Str)) = false := by decide) (hpl : ((backTo pos (starEach [] X.env)).any (·.1) || (backToKw pos (keywordEach kws X.env)).any (·.1.isNone)) = false := by rfl) :
    DE X W (.Call (.Name x p) [] kws pos) (eXv x ns sel 0 ks.length aNil fk) := by
  obtain ⟨t, pk, ek⟩ := hw.ex
  refine ⟨fun σ H Q => t σ H fun zs H1 => zs.length = ks.length ∧ ∀ a, H1 a = none → spX C ns (.ref a :: pickL sel [] [] zs) (upd H1 a (exo a C none)) (fun v H2 => v = .non ∧ Q (.ref a) H2) (fun _ _ _ => False), ⟨fun pins s σ H Q I h => ?_⟩, fun B F H r σ Q R p => ?_⟩
  · refine wpAny_Call_Name_kw (ld_glob I hg hm ?_ hdb)
    refine PySem.W.callWith_KW0 (h₀ := X.base) I.ok.mod.kin Y.T.kC hall ?_ hpl
    refine thn (pk.run pos pins s σ H _ I h) fun ws s2 ⟨zs, H2, I2, rz, l2, q2⟩ => ⟨I2.kIn, ?_⟩
    rw [hks]
    exact run_xv (us := []) (vs := []) Y (hr.mono hk) I2 .nil rz rfl l2 (by simp) q2
  · have p' : Po X.K X.mg W B F σ (rE X.K X.mg) Q ((fk r).bind fun q => if (0 : Nat) = 0 ∧ q.1.length = ks.length ∧ (pickL sel [] [] q.1).length = ns.length then .ok (.exv x (ns.zip (pickL sel [] [] q.1)).reverse, q.2) else .bad) := p
    refine ek.to R p' fun zs r2 ws F2 H2 R2 s2 x2 p2 => ?_
    by_cases hl : (0 : Nat) = 0 ∧ zs.length = ks.length ∧ (pickL sel [] [] zs).length = ns.length
    · rw [if_pos hl] at p2
      exact ⟨(repL_len x2).trans hl.2.1, xv_po (R0 := Unit) R2 hm (pick_rep (as := []) (vs := []) (dds := []) (dvs := []) rfl rfl x2 sel) hl.2.2 p2⟩
    · rw [if_neg hl] at p2
      exact p2.elim
end
end Dl

set_option Elab.async false
set_option linter.all false
set_option maxRecDepth 100000
set_option maxHeartbeats 4000000
namespace Dl
open PySem PySem.Spec PyProof.Rows L2
variable [Dl.Tb]
/-! ### e.n, e an exception held as a value -/
def eXfld (cs : List Str) (n : Str) (f : En → Res (D × En)) : En → Res (D × En) := fun r => (f r).bind fun p => match p.1 with
  | .exv c fs => if c ∈ cs then (match fs.lookup n with
    | some z => .ok (z, p.2)
    | none => .bad) else .bad
  | _ => .bad
section
variable {X : Cx} {W : WX} {i : Nat} {cs : List Str} {n x : Str} {e : Expr} {pos : Pos} {f : En → Res (D × En)}
theorem de_xfld (hcs : ∀ c ∈ cs, ∀ C, X.mg c = some (.ref C) → XfC X.K C ∧ PySem.W.findIn X.K (.ref C) n = some none) (ha : DE X W e f) (hb : attributeBase e n X.env (eval e X.env) = eval e X.env := by rfl) :
    DE X W (.Attribute e n pos) (eXfld cs n f) := by
  obtain ⟨t, pe, en⟩ := ha.ex
  refine ⟨fun σ H Q => t σ H fun v H1 => ∃ a C dd ws u, v = .ref a ∧ H1 a = some (exo a C (some dd)) ∧ H1 dd = some (exd dd ws) ∧ XfC X.K C ∧ PySem.W.findIn X.K (.ref C) n = some none ∧ ws.lookup n = some u ∧ Q u H1, ⟨fun pins s σ H Q I h => ?_⟩, fun B F H r σ Q R p => ?_⟩
  · refine attr_of hb (thn (pe.run pins s σ H _ I h) fun u s1 hh => ?_)
    obtain ⟨v, H1, I1, rx, a, C, dd, ws, y, rfl, ea, ed, T, no, l, q⟩ := hh
    obtain rfl : u = Value.ref a := rx
    obtain ⟨t1, ha⟩ := exo_at I1.hok ea
    obtain ⟨mA, hns, hr⟩ := exd_at I1.hok ed
    obtain ⟨od, ho, hl⟩ := lookIn_ns hns
    obtain ⟨w, hu, ru⟩ := RelO.some_of (v := y) (o := mA n) (by rw [← l]; exact hr n)
    have J : PySem.W.InstAt s1.heap a _ C (some od) := ⟨ha, rfl, rfl, ho⟩
    exact HandSPX.exc_get I1.kIn J T.ga T.gg T.exC (PySem.W.findObj_own T.hdC no rfl (by rw [hl, hu])) (handed_of ru) ⟨y, H1, I1.tok _, ru, q⟩
  · unfold eXfld at p
    refine en.to R p fun d r1 v F1 H1 R1 s1 x1 p1 => ?_
    cases d with
    | exv c fs =>
      simp only at p1
      by_cases hc : c ∈ cs
      · rw [if_pos hc] at p1
        obtain ⟨a, C, dd, ws, rfl, hm, h1, h2, hr⟩ := x1
        obtain ⟨T, no⟩ := hcs c hc C hm
        cases q : fs.lookup n with
        | some z =>
          simp only [q] at p1
          obtain ⟨u, l, ru⟩ := repF_look hr q
          exact ⟨a, C, dd, ws, u, rfl, R1.fh _ _ h1, R1.fh _ _ h2, T, no, l, p1 u F1 H1 R1 (Same.refl F1) ru⟩
        | none =>
          simp only [q] at p1
          exact p1.elim
      · rw [if_neg hc] at p1
        exact p1.elim
    | _ => exact p1.elim
/-! ### own lists frozen ahead -/
def fzL (i : Nat) (r : En) : En := match r[i]? with
  | some (some (.ow (.lst ds))) => r.set i (some (.fz (.lst ds)))
  | _ => r
def eFzL (i : Nat) (f : En → Res (D × En)) : En → Res (D × En) := fun r => f (fzL i r)
theorem de_fzL (h : DE X W e f) : DE X W e (eFzL i f) := by
  obtain ⟨t, pe, en⟩ := h.ex
  refine ⟨t, pe, fun B F H r σ Q R p => ?_⟩
  unfold eFzL fzL at p
  cases q : r[i]? with
  | none =>
    simp only [q] at p
    exact en B F H r σ Q R p
  | some o =>
    cases o with
    | none =>
      simp only [q] at p
      exact en B F H r σ Q R p
    | some s =>
      cases s with
      | ow d =>
        cases d with
        | lst ds =>
          simp only [q] at p
          obtain ⟨pa, e', hA, nd, ho⟩ := R.slot i _ q
          obtain ⟨xs, hH, hr⟩ := id ho
          obtain ⟨R1, _, s1⟩ := R.frz q rfl e' hH (show okSeal (.lst xs) (.lst xs) from rfl)
          rw [upd_id hH] at R1
          exact en B _ H _ σ Q R1 (Po.weak p s1)
        | _ =>
          simp only [q] at p
          exact en B F H r σ Q R p
      | _ =>
        simp only [q] at p
        exact en B F H r σ Q R p
/-- repr of what an exception holds, whatever it is -/
def xRep (g : Str → List (Str × D) → Option D) : Str → List (Str × D) → Option D := xOr (xUn reprB g) (xOr (xUn reprD g) (xOr (xUn reprK g) (xUn reprS g)))
end
end Dl

set_option Elab.async false
set_option linter.all false
set_option maxRecDepth 100000
set_option maxHeartbeats 0
namespace K21
open PySem L2 Dl
def top (i : Nat) : Stmt := PySem.Challenge.pw_letdays_k21_deals_refused.main.body.getD i (.Pass ⟨0, 0, 0, 0⟩)
def clsB : Stmt → List Stmt
  | .ClassDef (body := b) .. => b
  | _ => []
def mth (i j : Nat) : Stmt := (clsB (top i)).getD j (.Pass ⟨0, 0, 0, 0⟩)
abbrev df_0 : He.DefD := ⟨("_law_pot", none), "_law_pot", "_law_pot", defArgs (top 33), defBody (top 33), defScope (top 33), [], []⟩
abbrev df_1 : He.DefD := ⟨("Deal", some "points"), "points", "Deal.points", defArgs (mth 31 15), defBody (mth 31 15), defScope (mth 31 15), [], []⟩
abbrev df_2 : He.DefD := ⟨("Deal", some "__repr__"), "__repr__", "Deal.__repr__", defArgs (mth 31 28), defBody (mth 31 28), defScope (mth 31 28), [], []⟩
abbrev df_3 : He.DefD := ⟨("InvalidNumber", some "__init__"), "__init__", "InvalidNumber.__init__", defArgs (mth 16 0), defBody (mth 16 0), defScope (mth 16 0), [], []⟩
abbrev df_4 : He.DefD := ⟨("is_integer", none), "is_integer", "is_integer", defArgs (top 5), defBody (top 5), defScope (top 5), [], []⟩
abbrev df_5 : He.DefD := ⟨("is_count", none), "is_count", "is_count", defArgs (top 6), defBody (top 6), defScope (top 6), [], []⟩
abbrev df_6 : He.DefD := ⟨("TooMany", some "__init__"), "__init__", "TooMany.__init__", defArgs (mth 21 0), defBody (mth 21 0), defScope (mth 21 0), [], []⟩
abbrev df_7 : He.DefD := ⟨("want_few", none), "want_few", "want_few", defArgs (top 28), defBody (top 28), defScope (top 28), [], []⟩
abbrev df_8 : He.DefD := ⟨("InvalidName", some "__init__"), "__init__", "InvalidName.__init__", defArgs (mth 14 0), defBody (mth 14 0), defScope (mth 14 0), [], []⟩
abbrev df_9 : He.DefD := ⟨("is_name", none), "is_name", "is_name", defArgs (top 8), defBody (top 8), defScope (top 8), [], []⟩
abbrev df_10 : He.DefD := ⟨("want_name", none), "want_name", "want_name", defArgs (top 26), defBody (top 26), defScope (top 26), [], []⟩
abbrev df_11 : He.DefD := ⟨("InvalidNames", some "__init__"), "__init__", "InvalidNames.__init__", defArgs (mth 19 0), defBody (mth 19 0), defScope (mth 19 0), [], []⟩
abbrev df_12 : He.DefD := ⟨("is_list", none), "is_list", "is_list", defArgs (top 7), defBody (top 7), defScope (top 7), [], []⟩
abbrev df_13 : He.DefD := ⟨("wrong_name", none), "wrong_name", "wrong_name", defArgs (top 11), defBody (top 11), defScope (top 11), [], []⟩
abbrev df_14 : He.DefD := ⟨("want_names", none), "want_names", "want_names", defArgs (top 27), defBody (top 27), defScope (top 27), [], []⟩
abbrev df_15 : He.DefD := ⟨("InvalidPoint", some "__init__"), "__init__", "InvalidPoint.__init__", defArgs (mth 15 0), defBody (mth 15 0), defScope (mth 15 0), [], []⟩
abbrev df_16 : He.DefD := ⟨("is_moment", none), "is_moment", "is_moment", defArgs (top 9), defBody (top 9), defScope (top 9), [], []⟩
abbrev df_17 : He.DefD := ⟨("is_point", none), "is_point", "is_point", defArgs (top 10), defBody (top 10), defScope (top 10), [], []⟩
abbrev df_18 : He.DefD := ⟨("want_points", none), "want_points", "want_points", defArgs (top 29), defBody (top 29), defScope (top 29), [], []⟩
abbrev df_19 : He.DefD := ⟨("Deal", some "__init__"), "__init__", "Deal.__init__", defArgs (mth 31 0), defBody (mth 31 0), defScope (mth 31 0), [], [("alone", .bl true), ("price", .int 1)]⟩
abbrev df_20 : He.DefD := ⟨("Deal", some "made"), "made", "Deal.made", defArgs (mth 31 14), defBody (mth 31 14), defScope (mth 31 14), [], []⟩
abbrev df_21 : He.DefD := ⟨("Deal", some "moved"), "moved", "Deal.moved", defArgs (mth 31 20), defBody (mth 31 20), defScope (mth 31 20), [], []⟩
abbrev df_22 : He.DefD := ⟨("Deal", some "named"), "named", "Deal.named", defArgs (mth 31 16), defBody (mth 31 16), defScope (mth 31 16), [], []⟩
abbrev df_23 : He.DefD := ⟨("Deal", some "of_house"), "of_house", "Deal.of_house", defArgs (mth 31 17), defBody (mth 31 17), defScope (mth 31 17), [], []⟩
abbrev df_24 : He.DefD := ⟨("Deal", some "priced"), "priced", "Deal.priced", defArgs (mth 31 18), defBody (mth 31 18), defScope (mth 31 18), [], []⟩
abbrev df_25 : He.DefD := ⟨("_law_heard", none), "_law_heard", "_law_heard", defArgs (top 37), defBody (top 37), defScope (top 37), [], []⟩
abbrev df_26 : He.DefD := ⟨("_law_draw", none), "_law_draw", "_law_draw", defArgs (top 34), defBody (top 34), defScope (top 34), [], []⟩
abbrev df_27 : He.DefD := ⟨("_law_pick", none), "_law_pick", "_law_pick", defArgs (top 35), defBody (top 35), defScope (top 35), [], []⟩
abbrev df_28 : He.DefD := ⟨("_law_odd_name", none), "_law_odd_name", "_law_odd_name", defArgs (top 38), defBody (top 38), defScope (top 38), [], []⟩
abbrev df_29 : He.DefD := ⟨("_law_derived_right", none), "_law_derived_right", "_law_derived_right", defArgs (top 48), defBody (top 48), defScope (top 48), [], []⟩
abbrev df_30 : He.DefD := ⟨("_law_errors_right", none), "_law_errors_right", "_law_errors_right", defArgs (top 49), defBody (top 49), defScope (top 49), [], []⟩
abbrev df_31 : He.DefD := ⟨("Deal", some "cells"), "cells", "Deal.cells", defArgs (mth 31 10), defBody (mth 31 10), defScope (mth 31 10), [], []⟩
abbrev df_32 : He.DefD := ⟨("Deal", some "__len__"), "__len__", "Deal.__len__", defArgs (mth 31 25), defBody (mth 31 25), defScope (mth 31 25), [], []⟩
abbrev df_33 : He.DefD := ⟨("_law_made", none), "_law_made", "_law_made", defArgs (top 42), defBody (top 42), defScope (top 42), [], []⟩
abbrev df_34 : He.DefD := ⟨("_law_limits_right", none), "_law_limits_right", "_law_limits_right", defArgs (top 47), defBody (top 47), defScope (top 47), [], []⟩
abbrev df_35 : He.DefD := ⟨("_law_parts", none), "_law_parts", "_law_parts", defArgs (top 41), defBody (top 41), defScope (top 41), [], []⟩
abbrev df_36 : He.DefD := ⟨("_law_named", none), "_law_named", "_law_named", defArgs (top 43), defBody (top 43), defScope (top 43), [], []⟩
abbrev df_37 : He.DefD := ⟨("_law_odd_names", none), "_law_odd_names", "_law_odd_names", defArgs (top 39), defBody (top 39), defScope (top 39), [], []⟩
abbrev df_38 : He.DefD := ⟨("_law_odd_point", none), "_law_odd_point", "_law_odd_point", defArgs (top 40), defBody (top 40), defScope (top 40), [], []⟩
abbrev df_39 : He.DefD := ⟨("_law_spoilt", none), "_law_spoilt", "_law_spoilt", defArgs (top 44), defBody (top 44), defScope (top 44), [], []⟩
abbrev df_40 : He.DefD := ⟨("_law_turned", none), "_law_turned", "_law_turned", defArgs (top 45), defBody (top 45), defScope (top 45), [], []⟩
abbrev df_41 : He.DefD := ⟨("_law_wrong_right", none), "_law_wrong_right", "_law_wrong_right", defArgs (top 46), defBody (top 46), defScope (top 46), [], []⟩
abbrev df_42 : He.DefD := ⟨("_law_right", none), "_law_right", "_law_right", defArgs (top 50), defBody (top 50), defScope (top 50), [], []⟩
abbrev df_43 : He.DefD := ⟨("law", none), "law", "law", defArgs (top 51), defBody (top 51), defScope (top 51), [], []⟩
def fn : List He.DefD := [df_0, df_1, df_2, df_3, df_4, df_5, df_6, df_7, df_8, df_9, df_10, df_11, df_12, df_13, df_14, df_15, df_16, df_17, df_18, df_19, df_20, df_21, df_22, df_23, df_24, df_25, df_26, df_27, df_28, df_29, df_30, df_31, df_32, df_33, df_34, df_35, df_36, df_37, df_38, df_39, df_40, df_41, df_42, df_43]
def fa : List He.Fa := [.glo "law", .free "len", .free "min", .free "max", .free "range", .glo "_law_pot", .glo "_law_right", .free "all", .free "abs", .free "int", .glo "_law_parts", .glo "_law_heard", .glo "_law_made", .glo "_law_wrong_right", .glo "_law_limits_right", .glo "_law_derived_right", .glo "_law_errors_right", .glo "_law_pick", .glo "_law_draw", .glo "Deal", .mkr "Deal", .glo "InvalidName", .glo "InvalidNames", .glo "InvalidPoint", .glo "InvalidNumber", .glo "TooMany", .glo "DaysError", .free "isinstance", .free "ValueError", .free "repr", .glo "LimitError", .free "ArithmeticError", .free "list", .glo "_law_spoilt", .glo "_law_named", .glo "_law_turned", .meth "Deal" "__len__", .meth "Deal" "__repr__", .glo "_law_odd_name", .cls "Deal", .meth "Deal" "named", .meth "Deal" "of_house", .meth "Deal" "priced", .meth "Deal" "moved", .free "divmod", .glo "want_name", .glo "want_names", .glo "want_points", .glo "is_count", .int "MOST_FILMS" (4), .glo "want_few", .int "MOST_LANDS" (4), .int "MOST_WAYS" (3), .noat "Deal" "own_name", .noat "Deal" "own_house", .free "sorted", .free "tuple", .noat "Deal" "own_films", .noat "Deal" "own_lands", .noat "Deal" "own_ways", .noat "Deal" "own_begin", .noat "Deal" "own_end", .noat "Deal" "is_alone", .noat "Deal" "own_price", .glo "_law_odd_names", .glo "_law_odd_point", .meth "Deal" "cells", .meth "Deal" "points", .meth "Deal" "made", .glo "is_integer", .glo "is_name", .glo "is_list", .glo "wrong_name", .glo "is_point", .free "bool", .free "str", .int "MOST_LETTERS" (6), .str "ZERO" "day", .str "LETTERS" "abcdefghijklmnopqrstuvwxyz", .free "enumerate", .glo "is_moment"]
def fb : List Fb := []
def fc : List Fc := [.exm "InvalidName" "InvalidName" true, .exm "InvalidNames" "InvalidName" false, .exm "InvalidPoint" "InvalidName" false, .exm "InvalidNumber" "InvalidName" false, .exm "TooMany" "InvalidName" false, .ct "InvalidName", .kitC "InvalidName" "DaysError", .kitT "InvalidName" "ValueError", .nof "InvalidName" "value", .exm "InvalidNames" "InvalidNames" true, .exm "InvalidPoint" "InvalidNames" false, .exm "InvalidNumber" "InvalidNames" false, .exm "TooMany" "InvalidNames" false, .ct "InvalidNames", .kitC "InvalidNames" "DaysError", .nof "InvalidNames" "position", .exm "InvalidPoint" "InvalidPoint" true, .exm "InvalidNumber" "InvalidPoint" false, .exm "TooMany" "InvalidPoint" false, .ct "InvalidPoint", .kitC "InvalidPoint" "DaysError", .nof "InvalidPoint" "value", .exm "InvalidNumber" "InvalidNumber" true, .exm "TooMany" "InvalidNumber" false, .ct "InvalidNumber", .kitC "InvalidNumber" "DaysError", .nof "InvalidNumber" "value", .exm "TooMany" "TooMany" true, .ct "TooMany", .kitC "TooMany" "LimitError", .kitT "TooMany" "ArithmeticError", .nof "TooMany" "limit", .nof "TooMany" "what", .oex "InvalidNumber" false, .ini "InvalidNumber", .oex "InvalidName" false, .ini "InvalidName", .oex "InvalidNames" false, .ini "InvalidNames", .oex "InvalidPoint" false, .ini "InvalidPoint", .oex "TooMany" true, .ini "TooMany"]
def lams : List Str := ["_law_derived_right", "_law_limits_right", "_law_wrong_right", "_law_right"]
variable [Dl.Tb]
abbrev WD (K : PySem.W.Frag) (mg : Str → Option Value) (base : Heap) : Prop := WdM fa fn fb fc lams K mg base
section
variable {K : PySem.W.Frag} {mg : Str → Option Value} {base : Heap}
theorem f_len (V : WD K mg base) : mg "len" = none := V.free 1
theorem f_min (V : WD K mg base) : mg "min" = none := V.free 2
theorem f_max (V : WD K mg base) : mg "max" = none := V.free 3
theorem f_range (V : WD K mg base) : mg "range" = none := V.free 4
theorem g_law_pot (V : WD K mg base) : mg "_law_pot" = some (.ref (He.ga K "_law_pot")) := V.glo 5
theorem g_law_right (V : WD K mg base) : mg "_law_right" = some (.ref (He.ga K "_law_right")) := V.glo 6
theorem f_all (V : WD K mg base) : mg "all" = none := V.free 7
theorem f_abs (V : WD K mg base) : mg "abs" = none := V.free 8
theorem f_int (V : WD K mg base) : mg "int" = none := V.free 9
theorem g_law_parts (V : WD K mg base) : mg "_law_parts" = some (.ref (He.ga K "_law_parts")) := V.glo 10
theorem g_law_heard (V : WD K mg base) : mg "_law_heard" = some (.ref (He.ga K "_law_heard")) := V.glo 11
theorem g_law_made (V : WD K mg base) : mg "_law_made" = some (.ref (He.ga K "_law_made")) := V.glo 12
theorem g_law_wrong_right (V : WD K mg base) : mg "_law_wrong_right" = some (.ref (He.ga K "_law_wrong_right")) := V.glo 13
theorem g_law_limits_right (V : WD K mg base) : mg "_law_limits_right" = some (.ref (He.ga K "_law_limits_right")) := V.glo 14
theorem g_law_derived_right (V : WD K mg base) : mg "_law_derived_right" = some (.ref (He.ga K "_law_derived_right")) := V.glo 15
theorem g_law_errors_right (V : WD K mg base) : mg "_law_errors_right" = some (.ref (He.ga K "_law_errors_right")) := V.glo 16
theorem g_law_pick (V : WD K mg base) : mg "_law_pick" = some (.ref (He.ga K "_law_pick")) := V.glo 17
theorem g_law_draw (V : WD K mg base) : mg "_law_draw" = some (.ref (He.ga K "_law_draw")) := V.glo 18
theorem g_Deal (V : WD K mg base) : mg "Deal" = some (.ref (He.ga K "Deal")) := V.glo 19
theorem mk_Deal (V : WD K mg base) : Mk K (He.ga K "Deal") (He.ma K (He.ga K "Deal") "__init__") := V.mkr 20
theorem g_InvalidName (V : WD K mg base) : mg "InvalidName" = some (.ref (He.ga K "InvalidName")) := V.glo 21
theorem xm_InvalidName (V : WD K mg base) : ∀ c ∈ (["InvalidName"] : List Str), ∀ C, mg c = some (.ref C) → PySem.W.exmOne K (.ref C) (.ref (He.ga K "InvalidName")) = some true := by
  intro c hc C hC
  simp only [List.mem_cons, List.not_mem_nil, or_false] at hc
  rcases hc with rfl
  · rw [g_InvalidName V] at hC
    cases hC
    exact of_decide_eq_true (V.fc_ 0 (f := .exm "InvalidName" "InvalidName" true))
theorem g_InvalidNames (V : WD K mg base) : mg "InvalidNames" = some (.ref (He.ga K "InvalidNames")) := V.glo 22
theorem g_InvalidPoint (V : WD K mg base) : mg "InvalidPoint" = some (.ref (He.ga K "InvalidPoint")) := V.glo 23
theorem g_InvalidNumber (V : WD K mg base) : mg "InvalidNumber" = some (.ref (He.ga K "InvalidNumber")) := V.glo 24
theorem g_TooMany (V : WD K mg base) : mg "TooMany" = some (.ref (He.ga K "TooMany")) := V.glo 25
theorem xn_InvalidName (V : WD K mg base) : ∀ c ∈ (["InvalidNames", "InvalidPoint", "InvalidNumber", "TooMany"] : List Str), ∀ C, mg c = some (.ref C) → PySem.W.exmOne K (.ref C) (.ref (He.ga K "InvalidName")) = some false := by
  intro c hc C hC
  simp only [List.mem_cons, List.not_mem_nil, or_false] at hc
  rcases hc with rfl | rfl | rfl | rfl
  · rw [g_InvalidNames V] at hC
    cases hC
    exact of_decide_eq_true (V.fc_ 1 (f := .exm "InvalidNames" "InvalidName" false))
  · rw [g_InvalidPoint V] at hC
    cases hC
    exact of_decide_eq_true (V.fc_ 2 (f := .exm "InvalidPoint" "InvalidName" false))
  · rw [g_InvalidNumber V] at hC
    cases hC
    exact of_decide_eq_true (V.fc_ 3 (f := .exm "InvalidNumber" "InvalidName" false))
  · rw [g_TooMany V] at hC
    cases hC
    exact of_decide_eq_true (V.fc_ 4 (f := .exm "TooMany" "InvalidName" false))
theorem g_DaysError (V : WD K mg base) : mg "DaysError" = some (.ref (He.ga K "DaysError")) := V.glo 26
theorem xk_InvalidName_DaysError (V : WD K mg base) : ∀ c ∈ (["InvalidName"] : List Str), ∀ C, mg c = some (.ref C) → CtC K C ∧ PySem.W.kitOne K (.ref C) (.ref (He.ga K "DaysError")) = some true := by
  intro c hc C hC
  simp only [List.mem_cons, List.not_mem_nil, or_false] at hc
  rcases hc with rfl
  · rw [g_InvalidName V] at hC
    cases hC
    exact ⟨ct_ok (V.fc_ 5 (f := .ct "InvalidName")), of_decide_eq_true (V.fc_ 6 (f := .kitC "InvalidName" "DaysError"))⟩
theorem f_isinstance (V : WD K mg base) : mg "isinstance" = none := V.free 27
theorem f_ValueError (V : WD K mg base) : mg "ValueError" = none := V.free 28
theorem xk_InvalidName_ValueError (V : WD K mg base) : ∀ c ∈ (["InvalidName"] : List Str), ∀ C, mg c = some (.ref C) → CtC K C ∧ PySem.W.kitOne K (.ref C) (.type "ValueError") = some true := by
  intro c hc C hC
  simp only [List.mem_cons, List.not_mem_nil, or_false] at hc
  rcases hc with rfl
  · rw [g_InvalidName V] at hC
    cases hC
    exact ⟨ct_ok (V.fc_ 5 (f := .ct "InvalidName")), of_decide_eq_true (V.fc_ 7 (f := .kitT "InvalidName" "ValueError"))⟩
theorem xf_InvalidName_value (V : WD K mg base) : ∀ c ∈ (["InvalidName"] : List Str), ∀ C, mg c = some (.ref C) → XfC K C ∧ PySem.W.findIn K (.ref C) "value" = some none := by
  intro c hc C hC
  simp only [List.mem_cons, List.not_mem_nil, or_false] at hc
  rcases hc with rfl
  · rw [g_InvalidName V] at hC
    cases hC
    exact ⟨(ct_ok (V.fc_ 5 (f := .ct "InvalidName"))).f, He.eqO_ok (V.fc_ 8 (f := .nof "InvalidName" "value"))⟩
theorem f_repr (V : WD K mg base) : mg "repr" = none := V.free 29
theorem xm_InvalidNames (V : WD K mg base) : ∀ c ∈ (["InvalidNames"] : List Str), ∀ C, mg c = some (.ref C) → PySem.W.exmOne K (.ref C) (.ref (He.ga K "InvalidNames")) = some true := by
  intro c hc C hC
  simp only [List.mem_cons, List.not_mem_nil, or_false] at hc
  rcases hc with rfl
  · rw [g_InvalidNames V] at hC
    cases hC
    exact of_decide_eq_true (V.fc_ 9 (f := .exm "InvalidNames" "InvalidNames" true))
theorem xn_InvalidNames (V : WD K mg base) : ∀ c ∈ (["InvalidPoint", "InvalidNumber", "TooMany"] : List Str), ∀ C, mg c = some (.ref C) → PySem.W.exmOne K (.ref C) (.ref (He.ga K "InvalidNames")) = some false := by
  intro c hc C hC
  simp only [List.mem_cons, List.not_mem_nil, or_false] at hc
  rcases hc with rfl | rfl | rfl
  · rw [g_InvalidPoint V] at hC
    cases hC
    exact of_decide_eq_true (V.fc_ 10 (f := .exm "InvalidPoint" "InvalidNames" false))
  · rw [g_InvalidNumber V] at hC
    cases hC
    exact of_decide_eq_true (V.fc_ 11 (f := .exm "InvalidNumber" "InvalidNames" false))
  · rw [g_TooMany V] at hC
    cases hC
    exact of_decide_eq_true (V.fc_ 12 (f := .exm "TooMany" "InvalidNames" false))
theorem xk_InvalidNames_DaysError (V : WD K mg base) : ∀ c ∈ (["InvalidNames"] : List Str), ∀ C, mg c = some (.ref C) → CtC K C ∧ PySem.W.kitOne K (.ref C) (.ref (He.ga K "DaysError")) = some true := by
  intro c hc C hC
  simp only [List.mem_cons, List.not_mem_nil, or_false] at hc
  rcases hc with rfl
  · rw [g_InvalidNames V] at hC
    cases hC
    exact ⟨ct_ok (V.fc_ 13 (f := .ct "InvalidNames")), of_decide_eq_true (V.fc_ 14 (f := .kitC "InvalidNames" "DaysError"))⟩
theorem xf_InvalidNames_position (V : WD K mg base) : ∀ c ∈ (["InvalidNames"] : List Str), ∀ C, mg c = some (.ref C) → XfC K C ∧ PySem.W.findIn K (.ref C) "position" = some none := by
  intro c hc C hC
  simp only [List.mem_cons, List.not_mem_nil, or_false] at hc
  rcases hc with rfl
  · rw [g_InvalidNames V] at hC
    cases hC
    exact ⟨(ct_ok (V.fc_ 13 (f := .ct "InvalidNames"))).f, He.eqO_ok (V.fc_ 15 (f := .nof "InvalidNames" "position"))⟩
theorem xm_InvalidPoint (V : WD K mg base) : ∀ c ∈ (["InvalidPoint"] : List Str), ∀ C, mg c = some (.ref C) → PySem.W.exmOne K (.ref C) (.ref (He.ga K "InvalidPoint")) = some true := by
  intro c hc C hC
  simp only [List.mem_cons, List.not_mem_nil, or_false] at hc
  rcases hc with rfl
  · rw [g_InvalidPoint V] at hC
    cases hC
    exact of_decide_eq_true (V.fc_ 16 (f := .exm "InvalidPoint" "InvalidPoint" true))
theorem xn_InvalidPoint (V : WD K mg base) : ∀ c ∈ (["InvalidNumber", "TooMany"] : List Str), ∀ C, mg c = some (.ref C) → PySem.W.exmOne K (.ref C) (.ref (He.ga K "InvalidPoint")) = some false := by
  intro c hc C hC
  simp only [List.mem_cons, List.not_mem_nil, or_false] at hc
  rcases hc with rfl | rfl
  · rw [g_InvalidNumber V] at hC
    cases hC
    exact of_decide_eq_true (V.fc_ 17 (f := .exm "InvalidNumber" "InvalidPoint" false))
  · rw [g_TooMany V] at hC
    cases hC
    exact of_decide_eq_true (V.fc_ 18 (f := .exm "TooMany" "InvalidPoint" false))
theorem xk_InvalidPoint_DaysError (V : WD K mg base) : ∀ c ∈ (["InvalidPoint"] : List Str), ∀ C, mg c = some (.ref C) → CtC K C ∧ PySem.W.kitOne K (.ref C) (.ref (He.ga K "DaysError")) = some true := by
  intro c hc C hC
  simp only [List.mem_cons, List.not_mem_nil, or_false] at hc
  rcases hc with rfl
  · rw [g_InvalidPoint V] at hC
    cases hC
    exact ⟨ct_ok (V.fc_ 19 (f := .ct "InvalidPoint")), of_decide_eq_true (V.fc_ 20 (f := .kitC "InvalidPoint" "DaysError"))⟩
theorem xf_InvalidPoint_value (V : WD K mg base) : ∀ c ∈ (["InvalidPoint"] : List Str), ∀ C, mg c = some (.ref C) → XfC K C ∧ PySem.W.findIn K (.ref C) "value" = some none := by
  intro c hc C hC
  simp only [List.mem_cons, List.not_mem_nil, or_false] at hc
  rcases hc with rfl
  · rw [g_InvalidPoint V] at hC
    cases hC
    exact ⟨(ct_ok (V.fc_ 19 (f := .ct "InvalidPoint"))).f, He.eqO_ok (V.fc_ 21 (f := .nof "InvalidPoint" "value"))⟩
theorem xm_InvalidNumber (V : WD K mg base) : ∀ c ∈ (["InvalidNumber"] : List Str), ∀ C, mg c = some (.ref C) → PySem.W.exmOne K (.ref C) (.ref (He.ga K "InvalidNumber")) = some true := by
  intro c hc C hC
  simp only [List.mem_cons, List.not_mem_nil, or_false] at hc
  rcases hc with rfl
  · rw [g_InvalidNumber V] at hC
    cases hC
    exact of_decide_eq_true (V.fc_ 22 (f := .exm "InvalidNumber" "InvalidNumber" true))
theorem xn_InvalidNumber (V : WD K mg base) : ∀ c ∈ (["TooMany"] : List Str), ∀ C, mg c = some (.ref C) → PySem.W.exmOne K (.ref C) (.ref (He.ga K "InvalidNumber")) = some false := by
  intro c hc C hC
  simp only [List.mem_cons, List.not_mem_nil, or_false] at hc
  rcases hc with rfl
  · rw [g_TooMany V] at hC
    cases hC
    exact of_decide_eq_true (V.fc_ 23 (f := .exm "TooMany" "InvalidNumber" false))
theorem xk_InvalidNumber_DaysError (V : WD K mg base) : ∀ c ∈ (["InvalidNumber"] : List Str), ∀ C, mg c = some (.ref C) → CtC K C ∧ PySem.W.kitOne K (.ref C) (.ref (He.ga K "DaysError")) = some true := by
  intro c hc C hC
  simp only [List.mem_cons, List.not_mem_nil, or_false] at hc
  rcases hc with rfl
  · rw [g_InvalidNumber V] at hC
    cases hC
    exact ⟨ct_ok (V.fc_ 24 (f := .ct "InvalidNumber")), of_decide_eq_true (V.fc_ 25 (f := .kitC "InvalidNumber" "DaysError"))⟩
theorem xf_InvalidNumber_value (V : WD K mg base) : ∀ c ∈ (["InvalidNumber"] : List Str), ∀ C, mg c = some (.ref C) → XfC K C ∧ PySem.W.findIn K (.ref C) "value" = some none := by
  intro c hc C hC
  simp only [List.mem_cons, List.not_mem_nil, or_false] at hc
  rcases hc with rfl
  · rw [g_InvalidNumber V] at hC
    cases hC
    exact ⟨(ct_ok (V.fc_ 24 (f := .ct "InvalidNumber"))).f, He.eqO_ok (V.fc_ 26 (f := .nof "InvalidNumber" "value"))⟩
theorem xm_TooMany (V : WD K mg base) : ∀ c ∈ (["TooMany"] : List Str), ∀ C, mg c = some (.ref C) → PySem.W.exmOne K (.ref C) (.ref (He.ga K "TooMany")) = some true := by
  intro c hc C hC
  simp only [List.mem_cons, List.not_mem_nil, or_false] at hc
  rcases hc with rfl
  · rw [g_TooMany V] at hC
    cases hC
    exact of_decide_eq_true (V.fc_ 27 (f := .exm "TooMany" "TooMany" true))
theorem xn_TooMany (V : WD K mg base) : ∀ c ∈ ([] : List Str), ∀ C, mg c = some (.ref C) → PySem.W.exmOne K (.ref C) (.ref (He.ga K "TooMany")) = some false := by
  intro c hc
  cases hc
theorem g_LimitError (V : WD K mg base) : mg "LimitError" = some (.ref (He.ga K "LimitError")) := V.glo 30
theorem xk_TooMany_LimitError (V : WD K mg base) : ∀ c ∈ (["TooMany"] : List Str), ∀ C, mg c = some (.ref C) → CtC K C ∧ PySem.W.kitOne K (.ref C) (.ref (He.ga K "LimitError")) = some true := by
  intro c hc C hC
  simp only [List.mem_cons, List.not_mem_nil, or_false] at hc
  rcases hc with rfl
  · rw [g_TooMany V] at hC
    cases hC
    exact ⟨ct_ok (V.fc_ 28 (f := .ct "TooMany")), of_decide_eq_true (V.fc_ 29 (f := .kitC "TooMany" "LimitError"))⟩
theorem f_ArithmeticError (V : WD K mg base) : mg "ArithmeticError" = none := V.free 31
theorem xk_TooMany_ArithmeticError (V : WD K mg base) : ∀ c ∈ (["TooMany"] : List Str), ∀ C, mg c = some (.ref C) → CtC K C ∧ PySem.W.kitOne K (.ref C) (.type "ArithmeticError") = some true := by
  intro c hc C hC
  simp only [List.mem_cons, List.not_mem_nil, or_false] at hc
  rcases hc with rfl
  · rw [g_TooMany V] at hC
    cases hC
    exact ⟨ct_ok (V.fc_ 28 (f := .ct "TooMany")), of_decide_eq_true (V.fc_ 30 (f := .kitT "TooMany" "ArithmeticError"))⟩
theorem xf_TooMany_limit (V : WD K mg base) : ∀ c ∈ (["TooMany"] : List Str), ∀ C, mg c = some (.ref C) → XfC K C ∧ PySem.W.findIn K (.ref C) "limit" = some none := by
  intro c hc C hC
  simp only [List.mem_cons, List.not_mem_nil, or_false] at hc
  rcases hc with rfl
  · rw [g_TooMany V] at hC
    cases hC
    exact ⟨(ct_ok (V.fc_ 28 (f := .ct "TooMany"))).f, He.eqO_ok (V.fc_ 31 (f := .nof "TooMany" "limit"))⟩
theorem xf_TooMany_what (V : WD K mg base) : ∀ c ∈ (["TooMany"] : List Str), ∀ C, mg c = some (.ref C) → XfC K C ∧ PySem.W.findIn K (.ref C) "what" = some none := by
  intro c hc C hC
  simp only [List.mem_cons, List.not_mem_nil, or_false] at hc
  rcases hc with rfl
  · rw [g_TooMany V] at hC
    cases hC
    exact ⟨(ct_ok (V.fc_ 28 (f := .ct "TooMany"))).f, He.eqO_ok (V.fc_ 32 (f := .nof "TooMany" "what"))⟩
theorem f_list (V : WD K mg base) : mg "list" = none := V.free 32
theorem g_law_spoilt (V : WD K mg base) : mg "_law_spoilt" = some (.ref (He.ga K "_law_spoilt")) := V.glo 33
theorem g_law_named (V : WD K mg base) : mg "_law_named" = some (.ref (He.ga K "_law_named")) := V.glo 34
theorem g_law_turned (V : WD K mg base) : mg "_law_turned" = some (.ref (He.ga K "_law_turned")) := V.glo 35
theorem m_Deal_len (V : WD K mg base) : Meth K (He.ga K "Deal") "__len__" (He.ma K (He.ga K "Deal") "__len__") := V.meth 36
theorem m_Deal_repr (V : WD K mg base) : Meth K (He.ga K "Deal") "__repr__" (He.ma K (He.ga K "Deal") "__repr__") := V.meth 37
theorem g_law_odd_name (V : WD K mg base) : mg "_law_odd_name" = some (.ref (He.ga K "_law_odd_name")) := V.glo 38
theorem cl_Deal (V : WD K mg base) : Cls K (He.ga K "Deal") := V.cls 39
theorem m_Deal_named (V : WD K mg base) : Meth K (He.ga K "Deal") "named" (He.ma K (He.ga K "Deal") "named") := V.meth 40
theorem m_Deal_of_house (V : WD K mg base) : Meth K (He.ga K "Deal") "of_house" (He.ma K (He.ga K "Deal") "of_house") := V.meth 41
theorem m_Deal_priced (V : WD K mg base) : Meth K (He.ga K "Deal") "priced" (He.ma K (He.ga K "Deal") "priced") := V.meth 42
theorem m_Deal_moved (V : WD K mg base) : Meth K (He.ga K "Deal") "moved" (He.ma K (He.ga K "Deal") "moved") := V.meth 43
theorem xv_InvalidName_InvalidNumber_InvalidPoint_value (V : WD K mg base) : ∀ c ∈ (["InvalidName", "InvalidNumber", "InvalidPoint"] : List Str), ∀ C, mg c = some (.ref C) → XfC K C ∧ PySem.W.findIn K (.ref C) "value" = some none := by
  intro c hc C hC
  simp only [List.mem_cons, List.not_mem_nil, or_false] at hc
  rcases hc with rfl | rfl | rfl
  · rw [g_InvalidName V] at hC
    cases hC
    exact ⟨(ct_ok (V.fc_ 5 (f := .ct "InvalidName"))).f, He.eqO_ok (V.fc_ 8 (f := .nof "InvalidName" "value"))⟩
  · rw [g_InvalidNumber V] at hC
    cases hC
    exact ⟨(ct_ok (V.fc_ 24 (f := .ct "InvalidNumber"))).f, He.eqO_ok (V.fc_ 26 (f := .nof "InvalidNumber" "value"))⟩
  · rw [g_InvalidPoint V] at hC
    cases hC
    exact ⟨(ct_ok (V.fc_ 19 (f := .ct "InvalidPoint"))).f, He.eqO_ok (V.fc_ 21 (f := .nof "InvalidPoint" "value"))⟩
theorem xv_InvalidNames_position (V : WD K mg base) : ∀ c ∈ (["InvalidNames"] : List Str), ∀ C, mg c = some (.ref C) → XfC K C ∧ PySem.W.findIn K (.ref C) "position" = some none := by
  intro c hc C hC
  simp only [List.mem_cons, List.not_mem_nil, or_false] at hc
  rcases hc with rfl
  · rw [g_InvalidNames V] at hC
    cases hC
    exact ⟨(ct_ok (V.fc_ 13 (f := .ct "InvalidNames"))).f, He.eqO_ok (V.fc_ 15 (f := .nof "InvalidNames" "position"))⟩
theorem xv_TooMany_limit (V : WD K mg base) : ∀ c ∈ (["TooMany"] : List Str), ∀ C, mg c = some (.ref C) → XfC K C ∧ PySem.W.findIn K (.ref C) "limit" = some none := by
  intro c hc C hC
  simp only [List.mem_cons, List.not_mem_nil, or_false] at hc
  rcases hc with rfl
  · rw [g_TooMany V] at hC
    cases hC
    exact ⟨(ct_ok (V.fc_ 28 (f := .ct "TooMany"))).f, He.eqO_ok (V.fc_ 31 (f := .nof "TooMany" "limit"))⟩
theorem xv_TooMany_what (V : WD K mg base) : ∀ c ∈ (["TooMany"] : List Str), ∀ C, mg c = some (.ref C) → XfC K C ∧ PySem.W.findIn K (.ref C) "what" = some none := by
  intro c hc C hC
  simp only [List.mem_cons, List.not_mem_nil, or_false] at hc
  rcases hc with rfl
  · rw [g_TooMany V] at hC
    cases hC
    exact ⟨(ct_ok (V.fc_ 28 (f := .ct "TooMany"))).f, He.eqO_ok (V.fc_ 32 (f := .nof "TooMany" "what"))⟩
theorem f_divmod (V : WD K mg base) : mg "divmod" = none := V.free 44
theorem g_want_name (V : WD K mg base) : mg "want_name" = some (.ref (He.ga K "want_name")) := V.glo 45
theorem g_want_names (V : WD K mg base) : mg "want_names" = some (.ref (He.ga K "want_names")) := V.glo 46
theorem g_want_points (V : WD K mg base) : mg "want_points" = some (.ref (He.ga K "want_points")) := V.glo 47
theorem g_is_count (V : WD K mg base) : mg "is_count" = some (.ref (He.ga K "is_count")) := V.glo 48
theorem gi_MOST_FILMS (V : WD K mg base) : ∃ t, mg "MOST_FILMS" = some (.int (4) t) := V.int 49
theorem g_want_few (V : WD K mg base) : mg "want_few" = some (.ref (He.ga K "want_few")) := V.glo 50
theorem gi_MOST_LANDS (V : WD K mg base) : ∃ t, mg "MOST_LANDS" = some (.int (4) t) := V.int 51
theorem gi_MOST_WAYS (V : WD K mg base) : ∃ t, mg "MOST_WAYS" = some (.int (3) t) := V.int 52
theorem na_Deal_own_name (V : WD K mg base) : ∀ c ∈ (["Deal"] : List Str), ∀ C, mg c = some (.ref C) → Cls K C ∧ NoAttr K C "own_name" := by
  intro c hc C hC
  cases (List.mem_singleton.mp hc)
  rw [g_Deal V] at hC
  cases hC
  exact ⟨cl_Deal V, V.noat 53⟩
theorem na_Deal_own_house (V : WD K mg base) : ∀ c ∈ (["Deal"] : List Str), ∀ C, mg c = some (.ref C) → Cls K C ∧ NoAttr K C "own_house" := by
  intro c hc C hC
  cases (List.mem_singleton.mp hc)
  rw [g_Deal V] at hC
  cases hC
  exact ⟨cl_Deal V, V.noat 54⟩
theorem f_sorted (V : WD K mg base) : mg "sorted" = none := V.free 55
theorem f_tuple (V : WD K mg base) : mg "tuple" = none := V.free 56
theorem na_Deal_own_films (V : WD K mg base) : ∀ c ∈ (["Deal"] : List Str), ∀ C, mg c = some (.ref C) → Cls K C ∧ NoAttr K C "own_films" := by
  intro c hc C hC
  cases (List.mem_singleton.mp hc)
  rw [g_Deal V] at hC
  cases hC
  exact ⟨cl_Deal V, V.noat 57⟩
theorem na_Deal_own_lands (V : WD K mg base) : ∀ c ∈ (["Deal"] : List Str), ∀ C, mg c = some (.ref C) → Cls K C ∧ NoAttr K C "own_lands" := by
  intro c hc C hC
  cases (List.mem_singleton.mp hc)
  rw [g_Deal V] at hC
  cases hC
  exact ⟨cl_Deal V, V.noat 58⟩
theorem na_Deal_own_ways (V : WD K mg base) : ∀ c ∈ (["Deal"] : List Str), ∀ C, mg c = some (.ref C) → Cls K C ∧ NoAttr K C "own_ways" := by
  intro c hc C hC
  cases (List.mem_singleton.mp hc)
  rw [g_Deal V] at hC
  cases hC
  exact ⟨cl_Deal V, V.noat 59⟩
theorem na_Deal_own_begin (V : WD K mg base) : ∀ c ∈ (["Deal"] : List Str), ∀ C, mg c = some (.ref C) → Cls K C ∧ NoAttr K C "own_begin" := by
  intro c hc C hC
  cases (List.mem_singleton.mp hc)
  rw [g_Deal V] at hC
  cases hC
  exact ⟨cl_Deal V, V.noat 60⟩
theorem na_Deal_own_end (V : WD K mg base) : ∀ c ∈ (["Deal"] : List Str), ∀ C, mg c = some (.ref C) → Cls K C ∧ NoAttr K C "own_end" := by
  intro c hc C hC
  cases (List.mem_singleton.mp hc)
  rw [g_Deal V] at hC
  cases hC
  exact ⟨cl_Deal V, V.noat 61⟩
theorem na_Deal_is_alone (V : WD K mg base) : ∀ c ∈ (["Deal"] : List Str), ∀ C, mg c = some (.ref C) → Cls K C ∧ NoAttr K C "is_alone" := by
  intro c hc C hC
  cases (List.mem_singleton.mp hc)
  rw [g_Deal V] at hC
  cases hC
  exact ⟨cl_Deal V, V.noat 62⟩
theorem na_Deal_own_price (V : WD K mg base) : ∀ c ∈ (["Deal"] : List Str), ∀ C, mg c = some (.ref C) → Cls K C ∧ NoAttr K C "own_price" := by
  intro c hc C hC
  cases (List.mem_singleton.mp hc)
  rw [g_Deal V] at hC
  cases hC
  exact ⟨cl_Deal V, V.noat 63⟩
theorem g_law_odd_names (V : WD K mg base) : mg "_law_odd_names" = some (.ref (He.ga K "_law_odd_names")) := V.glo 64
theorem g_law_odd_point (V : WD K mg base) : mg "_law_odd_point" = some (.ref (He.ga K "_law_odd_point")) := V.glo 65
theorem m_Deal_cells (V : WD K mg base) : Meth K (He.ga K "Deal") "cells" (He.ma K (He.ga K "Deal") "cells") := V.meth 66
theorem m_Deal_points (V : WD K mg base) : Meth K (He.ga K "Deal") "points" (He.ma K (He.ga K "Deal") "points") := V.meth 67
theorem m_Deal_made (V : WD K mg base) : Meth K (He.ga K "Deal") "made" (He.ma K (He.ga K "Deal") "made") := V.meth 68
theorem g_is_integer (V : WD K mg base) : mg "is_integer" = some (.ref (He.ga K "is_integer")) := V.glo 69
theorem g_is_name (V : WD K mg base) : mg "is_name" = some (.ref (He.ga K "is_name")) := V.glo 70
theorem g_is_list (V : WD K mg base) : mg "is_list" = some (.ref (He.ga K "is_list")) := V.glo 71
theorem g_wrong_name (V : WD K mg base) : mg "wrong_name" = some (.ref (He.ga K "wrong_name")) := V.glo 72
theorem g_is_point (V : WD K mg base) : mg "is_point" = some (.ref (He.ga K "is_point")) := V.glo 73
theorem f_bool (V : WD K mg base) : mg "bool" = none := V.free 74
theorem f_str (V : WD K mg base) : mg "str" = none := V.free 75
theorem gi_MOST_LETTERS (V : WD K mg base) : ∃ t, mg "MOST_LETTERS" = some (.int (6) t) := V.int 76
theorem gs_ZERO (V : WD K mg base) : ∃ t, mg "ZERO" = some (.str "day" t) := V.str 77
theorem gs_LETTERS (V : WD K mg base) : ∃ t, mg "LETTERS" = some (.str "abcdefghijklmnopqrstuvwxyz" t) := V.str 78
theorem f_enumerate (V : WD K mg base) : mg "enumerate" = none := V.free 79
theorem g_is_moment (V : WD K mg base) : mg "is_moment" = some (.ref (He.ga K "is_moment")) := V.glo 80
end
section
variable {P : Program} {w : World} {K : PySem.W.Frag} {mg : Str → Option Value} {base : Heap}
/-! lpot -/
noncomputable def s_lpot_2 : En → SR :=
  (sIf (tOfE (eBin ltI (bVar 1) (bOf (eUn (orU lenD lenK) (bVar 0))))) (sSet 2 (eUn absD (bOf (eBin ixG (bVar 0) (bVar 1))))) sNop)
noncomputable def s_lpot_3 : En → SR :=
  (sRetV (eOwn (eLst (aCons (eBin max2D (bOf (eC (.int 0))) (bOf (eBin subI (bVar 2) (bOf (eBin powI (bOf (eC (.int 10))) (bOf (eC (.int 18)))))))) (aCons (eBin addI (bOf (eBin modI (bOf (eBin mulI (bOf (eUn intD (bOf (eBin addI (bOf (eBin modI (bOf (eUn intD (bVar 2))) (bOf (eC (.int 2147483563))))) (bOf (eC (.int 29))))))) (bOf (eBin powI (bOf (eBin addI (bOf (eBin mulI (bOf (eC (.int 2))) (bVar 1))) (bOf (eC (.int 7))))) (bOf (eC (.int 3))))))) (bOf (eC (.int 2147483489))))) (bOf (eC (.int 1)))) aNil)))))
noncomputable def s_lpot : En → SR :=
  (sSeq (sSet 2 (eBin addI (bOf (eBin mulI (bOf (eC (.int 31))) (bVar 1))) (bOf (eC (.int 11)))))
  (sSeq s_lpot_2
  s_lpot_3))
noncomputable def d_lpot : List D → Res D := runV 3 2 s_lpot
abbrev nm_lpot : List Str := ["_law_script", "_law_k", "_law_taken"]
theorem sc_lpot : FnScope nm_lpot ["_law_script", "_law_k"] (defScope (top 33)) := ⟨rfl, rfl, rfl, by decide +kernel, rfl, by decide +kernel, by decide +kernel⟩
theorem ok_lpot (V : WD K mg base) (fA : Addr) : BodyOk P w K mg base 0 nm_lpot "_law_pot" (defScope (top 33)) fA (defBody (top 33)) s_lpot := by
  intro cdv A outer s H E hr
  have nd := (sc_lpot).nd
  exact (dss_cons (ds_set (i := 2) nd (de_add (DE.db (de_mul (DE.db de_int) (db_var (i := 1)))) (DE.db de_int)))
  (dss_cons (ds_if (DC.dt (dc_lt (db_var (i := 1)) (DE.db (de_len  (f_len V) (db_var (i := 0)))))) (dss_one (ds_set (i := 2) nd (de_abs  (f_abs V) (DE.db (de_at (db_var (i := 0)) (db_var (i := 1))))))) dss_nil)
  (dss_one (ds_retV (DN.dv (dn_lst (da_cons (de_max2 rfl (f_max V) (DE.db de_int) (DE.db (de_sub (db_var (i := 2)) (DE.db (de_pow (DE.db de_int) (DE.db de_int)))))) (da_cons (de_add (DE.db (de_mod (DE.db (de_mul (DE.db (de_int1  (f_int V) (DE.db (de_add (DE.db (de_mod (DE.db (de_int1  (f_int V) (db_var (i := 2)))) (DE.db de_int))) (DE.db de_int))))) (DE.db (de_pow (DE.db (de_add (DE.db (de_mul (DE.db de_int) (db_var (i := 1)))) (DE.db de_int))) (DE.db de_int))))) (DE.db de_int))) (DE.db de_int)) da_nil))))))))
theorem c_lpot (V : WD K mg base) : CalV P w K mg base 1 (He.ga K "_law_pot") d_lpot := by
  obtain ⟨fd, F⟩ := V.d.def_ 0 (d := df_0) rfl
  exact cal_V F sc_lpot (ok_lpot V _) (fun _ _ _ _ _ _ us hl => match us, hl with | [_, _], _ => rfl)
/-! Deal_points -/
noncomputable def s_Deal_points : En → SR :=
  (sRet (eTup (aCons (eUn (fldD ["Deal"] "own_begin") (bVar 0)) (aCons (eUn (fldD ["Deal"] "own_end") (bVar 0)) aNil))))
noncomputable def d_Deal_points : List D → Res D := runF 1 1 s_Deal_points
abbrev nm_Deal_points : List Str := ["self"]
theorem sc_Deal_points : FnScope nm_Deal_points ["self"] (defScope (mth 31 15)) := ⟨rfl, rfl, rfl, by decide +kernel, rfl, by decide +kernel, by decide +kernel⟩
theorem ok_Deal_points (V : WD K mg base) (fA : Addr) : BodyOk P w K mg base 0 nm_Deal_points "Deal.points" (defScope (mth 31 15)) fA (defBody (mth 31 15)) s_Deal_points := by
  intro cdv A outer s H E hr
  have nd := (sc_Deal_points).nd
  exact (dss_one (ds_ret (de_tup (da_cons (de_fld (na_Deal_own_begin V) (db_var (i := 0))) (da_cons (de_fld (na_Deal_own_end V) (db_var (i := 0))) da_nil)))))
theorem c_Deal_points (V : WD K mg base) : CalA P w K mg base 1 (He.ma K (He.ga K "Deal") "points") d_Deal_points := by
  obtain ⟨fd, F⟩ := V.d.def_ 1 (d := df_1) rfl
  exact cal_A F sc_Deal_points (ok_Deal_points V _) (fun _ _ _ _ _ _ us hl => match us, hl with | [_], _ => rfl)
/-! Deal_repr -/
noncomputable def e_Deal_repr_1 : En → Res (D × En) :=
  (eLc (iSeq (eTup (aCons (eUn (fldD ["Deal"] "own_films") (bVar 0)) (aCons (eUn (fldD ["Deal"] "own_lands") (bVar 0)) (aCons (eUn (fldD ["Deal"] "own_ways") (bVar 0)) aNil))))) (gNm 2) tYesD (eUn (orU reprB reprD) (bOf (eUn listD (bVar 2)))) [2])
noncomputable def e_Deal_repr_2 : En → Res (D × En) :=
  (eLc (iSeq (eMeth "Deal" "points" d_Deal_points (eVar 0) aNil)) (gNm 3) tYesD (eUn (orU (orU (orU reprB reprD) reprK) reprS) (bVar 3)) [3])
noncomputable def s_Deal_repr : En → SR :=
  (sSeq (sOwn 1 (eLst (aCons (eUn (orU (orU (orU reprB reprD) reprK) reprS) (bOf (eUn (fldD ["Deal"] "own_name") (bVar 0)))) (aCons (eUn (orU (orU (orU reprB reprD) reprK) reprS) (bOf (eUn (fldD ["Deal"] "own_house") (bVar 0)))) aNil))))
  (sSeq (sExtend 1 e_Deal_repr_1)
  (sSeq (sExtend 1 e_Deal_repr_2)
  (sRet (eJs (jCons (eC (.str "Deal(")) (jCons (eFmt (eJoin (eC (.str ", ")) (eVar 1))) (jCons (eC (.str ", alone=")) (jCons (eFmt (eUn (fldD ["Deal"] "is_alone") (bVar 0))) (jCons (eC (.str ", price=")) (jCons (eFmt (eUn (fldD ["Deal"] "own_price") (bVar 0))) (jCons (eC (.str ")")) jNil))))))))))))
noncomputable def d_Deal_repr : List D → Res D := runF 4 1 s_Deal_repr
abbrev nm_Deal_repr : List Str := ["self", "names", "part", "point"]
theorem sc_Deal_repr : FnScope nm_Deal_repr ["self"] (defScope (mth 31 28)) := ⟨rfl, rfl, rfl, by decide +kernel, rfl, by decide +kernel, by decide +kernel⟩
theorem ok_Deal_repr (V : WD K mg base) (fA : Addr) : BodyOk P w K mg base 1 nm_Deal_repr "Deal.__repr__" (defScope (mth 31 28)) fA (defBody (mth 31 28)) s_Deal_repr := by
  intro cdv A outer s H E hr
  have nd := (sc_Deal_repr).nd
  exact (dss_cons (ds_own (i := 1) nd (dn_lst (da_cons (de_reprS hr (f_repr V) (DE.db (de_fld (na_Deal_own_name V) (db_var (i := 0))))) (da_cons (de_reprS hr (f_repr V) (DE.db (de_fld (na_Deal_own_house V) (db_var (i := 0))))) da_nil))))
  (dss_cons (ds_extend (i := 1) (DN.de (dn_lc (own := [("part", 2)]) rfl nd (di_seq (de_tup (da_cons (de_fld (na_Deal_own_films V) (db_var (i := 0))) (da_cons (de_fld (na_Deal_own_lands V) (db_var (i := 0))) (da_cons (de_fld (na_Deal_own_ways V) (db_var (i := 0))) da_nil))))) (by refine ⟨rfl, ?_, ?_, ?_, ?_⟩ <;> first | exact of_decide_eq_true (by kernel_rfl) | decide +kernel) (fun _ _ _ _ _ => (dg_name (i := 2) (vs := [2]) (by decide) nd)) (fun _ _ _ _ _ => dts_nil) (fun _ _ _ _ _ => (de_reprD hr (f_repr V) (DE.db (DN.de (dn_list1  (f_list V) (db_var (i := 2))))))))))
  (dss_cons (ds_extend (i := 1) (DN.de (dn_lc (own := [("point", 3)]) rfl nd (di_seq (de_meth0 (c := "Deal") (c_Deal_points V) tk_def hr (by decide) (g_Deal V) (cl_Deal V) (m_Deal_points V) (de_var (i := 0)))) (by refine ⟨rfl, ?_, ?_, ?_, ?_⟩ <;> first | exact of_decide_eq_true (by kernel_rfl) | decide +kernel) (fun _ _ _ _ _ => (dg_name (i := 3) (vs := [3]) (by decide) nd)) (fun _ _ _ _ _ => dts_nil) (fun _ _ _ _ _ => (de_reprS hr (f_repr V) (db_var (i := 3)))))))
  (dss_one (ds_ret (de_js (dj_cons de_str (dj_cons (de_fmt (de_join de_str (de_var (i := 1)))) (dj_cons de_str (dj_cons (de_fmt (de_fld (na_Deal_is_alone V) (db_var (i := 0)))) (dj_cons de_str (dj_cons (de_fmt (de_fld (na_Deal_own_price V) (db_var (i := 0)))) (dj_cons de_str dj_nil)))))))))))))
theorem c_Deal_repr (V : WD K mg base) : CalA P w K mg base 2 (He.ma K (He.ga K "Deal") "__repr__") d_Deal_repr := by
  obtain ⟨fd, F⟩ := V.d.def_ 2 (d := df_2) rfl
  exact cal_A F sc_Deal_repr (ok_Deal_repr V _) (fun _ _ _ _ _ _ us hl => match us, hl with | [_], _ => rfl)
/-! InvalidNumber_init -/
theorem sc_InvalidNumber_init : FnScope ["self", "value"] ["self", "value"] (defScope (mth 16 0)) := ⟨rfl, rfl, rfl, by decide +kernel, rfl, by decide +kernel, by decide +kernel⟩
theorem xi_InvalidNumber (V : WD K mg base) : XIni P w K mg base 1 (He.ga K "InvalidNumber") ["value"] := by
  obtain ⟨fd, F⟩ := V.d.def_ 3 (d := df_3) rfl
  have hi := Bool.and_eq_true_iff.mp (show (_ && _) = true from V.fc_ 34 (f := .ini "InvalidNumber"))
  exact ⟨oex_ok (V.fc_ 33 (f := .oex "InvalidNumber" false)), _, fd, _, fn_x1 F sc_InvalidNumber_init (oex_ok (V.fc_ 33 (f := .oex "InvalidNumber" false))) (He.eqO_ok (V.fc_ 26 (f := .nof "InvalidNumber" "value"))) (Or.inl rfl) (Or.inl rfl) rfl rfl rfl rfl, F.bindsN (fun _ _ _ _ _ _ us hl => match us, hl with | [_, _], _ => rfl), He.eqO_ok hi.1, of_decide_eq_true hi.2⟩
theorem xk_InvalidNumber_1_ (V : WD K mg base) : XIniK P w K mg base 1 (He.ga K "InvalidNumber") ["value"] 1 [] [(0, 0)] := by
  obtain ⟨fd, F⟩ := V.d.def_ 3 (d := df_3) rfl
  have hi := Bool.and_eq_true_iff.mp (show (_ && _) = true from V.fc_ 34 (f := .ini "InvalidNumber"))
  exact ⟨oex_ok (V.fc_ 33 (f := .oex "InvalidNumber" false)), _, fd, _, [(0, 0), (0, 1)], fn_x1 F sc_InvalidNumber_init (oex_ok (V.fc_ 33 (f := .oex "InvalidNumber" false))) (He.eqO_ok (V.fc_ 26 (f := .nof "InvalidNumber" "value"))) (Or.inl rfl) (Or.inl rfl) rfl rfl rfl rfl, kbn0 F 2 [] (fun _ _ _ _ _ _ us ws h1 h2 => match us, ws, h1, h2 with | [_, _], [], _, _ => rfl), He.eqO_ok hi.1, of_decide_eq_true hi.2, fun _ _ _ => rfl⟩
/-! is_integer -/
noncomputable def s_is_integer : En → SR :=
  (sRet (eAnd (eUn (isiB ["int"] []) (bVar 0)) (eNot (eUn (isiB ["bool"] []) (bVar 0)))))
noncomputable def d_is_integer : List D → Res D := runF 1 1 s_is_integer
abbrev nm_is_integer : List Str := ["value"]
theorem sc_is_integer : FnScope nm_is_integer ["value"] (defScope (top 5)) := ⟨rfl, rfl, rfl, by decide +kernel, rfl, by decide +kernel, by decide +kernel⟩
theorem ok_is_integer (V : WD K mg base) (fA : Addr) : BodyOk P w K mg base 0 nm_is_integer "is_integer" (defScope (top 5)) fA (defBody (top 5)) s_is_integer := by
  intro cdv A outer s H E hr
  have nd := (sc_is_integer).nd
  exact (dss_one (ds_ret (de_and (de_isi1 (cs := []) rfl (f_isinstance V) PyProof.Rows.boot_isinstance rfl (f_int V) PyProof.Rows.boot_int (by decide) ⟨fun _ h => nomatch h⟩ (db_var (i := 0))) (de_one (de_not (de_isi1 (cs := []) rfl (f_isinstance V) PyProof.Rows.boot_isinstance rfl (f_bool V) PyProof.Rows.boot_bool (by decide) ⟨fun _ h => nomatch h⟩ (db_var (i := 0))))))))
theorem c_is_integer (V : WD K mg base) : CalA P w K mg base 1 (He.ga K "is_integer") d_is_integer := by
  obtain ⟨fd, F⟩ := V.d.def_ 4 (d := df_4) rfl
  exact cal_A F sc_is_integer (ok_is_integer V _) (fun _ _ _ _ _ _ us hl => match us, hl with | [_], _ => rfl)
/-! is_count -/
noncomputable def s_is_count : En → SR :=
  (sRet (eAnd (eCall d_is_integer (aCons (eVar 0) aNil)) (eBin geI (bVar 0) (bOf (eC (.int 0))))))
noncomputable def d_is_count : List D → Res D := runF 1 1 s_is_count
abbrev nm_is_count : List Str := ["value"]
theorem sc_is_count : FnScope nm_is_count ["value"] (defScope (top 6)) := ⟨rfl, rfl, rfl, by decide +kernel, rfl, by decide +kernel, by decide +kernel⟩
theorem ok_is_count (V : WD K mg base) (fA : Addr) : BodyOk P w K mg base 1 nm_is_count "is_count" (defScope (top 6)) fA (defBody (top 6)) s_is_count := by
  intro cdv A outer s H E hr
  have nd := (sc_is_count).nd
  exact (dss_one (ds_ret (de_and (de_call (c_is_integer V) tk_def hr (by decide) rfl (g_is_integer V) (da_cons (de_var (i := 0)) da_nil)) (de_one (DC.de (dc_ge (db_var (i := 0)) (DE.db de_int)))))))
theorem c_is_count (V : WD K mg base) : CalA P w K mg base 2 (He.ga K "is_count") d_is_count := by
  obtain ⟨fd, F⟩ := V.d.def_ 5 (d := df_5) rfl
  exact cal_A F sc_is_count (ok_is_count V _) (fun _ _ _ _ _ _ us hl => match us, hl with | [_], _ => rfl)
/-! TooMany_init -/
theorem sc_TooMany_init : FnScope ["self", "what", "limit"] ["self", "what", "limit"] (defScope (mth 21 0)) := ⟨rfl, rfl, rfl, by decide +kernel, rfl, by decide +kernel, by decide +kernel⟩
theorem xi_TooMany (V : WD K mg base) : XIni P w K mg base 1 (He.ga K "TooMany") ["what", "limit"] := by
  obtain ⟨fd, F⟩ := V.d.def_ 6 (d := df_6) rfl
  have hi := Bool.and_eq_true_iff.mp (show (_ && _) = true from V.fc_ 42 (f := .ini "TooMany"))
  exact ⟨oex_ok (V.fc_ 41 (f := .oex "TooMany" true)), _, fd, _, fn_x2 F sc_TooMany_init (oex_ok (V.fc_ 41 (f := .oex "TooMany" true))) (He.eqO_ok (V.fc_ 32 (f := .nof "TooMany" "what"))) (He.eqO_ok (V.fc_ 31 (f := .nof "TooMany" "limit"))) (Or.inl rfl) (Or.inl rfl) (Or.inl rfl) rfl rfl rfl rfl rfl rfl, F.bindsN (fun _ _ _ _ _ _ us hl => match us, hl with | [_, _, _], _ => rfl), He.eqO_ok hi.1, of_decide_eq_true hi.2⟩
theorem xk_TooMany_0_what_limit (V : WD K mg base) : XIniK P w K mg base 1 (He.ga K "TooMany") ["what", "limit"] 0 ["what", "limit"] [(2, 0), (2, 1)] := by
  obtain ⟨fd, F⟩ := V.d.def_ 6 (d := df_6) rfl
  have hi := Bool.and_eq_true_iff.mp (show (_ && _) = true from V.fc_ 42 (f := .ini "TooMany"))
  exact ⟨oex_ok (V.fc_ 41 (f := .oex "TooMany" true)), _, fd, _, [(0, 0), (2, 0), (2, 1)], fn_x2 F sc_TooMany_init (oex_ok (V.fc_ 41 (f := .oex "TooMany" true))) (He.eqO_ok (V.fc_ 32 (f := .nof "TooMany" "what"))) (He.eqO_ok (V.fc_ 31 (f := .nof "TooMany" "limit"))) (Or.inl rfl) (Or.inl rfl) (Or.inl rfl) rfl rfl rfl rfl rfl rfl, kbn0 F 1 ["what", "limit"] (fun _ _ _ _ _ _ us ws h1 h2 => match us, ws, h1, h2 with | [_], [_, _], _, _ => rfl), He.eqO_ok hi.1, of_decide_eq_true hi.2, fun _ _ _ => rfl⟩
theorem xk_TooMany_2_ (V : WD K mg base) : XIniK P w K mg base 1 (He.ga K "TooMany") ["what", "limit"] 2 [] [(0, 0), (0, 1)] := by
  obtain ⟨fd, F⟩ := V.d.def_ 6 (d := df_6) rfl
  have hi := Bool.and_eq_true_iff.mp (show (_ && _) = true from V.fc_ 42 (f := .ini "TooMany"))
  exact ⟨oex_ok (V.fc_ 41 (f := .oex "TooMany" true)), _, fd, _, [(0, 0), (0, 1), (0, 2)], fn_x2 F sc_TooMany_init (oex_ok (V.fc_ 41 (f := .oex "TooMany" true))) (He.eqO_ok (V.fc_ 32 (f := .nof "TooMany" "what"))) (He.eqO_ok (V.fc_ 31 (f := .nof "TooMany" "limit"))) (Or.inl rfl) (Or.inl rfl) (Or.inl rfl) rfl rfl rfl rfl rfl rfl, kbn0 F 3 [] (fun _ _ _ _ _ _ us ws h1 h2 => match us, ws, h1, h2 with | [_, _, _], [], _, _ => rfl), He.eqO_ok hi.1, of_decide_eq_true hi.2, fun _ _ _ => rfl⟩
/-! want_few -/
noncomputable def s_want_few_1 : En → SR :=
  (sIf (tOfE (eBin gtI (bOf (eUn (orU lenD lenK) (bVar 0))) (bVar 1))) (sRaise "TooMany" ["what", "limit"] (aCons (eVar 2) (aCons (eVar 1) aNil))) sNop)
noncomputable def s_want_few : En → SR :=
  s_want_few_1
noncomputable def d_want_few : List D → Res D := runF 3 3 s_want_few
abbrev nm_want_few : List Str := ["value", "most", "what"]
theorem sc_want_few : FnScope nm_want_few ["value", "most", "what"] (defScope (top 28)) := ⟨rfl, rfl, rfl, by decide +kernel, rfl, by decide +kernel, by decide +kernel⟩
theorem ok_want_few (V : WD K mg base) (fA : Addr) : BodyOk P w K mg base 2 nm_want_few "want_few" (defScope (top 28)) fA (defBody (top 28)) s_want_few := by
  intro cdv A outer s H E hr
  have nd := (sc_want_few).nd
  exact (dss_one (ds_if (DC.dt (dc_gt (DE.db (de_len  (f_len V) (db_var (i := 0)))) (db_var (i := 1)))) (dss_one (ds_raise (xi_TooMany V) rfl tk_def hr (by decide) rfl (g_TooMany V) (da_cons (de_var (i := 2)) (da_cons (de_var (i := 1)) da_nil)))) dss_nil))
theorem c_want_few (V : WD K mg base) : CalA P w K mg base 3 (He.ga K "want_few") d_want_few := by
  obtain ⟨fd, F⟩ := V.d.def_ 7 (d := df_7) rfl
  exact cal_A F sc_want_few (ok_want_few V _) (fun _ _ _ _ _ _ us hl => match us, hl with | [_, _, _], _ => rfl)
/-! InvalidName_init -/
theorem sc_InvalidName_init : FnScope ["self", "value"] ["self", "value"] (defScope (mth 14 0)) := ⟨rfl, rfl, rfl, by decide +kernel, rfl, by decide +kernel, by decide +kernel⟩
theorem xi_InvalidName (V : WD K mg base) : XIni P w K mg base 1 (He.ga K "InvalidName") ["value"] := by
  obtain ⟨fd, F⟩ := V.d.def_ 8 (d := df_8) rfl
  have hi := Bool.and_eq_true_iff.mp (show (_ && _) = true from V.fc_ 36 (f := .ini "InvalidName"))
  exact ⟨oex_ok (V.fc_ 35 (f := .oex "InvalidName" false)), _, fd, _, fn_x1 F sc_InvalidName_init (oex_ok (V.fc_ 35 (f := .oex "InvalidName" false))) (He.eqO_ok (V.fc_ 8 (f := .nof "InvalidName" "value"))) (Or.inl rfl) (Or.inl rfl) rfl rfl rfl rfl, F.bindsN (fun _ _ _ _ _ _ us hl => match us, hl with | [_, _], _ => rfl), He.eqO_ok hi.1, of_decide_eq_true hi.2⟩
theorem xk_InvalidName_1_ (V : WD K mg base) : XIniK P w K mg base 1 (He.ga K "InvalidName") ["value"] 1 [] [(0, 0)] := by
  obtain ⟨fd, F⟩ := V.d.def_ 8 (d := df_8) rfl
  have hi := Bool.and_eq_true_iff.mp (show (_ && _) = true from V.fc_ 36 (f := .ini "InvalidName"))
  exact ⟨oex_ok (V.fc_ 35 (f := .oex "InvalidName" false)), _, fd, _, [(0, 0), (0, 1)], fn_x1 F sc_InvalidName_init (oex_ok (V.fc_ 35 (f := .oex "InvalidName" false))) (He.eqO_ok (V.fc_ 8 (f := .nof "InvalidName" "value"))) (Or.inl rfl) (Or.inl rfl) rfl rfl rfl rfl, kbn0 F 2 [] (fun _ _ _ _ _ _ us ws h1 h2 => match us, ws, h1, h2 with | [_, _], [], _, _ => rfl), He.eqO_ok hi.1, of_decide_eq_true hi.2, fun _ _ _ => rfl⟩
/-! is_name -/
noncomputable def s_is_name_1 : En → SR :=
  (sIf (tOrD (tNotD (tOfE (eUn (isiB ["str"] []) (bVar 0)))) (tOrD (tNotD (tOfE (eChain leI leI (bOf (eC (.int 1))) (bOf (eUn (orU lenD lenK) (bVar 0))) (bOf (eC (.int (6))))))) (tOfE (eBin eqD (bVar 0) (bOf (eC (.str "day"))))))) (sRet (eC (.bl false))) sNop)
noncomputable def e_is_name_1 : En → Res (D × En) :=
  (eLc (iSeq (eVar 0)) (gNm 1) tYesD (eBin inStr (bVar 1) (bOf (eC (.str "abcdefghijklmnopqrstuvwxyz")))) [1])
noncomputable def s_is_name : En → SR :=
  (sSeq s_is_name_1
  (sRet (eUn allD (bOf e_is_name_1))))
noncomputable def d_is_name : List D → Res D := runF 2 1 s_is_name
abbrev nm_is_name : List Str := ["value", "letter"]
theorem sc_is_name : FnScope nm_is_name ["value"] (defScope (top 8)) := ⟨rfl, rfl, rfl, by decide +kernel, rfl, by decide +kernel, by decide +kernel⟩
theorem ok_is_name (V : WD K mg base) (fA : Addr) : BodyOk P w K mg base 0 nm_is_name "is_name" (defScope (top 8)) fA (defBody (top 8)) s_is_name := by
  intro cdv A outer s H E hr
  have nd := (sc_is_name).nd
  exact (dss_cons (ds_if (DW.dt (dw_or (dt_not (dt_val (de_isi1 (cs := []) rfl (f_isinstance V) PyProof.Rows.boot_isinstance rfl (f_str V) PyProof.Rows.boot_str (by decide) ⟨fun _ h => nomatch h⟩ (db_var (i := 0))))) (dw_or (dt_not (dt_chain op_le ov_le op_le ov_le (DE.db de_int) (DE.db (de_len  (f_len V) (db_var (i := 0)))) (DE.db (de_gint rfl (gi_MOST_LETTERS V))))) (dw_or1 (DC.dt (dc_eq hr (db_var (i := 0)) (DE.db (de_gstr rfl (gs_ZERO V))))))))) (dss_one (ds_ret de_bl)) dss_nil)
  (dss_one (ds_ret (de_all rfl (f_all V) (DE.db (DN.de (dn_lc (own := [("letter", 1)]) rfl nd (di_seq (de_var (i := 0))) (by refine ⟨rfl, ?_, ?_, ?_, ?_⟩ <;> first | exact of_decide_eq_true (by kernel_rfl) | decide +kernel) (fun _ _ _ _ _ => (dg_name (i := 1) (vs := [1]) (by decide) nd)) (fun _ _ _ _ _ => dts_nil) (fun _ _ _ _ _ => (DC.de (dc_inS (db_var (i := 1)) (DE.db (de_gstr rfl (gs_LETTERS V)))))))))))))
theorem c_is_name (V : WD K mg base) : CalA P w K mg base 1 (He.ga K "is_name") d_is_name := by
  obtain ⟨fd, F⟩ := V.d.def_ 9 (d := df_9) rfl
  exact cal_A F sc_is_name (ok_is_name V _) (fun _ _ _ _ _ _ us hl => match us, hl with | [_], _ => rfl)
/-! want_name -/
noncomputable def s_want_name_1 : En → SR :=
  (sIf (tNotD (tOfE (eCall d_is_name (aCons (eVar 0) aNil)))) (sRaise "InvalidName" ["value"] (aCons (eVar 0) aNil)) sNop)
noncomputable def s_want_name : En → SR :=
  s_want_name_1
noncomputable def d_want_name : List D → Res D := runF 1 1 s_want_name
abbrev nm_want_name : List Str := ["value"]
theorem sc_want_name : FnScope nm_want_name ["value"] (defScope (top 26)) := ⟨rfl, rfl, rfl, by decide +kernel, rfl, by decide +kernel, by decide +kernel⟩
theorem ok_want_name (V : WD K mg base) (fA : Addr) : BodyOk P w K mg base 2 nm_want_name "want_name" (defScope (top 26)) fA (defBody (top 26)) s_want_name := by
  intro cdv A outer s H E hr
  have nd := (sc_want_name).nd
  exact (dss_one (ds_if (dt_not (dt_val (de_call (c_is_name V) tk_def hr (by decide) rfl (g_is_name V) (da_cons (de_var (i := 0)) da_nil)))) (dss_one (ds_raise (xi_InvalidName V) rfl tk_def hr (by decide) rfl (g_InvalidName V) (da_cons (de_var (i := 0)) da_nil))) dss_nil))
theorem c_want_name (V : WD K mg base) : CalA P w K mg base 3 (He.ga K "want_name") d_want_name := by
  obtain ⟨fd, F⟩ := V.d.def_ 10 (d := df_10) rfl
  exact cal_A F sc_want_name (ok_want_name V _) (fun _ _ _ _ _ _ us hl => match us, hl with | [_], _ => rfl)
/-! InvalidNames_init -/
theorem sc_InvalidNames_init : FnScope ["self", "position"] ["self", "position"] (defScope (mth 19 0)) := ⟨rfl, rfl, rfl, by decide +kernel, rfl, by decide +kernel, by decide +kernel⟩
theorem xi_InvalidNames (V : WD K mg base) : XIni P w K mg base 1 (He.ga K "InvalidNames") ["position"] := by
  obtain ⟨fd, F⟩ := V.d.def_ 11 (d := df_11) rfl
  have hi := Bool.and_eq_true_iff.mp (show (_ && _) = true from V.fc_ 38 (f := .ini "InvalidNames"))
  exact ⟨oex_ok (V.fc_ 37 (f := .oex "InvalidNames" false)), _, fd, _, fn_x1 F sc_InvalidNames_init (oex_ok (V.fc_ 37 (f := .oex "InvalidNames" false))) (He.eqO_ok (V.fc_ 15 (f := .nof "InvalidNames" "position"))) (Or.inl rfl) (Or.inl rfl) rfl rfl rfl rfl, F.bindsN (fun _ _ _ _ _ _ us hl => match us, hl with | [_, _], _ => rfl), He.eqO_ok hi.1, of_decide_eq_true hi.2⟩
theorem xk_InvalidNames_1_ (V : WD K mg base) : XIniK P w K mg base 1 (He.ga K "InvalidNames") ["position"] 1 [] [(0, 0)] := by
  obtain ⟨fd, F⟩ := V.d.def_ 11 (d := df_11) rfl
  have hi := Bool.and_eq_true_iff.mp (show (_ && _) = true from V.fc_ 38 (f := .ini "InvalidNames"))
  exact ⟨oex_ok (V.fc_ 37 (f := .oex "InvalidNames" false)), _, fd, _, [(0, 0), (0, 1)], fn_x1 F sc_InvalidNames_init (oex_ok (V.fc_ 37 (f := .oex "InvalidNames" false))) (He.eqO_ok (V.fc_ 15 (f := .nof "InvalidNames" "position"))) (Or.inl rfl) (Or.inl rfl) rfl rfl rfl rfl, kbn0 F 2 [] (fun _ _ _ _ _ _ us ws h1 h2 => match us, ws, h1, h2 with | [_, _], [], _, _ => rfl), He.eqO_ok hi.1, of_decide_eq_true hi.2, fun _ _ _ => rfl⟩
/-! is_list -/
noncomputable def s_is_list : En → SR :=
  (sRet (eUn (isiB ["list", "tuple"] []) (bOf (eVar 0))))
noncomputable def d_is_list : List D → Res D := runF 1 1 s_is_list
abbrev nm_is_list : List Str := ["value"]
theorem sc_is_list : FnScope nm_is_list ["value"] (defScope (top 7)) := ⟨rfl, rfl, rfl, by decide +kernel, rfl, by decide +kernel, by decide +kernel⟩
theorem ok_is_list (V : WD K mg base) (fA : Addr) : BodyOk P w K mg base 0 nm_is_list "is_list" (defScope (top 7)) fA (defBody (top 7)) s_is_list := by
  intro cdv A outer s H E hr
  have nd := (sc_is_list).nd
  exact (dss_one (ds_ret (de_isiT (ns := ["list", "tuple"]) (cs := []) rfl (f_isinstance V) PyProof.Rows.boot_isinstance (pa_ty1 rfl (f_list V) PyProof.Rows.boot_list (pa_ty1 rfl (f_tuple V) PyProof.Rows.boot_tuple pa_ty0)) (by decide) (by decide) ⟨fun _ h => nomatch h⟩ (de_var (i := 0)))))
theorem c_is_list (V : WD K mg base) : CalA P w K mg base 1 (He.ga K "is_list") d_is_list := by
  obtain ⟨fd, F⟩ := V.d.def_ 12 (d := df_12) rfl
  exact cal_A F sc_is_list (ok_is_list V _) (fun _ _ _ _ _ _ us hl => match us, hl with | [_], _ => rfl)
/-! wrong_name -/
noncomputable def s_wrong_name_1_1 : En → SR :=
  (sIf (tOrD (tNotD (tOfE (eCallG 1 "is_name" d_is_name (aCons (eVar 3) aNil)))) (tOfE (eBin (orD inLst inTup) (bVar 3) (bOf (eSl slA (bOf (eVar 0)) doNone (doSome (eVar 2))))))) (sRet (eVar 2)) sNop)
noncomputable def s_wrong_name_1 : En → SR :=
  (sFor (eAlt (iEn (aCons (eVar 0) aNil)) (iEnT (aCons (eVar 0) aNil))) (gTp 2 (gsCons (gNm 2) (gsCons (gNm 3) gsNil))) s_wrong_name_1_1)
noncomputable def s_wrong_name : En → SR :=
  (sSeq s_wrong_name_1
  (sRet (eC .non)))
noncomputable def d_wrong_name : List D → Res D := runF 4 2 s_wrong_name
abbrev nm_wrong_name : List Str := ["names", "is_right", "position", "name"]
theorem sc_wrong_name : FnScope nm_wrong_name ["names", "is_right"] (defScope (top 11)) := ⟨rfl, rfl, rfl, by decide +kernel, rfl, by decide +kernel, by decide +kernel⟩
theorem ok_wrong_name (V : WD K mg base) (fA : Addr) : BodyOk P w K mg base 1 nm_wrong_name "wrong_name" (defScope (top 11)) fA (defBody (top 11)) s_wrong_name := by
  intro cdv A outer s H E hr
  have nd := (sc_wrong_name).nd
  exact (dss_cons (ds_for own_def rfl (DI.alt (di_enum rfl (f_enumerate V) (da_cons (de_var (i := 0)) da_nil)) (di_enumT rfl (f_enumerate V) (da_cons (de_var (i := 0)) da_nil))) (dg_tup (n := 2) rfl (dgs_cons (dg_name (i := 2) (vs := [2, 3]) (by decide) nd) (dgs_cons (dg_name (i := 3) (vs := [2, 3]) (by decide) nd) dgs_nil))) (dss_one (ds_if (DW.dt (dw_or (dt_not (dt_val (de_callG (i := 1) (c_is_name V) tk_def hr (by decide) (g_is_name V) (da_cons (de_var (i := 3)) da_nil)))) (dw_or1 (DC.dt (dc_inQ hr (db_var (i := 3)) (DE.db (de_slA (de_var (i := 0)) do_none (do_some (de_var (i := 2)))))))))) (dss_one (ds_ret (de_var (i := 2)))) dss_nil)))
  (dss_one (ds_ret de_non)))
theorem c_wrong_name (V : WD K mg base) : CalA P w K mg base 2 (He.ga K "wrong_name") d_wrong_name := by
  obtain ⟨fd, F⟩ := V.d.def_ 13 (d := df_13) rfl
  exact cal_A F sc_wrong_name (ok_wrong_name V _) (fun _ _ _ _ _ _ us hl => match us, hl with | [_, _], _ => rfl)
/-! want_names -/
noncomputable def s_want_names_1 : En → SR :=
  (sIf (tOrD (tNotD (tOfE (eCall d_is_list (aCons (eVar 0) aNil)))) (tOfE (eBin eqD (bOf (eUn (orU lenD lenK) (bVar 0))) (bOf (eC (.int 0)))))) (sRaise "InvalidNames" ["position"] (aCons (eC .non) aNil)) sNop)
noncomputable def s_want_names_3 : En → SR :=
  (sIf (tOfE (eBin notN (bVar 1) (bOf (eC .non)))) (sRaise "InvalidNames" ["position"] (aCons (eVar 1) aNil)) sNop)
noncomputable def s_want_names : En → SR :=
  (sSeq s_want_names_1
  (sSeq (sSet 1 (eCall d_wrong_name (aCons (eVar 0) (aCons (eC (.gl "is_name")) aNil))))
  s_want_names_3))
noncomputable def d_want_names : List D → Res D := runF 2 1 s_want_names
abbrev nm_want_names : List Str := ["value", "position"]
theorem sc_want_names : FnScope nm_want_names ["value"] (defScope (top 27)) := ⟨rfl, rfl, rfl, by decide +kernel, rfl, by decide +kernel, by decide +kernel⟩
theorem ok_want_names (V : WD K mg base) (fA : Addr) : BodyOk P w K mg base 2 nm_want_names "want_names" (defScope (top 27)) fA (defBody (top 27)) s_want_names := by
  intro cdv A outer s H E hr
  have nd := (sc_want_names).nd
  exact (dss_cons (ds_if (DW.dt (dw_or (dt_not (dt_val (de_call (c_is_list V) tk_def hr (by decide) rfl (g_is_list V) (da_cons (de_var (i := 0)) da_nil)))) (dw_or1 (DC.dt (dc_eq hr (DE.db (de_len  (f_len V) (db_var (i := 0)))) (DE.db de_int)))))) (dss_one (ds_raise (xi_InvalidNames V) rfl tk_def hr (by decide) rfl (g_InvalidNames V) (da_cons de_non da_nil))) dss_nil)
  (dss_cons (ds_set (i := 1) nd (de_call (c_wrong_name V) tk_def hr (by decide) rfl (g_wrong_name V) (da_cons (de_var (i := 0)) (da_cons (de_gl rfl (g_is_name V)) da_nil))))
  (dss_one (ds_if (DC.dt (dc_isnot (db_var (i := 1)) (DE.db de_non))) (dss_one (ds_raise (xi_InvalidNames V) rfl tk_def hr (by decide) rfl (g_InvalidNames V) (da_cons (de_var (i := 1)) da_nil))) dss_nil))))
theorem c_want_names (V : WD K mg base) : CalA P w K mg base 3 (He.ga K "want_names") d_want_names := by
  obtain ⟨fd, F⟩ := V.d.def_ 14 (d := df_14) rfl
  exact cal_A F sc_want_names (ok_want_names V _) (fun _ _ _ _ _ _ us hl => match us, hl with | [_], _ => rfl)
/-! InvalidPoint_init -/
theorem sc_InvalidPoint_init : FnScope ["self", "value"] ["self", "value"] (defScope (mth 15 0)) := ⟨rfl, rfl, rfl, by decide +kernel, rfl, by decide +kernel, by decide +kernel⟩
theorem xi_InvalidPoint (V : WD K mg base) : XIni P w K mg base 1 (He.ga K "InvalidPoint") ["value"] := by
  obtain ⟨fd, F⟩ := V.d.def_ 15 (d := df_15) rfl
  have hi := Bool.and_eq_true_iff.mp (show (_ && _) = true from V.fc_ 40 (f := .ini "InvalidPoint"))
  exact ⟨oex_ok (V.fc_ 39 (f := .oex "InvalidPoint" false)), _, fd, _, fn_x1 F sc_InvalidPoint_init (oex_ok (V.fc_ 39 (f := .oex "InvalidPoint" false))) (He.eqO_ok (V.fc_ 21 (f := .nof "InvalidPoint" "value"))) (Or.inl rfl) (Or.inl rfl) rfl rfl rfl rfl, F.bindsN (fun _ _ _ _ _ _ us hl => match us, hl with | [_, _], _ => rfl), He.eqO_ok hi.1, of_decide_eq_true hi.2⟩
theorem xk_InvalidPoint_1_ (V : WD K mg base) : XIniK P w K mg base 1 (He.ga K "InvalidPoint") ["value"] 1 [] [(0, 0)] := by
  obtain ⟨fd, F⟩ := V.d.def_ 15 (d := df_15) rfl
  have hi := Bool.and_eq_true_iff.mp (show (_ && _) = true from V.fc_ 40 (f := .ini "InvalidPoint"))
  exact ⟨oex_ok (V.fc_ 39 (f := .oex "InvalidPoint" false)), _, fd, _, [(0, 0), (0, 1)], fn_x1 F sc_InvalidPoint_init (oex_ok (V.fc_ 39 (f := .oex "InvalidPoint" false))) (He.eqO_ok (V.fc_ 21 (f := .nof "InvalidPoint" "value"))) (Or.inl rfl) (Or.inl rfl) rfl rfl rfl rfl, kbn0 F 2 [] (fun _ _ _ _ _ _ us ws h1 h2 => match us, ws, h1, h2 with | [_, _], [], _, _ => rfl), He.eqO_ok hi.1, of_decide_eq_true hi.2, fun _ _ _ => rfl⟩
/-! is_moment -/
noncomputable def s_is_moment : En → SR :=
  (sRet (eOr (eCall d_is_name (aCons (eVar 0) aNil)) (eAnd (eUn (isiB ["str"] []) (bVar 0)) (eBin eqD (bVar 0) (bOf (eC (.str "day")))))))
noncomputable def d_is_moment : List D → Res D := runF 1 1 s_is_moment
abbrev nm_is_moment : List Str := ["value"]
theorem sc_is_moment : FnScope nm_is_moment ["value"] (defScope (top 9)) := ⟨rfl, rfl, rfl, by decide +kernel, rfl, by decide +kernel, by decide +kernel⟩
theorem ok_is_moment (V : WD K mg base) (fA : Addr) : BodyOk P w K mg base 1 nm_is_moment "is_moment" (defScope (top 9)) fA (defBody (top 9)) s_is_moment := by
  intro cdv A outer s H E hr
  have nd := (sc_is_moment).nd
  exact (dss_one (ds_ret (de_or (de_call (c_is_name V) tk_def hr (by decide) rfl (g_is_name V) (da_cons (de_var (i := 0)) da_nil)) (de_one (de_and (de_isi1 (cs := []) rfl (f_isinstance V) PyProof.Rows.boot_isinstance rfl (f_str V) PyProof.Rows.boot_str (by decide) ⟨fun _ h => nomatch h⟩ (db_var (i := 0))) (de_one (DC.de (dc_eq hr (db_var (i := 0)) (DE.db (de_gstr rfl (gs_ZERO V)))))))))))
theorem c_is_moment (V : WD K mg base) : CalA P w K mg base 2 (He.ga K "is_moment") d_is_moment := by
  obtain ⟨fd, F⟩ := V.d.def_ 16 (d := df_16) rfl
  exact cal_A F sc_is_moment (ok_is_moment V _) (fun _ _ _ _ _ _ us hl => match us, hl with | [_], _ => rfl)
/-! is_point -/
noncomputable def s_is_point : En → SR :=
  (sRet (eAnd (eUn (isiB ["tuple"] []) (bVar 0)) (eAnd (eBin eqD (bOf (eUn (orU lenD lenK) (bVar 0))) (bOf (eC (.int 2)))) (eAnd (eCall d_is_moment (aCons (eBin ixG (bVar 0) (bOf (eC (.int 0)))) aNil)) (eCall d_is_integer (aCons (eBin ixG (bVar 0) (bOf (eC (.int 1)))) aNil))))))
noncomputable def d_is_point : List D → Res D := runF 1 1 s_is_point
abbrev nm_is_point : List Str := ["value"]
theorem sc_is_point : FnScope nm_is_point ["value"] (defScope (top 10)) := ⟨rfl, rfl, rfl, by decide +kernel, rfl, by decide +kernel, by decide +kernel⟩
theorem ok_is_point (V : WD K mg base) (fA : Addr) : BodyOk P w K mg base 2 nm_is_point "is_point" (defScope (top 10)) fA (defBody (top 10)) s_is_point := by
  intro cdv A outer s H E hr
  have nd := (sc_is_point).nd
  exact (dss_one (ds_ret (de_and (de_isi1 (cs := []) rfl (f_isinstance V) PyProof.Rows.boot_isinstance rfl (f_tuple V) PyProof.Rows.boot_tuple (by decide) ⟨fun _ h => nomatch h⟩ (db_var (i := 0))) (de_and (DC.de (dc_eq hr (DE.db (de_len  (f_len V) (db_var (i := 0)))) (DE.db de_int))) (de_and (de_call (c_is_moment V) tk_def hr (by decide) rfl (g_is_moment V) (da_cons (de_at (db_var (i := 0)) (DE.db de_int)) da_nil)) (de_one (de_call (c_is_integer V) tk_def hr (by decide) rfl (g_is_integer V) (da_cons (de_at (db_var (i := 0)) (DE.db de_int)) da_nil))))))))
theorem c_is_point (V : WD K mg base) : CalA P w K mg base 3 (He.ga K "is_point") d_is_point := by
  obtain ⟨fd, F⟩ := V.d.def_ 17 (d := df_17) rfl
  exact cal_A F sc_is_point (ok_is_point V _) (fun _ _ _ _ _ _ us hl => match us, hl with | [_], _ => rfl)
/-! want_points -/
noncomputable def s_want_points_1 : En → SR :=
  (sIf (tNotD (tOfE (eCall d_is_point (aCons (eVar 0) aNil)))) (sRaise "InvalidPoint" ["value"] (aCons (eVar 0) aNil)) sNop)
noncomputable def s_want_points_2 : En → SR :=
  (sIf (tOrD (tNotD (tOfE (eCall d_is_point (aCons (eVar 1) aNil)))) (tAndD (tOfE (eBin eqD (bOf (eBin ixG (bVar 0) (bOf (eC (.int 0))))) (bOf (eBin ixG (bVar 1) (bOf (eC (.int 0))))))) (tOfE (eBin gtI (bOf (eBin ixG (bVar 0) (bOf (eC (.int 1))))) (bOf (eBin ixG (bVar 1) (bOf (eC (.int 1))))))))) (sRaise "InvalidPoint" ["value"] (aCons (eVar 1) aNil)) sNop)
noncomputable def s_want_points : En → SR :=
  (sSeq s_want_points_1
  s_want_points_2)
noncomputable def d_want_points : List D → Res D := runF 2 2 s_want_points
abbrev nm_want_points : List Str := ["begin", "end"]
theorem sc_want_points : FnScope nm_want_points ["begin", "end"] (defScope (top 29)) := ⟨rfl, rfl, rfl, by decide +kernel, rfl, by decide +kernel, by decide +kernel⟩
theorem ok_want_points (V : WD K mg base) (fA : Addr) : BodyOk P w K mg base 3 nm_want_points "want_points" (defScope (top 29)) fA (defBody (top 29)) s_want_points := by
  intro cdv A outer s H E hr
  have nd := (sc_want_points).nd
  exact (dss_cons (ds_if (dt_not (dt_val (de_call (c_is_point V) tk_def hr (by decide) rfl (g_is_point V) (da_cons (de_var (i := 0)) da_nil)))) (dss_one (ds_raise (xi_InvalidPoint V) rfl tk_def hr (by decide) rfl (g_InvalidPoint V) (da_cons (de_var (i := 0)) da_nil))) dss_nil)
  (dss_one (ds_if (DW.dt (dw_or (dt_not (dt_val (de_call (c_is_point V) tk_def hr (by decide) rfl (g_is_point V) (da_cons (de_var (i := 1)) da_nil)))) (dw_or1 (DW.dt (dw_and (DC.dt (dc_eq hr (DE.db (de_at (db_var (i := 0)) (DE.db de_int))) (DE.db (de_at (db_var (i := 1)) (DE.db de_int))))) (dw_and1 (DC.dt (dc_gt (DE.db (de_at (db_var (i := 0)) (DE.db de_int))) (DE.db (de_at (db_var (i := 1)) (DE.db de_int))))))))))) (dss_one (ds_raise (xi_InvalidPoint V) rfl tk_def hr (by decide) rfl (g_InvalidPoint V) (da_cons (de_var (i := 1)) da_nil))) dss_nil)))
theorem c_want_points (V : WD K mg base) : CalA P w K mg base 4 (He.ga K "want_points") d_want_points := by
  obtain ⟨fd, F⟩ := V.d.def_ 18 (d := df_18) rfl
  exact cal_A F sc_want_points (ok_want_points V _) (fun _ _ _ _ _ _ us hl => match us, hl with | [_, _], _ => rfl)
/-! Deal_init -/
noncomputable def s_Deal_init_3_b : En → SR :=
  (sExpr (eCall d_want_names (aCons (eVar 10) aNil)))
noncomputable def s_Deal_init_3 : En → SR :=
  (sFor (iSeq (eTup (aCons (eVar 3) (aCons (eVar 4) (aCons (eVar 5) aNil))))) (gNm 10) s_Deal_init_3_b)
noncomputable def s_Deal_init_5 : En → SR :=
  (sIf (tNotD (tOfE (eCall d_is_count (aCons (eVar 9) aNil)))) (sRaise "InvalidNumber" ["value"] (aCons (eVar 9) aNil)) sNop)
noncomputable def s_Deal_init : En → SR :=
  (sSeq (sExpr (eCall d_want_name (aCons (eVar 1) aNil)))
  (sSeq (sExpr (eCall d_want_name (aCons (eVar 2) aNil)))
  (sSeq s_Deal_init_3
  (sSeq (sExpr (eCall d_want_points (aCons (eVar 6) (aCons (eVar 7) aNil))))
  (sSeq s_Deal_init_5
  (sSeq (sExpr (eCall d_want_few (aCons (eVar 3) (aCons (eC (.int (4))) (aCons (eC (.str "films")) aNil)))))
  (sSeq (sExpr (eCall d_want_few (aCons (eVar 4) (aCons (eC (.int (4))) (aCons (eC (.str "lands")) aNil)))))
  (sSeq (sExpr (eCall d_want_few (aCons (eVar 5) (aCons (eC (.int (3))) (aCons (eC (.str "ways")) aNil)))))
  (sSeq (sFldSet ["Deal"] "own_name" 0 (eVar 1))
  (sSeq (sFldSet ["Deal"] "own_house" 0 (eVar 2))
  (sSeq (sFldSet ["Deal"] "own_films" 0 (eUn tupleD (bOf (eUn (orU (orU sortedD sortedT) sortedK) (bVar 3)))))
  (sSeq (sFldSet ["Deal"] "own_lands" 0 (eUn tupleD (bOf (eUn (orU (orU sortedD sortedT) sortedK) (bVar 4)))))
  (sSeq (sFldSet ["Deal"] "own_ways" 0 (eUn tupleD (bOf (eUn (orU (orU sortedD sortedT) sortedK) (bVar 5)))))
  (sSeq (sFldSet ["Deal"] "own_begin" 0 (eVar 6))
  (sSeq (sFldSet ["Deal"] "own_end" 0 (eVar 7))
  (sSeq (sFldSet ["Deal"] "is_alone" 0 (eVar 8))
  (sFldSet ["Deal"] "own_price" 0 (eVar 9))))))))))))))))))
noncomputable def b_Deal_init : D → List D → Res (D × D) := runB 11 10 s_Deal_init
abbrev nm_Deal_init : List Str := ["self", "name", "house", "films", "lands", "ways", "begin", "end", "alone", "price", "names"]
theorem sc_Deal_init : FnScope nm_Deal_init ["self", "name", "house", "films", "lands", "ways", "begin", "end", "alone", "price"] (defScope (mth 31 0)) := ⟨rfl, rfl, rfl, by decide +kernel, rfl, by decide +kernel, by decide +kernel⟩
theorem ok_Deal_init (V : WD K mg base) (fA : Addr) : BodyOk P w K mg base 4 nm_Deal_init "Deal.__init__" (defScope (mth 31 0)) fA (defBody (mth 31 0)) s_Deal_init := by
  intro cdv A outer s H E hr
  have nd := (sc_Deal_init).nd
  exact (dss_cons (ds_expr (de_call (c_want_name V) tk_def hr (by decide) rfl (g_want_name V) (da_cons (de_var (i := 1)) da_nil)))
  (dss_cons (ds_expr (de_call (c_want_name V) tk_def hr (by decide) rfl (g_want_name V) (da_cons (de_var (i := 2)) da_nil)))
  (dss_cons (ds_for own_def rfl (di_seq (de_tup (da_cons (de_var (i := 3)) (da_cons (de_var (i := 4)) (da_cons (de_var (i := 5)) da_nil))))) (dg_name (i := 10) (vs := [10]) (by decide) nd) (dss_one (ds_expr (de_call (c_want_names V) tk_def hr (by decide) rfl (g_want_names V) (da_cons (de_var (i := 10)) da_nil)))))
  (dss_cons (ds_expr (de_call (c_want_points V) tk_def hr (by decide) rfl (g_want_points V) (da_cons (de_var (i := 6)) (da_cons (de_var (i := 7)) da_nil))))
  (dss_cons (ds_if (dt_not (dt_val (de_call (c_is_count V) tk_def hr (by decide) rfl (g_is_count V) (da_cons (de_var (i := 9)) da_nil)))) (dss_one (ds_raise (xi_InvalidNumber V) rfl tk_def hr (by decide) rfl (g_InvalidNumber V) (da_cons (de_var (i := 9)) da_nil))) dss_nil)
  (dss_cons (ds_expr (de_call (c_want_few V) tk_def hr (by decide) rfl (g_want_few V) (da_cons (de_var (i := 3)) (da_cons (de_gint rfl (gi_MOST_FILMS V)) (da_cons de_str da_nil)))))
  (dss_cons (ds_expr (de_call (c_want_few V) tk_def hr (by decide) rfl (g_want_few V) (da_cons (de_var (i := 4)) (da_cons (de_gint rfl (gi_MOST_LANDS V)) (da_cons de_str da_nil)))))
  (dss_cons (ds_expr (de_call (c_want_few V) tk_def hr (by decide) rfl (g_want_few V) (da_cons (de_var (i := 5)) (da_cons (de_gint rfl (gi_MOST_WAYS V)) (da_cons de_str da_nil)))))
  (dss_cons (ds_fldset (i := 0) (na_Deal_own_name V) (de_var (i := 1)))
  (dss_cons (ds_fldset (i := 0) (na_Deal_own_house V) (de_var (i := 2)))
  (dss_cons (ds_fldset (i := 0) (na_Deal_own_films V) (de_tuple1 (f_tuple V) (DN.de (dn_sortedB rfl hr (f_sorted V) (db_var (i := 3))))))
  (dss_cons (ds_fldset (i := 0) (na_Deal_own_lands V) (de_tuple1 (f_tuple V) (DN.de (dn_sortedB rfl hr (f_sorted V) (db_var (i := 4))))))
  (dss_cons (ds_fldset (i := 0) (na_Deal_own_ways V) (de_tuple1 (f_tuple V) (DN.de (dn_sortedB rfl hr (f_sorted V) (db_var (i := 5))))))
  (dss_cons (ds_fldset (i := 0) (na_Deal_own_begin V) (de_var (i := 6)))
  (dss_cons (ds_fldset (i := 0) (na_Deal_own_end V) (de_var (i := 7)))
  (dss_cons (ds_fldset (i := 0) (na_Deal_is_alone V) (de_var (i := 8)))
  (dss_one (ds_fldset (i := 0) (na_Deal_own_price V) (de_var (i := 9))))))))))))))))))))
noncomputable def dk_Deal_init_7_price : D → List D → List D → Res (D × D) := fun d as zs => b_Deal_init d (pickL [(0, 0), (0, 1), (0, 2), (0, 3), (0, 4), (0, 5), (0, 6), (1, 0), (2, 0)] as [.bl true] zs)
theorem ka_Deal_init_7_price (V : WD K mg base) : KalB P w K mg base 5 (He.ma K (He.ga K "Deal") "__init__") 7 ["price"] dk_Deal_init_7_price := by
  obtain ⟨fd, F⟩ := V.d.def_ 19 (d := df_19) rfl
  exact kal_BK (dds := [.bl true]) [(0, 0), (0, 1), (0, 2), (0, 3), (0, 4), (0, 5), (0, 6), (0, 7), (1, 0), (2, 0)] [(0, 0), (0, 1), (0, 2), (0, 3), (0, 4), (0, 5), (0, 6), (1, 0), (2, 0)] F sc_Deal_init (ok_Deal_init V _) 7 ["price"] [("alone", .bl true)] (by simp [He.DefD.kws]) (by simp [He.DefD.kws, He.Dv.v]) (fun F => ⟨_, _, rfl, rfl, rfl⟩) (fun _ _ _ => rfl) (fun _ _ _ _ _ _ us mv ws h1 h2 h3 => match us, mv, ws, h1, h2, h3 with | [_, _, _, _, _, _, _, _], [_], [_], _, _, _ => ⟨_, _, _, _, _, _, rfl, rfl, rfl⟩)
noncomputable def dk_Deal_init_0_price_end_begin_ways_lands_films_house_name : D → List D → List D → Res (D × D) := fun d as zs => b_Deal_init d (pickL [(2, 7), (2, 6), (2, 5), (2, 4), (2, 3), (2, 2), (2, 1), (1, 0), (2, 0)] as [.bl true] zs)
theorem ka_Deal_init_0_price_end_begin_ways_lands_films_house_name (V : WD K mg base) : KalB P w K mg base 5 (He.ma K (He.ga K "Deal") "__init__") 0 ["price", "end", "begin", "ways", "lands", "films", "house", "name"] dk_Deal_init_0_price_end_begin_ways_lands_films_house_name := by
  obtain ⟨fd, F⟩ := V.d.def_ 19 (d := df_19) rfl
  exact kal_BK (dds := [.bl true]) [(0, 0), (2, 7), (2, 6), (2, 5), (2, 4), (2, 3), (2, 2), (2, 1), (1, 0), (2, 0)] [(2, 7), (2, 6), (2, 5), (2, 4), (2, 3), (2, 2), (2, 1), (1, 0), (2, 0)] F sc_Deal_init (ok_Deal_init V _) 0 ["price", "end", "begin", "ways", "lands", "films", "house", "name"] [("alone", .bl true)] (by simp [He.DefD.kws]) (by simp [He.DefD.kws, He.Dv.v]) (fun F => ⟨_, _, rfl, rfl, rfl⟩) (fun _ _ _ => rfl) (fun _ _ _ _ _ _ us mv ws h1 h2 h3 => match us, mv, ws, h1, h2, h3 with | [_], [_], [_, _, _, _, _, _, _, _], _, _, _ => ⟨_, _, _, _, _, _, rfl, rfl, rfl⟩)
noncomputable def dk_Deal_init_7_alone_price : D → List D → List D → Res (D × D) := fun d as zs => b_Deal_init d (pickL [(0, 0), (0, 1), (0, 2), (0, 3), (0, 4), (0, 5), (0, 6), (2, 0), (2, 1)] as [] zs)
theorem ka_Deal_init_7_alone_price (V : WD K mg base) : KalB P w K mg base 5 (He.ma K (He.ga K "Deal") "__init__") 7 ["alone", "price"] dk_Deal_init_7_alone_price := by
  obtain ⟨fd, F⟩ := V.d.def_ 19 (d := df_19) rfl
  exact kal_BK (dds := []) [(0, 0), (0, 1), (0, 2), (0, 3), (0, 4), (0, 5), (0, 6), (0, 7), (2, 0), (2, 1)] [(0, 0), (0, 1), (0, 2), (0, 3), (0, 4), (0, 5), (0, 6), (2, 0), (2, 1)] F sc_Deal_init (ok_Deal_init V _) 7 ["alone", "price"] [] (by simp [He.DefD.kws]) (by simp [He.DefD.kws, He.Dv.v]) (fun F => rfl) (fun _ _ _ => rfl) (fun _ _ _ _ _ _ us mv ws h1 h2 h3 => match us, mv, ws, h1, h2, h3 with | [_, _, _, _, _, _, _, _], [], [_, _], _, _, _ => rfl)
/-! Deal_made -/
noncomputable def s_Deal_made_2 : En → SR :=
  (sRet (eMakeJ "Deal" 7 2 dk_Deal_init_7_alone_price (aCons (eVar 1) (aCons (eVar 2) (aCons (eUn (fldD ["Deal"] "own_films") (bVar 0)) (aCons (eUn (fldD ["Deal"] "own_lands") (bVar 0)) (aCons (eUn (fldD ["Deal"] "own_ways") (bVar 0)) (aCons (eVar 6) (aCons (eVar 7) aNil))))))) (aCons (eVar 4) (aCons (eVar 5) aNil))))
noncomputable def s_Deal_made : En → SR :=
  (sSeq (sAsg (eVar 3) (gTp 2 (gsCons (gNm 6) (gsCons (gNm 7) gsNil))))
  s_Deal_made_2)
noncomputable def d_Deal_made : List D → Res D := runF 8 6 s_Deal_made
abbrev nm_Deal_made : List Str := ["self", "name", "house", "points", "alone", "price", "begin", "end"]
theorem sc_Deal_made : FnScope nm_Deal_made ["self", "name", "house", "points", "alone", "price"] (defScope (mth 31 14)) := ⟨rfl, rfl, rfl, by decide +kernel, rfl, by decide +kernel, by decide +kernel⟩
theorem ok_Deal_made (V : WD K mg base) (fA : Addr) : BodyOk P w K mg base 6 nm_Deal_made "Deal.made" (defScope (mth 31 14)) fA (defBody (mth 31 14)) s_Deal_made := by
  intro cdv A outer s H E hr
  have nd := (sc_Deal_made).nd
  exact (dss_cons (ds_asg (de_var (i := 3)) (dg_tup (n := 2) rfl (dgs_cons (dg_name (i := 6) (vs := [6, 7]) (by decide) nd) (dgs_cons (dg_name (i := 7) (vs := [6, 7]) (by decide) nd) dgs_nil))))
  (dss_one (ds_ret (DN.de (dn_makeK (ka_Deal_init_7_alone_price V) tk_def hr (by decide) rfl (g_Deal V) (mk_Deal V) (da_cons (de_var (i := 1)) (da_cons (de_var (i := 2)) (da_cons (de_fld (na_Deal_own_films V) (db_var (i := 0))) (da_cons (de_fld (na_Deal_own_lands V) (db_var (i := 0))) (da_cons (de_fld (na_Deal_own_ways V) (db_var (i := 0))) (da_cons (de_var (i := 6)) (da_cons (de_var (i := 7)) da_nil))))))) (dk_cons (de_var (i := 4)) (dk_cons (de_var (i := 5)) dk_nil)))))))
theorem c_Deal_made (V : WD K mg base) : CalA P w K mg base 7 (He.ma K (He.ga K "Deal") "made") d_Deal_made := by
  obtain ⟨fd, F⟩ := V.d.def_ 20 (d := df_20) rfl
  exact cal_A F sc_Deal_made (ok_Deal_made V _) (fun _ _ _ _ _ _ us hl => match us, hl with | [_, _, _, _, _, _], _ => rfl)
/-! Deal_moved -/
noncomputable def s_Deal_moved_1 : En → SR :=
  (sIf (tNotD (tOfE (eCall d_is_integer (aCons (eVar 1) aNil)))) (sRaise "InvalidNumber" ["value"] (aCons (eVar 1) aNil)) sNop)
noncomputable def e_Deal_moved_1 : En → Res (D × En) :=
  (eLc (iSeq (eMeth "Deal" "points" d_Deal_points (eVar 0) aNil)) (gTp 2 (gsCons (gNm 3) (gsCons (gNm 4) gsNil))) tYesD (eTup (aCons (eVar 3) (aCons (eBin addI (bVar 4) (bVar 1)) aNil))) [3, 4])
noncomputable def s_Deal_moved : En → SR :=
  (sSeq s_Deal_moved_1
  (sSeq (sSet 2 (eUn tupleD (bOf e_Deal_moved_1)))
  (sRet (eMeth "Deal" "made" d_Deal_made (eVar 0) (aCons (eUn (fldD ["Deal"] "own_name") (bVar 0)) (aCons (eUn (fldD ["Deal"] "own_house") (bVar 0)) (aCons (eVar 2) (aCons (eUn (fldD ["Deal"] "is_alone") (bVar 0)) (aCons (eUn (fldD ["Deal"] "own_price") (bVar 0)) aNil)))))))))
noncomputable def d_Deal_moved : List D → Res D := runF 5 2 s_Deal_moved
abbrev nm_Deal_moved : List Str := ["self", "days", "points", "moment", "number"]
theorem sc_Deal_moved : FnScope nm_Deal_moved ["self", "days"] (defScope (mth 31 20)) := ⟨rfl, rfl, rfl, by decide +kernel, rfl, by decide +kernel, by decide +kernel⟩
theorem ok_Deal_moved (V : WD K mg base) (fA : Addr) : BodyOk P w K mg base 7 nm_Deal_moved "Deal.moved" (defScope (mth 31 20)) fA (defBody (mth 31 20)) s_Deal_moved := by
  intro cdv A outer s H E hr
  have nd := (sc_Deal_moved).nd
  exact (dss_cons (ds_if (dt_not (dt_val (de_call (c_is_integer V) tk_def hr (by decide) rfl (g_is_integer V) (da_cons (de_var (i := 1)) da_nil)))) (dss_one (ds_raise (xi_InvalidNumber V) rfl tk_def hr (by decide) rfl (g_InvalidNumber V) (da_cons (de_var (i := 1)) da_nil))) dss_nil)
  (dss_cons (ds_set (i := 2) nd (de_tuple1 (f_tuple V) (DN.de (dn_lc (own := [("moment", 3), ("number", 4)]) rfl nd (di_seq (de_meth0 (c := "Deal") (c_Deal_points V) tk_def hr (by decide) (g_Deal V) (cl_Deal V) (m_Deal_points V) (de_var (i := 0)))) (by refine ⟨rfl, ?_, ?_, ?_, ?_⟩ <;> first | exact of_decide_eq_true (by kernel_rfl) | decide +kernel) (fun _ _ _ _ _ => (dg_tup (n := 2) rfl (dgs_cons (dg_name (i := 3) (vs := [3, 4]) (by decide) nd) (dgs_cons (dg_name (i := 4) (vs := [3, 4]) (by decide) nd) dgs_nil)))) (fun _ _ _ _ _ => dts_nil) (fun _ _ _ _ _ => (de_tup (da_cons (de_var (i := 3)) (da_cons (de_add (db_var (i := 4)) (db_var (i := 1))) da_nil))))))))
  (dss_one (ds_ret (de_meth (c := "Deal") (c_Deal_made V) tk_def hr (by decide) (g_Deal V) (cl_Deal V) (m_Deal_made V) (de_var (i := 0)) (da_cons (de_fld (na_Deal_own_name V) (db_var (i := 0))) (da_cons (de_fld (na_Deal_own_house V) (db_var (i := 0))) (da_cons (de_var (i := 2)) (da_cons (de_fld (na_Deal_is_alone V) (db_var (i := 0))) (da_cons (de_fld (na_Deal_own_price V) (db_var (i := 0))) da_nil))))))))))
theorem c_Deal_moved (V : WD K mg base) : CalA P w K mg base 8 (He.ma K (He.ga K "Deal") "moved") d_Deal_moved := by
  obtain ⟨fd, F⟩ := V.d.def_ 21 (d := df_21) rfl
  exact cal_A F sc_Deal_moved (ok_Deal_moved V _) (fun _ _ _ _ _ _ us hl => match us, hl with | [_, _], _ => rfl)
/-! Deal_named -/
noncomputable def s_Deal_named : En → SR :=
  (sRet (eMeth "Deal" "made" d_Deal_made (eVar 0) (aCons (eVar 1) (aCons (eUn (fldD ["Deal"] "own_house") (bVar 0)) (aCons (eMeth "Deal" "points" d_Deal_points (eVar 0) aNil) (aCons (eUn (fldD ["Deal"] "is_alone") (bVar 0)) (aCons (eUn (fldD ["Deal"] "own_price") (bVar 0)) aNil)))))))
noncomputable def d_Deal_named : List D → Res D := runF 2 2 s_Deal_named
abbrev nm_Deal_named : List Str := ["self", "name"]
theorem sc_Deal_named : FnScope nm_Deal_named ["self", "name"] (defScope (mth 31 16)) := ⟨rfl, rfl, rfl, by decide +kernel, rfl, by decide +kernel, by decide +kernel⟩
theorem ok_Deal_named (V : WD K mg base) (fA : Addr) : BodyOk P w K mg base 7 nm_Deal_named "Deal.named" (defScope (mth 31 16)) fA (defBody (mth 31 16)) s_Deal_named := by
  intro cdv A outer s H E hr
  have nd := (sc_Deal_named).nd
  exact (dss_one (ds_ret (de_meth (c := "Deal") (c_Deal_made V) tk_def hr (by decide) (g_Deal V) (cl_Deal V) (m_Deal_made V) (de_var (i := 0)) (da_cons (de_var (i := 1)) (da_cons (de_fld (na_Deal_own_house V) (db_var (i := 0))) (da_cons (de_meth0 (c := "Deal") (c_Deal_points V) tk_def hr (by decide) (g_Deal V) (cl_Deal V) (m_Deal_points V) (de_var (i := 0))) (da_cons (de_fld (na_Deal_is_alone V) (db_var (i := 0))) (da_cons (de_fld (na_Deal_own_price V) (db_var (i := 0))) da_nil))))))))
theorem c_Deal_named (V : WD K mg base) : CalA P w K mg base 8 (He.ma K (He.ga K "Deal") "named") d_Deal_named := by
  obtain ⟨fd, F⟩ := V.d.def_ 22 (d := df_22) rfl
  exact cal_A F sc_Deal_named (ok_Deal_named V _) (fun _ _ _ _ _ _ us hl => match us, hl with | [_, _], _ => rfl)
/-! Deal_of_house -/
noncomputable def s_Deal_of_house : En → SR :=
  (sRet (eMeth "Deal" "made" d_Deal_made (eVar 0) (aCons (eUn (fldD ["Deal"] "own_name") (bVar 0)) (aCons (eVar 1) (aCons (eMeth "Deal" "points" d_Deal_points (eVar 0) aNil) (aCons (eUn (fldD ["Deal"] "is_alone") (bVar 0)) (aCons (eUn (fldD ["Deal"] "own_price") (bVar 0)) aNil)))))))
noncomputable def d_Deal_of_house : List D → Res D := runF 2 2 s_Deal_of_house
abbrev nm_Deal_of_house : List Str := ["self", "house"]
theorem sc_Deal_of_house : FnScope nm_Deal_of_house ["self", "house"] (defScope (mth 31 17)) := ⟨rfl, rfl, rfl, by decide +kernel, rfl, by decide +kernel, by decide +kernel⟩
theorem ok_Deal_of_house (V : WD K mg base) (fA : Addr) : BodyOk P w K mg base 7 nm_Deal_of_house "Deal.of_house" (defScope (mth 31 17)) fA (defBody (mth 31 17)) s_Deal_of_house := by
  intro cdv A outer s H E hr
  have nd := (sc_Deal_of_house).nd
  exact (dss_one (ds_ret (de_meth (c := "Deal") (c_Deal_made V) tk_def hr (by decide) (g_Deal V) (cl_Deal V) (m_Deal_made V) (de_var (i := 0)) (da_cons (de_fld (na_Deal_own_name V) (db_var (i := 0))) (da_cons (de_var (i := 1)) (da_cons (de_meth0 (c := "Deal") (c_Deal_points V) tk_def hr (by decide) (g_Deal V) (cl_Deal V) (m_Deal_points V) (de_var (i := 0))) (da_cons (de_fld (na_Deal_is_alone V) (db_var (i := 0))) (da_cons (de_fld (na_Deal_own_price V) (db_var (i := 0))) da_nil))))))))
theorem c_Deal_of_house (V : WD K mg base) : CalA P w K mg base 8 (He.ma K (He.ga K "Deal") "of_house") d_Deal_of_house := by
  obtain ⟨fd, F⟩ := V.d.def_ 23 (d := df_23) rfl
  exact cal_A F sc_Deal_of_house (ok_Deal_of_house V _) (fun _ _ _ _ _ _ us hl => match us, hl with | [_, _], _ => rfl)
/-! Deal_priced -/
noncomputable def s_Deal_priced : En → SR :=
  (sRet (eMeth "Deal" "made" d_Deal_made (eVar 0) (aCons (eUn (fldD ["Deal"] "own_name") (bVar 0)) (aCons (eUn (fldD ["Deal"] "own_house") (bVar 0)) (aCons (eMeth "Deal" "points" d_Deal_points (eVar 0) aNil) (aCons (eUn (fldD ["Deal"] "is_alone") (bVar 0)) (aCons (eVar 1) aNil)))))))
noncomputable def d_Deal_priced : List D → Res D := runF 2 2 s_Deal_priced
abbrev nm_Deal_priced : List Str := ["self", "price"]
theorem sc_Deal_priced : FnScope nm_Deal_priced ["self", "price"] (defScope (mth 31 18)) := ⟨rfl, rfl, rfl, by decide +kernel, rfl, by decide +kernel, by decide +kernel⟩
theorem ok_Deal_priced (V : WD K mg base) (fA : Addr) : BodyOk P w K mg base 7 nm_Deal_priced "Deal.priced" (defScope (mth 31 18)) fA (defBody (mth 31 18)) s_Deal_priced := by
  intro cdv A outer s H E hr
  have nd := (sc_Deal_priced).nd
  exact (dss_one (ds_ret (de_meth (c := "Deal") (c_Deal_made V) tk_def hr (by decide) (g_Deal V) (cl_Deal V) (m_Deal_made V) (de_var (i := 0)) (da_cons (de_fld (na_Deal_own_name V) (db_var (i := 0))) (da_cons (de_fld (na_Deal_own_house V) (db_var (i := 0))) (da_cons (de_meth0 (c := "Deal") (c_Deal_points V) tk_def hr (by decide) (g_Deal V) (cl_Deal V) (m_Deal_points V) (de_var (i := 0))) (da_cons (de_fld (na_Deal_is_alone V) (db_var (i := 0))) (da_cons (de_var (i := 1)) da_nil))))))))
theorem c_Deal_priced (V : WD K mg base) : CalA P w K mg base 8 (He.ma K (He.ga K "Deal") "priced") d_Deal_priced := by
  obtain ⟨fd, F⟩ := V.d.def_ 24 (d := df_24) rfl
  exact cal_A F sc_Deal_priced (ok_Deal_priced V _) (fun _ _ _ _ _ _ us hl => match us, hl with | [_, _], _ => rfl)
/-! lheard -/
abbrev nm_lheard : List Str := ["_law_call", "_law_e"]
theorem sc_lheard : FnScope nm_lheard ["_law_call"] (defScope (top 37)) := ⟨rfl, rfl, rfl, by decide +kernel, rfl, by decide +kernel, by decide +kernel⟩
noncomputable def sh_lheard (L : Sl) (ρ : Res D) : En → SR :=
  (sSeq (sTry 1 (sExpr (eAct L ρ)) [(["InvalidName"], ["InvalidNames", "InvalidPoint", "InvalidNumber", "TooMany"], xRetL (xCons (xC (.str "name")) (xCons (xRep (xFld ["InvalidName"] "value")) (xCons (xAnd (xIs ["InvalidName"]) (xIs ["InvalidName"])) xNil)))), (["InvalidNames"], ["InvalidPoint", "InvalidNumber", "TooMany"], xRetL (xCons (xC (.str "names")) (xCons (xRep (xFld ["InvalidNames"] "position")) (xCons (xIs ["InvalidNames"]) xNil)))), (["InvalidPoint"], ["InvalidNumber", "TooMany"], xRetL (xCons (xC (.str "point")) (xCons (xRep (xFld ["InvalidPoint"] "value")) (xCons (xIs ["InvalidPoint"]) xNil)))), (["InvalidNumber"], ["TooMany"], xRetL (xCons (xC (.str "number")) (xCons (xRep (xFld ["InvalidNumber"] "value")) (xCons (xIs ["InvalidNumber"]) xNil)))), (["TooMany"], [], xRetL (xCons (xC (.str "many")) (xCons (xFld ["TooMany"] "what") (xCons (xFld ["TooMany"] "limit") (xCons (xAnd (xIs ["TooMany"]) (xIs ["TooMany"])) xNil)))))])
  (sRet (eLst (aCons (eC (.str "told")) aNil))))
noncomputable def h_lheard : Res D → Option D := hOf 2 sh_lheard
theorem hs_lheard (V : WD K mg base) (cdv : Value) (A : Around) (outer : List Env) (s : Shared) (H : Hp) {k : Nat} (hr : Dl.Room k (A.deeper (PyProof.Rows.envOfC "_law_heard" (defScope (top 37)) s.heap.objs.size (He.ga K "_law_heard") cdv))) (L : Sl) (ρ : Res D)
    (act : ∀ (W : WX) (pn : List (Addr × Obj)) (xe : Value → Shared → Prop) (p1 p2 : Pos), Takes ((cxOf C8.CX0 P w K mg base nm_lheard "_law_heard" (defScope (top 37)) (He.ga K "_law_heard") cdv A outer s H C8.E0).tr pn xe) W → DE ((cxOf C8.CX0 P w K mg base nm_lheard "_law_heard" (defScope (top 37)) (He.ga K "_law_heard") cdv A outer s H C8.E0).tr pn xe) W (.Call (.Name "_law_call" p1) [] [] p2) (eAct L ρ)) :
    DSs (cxOf C8.CX0 P w K mg base nm_lheard "_law_heard" (defScope (top 37)) (He.ga K "_law_heard") cdv A outer s H C8.E0).nox noW (defBody (top 37)) (sh_lheard L ρ) := by
  have nd := (sc_lheard).nd
  exact (dss_cons (ds_try (i := 1) rfl rfl nd rfl rfl (fun W pn xe tk _ => dss_one (ds_expr (act W pn xe _ _ tk))) (.cons ⟨rfl, by decide, .inl (g_InvalidName V)⟩ (xm_InvalidName V) (xn_InvalidName V) (dxs_retL (dxs_cons dx_str (dxs_cons (dx_repr hr (f_repr V) (dx_fld (xf_InvalidName_value V) rfl)) (dxs_cons (dx_and (dx_is (xk_InvalidName_DaysError V) rfl (f_isinstance V) PyProof.Rows.boot_isinstance (fun a pn => pe_glob (v := .ref (He.ga K "DaysError")) rfl (g_DaysError V) rfl (by decide)) (fun _ _ _ k => k _ fun _ h => h) rfl) (dx_one (dx_is (xk_InvalidName_ValueError V) rfl (f_isinstance V) PyProof.Rows.boot_isinstance (fun a pn => pe_bltn (v := .ty "ValueError") rfl (f_ValueError V) PyProof.Rows.Boot.«ValueError» rfl (by decide) (by decide)) (fun _ _ _ k => k _ fun _ h => h) rfl))) dxs_nil))))
    (.cons ⟨rfl, by decide, .inl (g_InvalidNames V)⟩ (xm_InvalidNames V) (xn_InvalidNames V) (dxs_retL (dxs_cons dx_str (dxs_cons (dx_repr hr (f_repr V) (dx_fld (xf_InvalidNames_position V) rfl)) (dxs_cons (dx_is (xk_InvalidNames_DaysError V) rfl (f_isinstance V) PyProof.Rows.boot_isinstance (fun a pn => pe_glob (v := .ref (He.ga K "DaysError")) rfl (g_DaysError V) rfl (by decide)) (fun _ _ _ k => k _ fun _ h => h) rfl) dxs_nil))))
    (.cons ⟨rfl, by decide, .inl (g_InvalidPoint V)⟩ (xm_InvalidPoint V) (xn_InvalidPoint V) (dxs_retL (dxs_cons dx_str (dxs_cons (dx_repr hr (f_repr V) (dx_fld (xf_InvalidPoint_value V) rfl)) (dxs_cons (dx_is (xk_InvalidPoint_DaysError V) rfl (f_isinstance V) PyProof.Rows.boot_isinstance (fun a pn => pe_glob (v := .ref (He.ga K "DaysError")) rfl (g_DaysError V) rfl (by decide)) (fun _ _ _ k => k _ fun _ h => h) rfl) dxs_nil))))
    (.cons ⟨rfl, by decide, .inl (g_InvalidNumber V)⟩ (xm_InvalidNumber V) (xn_InvalidNumber V) (dxs_retL (dxs_cons dx_str (dxs_cons (dx_repr hr (f_repr V) (dx_fld (xf_InvalidNumber_value V) rfl)) (dxs_cons (dx_is (xk_InvalidNumber_DaysError V) rfl (f_isinstance V) PyProof.Rows.boot_isinstance (fun a pn => pe_glob (v := .ref (He.ga K "DaysError")) rfl (g_DaysError V) rfl (by decide)) (fun _ _ _ k => k _ fun _ h => h) rfl) dxs_nil))))
    (.cons ⟨rfl, by decide, .inl (g_TooMany V)⟩ (xm_TooMany V) (xn_TooMany V) (dxs_retL (dxs_cons dx_str (dxs_cons (dx_fld (xf_TooMany_what V) rfl) (dxs_cons (dx_fld (xf_TooMany_limit V) rfl) (dxs_cons (dx_and (dx_is (xk_TooMany_LimitError V) rfl (f_isinstance V) PyProof.Rows.boot_isinstance (fun a pn => pe_glob (v := .ref (He.ga K "LimitError")) rfl (g_LimitError V) rfl (by decide)) (fun _ _ _ k => k _ fun _ h => h) rfl) (dx_one (dx_is (xk_TooMany_ArithmeticError V) rfl (f_isinstance V) PyProof.Rows.boot_isinstance (fun a pn => pe_bltn (v := .ty "ArithmeticError") rfl (f_ArithmeticError V) PyProof.Rows.Boot.«ArithmeticError» rfl (by decide) (by decide)) (fun _ _ _ k => k _ fun _ h => h) rfl))) dxs_nil)))))
    .nil))))))
  (dss_one (ds_ret (DN.de (dn_lst (da_cons de_str da_nil))))))
/-! ldraw -/
noncomputable def s_ldraw_1 : En → SR :=
  (sIf (tOfE (eBin gtI (bOf (eBin ixG (bVar 0) (bOf (eC (.int 0))))) (bOf (eC (.int 0))))) (sSeq (sAsg (eBin divmodD (bOf (eBin ixG (bVar 0) (bOf (eC (.int 0))))) (bVar 1)) (gTp 2 (gsCons (gSetIx 0 (eC (.int 0))) (gsCons (gNm 2) gsNil))))
  (sRet (eVar 2))) sNop)
noncomputable def s_ldraw : En → SR :=
  (sSeq s_ldraw_1
  (sSeq (sAsg (eBin modI (bOf (eUn intD (bOf (eBin addI (bOf (eBin mulI (bOf (eBin ixG (bVar 0) (bOf (eC (.int 1))))) (bOf (eC (.int 39373))))) (bOf (eC (.int 14033))))))) (bOf (eC (.int 2147483629)))) (gSetIx 0 (eC (.int 1))))
  (sRet (eBin modI (bOf (eUn intD (bOf (eBin fdivI (bOf (eBin modI (bOf (eUn intD (bOf (eBin mulI (bOf (eBin ixG (bVar 0) (bOf (eC (.int 1))))) (bOf (eBin ixG (bVar 0) (bOf (eC (.int 1))))))))) (bOf (eC (.int 2147483563))))) (bOf (eC (.int 17))))))) (bVar 1)))))
noncomputable def b_ldraw : D → List D → Res (D × D) := runB 3 2 s_ldraw
abbrev nm_ldraw : List Str := ["_law_pot_here", "_law_many", "_law_digit"]
theorem sc_ldraw : FnScope nm_ldraw ["_law_pot_here", "_law_many"] (defScope (top 34)) := ⟨rfl, rfl, rfl, by decide +kernel, rfl, by decide +kernel, by decide +kernel⟩
theorem ok_ldraw (V : WD K mg base) (fA : Addr) : BodyOk P w K mg base 0 nm_ldraw "_law_draw" (defScope (top 34)) fA (defBody (top 34)) s_ldraw := by
  intro cdv A outer s H E hr
  have nd := (sc_ldraw).nd
  exact (dss_cons (ds_if (DC.dt (dc_gt (DE.db (de_at (db_var (i := 0)) (DE.db de_int))) (DE.db de_int))) (dss_cons (ds_asg (de_divmod rfl (f_divmod V) PyProof.Rows.boot_divmod (DE.db (de_at (db_var (i := 0)) (DE.db de_int))) (db_var (i := 1))) (dg_tup (n := 2) rfl (dgs_cons (dg_setix (i := 0) (vs := [2]) de_int) (dgs_cons (dg_name (i := 2) (vs := [2]) (by decide) nd) dgs_nil))))
  (dss_one (ds_ret (de_var (i := 2))))) dss_nil)
  (dss_cons (ds_asg (de_mod (DE.db (de_int1  (f_int V) (DE.db (de_add (DE.db (de_mul (DE.db (de_at (db_var (i := 0)) (DE.db de_int))) (DE.db de_int))) (DE.db de_int))))) (DE.db de_int)) (dg_setix (i := 0) (vs := []) de_int))
  (dss_one (ds_ret (de_mod (DE.db (de_int1  (f_int V) (DE.db (de_fdiv (DE.db (de_mod (DE.db (de_int1  (f_int V) (DE.db (de_mul (DE.db (de_at (db_var (i := 0)) (DE.db de_int))) (DE.db (de_at (db_var (i := 0)) (DE.db de_int))))))) (DE.db de_int))) (DE.db de_int))))) (db_var (i := 1)))))))
theorem c_ldraw (V : WD K mg base) : CalB P w K mg base 1 (He.ga K "_law_draw") b_ldraw := by
  obtain ⟨fd, F⟩ := V.d.def_ 26 (d := df_26) rfl
  exact cal_B F sc_ldraw (ok_ldraw V _) (fun _ _ _ _ _ _ us hl => match us, hl with | [_, _], _ => rfl)
/-! lpick -/
noncomputable def s_lpick : En → SR :=
  (sRet (eBin ixG (bVar 1) (bOf (eCallB b_ldraw 0 (aCons (eUn (orU lenD lenK) (bVar 1)) aNil)))))
noncomputable def b_lpick : D → List D → Res (D × D) := runB 2 2 s_lpick
abbrev nm_lpick : List Str := ["_law_pot_here", "_law_some_here"]
theorem sc_lpick : FnScope nm_lpick ["_law_pot_here", "_law_some_here"] (defScope (top 35)) := ⟨rfl, rfl, rfl, by decide +kernel, rfl, by decide +kernel, by decide +kernel⟩
theorem ok_lpick (V : WD K mg base) (fA : Addr) : BodyOk P w K mg base 1 nm_lpick "_law_pick" (defScope (top 35)) fA (defBody (top 35)) s_lpick := by
  intro cdv A outer s H E hr
  have nd := (sc_lpick).nd
  exact (dss_one (ds_ret (de_at (db_var (i := 1)) (DE.db (de_callB (i := 0) (c_ldraw V) tk_def hr (by decide) rfl (g_law_draw V) (da_cons (de_len  (f_len V) (db_var (i := 1))) da_nil))))))
theorem c_lpick (V : WD K mg base) : CalB P w K mg base 2 (He.ga K "_law_pick") b_lpick := by
  obtain ⟨fd, F⟩ := V.d.def_ 27 (d := df_27) rfl
  exact cal_B F sc_lpick (ok_lpick V _) (fun _ _ _ _ _ _ us hl => match us, hl with | [_, _], _ => rfl)
/-! lodd_name -/
noncomputable def s_lodd_name_1 : En → SR :=
  (sRet (eCallB b_lpick 0 (aCons (eLst (aCons (eC .non) (aCons (eC (.int 0)) (aCons (eC (.bl true)) (aCons (eC (.str "")) (aCons (eC (.str "day")) (aCons (eC (.str "A")) (aCons (eC (.str "a1")) (aCons (eC (.str "abcdefg")) (aCons (eC (.str "a b")) (aCons (eLst (aCons (eC (.str "a")) aNil)) (aCons (eTup (aCons (eC (.str "a")) aNil)) (aCons eDict0 (aCons (eC (.str "a_")) (aCons (eC (.str "a\n")) aNil))))))))))))))) aNil)))
noncomputable def s_lodd_name : En → SR :=
  s_lodd_name_1
noncomputable def b_lodd_name : D → List D → Res (D × D) := runB 1 1 s_lodd_name
abbrev nm_lodd_name : List Str := ["_law_pot_here"]
theorem sc_lodd_name : FnScope nm_lodd_name ["_law_pot_here"] (defScope (top 38)) := ⟨rfl, rfl, rfl, by decide +kernel, rfl, by decide +kernel, by decide +kernel⟩
theorem ok_lodd_name (V : WD K mg base) (fA : Addr) : BodyOk P w K mg base 2 nm_lodd_name "_law_odd_name" (defScope (top 38)) fA (defBody (top 38)) s_lodd_name := by
  intro cdv A outer s H E hr
  have nd := (sc_lodd_name).nd
  exact (dss_one (ds_ret (de_callB (i := 0) (c_lpick V) tk_def hr (by decide) rfl (g_law_pick V) (da_cons (DN.de (dn_lst (da_cons de_non (da_cons de_int (da_cons de_bl (da_cons de_str (da_cons de_str (da_cons de_str (da_cons de_str (da_cons de_str (da_cons de_str (da_cons (DN.de (dn_lst (da_cons de_str da_nil))) (da_cons (de_tup (da_cons de_str da_nil)) (da_cons (DN.de dn_dict0) (da_cons de_str (da_cons de_str da_nil)))))))))))))))) da_nil))))
theorem c_lodd_name (V : WD K mg base) : CalB P w K mg base 3 (He.ga K "_law_odd_name") b_lodd_name := by
  obtain ⟨fd, F⟩ := V.d.def_ 28 (d := df_28) rfl
  exact cal_B F sc_lodd_name (ok_lodd_name V _) (fun _ _ _ _ _ _ us hl => match us, hl with | [_], _ => rfl)
/-! lderived_right -/
noncomputable def l_lderived_right_1 : En → Res (D × En) :=
  (eMeth "Deal" "named" d_Deal_named (eVar 1) (aCons (eVar 2) aNil))
noncomputable def l_lderived_right_2 : En → Res (D × En) :=
  (eMeth "Deal" "of_house" d_Deal_of_house (eVar 1) (aCons (eVar 2) aNil))
noncomputable def s_lderived_right_4 : En → SR :=
  (sIf (tOfE (eBin neD (bVar 4) (bOf (eBin repD (bOf (eLst (aCons (eLst (aCons (eC (.str "name")) (aCons (eUn (orU (orU (orU reprB reprD) reprK) reprS) (bVar 2)) (aCons (eC (.bl true)) aNil)))) aNil))) (bOf (eC (.int 2))))))) (sRet (eC (.bl false))) sNop)
noncomputable def l_lderived_right_3 : En → Res (D × En) :=
  (eMeth "Deal" "priced" d_Deal_priced (eVar 1) (aCons (eVar 2) aNil))
noncomputable def l_lderived_right_4 : En → Res (D × En) :=
  (eMeth "Deal" "moved" d_Deal_moved (eVar 1) (aCons (eVar 2) aNil))
noncomputable def l_lderived_right_5 : En → Res (D × En) :=
  (eMeth "Deal" "priced" d_Deal_priced (eVar 1) (aCons (eUn negI (bOf (eC (.int 1)))) aNil))
noncomputable def s_lderived_right_8 : En → SR :=
  (sIf (tOrD (tOfE (eBin neD (bVar 4) (bOf (eBin repD (bOf (eLst (aCons (eLst (aCons (eC (.str "number")) (aCons (eUn (orU (orU (orU reprB reprD) reprK) reprS) (bVar 2)) (aCons (eC (.bl true)) aNil)))) aNil))) (bOf (eC (.int 2))))))) (tOfE (eBin neD (bOf (eHeard h_lheard l_lderived_right_5)) (bOf (eLst (aCons (eC (.str "number")) (aCons (eC (.str "-1")) (aCons (eC (.bl true)) aNil)))))))) (sRet (eC (.bl false))) sNop)
noncomputable def l_lderived_right_6 : En → Res (D × En) :=
  (eMeth "Deal" "moved" d_Deal_moved (eVar 1) (aCons (eUn negI (bOf (eC (.int 1)))) aNil))
noncomputable def l_lderived_right_7 : En → Res (D × En) :=
  (eMeth "Deal" "priced" d_Deal_priced (eVar 1) (aCons (eC (.int 0)) aNil))
noncomputable def l_lderived_right_8 : En → Res (D × En) :=
  (eMeth "Deal" "named" d_Deal_named (eVar 1) (aCons (eC (.str "q")) aNil))
noncomputable def s_lderived_right : En → SR :=
  (sSeq (sAsg (eTup (aCons (eCallB b_lodd_name 0 aNil) (aCons (eReprO "Deal" d_Deal_repr (eVar 1)) aNil))) (gTp 2 (gsCons (gNm 2) (gsCons (gNm 3) gsNil))))
  (sSeq (sOwn 4 (eLst (aCons (eHeard h_lheard l_lderived_right_1) aNil)))
  (sSeq (sAppend 4 (eHeard h_lheard l_lderived_right_2))
  (sSeq s_lderived_right_4
  (sSeq (sSet 2 (eCallB b_lpick 0 (aCons (eLst (aCons (eC .non) (aCons (eC (.bl true)) (aCons (eC (.str "1")) (aCons (eLst aNil) (aCons (eTup (aCons (eC (.int 2)) aNil)) (aCons eDict0 aNil))))))) aNil)))
  (sSeq (sOwn 4 (eLst (aCons (eHeard h_lheard l_lderived_right_3) aNil)))
  (sSeq (sAppend 4 (eHeard h_lheard l_lderived_right_4))
  (sSeq s_lderived_right_8
  (sSeq (sOwn 5 (eLst (aCons (eHeard h_lheard l_lderived_right_6) aNil)))
  (sSeq (sAppend 5 (eHeard h_lheard l_lderived_right_7))
  (sSeq (sAppend 5 (eHeard h_lheard l_lderived_right_8))
  (sRet (eAnd (eBin eqD (bVar 5) (bOf (eBin repD (bOf (eLst (aCons (eLst (aCons (eC (.str "told")) aNil)) aNil))) (bOf (eC (.int 3)))))) (eBin eqD (bOf (eReprO "Deal" d_Deal_repr (eVar 1))) (bVar 3)))))))))))))))
noncomputable def b_lderived_right : D → List D → Res (D × D) := runB 6 2 s_lderived_right
abbrev nm_lderived_right : List Str := ["_law_pot_here", "_law_pact", "_law_odd", "_law_kept", "_law_told", "_law_good"]
theorem sc_lderived_right : FnScope nm_lderived_right ["_law_pot_here", "_law_pact"] (defScope (top 48)) := ⟨rfl, rfl, rfl, by decide +kernel, rfl, by decide +kernel, by decide +kernel⟩
theorem ok_lderived_right (V : WD K mg base) (fA : Addr) : BodyOkL P w K mg base 10 nm_lderived_right "_law_derived_right" (defScope (top 48)) fA (defBody (top 48)) s_lderived_right := by
  intro cdv A outer s H E ct hr
  have nd := (sc_lderived_right).nd
  obtain ⟨fd_lheard, F_lheard⟩ := V.d.def_ 25 (d := df_25) rfl
  exact (dss_cons (ds_asg (de_tup (da_cons (de_callB (i := 0) (c_lodd_name V) tk_def hr (by decide) rfl (g_law_odd_name V) da_nil) (da_cons (de_reprO (c := "Deal") (c_Deal_repr V) tk_def hr (by decide) (g_Deal V) (m_Deal_repr V) (f_repr V) (de_var (i := 1))) da_nil))) (dg_tup (n := 2) rfl (dgs_cons (dg_name (i := 2) (vs := [2, 3]) (by decide) nd) (dgs_cons (dg_name (i := 3) (vs := [2, 3]) (by decide) nd) dgs_nil))))
  (dss_cons (ds_own (i := 4) nd (dn_lst (da_cons (de_heardF F_lheard sc_lheard (fun _ _ _ _ _ _ us hl => match us, hl with | [_], _ => rfl) (fun cdv s H L ρ act => hs_lheard V cdv _ _ s H (hr.deeper _) L ρ act) hOf_ind rfl (g_law_heard V) ct hr (fun E A outer s H f c' hr => (de_meth (c := "Deal") (c_Deal_named V) tk_lam hr (by decide) (g_Deal V) (cl_Deal V) (m_Deal_named V) (de_var (i := 1)) (da_cons (de_var (i := 2)) da_nil))) (LamX.lamS_by (by kernel_rfl))) da_nil)))
  (dss_cons (ds_append (i := 4) (de_heardF F_lheard sc_lheard (fun _ _ _ _ _ _ us hl => match us, hl with | [_], _ => rfl) (fun cdv s H L ρ act => hs_lheard V cdv _ _ s H (hr.deeper _) L ρ act) hOf_ind rfl (g_law_heard V) ct hr (fun E A outer s H f c' hr => (de_meth (c := "Deal") (c_Deal_of_house V) tk_lam hr (by decide) (g_Deal V) (cl_Deal V) (m_Deal_of_house V) (de_var (i := 1)) (da_cons (de_var (i := 2)) da_nil))) (LamX.lamS_by (by kernel_rfl))))
  (dss_cons (ds_if (DC.dt (dc_ne hr (db_var (i := 4)) (DE.db (DN.de (dn_rep (DE.db (DN.de (dn_lst (da_cons (DN.de (dn_lst (da_cons de_str (da_cons (de_reprS hr (f_repr V) (db_var (i := 2))) (da_cons de_bl da_nil))))) da_nil)))) (DE.db de_int)))))) (dss_one (ds_ret de_bl)) dss_nil)
  (dss_cons (ds_set (i := 2) nd (de_callB (i := 0) (c_lpick V) tk_def hr (by decide) rfl (g_law_pick V) (da_cons (DN.de (dn_lst (da_cons de_non (da_cons de_bl (da_cons de_str (da_cons (DN.de (dn_lst da_nil)) (da_cons (de_tup (da_cons de_int da_nil)) (da_cons (DN.de dn_dict0) da_nil)))))))) da_nil)))
  (dss_cons (ds_own (i := 4) nd (dn_lst (da_cons (de_heardF F_lheard sc_lheard (fun _ _ _ _ _ _ us hl => match us, hl with | [_], _ => rfl) (fun cdv s H L ρ act => hs_lheard V cdv _ _ s H (hr.deeper _) L ρ act) hOf_ind rfl (g_law_heard V) ct hr (fun E A outer s H f c' hr => (de_meth (c := "Deal") (c_Deal_priced V) tk_lam hr (by decide) (g_Deal V) (cl_Deal V) (m_Deal_priced V) (de_var (i := 1)) (da_cons (de_var (i := 2)) da_nil))) (LamX.lamS_by (by kernel_rfl))) da_nil)))
  (dss_cons (ds_append (i := 4) (de_heardF F_lheard sc_lheard (fun _ _ _ _ _ _ us hl => match us, hl with | [_], _ => rfl) (fun cdv s H L ρ act => hs_lheard V cdv _ _ s H (hr.deeper _) L ρ act) hOf_ind rfl (g_law_heard V) ct hr (fun E A outer s H f c' hr => (de_meth (c := "Deal") (c_Deal_moved V) tk_lam hr (by decide) (g_Deal V) (cl_Deal V) (m_Deal_moved V) (de_var (i := 1)) (da_cons (de_var (i := 2)) da_nil))) (LamX.lamS_by (by kernel_rfl))))
  (dss_cons (ds_if (DW.dt (dw_or (DC.dt (dc_ne hr (db_var (i := 4)) (DE.db (DN.de (dn_rep (DE.db (DN.de (dn_lst (da_cons (DN.de (dn_lst (da_cons de_str (da_cons (de_reprS hr (f_repr V) (db_var (i := 2))) (da_cons de_bl da_nil))))) da_nil)))) (DE.db de_int)))))) (dw_or1 (DC.dt (dc_ne hr (DE.db (de_heardF F_lheard sc_lheard (fun _ _ _ _ _ _ us hl => match us, hl with | [_], _ => rfl) (fun cdv s H L ρ act => hs_lheard V cdv _ _ s H (hr.deeper _) L ρ act) hOf_ind rfl (g_law_heard V) ct hr (fun E A outer s H f c' hr => (de_meth (c := "Deal") (c_Deal_priced V) tk_lam hr (by decide) (g_Deal V) (cl_Deal V) (m_Deal_priced V) (de_var (i := 1)) (da_cons (de_neg (DE.db de_int)) da_nil))) (LamX.lamS_by (by kernel_rfl)))) (DE.db (DN.de (dn_lst (da_cons de_str (da_cons de_str (da_cons de_bl da_nil))))))))))) (dss_one (ds_ret de_bl)) dss_nil)
  (dss_cons (ds_own (i := 5) nd (dn_lst (da_cons (de_heardF F_lheard sc_lheard (fun _ _ _ _ _ _ us hl => match us, hl with | [_], _ => rfl) (fun cdv s H L ρ act => hs_lheard V cdv _ _ s H (hr.deeper _) L ρ act) hOf_ind rfl (g_law_heard V) ct hr (fun E A outer s H f c' hr => (de_meth (c := "Deal") (c_Deal_moved V) tk_lam hr (by decide) (g_Deal V) (cl_Deal V) (m_Deal_moved V) (de_var (i := 1)) (da_cons (de_neg (DE.db de_int)) da_nil))) (LamX.lamS_by (by kernel_rfl))) da_nil)))
  (dss_cons (ds_append (i := 5) (de_heardF F_lheard sc_lheard (fun _ _ _ _ _ _ us hl => match us, hl with | [_], _ => rfl) (fun cdv s H L ρ act => hs_lheard V cdv _ _ s H (hr.deeper _) L ρ act) hOf_ind rfl (g_law_heard V) ct hr (fun E A outer s H f c' hr => (de_meth (c := "Deal") (c_Deal_priced V) tk_lam hr (by decide) (g_Deal V) (cl_Deal V) (m_Deal_priced V) (de_var (i := 1)) (da_cons de_int da_nil))) (LamX.lamS_by (by kernel_rfl))))
  (dss_cons (ds_append (i := 5) (de_heardF F_lheard sc_lheard (fun _ _ _ _ _ _ us hl => match us, hl with | [_], _ => rfl) (fun cdv s H L ρ act => hs_lheard V cdv _ _ s H (hr.deeper _) L ρ act) hOf_ind rfl (g_law_heard V) ct hr (fun E A outer s H f c' hr => (de_meth (c := "Deal") (c_Deal_named V) tk_lam hr (by decide) (g_Deal V) (cl_Deal V) (m_Deal_named V) (de_var (i := 1)) (da_cons de_str da_nil))) (LamX.lamS_by (by kernel_rfl))))
  (dss_one (ds_ret (de_and (DC.de (dc_eq hr (db_var (i := 5)) (DE.db (DN.de (dn_rep (DE.db (DN.de (dn_lst (da_cons (DN.de (dn_lst (da_cons de_str da_nil))) da_nil)))) (DE.db de_int)))))) (de_one (DC.de (dc_eq hr (DE.db (de_reprO (c := "Deal") (c_Deal_repr V) tk_def hr (by decide) (g_Deal V) (m_Deal_repr V) (f_repr V) (de_var (i := 1)))) (db_var (i := 3)))))))))))))))))))
theorem c_lderived_right (V : WD K mg base) : CalB P w K mg base 11 (He.ga K "_law_derived_right") b_lderived_right := by
  obtain ⟨fd, F⟩ := V.d.def_ 29 (d := df_29) rfl
  exact cal_BL F sc_lderived_right (V.code (by decide +kernel)) (ok_lderived_right V _) (fun _ _ _ _ _ _ us hl => match us, hl with | [_, _], _ => rfl)
/-! lerrors_right -/
noncomputable def e_lerrors_right_1 : En → Res (D × En) :=
  (eLc (iSeq (eVar 0)) (gNm 1) tYesD (eXfld ["InvalidName", "InvalidNumber", "InvalidPoint"] "value" (eVar 1)) [1])
noncomputable def s_lerrors_right_2 : En → SR :=
  (sIf (tOrD (tOfE (eBin neD (bOf e_lerrors_right_1) (bOf (eLst (aCons (eC (.int 7)) (aCons (eC .non) (aCons (eC (.str "x")) aNil))))))) (tOfE (eBin neD (bOf (eXfld ["InvalidNames"] "position" (eXv "InvalidNames" ["position"] [(0, 0)] 1 0 (aCons (eC (.int 3)) aNil) aNil))) (bOf (eC (.int 3)))))) (sRet (eC (.bl false))) sNop)
noncomputable def s_lerrors_right_3 : En → SR :=
  (sRet (eBin eqD (bOf (eLst (aCons (eXfld ["TooMany"] "what" (eXv "TooMany" ["what", "limit"] [(0, 0), (0, 1)] 2 0 (aCons (eC (.str "a")) (aCons (eC (.int 2)) aNil)) aNil)) (aCons (eXfld ["TooMany"] "limit" (eXv "TooMany" ["what", "limit"] [(2, 0), (2, 1)] 0 2 aNil (aCons (eC (.str "a")) (aCons (eC (.int 2)) aNil)))) aNil)))) (bOf (eLst (aCons (eC (.str "a")) (aCons (eC (.int 2)) aNil))))))
noncomputable def s_lerrors_right : En → SR :=
  (sSeq (sSet 0 (eLst (aCons (eXv "InvalidName" ["value"] [(0, 0)] 1 0 (aCons (eC (.int 7)) aNil) aNil) (aCons (eXv "InvalidPoint" ["value"] [(0, 0)] 1 0 (aCons (eC .non) aNil) aNil) (aCons (eXv "InvalidNumber" ["value"] [(0, 0)] 1 0 (aCons (eC (.str "x")) aNil) aNil) aNil)))))
  (sSeq s_lerrors_right_2
  s_lerrors_right_3))
noncomputable def d_lerrors_right : List D → Res D := runF 2 0 s_lerrors_right
abbrev nm_lerrors_right : List Str := ["_law_some_here", "_law_e"]
theorem sc_lerrors_right : FnScope nm_lerrors_right [] (defScope (top 49)) := ⟨rfl, rfl, rfl, by decide +kernel, rfl, by decide +kernel, by decide +kernel⟩
theorem ok_lerrors_right (V : WD K mg base) (fA : Addr) : BodyOk P w K mg base 2 nm_lerrors_right "_law_errors_right" (defScope (top 49)) fA (defBody (top 49)) s_lerrors_right := by
  intro cdv A outer s H E hr
  have nd := (sc_lerrors_right).nd
  exact (dss_cons (ds_set (i := 0) nd (DN.de (dn_lst (da_cons (de_xv (xk_InvalidName_1_ V) hr (by decide) rfl (g_InvalidName V) (da_cons de_int da_nil)) (da_cons (de_xv (xk_InvalidPoint_1_ V) hr (by decide) rfl (g_InvalidPoint V) (da_cons de_non da_nil)) (da_cons (de_xv (xk_InvalidNumber_1_ V) hr (by decide) rfl (g_InvalidNumber V) (da_cons de_str da_nil)) da_nil))))))
  (dss_cons (ds_if (DW.dt (dw_or (DC.dt (dc_ne hr (DE.db (DN.de (dn_lc (own := [("_law_e", 1)]) rfl nd (di_seq (de_var (i := 0))) (by refine ⟨rfl, ?_, ?_, ?_, ?_⟩ <;> first | exact of_decide_eq_true (by kernel_rfl) | decide +kernel) (fun _ _ _ _ _ => (dg_name (i := 1) (vs := [1]) (by decide) nd)) (fun _ _ _ _ _ => dts_nil) (fun _ _ _ _ _ => (de_xfld (xv_InvalidName_InvalidNumber_InvalidPoint_value V) (de_var (i := 1))))))) (DE.db (DN.de (dn_lst (da_cons de_int (da_cons de_non (da_cons de_str da_nil)))))))) (dw_or1 (DC.dt (dc_ne hr (DE.db (de_xfld (xv_InvalidNames_position V) (de_xv (xk_InvalidNames_1_ V) hr (by decide) rfl (g_InvalidNames V) (da_cons de_int da_nil)))) (DE.db de_int)))))) (dss_one (ds_ret de_bl)) dss_nil)
  (dss_one (ds_ret (DC.de (dc_eq hr (DE.db (DN.de (dn_lst (da_cons (de_xfld (xv_TooMany_what V) (de_xv (xk_TooMany_2_ V) hr (by decide) rfl (g_TooMany V) (da_cons de_str (da_cons de_int da_nil)))) (da_cons (de_xfld (xv_TooMany_limit V) (de_xvK (xk_TooMany_0_what_limit V) hr (by decide) rfl (g_TooMany V) (dk_cons de_str (dk_cons de_int dk_nil)))) da_nil))))) (DE.db (DN.de (dn_lst (da_cons de_str (da_cons de_int da_nil)))))))))))
theorem c_lerrors_right (V : WD K mg base) : CalA P w K mg base 3 (He.ga K "_law_errors_right") d_lerrors_right := by
  obtain ⟨fd, F⟩ := V.d.def_ 30 (d := df_30) rfl
  exact cal_A F sc_lerrors_right (ok_lerrors_right V _) (fun _ _ _ _ _ _ us hl => match us, hl with | [], _ => rfl)
/-! Deal_cells -/
noncomputable def e_Deal_cells_1 : En → Res (D × En) :=
  (eLc (iSeq (eUn (fldD ["Deal"] "own_ways") (bVar 0))) (gNm 4) tYesD (eTup (aCons (eVar 2) (aCons (eVar 3) (aCons (eVar 4) aNil)))) [4])
noncomputable def s_Deal_cells_2_1_b : En → SR :=
  (sExtend 1 e_Deal_cells_1)
noncomputable def s_Deal_cells_2_1 : En → SR :=
  (sFor (iSeq (eUn (fldD ["Deal"] "own_lands") (bVar 0))) (gNm 3) s_Deal_cells_2_1_b)
noncomputable def s_Deal_cells_2 : En → SR :=
  (sFor (iSeq (eUn (fldD ["Deal"] "own_films") (bVar 0))) (gNm 2) s_Deal_cells_2_1)
noncomputable def s_Deal_cells : En → SR :=
  (sSeq (sOwn 1 (eLst aNil))
  (sSeq s_Deal_cells_2
  (sRet (eVar 1))))
noncomputable def d_Deal_cells : List D → Res D := runF 5 1 s_Deal_cells
abbrev nm_Deal_cells : List Str := ["self", "found", "film", "land", "way"]
theorem sc_Deal_cells : FnScope nm_Deal_cells ["self"] (defScope (mth 31 10)) := ⟨rfl, rfl, rfl, by decide +kernel, rfl, by decide +kernel, by decide +kernel⟩
theorem ok_Deal_cells (V : WD K mg base) (fA : Addr) : BodyOk P w K mg base 0 nm_Deal_cells "Deal.cells" (defScope (mth 31 10)) fA (defBody (mth 31 10)) s_Deal_cells := by
  intro cdv A outer s H E hr
  have nd := (sc_Deal_cells).nd
  exact (dss_cons (ds_own (i := 1) nd (dn_lst da_nil))
  (dss_cons (ds_for own_def rfl (di_seq (de_fld (na_Deal_own_films V) (db_var (i := 0)))) (dg_name (i := 2) (vs := [2]) (by decide) nd) (dss_one (ds_for own_def rfl (di_seq (de_fld (na_Deal_own_lands V) (db_var (i := 0)))) (dg_name (i := 3) (vs := [3]) (by decide) nd) (dss_one (ds_extend (i := 1) (DN.de (dn_lc (own := [("way", 4)]) rfl nd (di_seq (de_fld (na_Deal_own_ways V) (db_var (i := 0)))) (by refine ⟨rfl, ?_, ?_, ?_, ?_⟩ <;> first | exact of_decide_eq_true (by kernel_rfl) | decide +kernel) (fun _ _ _ _ _ => (dg_name (i := 4) (vs := [4]) (by decide) nd)) (fun _ _ _ _ _ => dts_nil) (fun _ _ _ _ _ => (de_tup (da_cons (de_var (i := 2)) (da_cons (de_var (i := 3)) (da_cons (de_var (i := 4)) da_nil))))))))))))
  (dss_one (ds_ret (de_var (i := 1))))))
theorem c_Deal_cells (V : WD K mg base) : CalA P w K mg base 1 (He.ma K (He.ga K "Deal") "cells") d_Deal_cells := by
  obtain ⟨fd, F⟩ := V.d.def_ 31 (d := df_31) rfl
  exact cal_A F sc_Deal_cells (ok_Deal_cells V _) (fun _ _ _ _ _ _ us hl => match us, hl with | [_], _ => rfl)
/-! Deal_len -/
noncomputable def s_Deal_len : En → SR :=
  (sRet (eUn (orU lenD lenK) (bOf (eMeth "Deal" "cells" d_Deal_cells (eVar 0) aNil))))
noncomputable def d_Deal_len : List D → Res D := runF 1 1 s_Deal_len
abbrev nm_Deal_len : List Str := ["self"]
theorem sc_Deal_len : FnScope nm_Deal_len ["self"] (defScope (mth 31 25)) := ⟨rfl, rfl, rfl, by decide +kernel, rfl, by decide +kernel, by decide +kernel⟩
theorem ok_Deal_len (V : WD K mg base) (fA : Addr) : BodyOk P w K mg base 1 nm_Deal_len "Deal.__len__" (defScope (mth 31 25)) fA (defBody (mth 31 25)) s_Deal_len := by
  intro cdv A outer s H E hr
  have nd := (sc_Deal_len).nd
  exact (dss_one (ds_ret (de_len  (f_len V) (DE.db (de_meth0 (c := "Deal") (c_Deal_cells V) tk_def hr (by decide) (g_Deal V) (cl_Deal V) (m_Deal_cells V) (de_var (i := 0)))))))
theorem c_Deal_len (V : WD K mg base) : CalA P w K mg base 2 (He.ma K (He.ga K "Deal") "__len__") d_Deal_len := by
  obtain ⟨fd, F⟩ := V.d.def_ 32 (d := df_32) rfl
  exact cal_A F sc_Deal_len (ok_Deal_len V _) (fun _ _ _ _ _ _ us hl => match us, hl with | [_], _ => rfl)
/-! lmade -/
noncomputable def s_lmade_1 : En → SR :=
  (sRet (eMakeJ "Deal" 7 1 dk_Deal_init_7_price (aCons (eBin ixG (bVar 0) (bOf (eC (.int 0)))) (aCons (eBin ixG (bVar 0) (bOf (eC (.int 1)))) (aCons (eBin ixG (bVar 0) (bOf (eC (.int 2)))) (aCons (eBin ixG (bVar 0) (bOf (eC (.int 3)))) (aCons (eBin ixG (bVar 0) (bOf (eC (.int 4)))) (aCons (eBin ixG (bVar 0) (bOf (eC (.int 5)))) (aCons (eBin ixG (bVar 0) (bOf (eC (.int 6)))) aNil))))))) (aCons (eBin ixG (bVar 0) (bOf (eC (.int 7)))) aNil)))
noncomputable def s_lmade : En → SR :=
  s_lmade_1
noncomputable def d_lmade : List D → Res D := runF 1 1 s_lmade
abbrev nm_lmade : List Str := ["_law_parts_here"]
theorem sc_lmade : FnScope nm_lmade ["_law_parts_here"] (defScope (top 42)) := ⟨rfl, rfl, rfl, by decide +kernel, rfl, by decide +kernel, by decide +kernel⟩
theorem ok_lmade (V : WD K mg base) (fA : Addr) : BodyOk P w K mg base 6 nm_lmade "_law_made" (defScope (top 42)) fA (defBody (top 42)) s_lmade := by
  intro cdv A outer s H E hr
  have nd := (sc_lmade).nd
  exact (dss_one (ds_ret (DN.de (dn_makeK (ka_Deal_init_7_price V) tk_def hr (by decide) rfl (g_Deal V) (mk_Deal V) (da_cons (de_at (db_var (i := 0)) (DE.db de_int)) (da_cons (de_at (db_var (i := 0)) (DE.db de_int)) (da_cons (de_at (db_var (i := 0)) (DE.db de_int)) (da_cons (de_at (db_var (i := 0)) (DE.db de_int)) (da_cons (de_at (db_var (i := 0)) (DE.db de_int)) (da_cons (de_at (db_var (i := 0)) (DE.db de_int)) (da_cons (de_at (db_var (i := 0)) (DE.db de_int)) da_nil))))))) (dk_cons (de_at (db_var (i := 0)) (DE.db de_int)) dk_nil)))))
theorem c_lmade (V : WD K mg base) : CalA P w K mg base 7 (He.ga K "_law_made") d_lmade := by
  obtain ⟨fd, F⟩ := V.d.def_ 33 (d := df_33) rfl
  exact cal_A F sc_lmade (ok_lmade V _) (fun _ _ _ _ _ _ us hl => match us, hl with | [_], _ => rfl)
/-! llimits_right -/
noncomputable def s_llimits_right_1 : En → SR :=
  (sSet 1 (eBin catL (bOf (eBin catL (bOf (eSl slL (bVar 0) doNone (doSome (eC (.int 2))))) (bOf (eLst (aCons (eLst (aCons (eC (.str "a")) (aCons (eC (.str "b")) (aCons (eC (.str "c")) (aCons (eC (.str "d")) aNil))))) (aCons (eLst (aCons (eC (.str "a")) (aCons (eC (.str "b")) (aCons (eC (.str "c")) (aCons (eC (.str "d")) aNil))))) (aCons (eLst (aCons (eC (.str "a")) (aCons (eC (.str "b")) (aCons (eC (.str "c")) aNil)))) aNil))))))) (bOf (eSl slL (bVar 0) (doSome (eC (.int 5))) doNone))))
noncomputable def l_llimits_right_1 : En → Res (D × En) :=
  (eCall d_lmade (aCons (eVar 1) aNil))
noncomputable def s_llimits_right_2 : En → SR :=
  (sIf (tOrD (tOfE (eBin neD (bOf (eHeard h_lheard l_llimits_right_1)) (bOf (eLst (aCons (eC (.str "told")) aNil))))) (tOfE (eBin neD (bOf (eLenO "Deal" d_Deal_len (eCall d_lmade (aCons (eVar 1) aNil)))) (bOf (eC (.int 48)))))) (sRet (eC (.bl false))) sNop)
noncomputable def l_llimits_right_2 : En → Res (D × En) :=
  (eCall d_lmade (aCons (eVar 5) aNil))
noncomputable def s_llimits_right_3_3 : En → SR :=
  (sIf (tOfE (eBin neD (bOf (eFzL 5 (eHeard h_lheard l_llimits_right_2))) (bOf (eLst (aCons (eC (.str "many")) (aCons (eVar 3) (aCons (eVar 4) (aCons (eC (.bl true)) aNil)))))))) (sRet (eC (.bl false))) sNop)
noncomputable def s_llimits_right_3_b : En → SR :=
  (sSeq (sOwn 5 (eUn listD (bVar 1)))
  (sSeq (sAsg (eBin catL (bOf (eBin ixG (bVar 1) (bVar 2))) (bOf (eLst (aCons (eC (.str "e")) aNil)))) (gSetIx 5 (eVar 2)))
  s_llimits_right_3_3))
noncomputable def s_llimits_right_3 : En → SR :=
  (sFor (iSeq (eLst (aCons (eTup (aCons (eC (.int 2)) (aCons (eC (.str "films")) (aCons (eC (.int 4)) aNil)))) (aCons (eTup (aCons (eC (.int 3)) (aCons (eC (.str "lands")) (aCons (eC (.int 4)) aNil)))) (aCons (eTup (aCons (eC (.int 4)) (aCons (eC (.str "ways")) (aCons (eC (.int 3)) aNil)))) aNil))))) (gTp 3 (gsCons (gNm 2) (gsCons (gNm 3) (gsCons (gNm 4) gsNil)))) s_llimits_right_3_b)
noncomputable def s_llimits_right : En → SR :=
  (sSeq s_llimits_right_1
  (sSeq s_llimits_right_2
  (sSeq s_llimits_right_3
  (sRet (eC (.bl true))))))
noncomputable def d_llimits_right : List D → Res D := runF 6 1 s_llimits_right
abbrev nm_llimits_right : List Str := ["_law_parts_here", "_law_full", "_law_at", "_law_label", "_law_most", "_law_near"]
theorem sc_llimits_right : FnScope nm_llimits_right ["_law_parts_here"] (defScope (top 47)) := ⟨rfl, rfl, rfl, by decide +kernel, rfl, by decide +kernel, by decide +kernel⟩
theorem ok_llimits_right (V : WD K mg base) (fA : Addr) : BodyOkL P w K mg base 9 nm_llimits_right "_law_limits_right" (defScope (top 47)) fA (defBody (top 47)) s_llimits_right := by
  intro cdv A outer s H E ct hr
  have nd := (sc_llimits_right).nd
  obtain ⟨fd_lheard, F_lheard⟩ := V.d.def_ 25 (d := df_25) rfl
  exact (dss_cons (ds_set (i := 1) nd (DN.de (dn_cat (DE.db (DN.de (dn_cat (DE.db (DN.de (dn_sl (db_var (i := 0)) do_none (do_some de_int)))) (DE.db (DN.de (dn_lst (da_cons (DN.de (dn_lst (da_cons de_str (da_cons de_str (da_cons de_str (da_cons de_str da_nil)))))) (da_cons (DN.de (dn_lst (da_cons de_str (da_cons de_str (da_cons de_str (da_cons de_str da_nil)))))) (da_cons (DN.de (dn_lst (da_cons de_str (da_cons de_str (da_cons de_str da_nil))))) da_nil))))))))) (DE.db (DN.de (dn_sl (db_var (i := 0)) (do_some de_int) do_none))))))
  (dss_cons (ds_if (DW.dt (dw_or (DC.dt (dc_ne hr (DE.db (de_heardF F_lheard sc_lheard (fun _ _ _ _ _ _ us hl => match us, hl with | [_], _ => rfl) (fun cdv s H L ρ act => hs_lheard V cdv _ _ s H (hr.deeper _) L ρ act) hOf_ind rfl (g_law_heard V) ct hr (fun E A outer s H f c' hr => (de_call (c_lmade V) tk_lam hr (by decide) rfl (g_law_made V) (da_cons (de_var (i := 1)) da_nil))) (LamX.lamS_by (by kernel_rfl)))) (DE.db (DN.de (dn_lst (da_cons de_str da_nil)))))) (dw_or1 (DC.dt (dc_ne hr (DE.db (de_lenO (c := "Deal") (c_Deal_len V) tk_def hr (by decide) (g_Deal V) (m_Deal_len V) (f_len V) (de_call (c_lmade V) tk_def hr (by decide) rfl (g_law_made V) (da_cons (de_var (i := 1)) da_nil)))) (DE.db de_int)))))) (dss_one (ds_ret de_bl)) dss_nil)
  (dss_cons (ds_for own_def rfl (di_seq (DN.de (dn_lst (da_cons (de_tup (da_cons de_int (da_cons de_str (da_cons de_int da_nil)))) (da_cons (de_tup (da_cons de_int (da_cons de_str (da_cons de_int da_nil)))) (da_cons (de_tup (da_cons de_int (da_cons de_str (da_cons de_int da_nil)))) da_nil)))))) (dg_tup (n := 3) rfl (dgs_cons (dg_name (i := 2) (vs := [2, 3, 4]) (by decide) nd) (dgs_cons (dg_name (i := 3) (vs := [2, 3, 4]) (by decide) nd) (dgs_cons (dg_name (i := 4) (vs := [2, 3, 4]) (by decide) nd) dgs_nil)))) (dss_cons (ds_own (i := 5) nd (dn_list1  (f_list V) (db_var (i := 1))))
  (dss_cons (ds_asg (DN.de (dn_cat (DE.db (de_at (db_var (i := 1)) (db_var (i := 2)))) (DE.db (DN.de (dn_lst (da_cons de_str da_nil)))))) (dg_setix (i := 5) (vs := []) (de_var (i := 2))))
  (dss_one (ds_if (DC.dt (dc_ne hr (DE.db (de_fzL (i := 5) (de_heardF F_lheard sc_lheard (fun _ _ _ _ _ _ us hl => match us, hl with | [_], _ => rfl) (fun cdv s H L ρ act => hs_lheard V cdv _ _ s H (hr.deeper _) L ρ act) hOf_ind rfl (g_law_heard V) ct hr (fun E A outer s H f c' hr => (de_call (c_lmade V) tk_lam hr (by decide) rfl (g_law_made V) (da_cons (de_var (i := 5)) da_nil))) (LamX.lamS_by (by kernel_rfl))))) (DE.db (DN.de (dn_lst (da_cons de_str (da_cons (de_var (i := 3)) (da_cons (de_var (i := 4)) (da_cons de_bl da_nil))))))))) (dss_one (ds_ret de_bl)) dss_nil)))))
  (dss_one (ds_ret de_bl)))))
theorem c_llimits_right (V : WD K mg base) : CalA P w K mg base 10 (He.ga K "_law_limits_right") d_llimits_right := by
  obtain ⟨fd, F⟩ := V.d.def_ 34 (d := df_34) rfl
  exact cal_AL F sc_llimits_right (V.code (by decide +kernel)) (ok_llimits_right V _) (fun _ _ _ _ _ _ us hl => match us, hl with | [_], _ => rfl)
/-! lparts -/
noncomputable def e_lparts_1 : En → Res (D × En) :=
  (eLc (iSeq (eLst (aCons (eC (.int 4)) (aCons (eC (.int 4)) (aCons (eC (.int 3)) aNil))))) (gNm 4) tYesD (eSl slL (bVar 2) doNone (doSome (eBin addI (bOf (eC (.int 1))) (bOf (eCallB b_ldraw 0 (aCons (eVar 4) aNil)))))) [4])
noncomputable def s_lparts_5 : En → SR :=
  (sSet 5 (eCallB b_lpick 0 (aCons (eLst (aCons (eVar 5) (aCons (eLst (aCons (eTup (aCons (eC (.str "m")) (aCons (eC (.int 5)) aNil))) (aCons (eTup (aCons (eC (.str "day")) (aCons (eC (.int 1)) aNil))) aNil))) (aCons (eLst (aCons (eTup (aCons (eC (.str "day")) (aCons (eC (.int 2)) aNil))) (aCons (eTup (aCons (eC (.str "x")) (aCons (eUn negI (bOf (eC (.int 3)))) aNil))) aNil))) (aCons (eLst (aCons (eTup (aCons (eC (.str "day")) (aCons (eUn negI (bOf (eC (.int 1)))) aNil))) (aCons (eTup (aCons (eC (.str "day")) (aCons (eUn negI (bOf (eC (.int 1)))) aNil))) aNil))) aNil))))) aNil)))
noncomputable def s_lparts : En → SR :=
  (sSeq (sSet 1 (eCallB b_lpick 0 (aCons (eLst (aCons (eC (.int 0)) (aCons (eUn negI (bOf (eC (.int 3)))) (aCons (eBin powI (bOf (eC (.int 10))) (bOf (eC (.int 29)))) aNil)))) aNil)))
  (sSeq (sSet 2 (eLst (aCons (eC (.str "a")) (aCons (eC (.str "bb")) (aCons (eC (.str "ccc")) (aCons (eC (.str "zzzzzz")) aNil))))))
  (sSeq (sSet 3 (eBin catL (bOf (eLst (aCons (eC (.str "n")) (aCons (eC (.str "h")) aNil)))) (bOf e_lparts_1)))
  (sSeq (sSet 5 (eLst (aCons (eTup (aCons (eC (.str "m")) (aCons (eVar 1) aNil))) (aCons (eTup (aCons (eC (.str "m")) (aCons (eBin addI (bVar 1) (bOf (eCallB b_lpick 0 (aCons (eLst (aCons (eC (.int 0)) (aCons (eC (.int 1)) (aCons (eC (.int 9)) aNil)))) aNil)))) aNil))) aNil))))
  (sSeq s_lparts_5
  (sRet (eBin catL (bOf (eBin catL (bVar 3) (bVar 5))) (bOf (eLst (aCons (eCallB b_lpick 0 (aCons (eLst (aCons (eC (.int 0)) (aCons (eC (.int 1)) (aCons (eC (.int 7)) aNil)))) aNil)) aNil))))))))))
noncomputable def b_lparts : D → List D → Res (D × D) := runB 6 1 s_lparts
abbrev nm_lparts : List Str := ["_law_pot_here", "_law_first", "_law_tags", "_law_parts_here", "_law_many", "_law_points"]
theorem sc_lparts : FnScope nm_lparts ["_law_pot_here"] (defScope (top 41)) := ⟨rfl, rfl, rfl, by decide +kernel, rfl, by decide +kernel, by decide +kernel⟩
theorem ok_lparts (V : WD K mg base) (fA : Addr) : BodyOk P w K mg base 2 nm_lparts "_law_parts" (defScope (top 41)) fA (defBody (top 41)) s_lparts := by
  intro cdv A outer s H E hr
  have nd := (sc_lparts).nd
  exact (dss_cons (ds_set (i := 1) nd (de_callB (i := 0) (c_lpick V) tk_def hr (by decide) rfl (g_law_pick V) (da_cons (DN.de (dn_lst (da_cons de_int (da_cons (de_neg (DE.db de_int)) (da_cons (de_pow (DE.db de_int) (DE.db de_int)) da_nil))))) da_nil)))
  (dss_cons (ds_set (i := 2) nd (DN.de (dn_lst (da_cons de_str (da_cons de_str (da_cons de_str (da_cons de_str da_nil)))))))
  (dss_cons (ds_set (i := 3) nd (DN.de (dn_cat (DE.db (DN.de (dn_lst (da_cons de_str (da_cons de_str da_nil))))) (DE.db (DN.de (dn_lc (own := [("_law_many", 4)]) rfl nd (di_seq (DN.de (dn_lst (da_cons de_int (da_cons de_int (da_cons de_int da_nil)))))) (by refine ⟨rfl, ?_, ?_, ?_, ?_⟩ <;> first | exact of_decide_eq_true (by kernel_rfl) | decide +kernel) (fun _ _ _ _ _ => (dg_name (i := 4) (vs := [4]) (by decide) nd)) (fun _ _ _ _ _ => dts_nil) (fun _ _ _ _ _ => (DN.de (dn_sl (db_var (i := 2)) do_none (do_some (de_add (DE.db de_int) (DE.db (de_callB (i := 0) (c_ldraw V) takes0 hr (by decide) rfl (g_law_draw V) (da_cons (de_var (i := 4)) da_nil))))))))))))))
  (dss_cons (ds_set (i := 5) nd (DN.de (dn_lst (da_cons (de_tup (da_cons de_str (da_cons (de_var (i := 1)) da_nil))) (da_cons (de_tup (da_cons de_str (da_cons (de_add (db_var (i := 1)) (DE.db (de_callB (i := 0) (c_lpick V) tk_def hr (by decide) rfl (g_law_pick V) (da_cons (DN.de (dn_lst (da_cons de_int (da_cons de_int (da_cons de_int da_nil))))) da_nil)))) da_nil))) da_nil)))))
  (dss_cons (ds_set (i := 5) nd (de_callB (i := 0) (c_lpick V) tk_def hr (by decide) rfl (g_law_pick V) (da_cons (DN.de (dn_lst (da_cons (de_var (i := 5)) (da_cons (DN.de (dn_lst (da_cons (de_tup (da_cons de_str (da_cons de_int da_nil))) (da_cons (de_tup (da_cons de_str (da_cons de_int da_nil))) da_nil)))) (da_cons (DN.de (dn_lst (da_cons (de_tup (da_cons de_str (da_cons de_int da_nil))) (da_cons (de_tup (da_cons de_str (da_cons (de_neg (DE.db de_int)) da_nil))) da_nil)))) (da_cons (DN.de (dn_lst (da_cons (de_tup (da_cons de_str (da_cons (de_neg (DE.db de_int)) da_nil))) (da_cons (de_tup (da_cons de_str (da_cons (de_neg (DE.db de_int)) da_nil))) da_nil)))) da_nil)))))) da_nil)))
  (dss_one (ds_ret (DN.de (dn_cat (DE.db (DN.de (dn_cat (db_var (i := 3)) (db_var (i := 5))))) (DE.db (DN.de (dn_lst (da_cons (de_callB (i := 0) (c_lpick V) tk_def hr (by decide) rfl (g_law_pick V) (da_cons (DN.de (dn_lst (da_cons de_int (da_cons de_int (da_cons de_int da_nil))))) da_nil)) da_nil)))))))))))))
theorem c_lparts (V : WD K mg base) : CalB P w K mg base 3 (He.ga K "_law_parts") b_lparts := by
  obtain ⟨fd, F⟩ := V.d.def_ 35 (d := df_35) rfl
  exact cal_B F sc_lparts (ok_lparts V _) (fun _ _ _ _ _ _ us hl => match us, hl with | [_], _ => rfl)
/-! lnamed -/
noncomputable def s_lnamed_1 : En → SR :=
  (sRet (eMakeJ "Deal" 0 8 dk_Deal_init_0_price_end_begin_ways_lands_films_house_name aNil (aCons (eBin ixG (bVar 0) (bOf (eC (.int 7)))) (aCons (eBin ixG (bVar 0) (bOf (eC (.int 6)))) (aCons (eBin ixG (bVar 0) (bOf (eC (.int 5)))) (aCons (eBin ixG (bVar 0) (bOf (eC (.int 4)))) (aCons (eBin ixG (bVar 0) (bOf (eC (.int 3)))) (aCons (eBin ixG (bVar 0) (bOf (eC (.int 2)))) (aCons (eBin ixG (bVar 0) (bOf (eC (.int 1)))) (aCons (eBin ixG (bVar 0) (bOf (eC (.int 0)))) aNil))))))))))
noncomputable def s_lnamed : En → SR :=
  s_lnamed_1
noncomputable def d_lnamed : List D → Res D := runF 1 1 s_lnamed
abbrev nm_lnamed : List Str := ["_law_parts_here"]
theorem sc_lnamed : FnScope nm_lnamed ["_law_parts_here"] (defScope (top 43)) := ⟨rfl, rfl, rfl, by decide +kernel, rfl, by decide +kernel, by decide +kernel⟩
theorem ok_lnamed (V : WD K mg base) (fA : Addr) : BodyOk P w K mg base 6 nm_lnamed "_law_named" (defScope (top 43)) fA (defBody (top 43)) s_lnamed := by
  intro cdv A outer s H E hr
  have nd := (sc_lnamed).nd
  exact (dss_one (ds_ret (DN.de (dn_makeK0 (ka_Deal_init_0_price_end_begin_ways_lands_films_house_name V) tk_def hr (by decide) rfl (g_Deal V) (mk_Deal V) (dk_cons (de_at (db_var (i := 0)) (DE.db de_int)) (dk_cons (de_at (db_var (i := 0)) (DE.db de_int)) (dk_cons (de_at (db_var (i := 0)) (DE.db de_int)) (dk_cons (de_at (db_var (i := 0)) (DE.db de_int)) (dk_cons (de_at (db_var (i := 0)) (DE.db de_int)) (dk_cons (de_at (db_var (i := 0)) (DE.db de_int)) (dk_cons (de_at (db_var (i := 0)) (DE.db de_int)) (dk_cons (de_at (db_var (i := 0)) (DE.db de_int)) dk_nil))))))))))))
theorem c_lnamed (V : WD K mg base) : CalA P w K mg base 7 (He.ga K "_law_named") d_lnamed := by
  obtain ⟨fd, F⟩ := V.d.def_ 36 (d := df_36) rfl
  exact cal_A F sc_lnamed (ok_lnamed V _) (fun _ _ _ _ _ _ us hl => match us, hl with | [_], _ => rfl)
/-! lodd_names -/
noncomputable def s_lodd_names_1 : En → SR :=
  (sSet 1 (eLst (aCons (eTup (aCons (eC .non) (aCons (eC .non) aNil))) (aCons (eTup (aCons (eC (.str "a")) (aCons (eC .non) aNil))) (aCons (eTup (aCons eDict0 (aCons (eC .non) aNil))) (aCons (eTup (aCons (eDisp1 (eC (.str "a")) (eC (.int 1))) (aCons (eC .non) aNil))) (aCons (eTup (aCons (eLst aNil) (aCons (eC .non) aNil))) (aCons (eTup (aCons (eTup aNil) (aCons (eC .non) aNil))) (aCons (eTup (aCons (eLst (aCons (eC (.str "a")) (aCons (eC (.str "a")) aNil))) (aCons (eC (.int 1)) aNil))) (aCons (eTup (aCons (eLst (aCons (eC (.str "day")) aNil)) (aCons (eC (.int 0)) aNil))) aNil))))))))))
noncomputable def s_lodd_names_2 : En → SR :=
  (sSet 1 (eBin catL (bVar 1) (bOf (eLst (aCons (eTup (aCons (eLst (aCons (eC (.str "a")) (aCons (eC (.str "b")) (aCons (eC (.str "a")) (aCons (eC .non) aNil))))) (aCons (eC (.int 2)) aNil))) (aCons (eTup (aCons (eTup (aCons (eC (.str "a")) (aCons (eC (.str "B")) aNil))) (aCons (eC (.int 1)) aNil))) (aCons (eTup (aCons (eLst (aCons (eC .non) (aCons (eC (.str "a")) aNil))) (aCons (eC (.int 0)) aNil))) (aCons (eTup (aCons (eLst (aCons (eC (.str "a")) (aCons (eC (.bl true)) aNil))) (aCons (eC (.int 1)) aNil))) (aCons (eTup (aCons (eLst (aCons (eLst (aCons (eC (.str "a")) aNil)) aNil)) (aCons (eC (.int 0)) aNil))) aNil)))))))))
noncomputable def s_lodd_names_3 : En → SR :=
  (sRet (eCallB b_lpick 0 (aCons (eBin catL (bVar 1) (bOf (eLst (aCons (eTup (aCons (eLst (aCons (eC (.str "a")) (aCons (eC (.str "b")) (aCons (eC (.str "c")) (aCons (eC (.str "d")) (aCons (eC (.str "e")) (aCons (eC (.str "")) aNil))))))) (aCons (eC (.int 5)) aNil))) (aCons (eTup (aCons (eTup (aCons (eC (.str "abcdefg")) (aCons (eC (.int 1)) aNil))) (aCons (eC (.int 0)) aNil))) (aCons (eTup (aCons (eC (.int 5)) (aCons (eC .non) aNil))) aNil)))))) aNil)))
noncomputable def s_lodd_names : En → SR :=
  (sSeq s_lodd_names_1
  (sSeq s_lodd_names_2
  s_lodd_names_3))
noncomputable def b_lodd_names : D → List D → Res (D × D) := runB 2 1 s_lodd_names
abbrev nm_lodd_names : List Str := ["_law_pot_here", "_law_menu"]
theorem sc_lodd_names : FnScope nm_lodd_names ["_law_pot_here"] (defScope (top 39)) := ⟨rfl, rfl, rfl, by decide +kernel, rfl, by decide +kernel, by decide +kernel⟩
theorem ok_lodd_names (V : WD K mg base) (fA : Addr) : BodyOk P w K mg base 2 nm_lodd_names "_law_odd_names" (defScope (top 39)) fA (defBody (top 39)) s_lodd_names := by
  intro cdv A outer s H E hr
  have nd := (sc_lodd_names).nd
  exact (dss_cons (ds_set (i := 1) nd (DN.de (dn_lst (da_cons (de_tup (da_cons de_non (da_cons de_non da_nil))) (da_cons (de_tup (da_cons de_str (da_cons de_non da_nil))) (da_cons (de_tup (da_cons (DN.de dn_dict0) (da_cons de_non da_nil))) (da_cons (de_tup (da_cons (DN.de (dn_disp1 de_str de_int)) (da_cons de_non da_nil))) (da_cons (de_tup (da_cons (DN.de (dn_lst da_nil)) (da_cons de_non da_nil))) (da_cons (de_tup (da_cons (de_tup da_nil) (da_cons de_non da_nil))) (da_cons (de_tup (da_cons (DN.de (dn_lst (da_cons de_str (da_cons de_str da_nil)))) (da_cons de_int da_nil))) (da_cons (de_tup (da_cons (DN.de (dn_lst (da_cons de_str da_nil))) (da_cons de_int da_nil))) da_nil)))))))))))
  (dss_cons (ds_set (i := 1) nd (DN.de (dn_cat (db_var (i := 1)) (DE.db (DN.de (dn_lst (da_cons (de_tup (da_cons (DN.de (dn_lst (da_cons de_str (da_cons de_str (da_cons de_str (da_cons de_non da_nil)))))) (da_cons de_int da_nil))) (da_cons (de_tup (da_cons (de_tup (da_cons de_str (da_cons de_str da_nil))) (da_cons de_int da_nil))) (da_cons (de_tup (da_cons (DN.de (dn_lst (da_cons de_non (da_cons de_str da_nil)))) (da_cons de_int da_nil))) (da_cons (de_tup (da_cons (DN.de (dn_lst (da_cons de_str (da_cons de_bl da_nil)))) (da_cons de_int da_nil))) (da_cons (de_tup (da_cons (DN.de (dn_lst (da_cons (DN.de (dn_lst (da_cons de_str da_nil))) da_nil))) (da_cons de_int da_nil))) da_nil)))))))))))
  (dss_one (ds_ret (de_callB (i := 0) (c_lpick V) tk_def hr (by decide) rfl (g_law_pick V) (da_cons (DN.de (dn_cat (db_var (i := 1)) (DE.db (DN.de (dn_lst (da_cons (de_tup (da_cons (DN.de (dn_lst (da_cons de_str (da_cons de_str (da_cons de_str (da_cons de_str (da_cons de_str (da_cons de_str da_nil)))))))) (da_cons de_int da_nil))) (da_cons (de_tup (da_cons (de_tup (da_cons de_str (da_cons de_int da_nil))) (da_cons de_int da_nil))) (da_cons (de_tup (da_cons de_int (da_cons de_non da_nil))) da_nil)))))))) da_nil))))))
theorem c_lodd_names (V : WD K mg base) : CalB P w K mg base 3 (He.ga K "_law_odd_names") b_lodd_names := by
  obtain ⟨fd, F⟩ := V.d.def_ 37 (d := df_37) rfl
  exact cal_B F sc_lodd_names (ok_lodd_names V _) (fun _ _ _ _ _ _ us hl => match us, hl with | [_], _ => rfl)
/-! lodd_point -/
noncomputable def s_lodd_point_1 : En → SR :=
  (sSet 1 (eLst (aCons (eC .non) (aCons (eC (.int 0)) (aCons (eC (.str "day")) (aCons (eTup (aCons (eC (.str "day")) aNil)) (aCons (eTup (aCons (eC (.str "day")) (aCons (eC (.int 0)) (aCons (eC (.int 0)) aNil)))) (aCons (eLst (aCons (eC (.str "m")) (aCons (eC (.int 0)) aNil))) (aCons (eTup (aCons (eC (.str "m")) (aCons (eC .non) aNil))) (aCons (eTup (aCons (eC (.str "m")) (aCons (eC (.bl true)) aNil))) (aCons (eTup (aCons (eC (.str "M")) (aCons (eC (.int 0)) aNil))) (aCons (eTup (aCons (eC (.str "")) (aCons (eC (.int 0)) aNil))) (aCons (eTup (aCons (eC (.int 0)) (aCons (eC (.str "m")) aNil))) aNil)))))))))))))
noncomputable def s_lodd_point_2 : En → SR :=
  (sRet (eCallB b_lpick 0 (aCons (eBin catL (bVar 1) (bOf (eLst (aCons (eTup (aCons (eC .non) (aCons (eC (.int 0)) aNil))) (aCons (eTup (aCons (eC (.str "abcdefg")) (aCons (eC (.int 1)) aNil))) (aCons eDict0 (aCons (eTup (aCons (eC (.str "m")) (aCons (eC (.str "1")) aNil))) (aCons (eTup (aCons (eTup (aCons (eC (.str "m")) aNil)) (aCons (eC (.int 0)) aNil))) (aCons (eTup (aCons (eLst (aCons (eC (.str "m")) aNil)) (aCons (eC (.int 0)) aNil))) aNil))))))))) aNil)))
noncomputable def s_lodd_point : En → SR :=
  (sSeq s_lodd_point_1
  s_lodd_point_2)
noncomputable def b_lodd_point : D → List D → Res (D × D) := runB 2 1 s_lodd_point
abbrev nm_lodd_point : List Str := ["_law_pot_here", "_law_menu"]
theorem sc_lodd_point : FnScope nm_lodd_point ["_law_pot_here"] (defScope (top 40)) := ⟨rfl, rfl, rfl, by decide +kernel, rfl, by decide +kernel, by decide +kernel⟩
theorem ok_lodd_point (V : WD K mg base) (fA : Addr) : BodyOk P w K mg base 2 nm_lodd_point "_law_odd_point" (defScope (top 40)) fA (defBody (top 40)) s_lodd_point := by
  intro cdv A outer s H E hr
  have nd := (sc_lodd_point).nd
  exact (dss_cons (ds_set (i := 1) nd (DN.de (dn_lst (da_cons de_non (da_cons de_int (da_cons de_str (da_cons (de_tup (da_cons de_str da_nil)) (da_cons (de_tup (da_cons de_str (da_cons de_int (da_cons de_int da_nil)))) (da_cons (DN.de (dn_lst (da_cons de_str (da_cons de_int da_nil)))) (da_cons (de_tup (da_cons de_str (da_cons de_non da_nil))) (da_cons (de_tup (da_cons de_str (da_cons de_bl da_nil))) (da_cons (de_tup (da_cons de_str (da_cons de_int da_nil))) (da_cons (de_tup (da_cons de_str (da_cons de_int da_nil))) (da_cons (de_tup (da_cons de_int (da_cons de_str da_nil))) da_nil))))))))))))))
  (dss_one (ds_ret (de_callB (i := 0) (c_lpick V) tk_def hr (by decide) rfl (g_law_pick V) (da_cons (DN.de (dn_cat (db_var (i := 1)) (DE.db (DN.de (dn_lst (da_cons (de_tup (da_cons de_non (da_cons de_int da_nil))) (da_cons (de_tup (da_cons de_str (da_cons de_int da_nil))) (da_cons (DN.de dn_dict0) (da_cons (de_tup (da_cons de_str (da_cons de_str da_nil))) (da_cons (de_tup (da_cons (de_tup (da_cons de_str da_nil)) (da_cons de_int da_nil))) (da_cons (de_tup (da_cons (DN.de (dn_lst (da_cons de_str da_nil))) (da_cons de_int da_nil))) da_nil))))))))))) da_nil)))))
theorem c_lodd_point (V : WD K mg base) : CalB P w K mg base 3 (He.ga K "_law_odd_point") b_lodd_point := by
  obtain ⟨fd, F⟩ := V.d.def_ 38 (d := df_38) rfl
  exact cal_B F sc_lodd_point (ok_lodd_point V _) (fun _ _ _ _ _ _ us hl => match us, hl with | [_], _ => rfl)
/-! lspoilt -/
noncomputable def s_lspoilt_2 : En → SR :=
  (sIf (tOfE (eBin inTup (bVar 2) (bOf (eTup (aCons (eC (.int 0)) (aCons (eC (.int 1)) aNil)))))) (sSeq (sAsg (eCallB b_lodd_name 0 aNil) (gSetIx 3 (eVar 2)))
  (sRet (eTup (aCons (eVar 3) (aCons (eLst (aCons (eC (.str "name")) (aCons (eUn (orU (orU (orU reprB reprD) reprK) reprS) (bOf (eBin ixG (bVar 3) (bVar 2)))) (aCons (eC (.bl true)) aNil)))) aNil))))) sNop)
noncomputable def s_lspoilt_3 : En → SR :=
  (sIf (tOfE (eBin inTup (bVar 2) (bOf (eTup (aCons (eC (.int 2)) (aCons (eC (.int 3)) (aCons (eC (.int 4)) aNil))))))) (sSeq (sAsg (eCallB b_lodd_names 0 aNil) (gTp 2 (gsCons (gSetIx 3 (eVar 2)) (gsCons (gNm 4) gsNil))))
  (sRet (eTup (aCons (eVar 3) (aCons (eLst (aCons (eC (.str "names")) (aCons (eUn (orU (orU (orU reprB reprD) reprK) reprS) (bVar 4)) (aCons (eC (.bl true)) aNil)))) aNil))))) sNop)
noncomputable def s_lspoilt_4 : En → SR :=
  (sIf (tOfE (eBin inTup (bVar 2) (bOf (eTup (aCons (eC (.int 5)) (aCons (eC (.int 6)) aNil)))))) (sSeq (sAsg (eCallB b_lodd_point 0 aNil) (gSetIx 3 (eVar 2)))
  (sRet (eTup (aCons (eVar 3) (aCons (eLst (aCons (eC (.str "point")) (aCons (eUn (orU (orU (orU reprB reprD) reprK) reprS) (bOf (eBin ixG (bVar 3) (bVar 2)))) (aCons (eC (.bl true)) aNil)))) aNil))))) sNop)
noncomputable def s_lspoilt_5 : En → SR :=
  (sAsg (eCallB b_lpick 0 (aCons (eLst (aCons (eC .non) (aCons (eUn negI (bOf (eC (.int 1)))) (aCons (eC (.bl true)) (aCons (eC (.str "1")) (aCons (eLst aNil) (aCons (eBin subI (bOf (eBin powI (bOf (eC (.int 10))) (bOf (eC (.int 20))))) (bOf (eBin powI (bOf (eC (.int 10))) (bOf (eC (.int 21)))))) (aCons (eTup (aCons (eC (.int 1)) aNil)) aNil)))))))) aNil)) (gSetIx 3 (eVar 2)))
noncomputable def s_lspoilt : En → SR :=
  (sSeq (sOwn 3 (eUn listD (bVar 1)))
  (sSeq s_lspoilt_2
  (sSeq s_lspoilt_3
  (sSeq s_lspoilt_4
  (sSeq s_lspoilt_5
  (sRet (eTup (aCons (eVar 3) (aCons (eLst (aCons (eC (.str "number")) (aCons (eUn (orU (orU (orU reprB reprD) reprK) reprS) (bOf (eBin ixG (bVar 3) (bVar 2)))) (aCons (eC (.bl true)) aNil)))) aNil)))))))))
noncomputable def b_lspoilt : D → List D → Res (D × D) := runB 5 3 s_lspoilt
abbrev nm_lspoilt : List Str := ["_law_pot_here", "_law_parts_here", "_law_at", "_law_found", "_law_position"]
theorem sc_lspoilt : FnScope nm_lspoilt ["_law_pot_here", "_law_parts_here", "_law_at"] (defScope (top 44)) := ⟨rfl, rfl, rfl, by decide +kernel, rfl, by decide +kernel, by decide +kernel⟩
theorem ok_lspoilt (V : WD K mg base) (fA : Addr) : BodyOk P w K mg base 3 nm_lspoilt "_law_spoilt" (defScope (top 44)) fA (defBody (top 44)) s_lspoilt := by
  intro cdv A outer s H E hr
  have nd := (sc_lspoilt).nd
  exact (dss_cons (ds_own (i := 3) nd (dn_list1  (f_list V) (db_var (i := 1))))
  (dss_cons (ds_if (DC.dt (dc_inT hr (db_var (i := 2)) (DE.db (de_tup (da_cons de_int (da_cons de_int da_nil)))))) (dss_cons (ds_asg (de_callB (i := 0) (c_lodd_name V) tk_def hr (by decide) rfl (g_law_odd_name V) da_nil) (dg_setix (i := 3) (vs := []) (de_var (i := 2))))
  (dss_one (ds_ret (de_tup (da_cons (de_var (i := 3)) (da_cons (DN.de (dn_lst (da_cons de_str (da_cons (de_reprS hr (f_repr V) (DE.db (de_at (db_var (i := 3)) (db_var (i := 2))))) (da_cons de_bl da_nil))))) da_nil)))))) dss_nil)
  (dss_cons (ds_if (DC.dt (dc_inT hr (db_var (i := 2)) (DE.db (de_tup (da_cons de_int (da_cons de_int (da_cons de_int da_nil))))))) (dss_cons (ds_asg (de_callB (i := 0) (c_lodd_names V) tk_def hr (by decide) rfl (g_law_odd_names V) da_nil) (dg_tup (n := 2) rfl (dgs_cons (dg_setix (i := 3) (vs := [4]) (de_var (i := 2))) (dgs_cons (dg_name (i := 4) (vs := [4]) (by decide) nd) dgs_nil))))
  (dss_one (ds_ret (de_tup (da_cons (de_var (i := 3)) (da_cons (DN.de (dn_lst (da_cons de_str (da_cons (de_reprS hr (f_repr V) (db_var (i := 4))) (da_cons de_bl da_nil))))) da_nil)))))) dss_nil)
  (dss_cons (ds_if (DC.dt (dc_inT hr (db_var (i := 2)) (DE.db (de_tup (da_cons de_int (da_cons de_int da_nil)))))) (dss_cons (ds_asg (de_callB (i := 0) (c_lodd_point V) tk_def hr (by decide) rfl (g_law_odd_point V) da_nil) (dg_setix (i := 3) (vs := []) (de_var (i := 2))))
  (dss_one (ds_ret (de_tup (da_cons (de_var (i := 3)) (da_cons (DN.de (dn_lst (da_cons de_str (da_cons (de_reprS hr (f_repr V) (DE.db (de_at (db_var (i := 3)) (db_var (i := 2))))) (da_cons de_bl da_nil))))) da_nil)))))) dss_nil)
  (dss_cons (ds_asg (de_callB (i := 0) (c_lpick V) tk_def hr (by decide) rfl (g_law_pick V) (da_cons (DN.de (dn_lst (da_cons de_non (da_cons (de_neg (DE.db de_int)) (da_cons de_bl (da_cons de_str (da_cons (DN.de (dn_lst da_nil)) (da_cons (de_sub (DE.db (de_pow (DE.db de_int) (DE.db de_int))) (DE.db (de_pow (DE.db de_int) (DE.db de_int)))) (da_cons (de_tup (da_cons de_int da_nil)) da_nil))))))))) da_nil)) (dg_setix (i := 3) (vs := []) (de_var (i := 2))))
  (dss_one (ds_ret (de_tup (da_cons (de_var (i := 3)) (da_cons (DN.de (dn_lst (da_cons de_str (da_cons (de_reprS hr (f_repr V) (DE.db (de_at (db_var (i := 3)) (db_var (i := 2))))) (da_cons de_bl da_nil))))) da_nil))))))))))
theorem c_lspoilt (V : WD K mg base) : CalB P w K mg base 4 (He.ga K "_law_spoilt") b_lspoilt := by
  obtain ⟨fd, F⟩ := V.d.def_ 39 (d := df_39) rfl
  exact cal_B F sc_lspoilt (ok_lspoilt V _) (fun _ _ _ _ _ _ us hl => match us, hl with | [_, _, _], _ => rfl)
/-! lturned -/
noncomputable def s_lturned_1 : En → SR :=
  (sRetV (eOwn (eBin catL (bOf (eBin catL (bOf (eSl slL (bVar 0) doNone (doSome (eC (.int 5))))) (bOf (eLst (aCons (eTup (aCons (eC (.str "m")) (aCons (eC (.int 4)) aNil))) (aCons (eTup (aCons (eC (.str "m")) (aCons (eC (.int 3)) aNil))) aNil)))))) (bOf (eSl slL (bVar 0) (doSome (eC (.int 7))) doNone)))))
noncomputable def s_lturned : En → SR :=
  s_lturned_1
noncomputable def d_lturned : List D → Res D := runV 1 1 s_lturned
abbrev nm_lturned : List Str := ["_law_parts_here"]
theorem sc_lturned : FnScope nm_lturned ["_law_parts_here"] (defScope (top 45)) := ⟨rfl, rfl, rfl, by decide +kernel, rfl, by decide +kernel, by decide +kernel⟩
theorem ok_lturned (V : WD K mg base) (fA : Addr) : BodyOk P w K mg base 0 nm_lturned "_law_turned" (defScope (top 45)) fA (defBody (top 45)) s_lturned := by
  intro cdv A outer s H E hr
  have nd := (sc_lturned).nd
  exact (dss_one (ds_retV (DN.dv (dn_cat (DE.db (DN.de (dn_cat (DE.db (DN.de (dn_sl (db_var (i := 0)) do_none (do_some de_int)))) (DE.db (DN.de (dn_lst (da_cons (de_tup (da_cons de_str (da_cons de_int da_nil))) (da_cons (de_tup (da_cons de_str (da_cons de_int da_nil))) da_nil)))))))) (DE.db (DN.de (dn_sl (db_var (i := 0)) (do_some de_int) do_none)))))))
theorem c_lturned (V : WD K mg base) : CalV P w K mg base 1 (He.ga K "_law_turned") d_lturned := by
  obtain ⟨fd, F⟩ := V.d.def_ 40 (d := df_40) rfl
  exact cal_V F sc_lturned (ok_lturned V _) (fun _ _ _ _ _ _ us hl => match us, hl with | [_], _ => rfl)
/-! lwrong_right -/
noncomputable def s_lwrong_right_1_2_1 : En → SR :=
  (sIf (tOfE (eBin eqD (bOf (eCallB b_ldraw 0 (aCons (eC (.int 4)) aNil))) (bOf (eC (.int 0))))) (sAsg (eCallB b_lspoilt 0 (aCons (eVar 3) (aCons (eVar 5) aNil))) (gTp 2 (gsCons (gNm 3) (gsCons (gNm 4) gsNil)))) sNop)
noncomputable def s_lwrong_right_1_2 : En → SR :=
  (sFor (iSeq (eLst (aCons (eC (.int 7)) (aCons (eC (.int 6)) (aCons (eC (.int 5)) (aCons (eC (.int 4)) (aCons (eC (.int 3)) (aCons (eC (.int 2)) (aCons (eC (.int 1)) (aCons (eC (.int 0)) aNil)))))))))) (gNm 5) s_lwrong_right_1_2_1)
noncomputable def s_lwrong_right_1_3_1 : En → SR :=
  (sIf (tAndD (tOfE (eBin eqD (bVar 4) (bOf (eLst (aCons (eC (.str "told")) aNil))))) (tOfE (eBin eqD (bOf (eCallB b_ldraw 0 (aCons (eC (.int 6)) aNil))) (bOf (eC (.int 0)))))) (sAsg (eSl slL (bOf (eLst (aCons (eC (.str "a")) (aCons (eC (.str "b")) (aCons (eC (.str "c")) (aCons (eC (.str "d")) (aCons (eC (.str "e")) (aCons (eC (.str "f")) aNil)))))))) doNone (doSome (eBin addI (bVar 6) (bOf (eC (.int 1)))))) (gSetIx 3 (eVar 5))) sNop)
noncomputable def s_lwrong_right_1_3 : En → SR :=
  (sFor (iSeq (eLst (aCons (eTup (aCons (eC (.int 4)) (aCons (eC (.int 3)) aNil))) (aCons (eTup (aCons (eC (.int 3)) (aCons (eC (.int 4)) aNil))) (aCons (eTup (aCons (eC (.int 2)) (aCons (eC (.int 4)) aNil))) aNil))))) (gTp 2 (gsCons (gNm 5) (gsCons (gNm 6) gsNil))) s_lwrong_right_1_3_1)
noncomputable def e_lwrong_right_1 : En → Res (D × En) :=
  (eLc (iSeq (eLst (aCons (eTup (aCons (eC (.int 2)) (aCons (eC (.int 4)) aNil))) (aCons (eTup (aCons (eC (.int 3)) (aCons (eC (.int 4)) aNil))) (aCons (eTup (aCons (eC (.int 4)) (aCons (eC (.int 3)) aNil))) aNil))))) (gTp 2 (gsCons (gNm 5) (gsCons (gNm 6) gsNil))) (tAndD (tOfE (eBin eqD (bVar 4) (bOf (eLst (aCons (eC (.str "told")) aNil))))) (tOfE (eBin gtI (bOf (eUn (orU lenD lenK) (bOf (eBin ixG (bVar 3) (bVar 5))))) (bVar 6)))) (eVar 5) [5, 6])
noncomputable def s_lwrong_right_1_5_1 : En → SR :=
  (sSet 4 (eLst (aCons (eC (.str "many")) (aCons (eBin ixG (bOf (eLst (aCons (eC (.str "films")) (aCons (eC (.str "lands")) (aCons (eC (.str "ways")) aNil))))) (bOf (eBin subI (bOf (eBin ixG (bVar 7) (bOf (eC (.int 0))))) (bOf (eC (.int 2)))))) (aCons (eBin ixG (bOf (eLst (aCons (eC (.int 4)) (aCons (eC (.int 4)) (aCons (eC (.int 3)) aNil))))) (bOf (eBin subI (bOf (eBin ixG (bVar 7) (bOf (eC (.int 0))))) (bOf (eC (.int 2)))))) (aCons (eC (.bl true)) aNil))))))
noncomputable def s_lwrong_right_1_5 : En → SR :=
  (sIf (tOfE (eBin neD (bVar 7) (bOf (eLst aNil)))) s_lwrong_right_1_5_1 sNop)
noncomputable def l_lwrong_right_1 : En → Res (D × En) :=
  (eCall d_lmade (aCons (eVar 3) aNil))
noncomputable def l_lwrong_right_2 : En → Res (D × En) :=
  (eCall d_lnamed (aCons (eVar 3) aNil))
noncomputable def s_lwrong_right_1_7 : En → SR :=
  (sIf (tOrD (tOfE (eBin neD (bVar 8) (bVar 4))) (tOfE (eBin neD (bOf (eFzL 3 (eHeard h_lheard l_lwrong_right_2))) (bVar 4)))) (sRet (eC (.bl false))) sNop)
noncomputable def s_lwrong_right_1_b : En → SR :=
  (sSeq (sParL [3, 4] (lOw (eUn listD (bVar 1)) (lFz (eLst (aCons (eC (.str "told")) aNil)) lNil)))
  (sSeq s_lwrong_right_1_2
  (sSeq s_lwrong_right_1_3
  (sSeq (sSet 7 e_lwrong_right_1)
  (sSeq s_lwrong_right_1_5
  (sSeq (sSet 8 (eFzL 3 (eHeard h_lheard l_lwrong_right_1)))
  s_lwrong_right_1_7))))))
noncomputable def s_lwrong_right_1 : En → SR :=
  (sFor (iRg1 (aCons (eC (.int 8)) aNil)) (gNm 2) s_lwrong_right_1_b)
noncomputable def s_lwrong_right_3 : En → SR :=
  (sIf (tOfE (eBin neD (bOf (eFzL 3 (eHeard h_lheard l_lwrong_right_1))) (bOf (eLst (aCons (eC (.str "point")) (aCons (eUn (orU reprB reprD) (bOf (eTup (aCons (eC (.str "m")) (aCons (eC (.int 3)) aNil))))) (aCons (eC (.bl true)) aNil))))))) (sRet (eC (.bl false))) sNop)
noncomputable def l_lwrong_right_4 : En → Res (D × En) :=
  (eCall d_lmade (aCons (eVar 9) aNil))
noncomputable def s_lwrong_right : En → SR :=
  (sSeq s_lwrong_right_1
  (sSeq (sSetV 3 (eCall d_lturned (aCons (eVar 1) aNil)))
  (sSeq s_lwrong_right_3
  (sSeq (sOwn 9 (eBin catL (bOf (eBin catL (bOf (eSl slL (bVar 3) doNone (doSome (eC (.int 4))))) (bOf (eLst (aCons (eLst (aCons (eC (.str "a")) (aCons (eC (.str "b")) (aCons (eC (.str "c")) (aCons (eC (.str "d")) aNil))))) aNil))))) (bOf (eSl slL (bVar 3) (doSome (eC (.int 5))) doNone))))
  (sSeq (sAsg (eTup (aCons (eTup (aCons (eC (.str "m")) (aCons (eC (.int 3)) aNil))) (aCons (eUn negI (bOf (eC (.int 1)))) aNil))) (gTp 2 (gsCons (gSetIx 9 (eC (.int 5))) (gsCons (gSetIx 9 (eC (.int 7))) gsNil))))
  (sRet (eBin eqD (bOf (eFzL 9 (eHeard h_lheard l_lwrong_right_4))) (bOf (eLst (aCons (eC (.str "number")) (aCons (eC (.str "-1")) (aCons (eC (.bl true)) aNil))))))))))))
noncomputable def b_lwrong_right : D → List D → Res (D × D) := runB 10 2 s_lwrong_right
abbrev nm_lwrong_right : List Str := ["_law_pot_here", "_law_parts_here", "_law_turn", "_law_near", "_law_due", "_law_at", "_law_most", "_law_long", "_law_first_told", "_law_many"]
theorem sc_lwrong_right : FnScope nm_lwrong_right ["_law_pot_here", "_law_parts_here"] (defScope (top 46)) := ⟨rfl, rfl, rfl, by decide +kernel, rfl, by decide +kernel, by decide +kernel⟩
theorem ok_lwrong_right (V : WD K mg base) (fA : Addr) : BodyOkL P w K mg base 9 nm_lwrong_right "_law_wrong_right" (defScope (top 46)) fA (defBody (top 46)) s_lwrong_right := by
  intro cdv A outer s H E ct hr
  have nd := (sc_lwrong_right).nd
  obtain ⟨fd_lheard, F_lheard⟩ := V.d.def_ 25 (d := df_25) rfl
  exact (dss_cons (ds_for own_def rfl (di_range1 rfl (f_range V) (da_cons de_int da_nil)) (dg_name (i := 2) (vs := [2]) (by decide) nd) (dss_cons (ds_parT2 (i := 3) (j := 4) rfl nd (dl_ow (DN.dm (dn_list1  (f_list V) (db_var (i := 1)))) (dl_fz (DN.de (dn_lst (da_cons de_str da_nil))) dl_nil)))
  (dss_cons (ds_for own_def rfl (di_seq (DN.de (dn_lst (da_cons de_int (da_cons de_int (da_cons de_int (da_cons de_int (da_cons de_int (da_cons de_int (da_cons de_int (da_cons de_int da_nil))))))))))) (dg_name (i := 5) (vs := [5]) (by decide) nd) (dss_one (ds_if (DC.dt (dc_eq hr (DE.db (de_callB (i := 0) (c_ldraw V) tk_def hr (by decide) rfl (g_law_draw V) (da_cons de_int da_nil))) (DE.db de_int))) (dss_one (ds_asg (de_callB (i := 0) (c_lspoilt V) tk_def hr (by decide) rfl (g_law_spoilt V) (da_cons (de_var (i := 3)) (da_cons (de_var (i := 5)) da_nil))) (dg_tup (n := 2) rfl (dgs_cons (dg_name (i := 3) (vs := [3, 4]) (by decide) nd) (dgs_cons (dg_name (i := 4) (vs := [3, 4]) (by decide) nd) dgs_nil))))) dss_nil)))
  (dss_cons (ds_for own_def rfl (di_seq (DN.de (dn_lst (da_cons (de_tup (da_cons de_int (da_cons de_int da_nil))) (da_cons (de_tup (da_cons de_int (da_cons de_int da_nil))) (da_cons (de_tup (da_cons de_int (da_cons de_int da_nil))) da_nil)))))) (dg_tup (n := 2) rfl (dgs_cons (dg_name (i := 5) (vs := [5, 6]) (by decide) nd) (dgs_cons (dg_name (i := 6) (vs := [5, 6]) (by decide) nd) dgs_nil))) (dss_one (ds_if (DW.dt (dw_and (DC.dt (dc_eq hr (db_var (i := 4)) (DE.db (DN.de (dn_lst (da_cons de_str da_nil)))))) (dw_and1 (DC.dt (dc_eq hr (DE.db (de_callB (i := 0) (c_ldraw V) tk_def hr (by decide) rfl (g_law_draw V) (da_cons de_int da_nil))) (DE.db de_int)))))) (dss_one (ds_asg (DN.de (dn_sl (DE.db (DN.de (dn_lst (da_cons de_str (da_cons de_str (da_cons de_str (da_cons de_str (da_cons de_str (da_cons de_str da_nil))))))))) do_none (do_some (de_add (db_var (i := 6)) (DE.db de_int))))) (dg_setix (i := 3) (vs := []) (de_var (i := 5))))) dss_nil)))
  (dss_cons (ds_setLc (i := 7) (own := [("_law_at", 5), ("_law_most", 6)]) rfl nd (di_seq (DN.de (dn_lst (da_cons (de_tup (da_cons de_int (da_cons de_int da_nil))) (da_cons (de_tup (da_cons de_int (da_cons de_int da_nil))) (da_cons (de_tup (da_cons de_int (da_cons de_int da_nil))) da_nil)))))) (by refine ⟨rfl, ?_, ?_, ?_, ?_⟩ <;> first | exact of_decide_eq_true (by kernel_rfl) | decide +kernel) (fun _ _ _ _ _ => (dg_tup (n := 2) rfl (dgs_cons (dg_name (i := 5) (vs := [5, 6]) (by decide) nd) (dgs_cons (dg_name (i := 6) (vs := [5, 6]) (by decide) nd) dgs_nil)))) (fun _ _ _ _ _ => (dts_one (DW.dt (dw_and (DC.dt (dc_eq hr (db_var (i := 4)) (DE.db (DN.de (dn_lst (da_cons de_str da_nil)))))) (dw_and1 (DC.dt (dc_gt (DE.db (de_len  (f_len V) (DE.db (de_at (db_var (i := 3)) (db_var (i := 5)))))) (db_var (i := 6))))))))) (fun _ _ _ _ _ => (de_var (i := 5))) rfl)
  (dss_cons (ds_if (DC.dt (dc_ne hr (db_var (i := 7)) (DE.db (DN.de (dn_lst da_nil))))) (dss_one (ds_set (i := 4) nd (DN.de (dn_lst (da_cons de_str (da_cons (de_at (DE.db (DN.de (dn_lst (da_cons de_str (da_cons de_str (da_cons de_str da_nil)))))) (DE.db (de_sub (DE.db (de_at (db_var (i := 7)) (DE.db de_int))) (DE.db de_int)))) (da_cons (de_at (DE.db (DN.de (dn_lst (da_cons de_int (da_cons de_int (da_cons de_int da_nil)))))) (DE.db (de_sub (DE.db (de_at (db_var (i := 7)) (DE.db de_int))) (DE.db de_int)))) (da_cons de_bl da_nil)))))))) dss_nil)
  (dss_cons (ds_set (i := 8) nd (de_fzL (i := 3) (de_heardF F_lheard sc_lheard (fun _ _ _ _ _ _ us hl => match us, hl with | [_], _ => rfl) (fun cdv s H L ρ act => hs_lheard V cdv _ _ s H (hr.deeper _) L ρ act) hOf_ind rfl (g_law_heard V) ct hr (fun E A outer s H f c' hr => (de_call (c_lmade V) tk_lam hr (by decide) rfl (g_law_made V) (da_cons (de_var (i := 3)) da_nil))) (LamX.lamS_by (by kernel_rfl)))))
  (dss_one (ds_if (DW.dt (dw_or (DC.dt (dc_ne hr (db_var (i := 8)) (db_var (i := 4)))) (dw_or1 (DC.dt (dc_ne hr (DE.db (de_fzL (i := 3) (de_heardF F_lheard sc_lheard (fun _ _ _ _ _ _ us hl => match us, hl with | [_], _ => rfl) (fun cdv s H L ρ act => hs_lheard V cdv _ _ s H (hr.deeper _) L ρ act) hOf_ind rfl (g_law_heard V) ct hr (fun E A outer s H f c' hr => (de_call (c_lnamed V) tk_lam hr (by decide) rfl (g_law_named V) (da_cons (de_var (i := 3)) da_nil))) (LamX.lamS_by (by kernel_rfl))))) (db_var (i := 4))))))) (dss_one (ds_ret de_bl)) dss_nil)))))))))
  (dss_cons (ds_setV (i := 3) nd (dv_call (c_lturned V) tk_def hr (by decide) rfl (g_law_turned V) (da_cons (de_var (i := 1)) da_nil)))
  (dss_cons (ds_if (DC.dt (dc_ne hr (DE.db (de_fzL (i := 3) (de_heardF F_lheard sc_lheard (fun _ _ _ _ _ _ us hl => match us, hl with | [_], _ => rfl) (fun cdv s H L ρ act => hs_lheard V cdv _ _ s H (hr.deeper _) L ρ act) hOf_ind rfl (g_law_heard V) ct hr (fun E A outer s H f c' hr => (de_call (c_lmade V) tk_lam hr (by decide) rfl (g_law_made V) (da_cons (de_var (i := 3)) da_nil))) (LamX.lamS_by (by kernel_rfl))))) (DE.db (DN.de (dn_lst (da_cons de_str (da_cons (de_reprD hr (f_repr V) (DE.db (de_tup (da_cons de_str (da_cons de_int da_nil))))) (da_cons de_bl da_nil)))))))) (dss_one (ds_ret de_bl)) dss_nil)
  (dss_cons (ds_own (i := 9) nd (dn_cat (DE.db (DN.de (dn_cat (DE.db (DN.de (dn_sl (db_var (i := 3)) do_none (do_some de_int)))) (DE.db (DN.de (dn_lst (da_cons (DN.de (dn_lst (da_cons de_str (da_cons de_str (da_cons de_str (da_cons de_str da_nil)))))) da_nil))))))) (DE.db (DN.de (dn_sl (db_var (i := 3)) (do_some de_int) do_none)))))
  (dss_cons (ds_asg (de_tup (da_cons (de_tup (da_cons de_str (da_cons de_int da_nil))) (da_cons (de_neg (DE.db de_int)) da_nil))) (dg_tup (n := 2) rfl (dgs_cons (dg_setix (i := 9) (vs := []) de_int) (dgs_cons (dg_setix (i := 9) (vs := []) de_int) dgs_nil))))
  (dss_one (ds_ret (DC.de (dc_eq hr (DE.db (de_fzL (i := 9) (de_heardF F_lheard sc_lheard (fun _ _ _ _ _ _ us hl => match us, hl with | [_], _ => rfl) (fun cdv s H L ρ act => hs_lheard V cdv _ _ s H (hr.deeper _) L ρ act) hOf_ind rfl (g_law_heard V) ct hr (fun E A outer s H f c' hr => (de_call (c_lmade V) tk_lam hr (by decide) rfl (g_law_made V) (da_cons (de_var (i := 9)) da_nil))) (LamX.lamS_by (by kernel_rfl))))) (DE.db (DN.de (dn_lst (da_cons de_str (da_cons de_str (da_cons de_bl da_nil)))))))))))))))
theorem c_lwrong_right (V : WD K mg base) : CalB P w K mg base 10 (He.ga K "_law_wrong_right") b_lwrong_right := by
  obtain ⟨fd, F⟩ := V.d.def_ 41 (d := df_41) rfl
  exact cal_BL F sc_lwrong_right (V.code (by decide +kernel)) (ok_lwrong_right V _) (fun _ _ _ _ _ _ us hl => match us, hl with | [_, _], _ => rfl)
/-! lright -/
noncomputable def l_lright_1 : En → Res (D × En) :=
  (eCall d_lmade (aCons (eVar 1) aNil))
noncomputable def s_lright_2 : En → SR :=
  (sIf (tOfE (eBin neD (bOf (eHeard h_lheard l_lright_1)) (bOf (eLst (aCons (eC (.str "told")) aNil))))) (sRet (eC (.bl false))) sNop)
noncomputable def s_lright_3 : En → SR :=
  (sIf (tOrD (tNotD (tOfE (eCallB b_lwrong_right 0 (aCons (eVar 1) aNil)))) (tNotD (tOfE (eCall d_llimits_right (aCons (eVar 1) aNil))))) (sRet (eC (.bl false))) sNop)
noncomputable def s_lright : En → SR :=
  (sSeq (sSet 1 (eCallB b_lparts 0 aNil))
  (sSeq s_lright_2
  (sSeq s_lright_3
  (sRet (eAnd (eCallB b_lderived_right 0 (aCons (eCall d_lmade (aCons (eVar 1) aNil)) aNil)) (eCall d_lerrors_right aNil))))))
noncomputable def b_lright : D → List D → Res (D × D) := runB 2 1 s_lright
abbrev nm_lright : List Str := ["_law_pot_here", "_law_parts_here"]
theorem sc_lright : FnScope nm_lright ["_law_pot_here"] (defScope (top 50)) := ⟨rfl, rfl, rfl, by decide +kernel, rfl, by decide +kernel, by decide +kernel⟩
theorem ok_lright (V : WD K mg base) (fA : Addr) : BodyOkL P w K mg base 11 nm_lright "_law_right" (defScope (top 50)) fA (defBody (top 50)) s_lright := by
  intro cdv A outer s H E ct hr
  have nd := (sc_lright).nd
  obtain ⟨fd_lheard, F_lheard⟩ := V.d.def_ 25 (d := df_25) rfl
  exact (dss_cons (ds_set (i := 1) nd (de_callB (i := 0) (c_lparts V) tk_def hr (by decide) rfl (g_law_parts V) da_nil))
  (dss_cons (ds_if (DC.dt (dc_ne hr (DE.db (de_heardF F_lheard sc_lheard (fun _ _ _ _ _ _ us hl => match us, hl with | [_], _ => rfl) (fun cdv s H L ρ act => hs_lheard V cdv _ _ s H (hr.deeper _) L ρ act) hOf_ind rfl (g_law_heard V) ct hr (fun E A outer s H f c' hr => (de_call (c_lmade V) tk_lam hr (by decide) rfl (g_law_made V) (da_cons (de_var (i := 1)) da_nil))) (LamX.lamS_by (by kernel_rfl)))) (DE.db (DN.de (dn_lst (da_cons de_str da_nil)))))) (dss_one (ds_ret de_bl)) dss_nil)
  (dss_cons (ds_if (DW.dt (dw_or (dt_not (dt_val (de_callB (i := 0) (c_lwrong_right V) tk_def hr (by decide) rfl (g_law_wrong_right V) (da_cons (de_var (i := 1)) da_nil)))) (dw_or1 (dt_not (dt_val (de_call (c_llimits_right V) tk_def hr (by decide) rfl (g_law_limits_right V) (da_cons (de_var (i := 1)) da_nil))))))) (dss_one (ds_ret de_bl)) dss_nil)
  (dss_one (ds_ret (de_and (de_callB (i := 0) (c_lderived_right V) tk_def hr (by decide) rfl (g_law_derived_right V) (da_cons (de_call (c_lmade V) tk_def hr (by decide) rfl (g_law_made V) (da_cons (de_var (i := 1)) da_nil)) da_nil)) (de_one (de_call0 (c_lerrors_right V) tk_def hr (by decide) rfl (g_law_errors_right V)))))))))
theorem c_lright (V : WD K mg base) : CalB P w K mg base 12 (He.ga K "_law_right") b_lright := by
  obtain ⟨fd, F⟩ := V.d.def_ 42 (d := df_42) rfl
  exact cal_BL F sc_lright (V.code (by decide +kernel)) (ok_lright V _) (fun _ _ _ _ _ _ us hl => match us, hl with | [_], _ => rfl)
/-! law -/
noncomputable def e_law_1 : En → Res (D × En) :=
  (eLc (iRg1 (aCons (eBin max2D (bOf (eC (.int 1))) (bOf (eBin min2D (bOf (eC (.int 3))) (bOf (eUn (orU lenD lenK) (bVar 0)))))) aNil)) (gNm 1) tYesD (eCallBN b_lright (eNewV (eCall d_lpot (aCons (eVar 0) (aCons (eVar 1) aNil))))) [1])
noncomputable def s_law : En → SR :=
  (sRet (eUn allD (bOf e_law_1)))
noncomputable def d_law : List D → Res D := runF 2 1 s_law
abbrev nm_law : List Str := ["_law_script", "_law_k"]
theorem sc_law : FnScope nm_law ["_law_script"] (defScope (top 51)) := ⟨rfl, rfl, rfl, by decide +kernel, rfl, by decide +kernel, by decide +kernel⟩
theorem ok_law (V : WD K mg base) (fA : Addr) : BodyOk P w K mg base 12 nm_law "law" (defScope (top 51)) fA (defBody (top 51)) s_law := by
  intro cdv A outer s H E hr
  have nd := (sc_law).nd
  exact (dss_one (ds_ret (de_all rfl (f_all V) (DE.db (DN.de (dn_lc (own := [("_law_k", 1)]) rfl nd (di_range1 rfl (f_range V) (da_cons (de_max2 rfl (f_max V) (DE.db de_int) (DE.db (de_min2 rfl (f_min V) (DE.db de_int) (DE.db (de_len  (f_len V) (db_var (i := 0))))))) da_nil)) (by refine ⟨rfl, ?_, ?_, ?_, ?_⟩ <;> first | exact of_decide_eq_true (by kernel_rfl) | decide +kernel) (fun _ _ _ _ _ => (dg_name (i := 1) (vs := [1]) (by decide) nd)) (fun _ _ _ _ _ => dts_nil) (fun _ _ _ _ _ => (de_callBN (c_lright V) takes0 hr (by decide) rfl (g_law_right V) (dn_newV (dv_call (c_lpot V) takes0 hr (by decide) rfl (g_law_pot V) (da_cons (de_var (i := 0)) (da_cons (de_var (i := 1)) da_nil))))))))))))
end
end K21

set_option Elab.async false
set_option linter.all false
set_option maxRecDepth 100000
set_option maxHeartbeats 0
namespace K21
open PySem PySem.Spec PyProof.Rows L2 Dl
abbrev R : PySem.W.OpenRow := PySem.W.OpenLaw.row PySem.Challenge.rw_letdays_k21_deals_refused
abbrev hk : PySem.W.Hook := hookN 8 fa fn fb fc lams
def ob (s : PySem.W.SharedT) : (He.AlD × Bool) × Bool := obsN 8 fa fn fb fc lams (HandSHeadRun.getT s)
theorem ob_eq (s : PySem.W.SharedT) : ob s = hk.obs s.abs := obsN_eq (HandSHeadRun.getT_eq s)
def loose : List Str := [("_wall" : Str), ("__name__" : Str), ("LETTERS" : Str), ("MOST_LETTERS" : Str), ("ZERO" : Str), ("is_integer" : Str), ("is_count" : Str), ("is_list" : Str), ("is_name" : Str), ("is_moment" : Str), ("is_point" : Str), ("wrong_name" : Str), ("DaysError" : Str), ("InvalidName" : Str), ("InvalidPoint" : Str), ("InvalidNumber" : Str), ("InvalidDates" : Str), ("InvalidDeal" : Str), ("InvalidNames" : Str), ("LimitError" : Str), ("TooMany" : Str), ("MOST_FILMS" : Str), ("MOST_LANDS" : Str), ("MOST_WAYS" : Str), ("want_name" : Str), ("want_names" : Str), ("want_few" : Str), ("want_points" : Str), ("day_of" : Str), ("Deal" : Str), ("_law_pot" : Str), ("_law_draw" : Str), ("_law_pick" : Str), ("_law_some" : Str), ("_law_heard" : Str), ("_law_odd_name" : Str), ("_law_odd_names" : Str), ("_law_odd_point" : Str), ("_law_parts" : Str), ("_law_made" : Str), ("_law_named" : Str), ("_law_spoilt" : Str), ("_law_turned" : Str), ("_law_wrong_right" : Str), ("_law_limits_right" : Str), ("_law_derived_right" : Str), ("_law_errors_right" : Str), ("_law_right" : Str)]
theorem run (w : World) : HandSHeadRun.RunEq R (PySem.W.view R.prog [51]) hk ob 20000 loose w := by
  intro os
  kernel_rfl
end K21

set_option Elab.async false
set_option linter.all false
set_option maxRecDepth 100000
set_option maxHeartbeats 4000000
namespace Dl
open PySem L2
section
variable {α β : Type} {r r1 : En} {i j n np : Nat} {f g h : En → Res (D × En)} {t u : En → Res (Bool × En)} {fa fb fc : En → Res (BV × En)} {as : En → Res (List D × En)} {s1 s2 : En → SR} {d d0 : D} {ds : List D}
@[simp] theorem pbind_ok (a : α) (k : α → Res β) : (Res.ok a).bind k = k a := rfl
@[simp] theorem pbind_bad (k : α → Res β) : (Res.bad : Res α).bind k = .bad := rfl
@[simp] theorem psbind_ok (a : α) (k : α → SR) : sBind (Res.ok a) k = k a := rfl
@[simp] theorem pvar : eVar i r = match r[i]? with
  | some (some (.fz d)) => .ok (d, r)
  | some (some (.ow d)) => if noOwn d = true then .ok (d, r.set i (some (.fz d))) else .bad
  | some (some (.bo _)) => .bad
  | some (some (.lm _ _ _ _ _)) => .bad
  | some none => .bad
  | none => .bad := by
  unfold eVar
  rcases r[i]? with _ | _ | (d | d | d | ⟨a, b, c, d, e⟩) <;> rfl
@[simp] theorem pmv : eMv i r = match r[i]? with
  | some (some (.ow d)) => if noOwn d = true then .ok (d, r.set i none) else .bad
  | some (some (.fz _)) => .bad
  | some (some (.bo _)) => .bad
  | some (some (.lm _ _ _ _ _)) => .bad
  | some none => .bad
  | none => .bad := by
  unfold eMv
  rcases r[i]? with _ | _ | (d | d | d | ⟨a, b, c, d, e⟩) <;> rfl
@[simp] theorem pnoL : noOwn (.lst ds) = true := rfl
@[simp] theorem pnoK {kvs : List (Key × D)} : noOwn (.dk kvs) = true := rfl
@[simp] theorem pnoT {kvs : List (List Key × D)} : noOwn (.dt kvs) = true := rfl
@[simp] theorem pnoI {c : Str} {fs : List (Str × D)} : noOwn (.ins c fs) = fs.all fun q => !isOwn q.2 := rfl
@[simp] theorem pio1 : isOwn (.lst ds) = false := rfl
@[simp] theorem pio2 {kvs : List (Key × D)} : isOwn (.dk kvs) = false := rfl
@[simp] theorem pio3 {kvs : List (List Key × D)} : isOwn (.dt kvs) = false := rfl
@[simp] theorem pio4 {c : Str} {fs : List (Str × D)} : isOwn (.ins c fs) = false := rfl
@[simp] theorem pio5 : isOwn (.tup ds) = false := rfl
@[simp] theorem pio6 {x : Str} : isOwn (.str x) = false := rfl
@[simp] theorem pio7 {x : Int} : isOwn (.int x) = false := rfl
@[simp] theorem pio8 {x : Bool} : isOwn (.bl x) = false := rfl
@[simp] theorem pio9 : isOwn .non = false := rfl
@[simp] theorem pbvar : bVar i r = match r[i]? with
  | some (some _) => .ok (.sl i, r)
  | _ => .bad := rfl
@[simp] theorem pc : eC d r = .ok (d, r) := rfl
@[simp] theorem pbof : bOf f r = (f r).bind fun p => .ok (.fz p.1, p.2) := rfl
@[simp] theorem pgetF : getB (.fz d) r = .ok d := rfl
@[simp] theorem pgetS : getB (.sl i) r = match r[i]? with
  | some (some s) => .ok s.d
  | _ => .bad := rfl
@[simp] theorem pliftS (a : α) : liftR (some a) = .ok a := rfl
@[simp] theorem pliftN : liftR (none : Option α) = .bad := rfl
@[simp] theorem pbin {q : D → D → Option D} : eBin q fa fb r = (fa r).bind fun p => (fb p.2).bind fun z => (getB p.1 z.2).bind fun x => (getB z.1 z.2).bind fun y => (liftR (q x y)).bind fun w => .ok (w, z.2) := rfl
@[simp] theorem pun {q : D → Option D} : eUn q fa r = (fa r).bind fun p => (getB p.1 p.2).bind fun x => (liftR (q x)).bind fun w => .ok (w, p.2) := rfl
@[simp] theorem ptofe : tOfE f r = (f r).bind fun p => match p.1 with
  | .bl c => .ok (c, p.2)
  | _ => .bad := rfl
@[simp] theorem ptand : tAndD t u r = (t r).bind fun p => match p.1 with
  | true => u p.2
  | false => .ok (false, p.2) := rfl
@[simp] theorem ptor : tOrD t u r = (t r).bind fun p => match p.1 with
  | true => .ok (true, p.2)
  | false => u p.2 := rfl
@[simp] theorem ptnot : tNotD t r = (t r).bind fun p => .ok (!p.1, p.2) := rfl
@[simp] theorem ptyes : tYesD r = .ok (true, r) := rfl
@[simp] theorem peif : eIf t f g r = (t r).bind fun p => match p.1 with
  | true => f p.2
  | false => g p.2 := rfl
@[simp] theorem panil : aNil r = .ok ([], r) := rfl
@[simp] theorem pacons : aCons f as r = (f r).bind fun p => (as p.2).bind fun q => .ok (p.1 :: q.1, q.2) := rfl
@[simp] theorem plst : eLst as r = (as r).bind fun p => if p.1.length ≤ 1000 then .ok (.lst p.1, p.2) else .bad := rfl
@[simp] theorem ptup : eTup as r = (as r).bind fun p => if p.1.length ≤ 1000 then .ok (.tup p.1, p.2) else .bad := rfl
@[simp] theorem pdict0 : eDict0 r = .ok (.dk [], r) := rfl
@[simp] theorem pnop : sNop r = .nx r := rfl
@[simp] theorem pseq : sSeq s1 s2 r = match s1 r with
  | .nx r' => s2 r'
  | x => x := rfl
@[simp] theorem pret : sRet f r = sBind (f r) fun p => .rt p.1 p.2 := rfl
@[simp] theorem pexpr : sExpr f r = sBind (f r) fun p => .nx p.2 := rfl
@[simp] theorem psif : sIf t s1 s2 r = sBind (t r) fun p => match p.1 with
  | true => s1 p.2
  | false => s2 p.2 := rfl
@[simp] theorem pasg {q : D → En → Res En} : sAsg f q r = sBind (f r) fun p => sBind (q p.1 p.2) .nx := rfl
@[simp] theorem pset : sSet i f r = sBind (f r) fun p => .nx (p.2.set i (some (.fz p.1))) := rfl
@[simp] theorem pown : sOwn i f r = sBind (f r) fun p => .nx (p.2.set i (some (.ow p.1))) := rfl
@[simp] theorem pgnm : gNm i d r = .ok (r.set i (some (.fz d))) := rfl
@[simp] theorem pgsnil : gsNil [] r = .ok r := rfl
@[simp] theorem pgscons {q : D → En → Res En} {qs : List D → En → Res En} : gsCons q qs (d :: ds) r = (q d r).bind fun r1 => qs ds r1 := rfl
@[simp] theorem pgtp {qs : List D → En → Res En} : gTp n qs (.tup ds) r = if ds.length = n then qs ds r else .bad := rfl
@[simp] theorem psfor {s : En → Res (List D × En)} {q : D → En → Res En} : sFor s q s1 r = sBind (s r) fun p => forD q s1 p.1 p.2 := rfl
@[simp] theorem piseq : iSeq f r = (f r).bind fun p => (liftR (seqD p.1)).bind fun ds => .ok (ds, p.2) := rfl
@[simp] theorem pseqL : seqD (.lst ds) = some ds := rfl
@[simp] theorem pseqT : seqD (.tup ds) = some ds := rfl
@[simp] theorem pseqS {z : Str} : seqD (.str z) = some (charsD z) := rfl
@[simp] theorem pirg1 : iRg1 as r = (as r).bind fun p => match p.1 with
  | [.int b] => if -(2 ^ 62) ≤ b ∧ b < 2 ^ 62 then .ok (rngD 0 b, p.2) else .bad
  | _ => .bad := rfl
@[simp] theorem pien : iEn as r = (as r).bind fun p => match p.1 with
  | [.lst es] => .ok (enumD es, p.2)
  | _ => .bad := rfl
@[simp] theorem pient : iEnT as r = (as r).bind fun p => match p.1 with
  | [.tup es] => .ok (enumD es, p.2)
  | _ => .bad := rfl
@[simp] theorem palt {x y : En → Res α} : eAlt x y r = match x r with
  | .bad => y r
  | z => z := rfl
@[simp] theorem pcall {den : List D → Res D} : eCall den as r = (as r).bind fun p => callR (den p.1) p.2 := rfl
@[simp] theorem pcallR : callR (.ok d) r = .ok (d, r) := rfl
@[simp] theorem pcallB {den : D → List D → Res (D × D)} : eCallB den i as r = if isMine r i = true then (as r).bind fun p => atMine p.2 i fun s => callRB (den s.d p.1) i s p.2 else .bad := rfl
@[simp] theorem pcallRB {s : Sl} {d1 : D} : callRB (.ok (d, d1)) i s r = .ok (d, r.set i (some (s.put d1))) := rfl
@[simp] theorem pismine : isMine r i = match r[i]? with
  | some (some s) => s.mine
  | _ => false := rfl
@[simp] theorem patmine {k : Sl → Res α} : atMine r i k = match r[i]? with
  | some (some s) => if s.mine = true then k s else .bad
  | _ => .bad := rfl
@[simp] theorem patmineS {k : Sl → SR} : atMineS r i k = match r[i]? with
  | some (some s) => if s.mine = true then k s else .bad
  | _ => .bad := rfl
@[simp] theorem pmineF : (Sl.fz d).mine = false := rfl
@[simp] theorem pmineO : (Sl.ow d).mine = true := rfl
@[simp] theorem pmineB : (Sl.bo d).mine = true := rfl
@[simp] theorem pdF : (Sl.fz d).d = d := rfl
@[simp] theorem pdO : (Sl.ow d).d = d := rfl
@[simp] theorem pdB : (Sl.bo d).d = d := rfl
@[simp] theorem pputO : (Sl.ow d).put d0 = .ow d0 := rfl
@[simp] theorem pputB : (Sl.bo d).put d0 = .bo d0 := rfl
@[simp] theorem porD {q k : D → D → Option D} {x y : D} : orD q k x y = match q x y with
  | some z => some z
  | none => k x y := rfl
@[simp] theorem porU {q k : D → Option D} {x : D} : orU q k x = match q x with
  | some z => some z
  | none => k x := rfl
@[simp] theorem pmapR {q : D → Option D} : mapR q (.ok d) = match q d with
  | some z => .ok z
  | none => .bad := rfl
@[simp] theorem ptoB {b : Bool} : toB (.bl b) = some (.bl b) := rfl
@[simp] theorem ptoNB {b : Bool} : toNB (.bl b) = some (.bl (!b)) := rfl
@[simp] theorem pownR {c : Str} {q : D → Option D} {den : List D → Res D} : eOwnR c q den f g r = (f r).bind fun p => (g p.2).bind fun z => match z.1 with
  | .ins c' fs => if c' = c then callR (mapR q (den [.ins c' fs, p.1])) z.2 else .bad
  | _ => .bad := rfl
@[simp] theorem pownL {c : Str} {q : D → Option D} {den : List D → Res D} : eOwnL c q den f g r = (f r).bind fun p => (g p.2).bind fun z => match p.1, z.1 with
  | .ins c' fs, .ins c2 gs => if c' = c ∧ c2 = c then callR (mapR q (den [.ins c' fs, .ins c2 gs])) z.2 else .bad
  | _, _ => .bad := rfl
@[simp] theorem pmeth {c m : Str} {den : List D → Res D} : eMeth c m den f as r = (f r).bind fun p => match p.1 with
  | .ins c' fs => if c' = c ∧ hasNo fs m = true then (as p.2).bind fun q => callR (den (.ins c' fs :: q.1)) q.2 else .bad
  | _ => .bad := rfl
@[simp] theorem pmake {c : Str} {den : D → List D → Res (D × D)} : eMake c den as r = (as r).bind fun p => match den (.ins c []) p.1 with
  | .ok (.non, d1) => if noOwn d1 = true then .ok (d1, p.2) else .bad
  | .er c fs _ => .er c fs p.2
  | _ => .bad := rfl
@[simp] theorem pcallBN {den : D → List D → Res (D × D)} : eCallBN den f r = (f r).bind fun p => callR (fstR (den p.1 [])) p.2 := rfl
@[simp] theorem pfstR {p : D × D} : fstR (.ok p) = .ok p.1 := rfl
@[simp] theorem pand : eAnd f g r = (f r).bind fun p => match p.1 with
  | .bl true => g p.2
  | .bl false => .ok (.bl false, p.2)
  | _ => .bad := rfl
@[simp] theorem por : eOr f g r = (f r).bind fun p => match p.1 with
  | .bl true => .ok (.bl true, p.2)
  | .bl false => g p.2
  | _ => .bad := rfl
@[simp] theorem pnot : eNot f r = (f r).bind fun p => match p.1 with
  | .bl b => .ok (.bl (!b), p.2)
  | _ => .bad := rfl
@[simp] theorem ppar : sPar i j as r = sBind (as r) fun p => match p.1 with
  | [a, b] => .nx ((p.2.set i (some (.fz a))).set j (some (.fz b)))
  | _ => .bad := rfl
@[simp] theorem pnseq : nSeq s1 f r = match s1 r with
  | .nx r' => f r'
  | .er c fs r' => .er c fs r'
  | _ => .bad := rfl
end
end Dl

set_option Elab.async false
set_option linter.all false
set_option maxRecDepth 100000
set_option maxHeartbeats 4000000
namespace Dl
open PySem L2
/-- data of at most k levels -/
structure Fine (k : Nat) (x : D) : Prop where
  d : isData x = true
  c : (toPy x).canLay0 = true
  l : (toPy x).depth ≤ k
theorem Fine.ok {k : Nat} {d : D} (h : Fine k d) (hk : k ≤ 64 := by omega) : okPy d = true := by
  unfold okPy SeqAt.shaped
  rw [h.d, h.c]
  simp only [Bool.true_and, decide_eq_true_eq]
  exact Nat.le_trans h.l hk
theorem Fine.mono {j k : Nat} {d : D} (h : Fine j d) (hk : j ≤ k) : Fine k d := ⟨h.d, h.c, Nat.le_trans h.l hk⟩
end Dl

set_option Elab.async false
set_option linter.all false
set_option maxRecDepth 100000
set_option maxHeartbeats 4000000
namespace Dl
open PySem L2
theorem map_inj {α β : Type} {f : α → β} (h : ∀ x y, f x = f y → x = y) : ∀ {a b : List α}, a.map f = b.map f → a = b
  | [], [], _ => rfl
  | [], _ :: _, e => by simp at e
  | _ :: _, [], e => by simp at e
  | x :: a, y :: b, e => by
    simp only [List.map_cons, List.cons.injEq] at e
    rw [h x y e.1, map_inj h e.2]
end Dl

set_option Elab.async false
set_option linter.all false
set_option maxRecDepth 100000
set_option maxHeartbeats 4000000
namespace Dl
open PySem L2
@[simp] theorem ofs_inj {a b : String} : (Str.ofString a = Str.ofString b) ↔ a = b := by
  constructor
  · intro h
    rw [Str.ofString_eq_toList, Str.ofString_eq_toList] at h
    have h1 : a.toList.map Char.toNat = b.toList.map Char.toNat := List.toArray_inj (Str.mk.inj h)
    have h2 : a.toList = b.toList := map_inj (fun x y e => Char.toNat_inj.mp e) h1
    exact String.toList_inj.mp h2
  · rintro rfl
    rfl
@[simp] theorem ofs_beq {a b : String} : (Str.ofString a == Str.ofString b) = (a == b) := by
  rw [Bool.eq_iff_iff]
  simp
@[simp] theorem pfldset {cs : List Str} {n : Str} {i : Nat} {f : En → Res (D × En)} {r : En} : sFldSet cs n i f r = sBind (f r) fun p => atMineS p.2 i fun s => match s.d with
  | .ins c fs => if c ∈ cs ∧ fs.length < 1000 then .nx (p.2.set i (some (s.put (.ins c (putD n p.1 fs))))) else .bad
  | _ => .bad := rfl
@[simp] theorem pmethB {c m : Str} {den : D → List D → Res (D × D)} {i : Nat} {fa : En → Res (List D × En)} {r : En} : eMethB c m den i fa r = atMine r i fun s0 => match s0.d with
  | .ins c' fs => if c' = c ∧ hasNo fs m = true then (fa r).bind fun q => atMine q.2 i fun s => callRB (den s.d q.1) i s q.2 else .bad
  | _ => .bad := rfl
@[simp] theorem pesl {g : D → Option Int → Option Int → Option D} {fe : En → Res (BV × En)} {fl fh : En → Res (Option Int × En)} {r : En} : eSl g fe fl fh r = (fe r).bind fun p => (fl p.2).bind fun l => (fh l.2).bind fun u => (getB p.1 u.2).bind fun d => (liftR (g d l.1 u.1)).bind fun z => .ok (z, u.2) := rfl
@[simp] theorem pdonone {r : En} : doNone r = .ok (none, r) := rfl
@[simp] theorem pdosome {f : En → Res (D × En)} {r : En} : doSome f r = (f r).bind fun p => match p.1 with
  | .int i => .ok (some i, p.2)
  | _ => .bad := rfl
@[simp] theorem pfld {cs : List Str} {n c : Str} {fs : List (Str × D)} : fldD cs n (.ins c fs) = if c ∈ cs then (match fs.lookup n with
  | some (.own _) => none
  | z => z) else none := rfl
@[simp] theorem pcon {c n c' : Str} {d : D} {fs : List (Str × D)} : conD c n d (.ins c' fs) = if c' = c ∧ hasNo fs n = true then some d else none := rfl
@[simp] theorem phasno {fs : List (Str × D)} {m : Str} : hasNo fs m = fs.all fun q => decide (q.1 ≠ m) := rfl
@[simp] theorem pslL {ds : List D} {lo hi : Option Int} : slL (.lst ds) lo hi = some (.lst (cutD ds lo hi)) := rfl
@[simp] theorem plenL {ds : List D} : lenD (.lst ds) = some (.int ds.length) := rfl
@[simp] theorem plenT {ds : List D} : lenD (.tup ds) = some (.int ds.length) := rfl
@[simp] theorem plenK {kvs : List (Key × D)} : lenK (.dk kvs) = some (.int kvs.length) := rfl
@[simp] theorem plenDK {kvs : List (Key × D)} : lenD (.dk kvs) = none := rfl
@[simp] theorem pgt {a b : Int} : gtI (.int a) (.int b) = some (.bl (decide (b < a))) := rfl
@[simp] theorem plt {a b : Int} : ltI (.int a) (.int b) = some (.bl (decide (a < b))) := rfl
@[simp] theorem ple {a b : Int} : leI (.int a) (.int b) = some (.bl (decide (a ≤ b))) := rfl
@[simp] theorem pge {a b : Int} : geI (.int a) (.int b) = some (.bl (decide (b ≤ a))) := rfl
@[simp] theorem padd {a b : Int} : addI (.int a) (.int b) = some (.int (a + b)) := rfl
@[simp] theorem psub {a b : Int} : subI (.int a) (.int b) = some (.int (a - b)) := rfl
@[simp] theorem pixL {ds : List D} {i : Int} : ixG (.lst ds) (.int i) = atI ds i := rfl
@[simp] theorem pixT {ds : List D} {i : Int} : ixG (.tup ds) (.int i) = atI ds i := rfl
@[simp] theorem plistL {ds : List D} : listD (.lst ds) = some (.lst ds) := rfl
@[simp] theorem plistT {ds : List D} : listD (.tup ds) = some (.lst ds) := rfl
@[simp] theorem pcat {a b : List D} : catL (.lst a) (.lst b) = if a.length + b.length ≤ 100000 then some (.lst (a ++ b)) else none := rfl
@[simp] theorem peqSS {a b : Str} : eqD (.str a) (.str b) = some (.bl (decide (a = b))) := rfl
@[simp] theorem peqII {a b : Int} : eqD (.int a) (.int b) = some (.bl (decide (a = b))) := by
  show (if okPy (.int a) = true ∧ okPy (.int b) = true then some (D.bl (PyData.eqv (.int a) (.int b))) else none) = _
  rw [if_pos ⟨rfl, rfl⟩]
  rfl
@[simp] theorem pneII {a b : Int} : neD (.int a) (.int b) = some (.bl (!decide (a = b))) := by
  show (if okPy (.int a) = true ∧ okPy (.int b) = true then some (D.bl (!PyData.eqv (.int a) (.int b))) else none) = _
  rw [if_pos ⟨rfl, rfl⟩]
  rfl
@[simp] theorem peqBB {a b : Bool} : eqD (.bl a) (.bl b) = some (.bl (a == b)) := by
  show (if okPy (.bl a) = true ∧ okPy (.bl b) = true then some (D.bl (PyData.eqv (.bool a) (.bool b))) else none) = _
  rw [if_pos ⟨rfl, rfl⟩]
  rfl
@[simp] theorem plook {a k : Str} {v : D} {l : List (Str × D)} : List.lookup a ((k, v) :: l) = if a = k then some v else l.lookup a := by
  rw [List.lookup_cons]
  by_cases h : a = k
  · rw [if_pos h, beq_iff_eq.mpr h]
  · rw [if_neg h, beq_eq_false_iff_ne.mpr h]
@[simp] theorem pneSS {a b : Str} : neD (.str a) (.str b) = some (.bl (!decide (a = b))) := rfl
@[simp] theorem pisiS {ns : List String} {cs : List Str} {x : Str} : isiB ns cs (.str x) = some (.bl (ns.any fun n => isT "str" n)) := rfl
@[simp] theorem pisiI {ns : List String} {cs : List Str} {x : Int} : isiB ns cs (.int x) = some (.bl (ns.any fun n => isT "int" n)) := rfl
@[simp] theorem pisiBl {ns : List String} {cs : List Str} {x : Bool} : isiB ns cs (.bl x) = some (.bl (ns.any fun n => isT "bool" n)) := rfl
@[simp] theorem pisiL {ns : List String} {cs : List Str} {x : List D} : isiB ns cs (.lst x) = some (.bl (ns.any fun n => isT "list" n)) := rfl
@[simp] theorem pisiT {ns : List String} {cs : List Str} {x : List D} : isiB ns cs (.tup x) = some (.bl (ns.any fun n => isT "tuple" n)) := rfl
@[simp] theorem pisiD {ns : List String} {cs : List Str} {x : List (Key × D)} : isiB ns cs (.dk x) = some (.bl (ns.any fun n => isT "dict" n)) := rfl
@[simp] theorem pisiO {c c' : Str} {cs : List Str} {fs : List (Str × D)} : isiO c cs (.ins c' fs) = if c' = c then some (.bl true) else if c' ∈ cs then some (.bl false) else none := rfl
@[simp] theorem pisT {t n : String} : isT t n = (t == n || (t == "bool" && n == "int")) := rfl
@[simp] theorem pendB {d d1 : D} {r : En} : endB d (some (.bo d1) :: r) = .ok (d, d1) := rfl
@[simp] theorem pputN {n : Str} {d : D} : putD n d [] = [(n, d)] := rfl
@[simp] theorem pputC {n k : Str} {d d0 : D} {fs : List (Str × D)} : putD n d ((k, d0) :: fs) = if k = n then (n, d) :: fs else (k, d0) :: putD n d fs := rfl
theorem atI_nat {α : Type} (l : List α) (k : Nat) : atI l (k : Int) = l[k]? := by
  unfold atI ixN
  rw [if_pos (Int.natCast_nonneg k)]
  by_cases h : k < l.length
  · rw [if_pos (by omega)]
    simp
  · rw [if_neg (by omega)]
    simp
    omega
@[simp] theorem patI0 {α : Type} {l : List α} : atI l 0 = l[0]? := atI_nat l 0
@[simp] theorem patI1 {α : Type} {l : List α} : atI l 1 = l[1]? := atI_nat l 1
@[simp] theorem patI2 {α : Type} {l : List α} : atI l 2 = l[2]? := atI_nat l 2
@[simp] theorem patI3 {α : Type} {l : List α} : atI l 3 = l[3]? := atI_nat l 3
end Dl

set_option Elab.async false
set_option linter.all false
set_option maxRecDepth 100000
set_option maxHeartbeats 4000000
namespace Dl
open PySem L2
/-! ### dicts of numbers by names -/
abbrev Nr : Type := List (Str × Int)
@[simp] theorem pdget {kvs : List (Key × D)} {x : Str} : dgetD (.dk kvs) (.str x) = getKD kvs (.inr x) := rfl
end Dl

set_option Elab.async false
set_option linter.all false
set_option maxRecDepth 100000
set_option maxHeartbeats 4000000
namespace Dl
open PySem L2
@[simp] theorem pextend {i : Nat} {f : En → Res (D × En)} {r : En} : sExtend i f r = atMineS r i fun s0 => match s0.d with
  | .lst _ => sBind (f r) fun p => atMineS p.2 i fun s => match extD s.d p.1 with
    | some z => .nx (p.2.set i (some (s.put z)))
    | none => .bad
  | _ => .bad := rfl
@[simp] theorem pappend {i : Nat} {f : En → Res (D × En)} {r : En} : sAppend i f r = atMineS r i fun s0 => match s0.d with
  | .lst _ => sBind (f r) fun p => atMineS p.2 i fun s => match s.d with
    | .lst ds => if ds.length < 100000 then .nx (p.2.set i (some (s.put (.lst (ds ++ [p.1]))))) else .bad
    | _ => .bad
  | _ => .bad := rfl
@[simp] theorem pext {a b : List D} : extD (.lst a) (.lst b) = if a.length + b.length < 100000 then some (.lst (a ++ b)) else none := rfl
@[simp] theorem pirg2 {as : En → Res (List D × En)} {r : En} : iRg2 as r = (as r).bind fun p => match p.1 with
  | [.int a, .int b] => if -(2 ^ 62) ≤ a ∧ a < 2 ^ 62 ∧ -(2 ^ 62) ≤ b ∧ b < 2 ^ 62 then .ok (rngD a b, p.2) else .bad
  | _ => .bad := rfl
@[simp] theorem pneg {a : Int} : negI (.int a) = some (.int (-a)) := rfl
/-- a comprehension over a mapped list -/
theorem elc_of {α : Type} {f z : α → D} {p : α → Bool} {s : En → Res (List D × En)} {g : D → En → Res En} {t : En → Res (Bool × En)} {e : En → Res (D × En)} {vs : List Nat} {r r0 : En} {l : List α} (hs : s r = .ok (l.map f, r0)) (hl : l.length ≤ 100000)
    (h : ∀ x ∈ l, ∃ r1 r2 r3, g (f x) (wipeE r0 vs) = .ok r1 ∧ t r1 = .ok (p x, r2) ∧ (p x = true → e r2 = .ok (z x, r3) ∧ wipeE r3 vs = wipeE r0 vs) ∧ (p x = false → wipeE r2 vs = wipeE r0 vs)) :
    eLc s g t e vs r = .ok (.lst ((l.filter p).map z), restore r0 vs (wipeE r0 vs)) := by
  unfold eLc
  rw [hs, bind_ok]
  simp only [List.length_map, if_pos hl]
  have key : ∀ (m : List α) (acc : List D), (∀ x ∈ m, x ∈ l) → lcLoop g t e vs (m.map f) (wipeE r0 vs) acc = .ok (acc ++ (m.filter p).map z, wipeE r0 vs) := by
    intro m
    induction m with
    | nil => intro acc _; simp [lcLoop]
    | cons x m ih =>
      intro acc hm
      obtain ⟨r1, r2, r3, h1, h2, h3, h4⟩ := h x (hm x (by simp))
      rw [List.map_cons]
      unfold lcLoop
      rw [h1, nX_ok, bind_ok, h2, nX_ok, bind_ok]
      cases q : p x with
      | true =>
        obtain ⟨h5, h6⟩ := h3 q
        simp only
        rw [h5, nX_ok, bind_ok]
        simp only [h6]
        rw [ih _ fun y hy => hm y (List.mem_cons_of_mem _ hy)]
        simp [List.filter_cons, q]
      | false =>
        simp only [h4 q]
        rw [ih _ fun y hy => hm y (List.mem_cons_of_mem _ hy)]
        simp [List.filter_cons, q]
  rw [key l [] fun x hx => hx, nX_ok, bind_ok]
  rfl
/-- .. without a test -/
theorem elc_all {α : Type} {f z : α → D} {s : En → Res (List D × En)} {g : D → En → Res En} {e : En → Res (D × En)} {vs : List Nat} {r r0 : En} {l : List α} (hs : s r = .ok (l.map f, r0)) (hl : l.length ≤ 100000)
    (h : ∀ x ∈ l, ∃ r1 r3, g (f x) (wipeE r0 vs) = .ok r1 ∧ e r1 = .ok (z x, r3) ∧ wipeE r3 vs = wipeE r0 vs) :
    eLc s g tYesD e vs r = .ok (.lst (l.map z), restore r0 vs (wipeE r0 vs)) := by
  rw [elc_of (p := fun _ => true) (z := z) hs hl, List.filter_eq_self.mpr (by simp)]
  intro x hx
  obtain ⟨r1, r3, h1, h2, h3⟩ := h x hx
  exact ⟨r1, r1, r3, h1, rfl, fun _ => ⟨h2, h3⟩, fun z => nomatch z⟩
end Dl

set_option Elab.async false
set_option linter.all false
set_option maxRecDepth 100000
set_option maxHeartbeats 4000000
namespace Dl
open PySem L2
@[simp] theorem pgsetix {i : Nat} {fi : En → Res (D × En)} {d : D} {r : En} : gSetIx i fi d r = if isMine r i = true then (fi r).bind fun p => atMine p.2 i fun s => match s.d with
  | .lst ds => (match ixD ds.length p.1 with
    | some j => .ok (p.2.set i (some (s.put (.lst (ds.set j d)))))
    | none => .bad)
  | _ => .bad else .bad := rfl
@[simp] theorem pixd0 : ixD 2 (.int 0) = some 0 := rfl
@[simp] theorem pixd1 : ixD 2 (.int 1) = some 1 := rfl
@[simp] theorem pintI {i : Int} : intD (.int i) = some (.int i) := rfl
theorem pmod {a b : Int} (h : 0 < b) : modI (.int a) (.int b) = some (.int (a % b)) := by
  show (if 0 < b then some (D.int (a % b)) else none) = _
  rw [if_pos h]
theorem pfdiv {a b : Int} (h : 0 < b) (k : b < 1073741824) : fdivI (.int a) (.int b) = some (.int (a / b)) := by
  show (if 0 < b ∧ b < 1073741824 then some (D.int (a / b)) else none) = _
  rw [if_pos ⟨h, k⟩]
theorem pmul {a b : Int} (h : -(2 ^ 64) < a ∧ a < 2 ^ 64) : mulI (.int a) (.int b) = some (.int (a * b)) := by
  show (if (-(2 ^ 64) < a ∧ a < 2 ^ 64) ∨ (-(2 ^ 64) < b ∧ b < 2 ^ 64) then some (D.int (a * b)) else none) = _
  rw [if_pos (.inl h)]
/-- a pot -/
def VP (d : D) : Prop := ∃ p0 p1 : Int, d = .lst [.int p0, .int p1] ∧ 0 ≤ p0 ∧ 0 ≤ p1 ∧ p1 < 2147483648
theorem atI_mem {α : Type} {l : List α} {k : Int} (h0 : 0 ≤ k) (h1 : k < l.length) : ∃ x, atI l k = some x ∧ x ∈ l := by
  obtain ⟨n, rfl⟩ := Int.eq_ofNat_of_zero_le h0
  have hn : n < l.length := by omega
  exact ⟨l[n], by rw [Dl.atI_nat]; simp [hn], List.getElem_mem _⟩
theorem bls {bs : List Bool} : blsOf (bs.map D.bl) = some bs := by
  induction bs with
  | nil => rfl
  | cons b bs ih => simp [blsOf, ih]
theorem all_bl {α : Type} {l : List α} {p : α → Bool} : allD (.lst (l.map fun x => D.bl (p x))) = some (.bl (l.all p)) := by
  have e : (l.map fun x => D.bl (p x)) = (l.map p).map D.bl := by simp
  unfold allD
  simp only
  rw [e, bls]
  simp
@[simp] theorem pisiN {ns : List String} {cs : List Str} : isiB ns cs .non = some (.bl (ns.any fun n => isT "NoneType" n)) := rfl
@[simp] theorem pisiDT {ns : List String} {cs : List Str} {x : List (List Key × D)} : isiB ns cs (.dt x) = some (.bl (ns.any fun n => isT "dict" n)) := rfl
@[simp] theorem ptupL {ds : List D} : tupleD (.lst ds) = some (.tup ds) := rfl
@[simp] theorem ptupT {ds : List D} : tupleD (.tup ds) = some (.tup ds) := rfl
@[simp] theorem pisB {a b : Bool} : isB (.bl a) (.bl b) = some (.bl (decide (a = b))) := rfl
@[simp] theorem pnotB {a b : Bool} : notB (.bl a) (.bl b) = some (.bl (!decide (a = b))) := rfl
@[simp] theorem pisNB {a b : Bool} : isN (.bl a) (.bl b) = none := rfl
@[simp] theorem pnotNB {a b : Bool} : notN (.bl a) (.bl b) = none := rfl
@[simp] theorem prep2 {d : D} : repD (.lst [d]) (.int 2) = some (.lst [d, d]) := rfl
@[simp] theorem pslT {ds : List D} {lo hi : Option Int} : slT (.tup ds) lo hi = some (.tup (cutD ds lo hi)) := rfl
@[simp] theorem pslAL {ds : List D} {lo hi : Option Int} : slA (.lst ds) lo hi = some (.lst (cutD ds lo hi)) := rfl
@[simp] theorem pslAT {ds : List D} {lo hi : Option Int} : slA (.tup ds) lo hi = some (.tup (cutD ds lo hi)) := rfl
@[simp] theorem pizip {f : En → Res (List D × En)} {r : En} : iZip f r = (f r).bind fun p => match p.1 with
  | [.lst ds, .lst es] => .ok (zipD ds es, p.2)
  | [.tup ds, .tup es] => .ok (zipD ds es, p.2)
  | _ => .bad := rfl
@[simp] theorem pdispC {ks : List Key} {n : Int} {r : En} : eDispC ks n r = .ok (.dt [(ks, .int n)], r) := rfl
@[simp] theorem pmethK {c m : Str} {n j : Nat} {den : List D → List D → Res D} {fo : En → Res (D × En)} {fa fk : En → Res (List D × En)} {r : En} : eMethK c m n j den fo fa fk r = (fo r).bind fun o => match o.1 with
  | .ins c' fs => if c' = c ∧ hasNo fs m = true then (fa o.2).bind fun p => (fk p.2).bind fun q => if p.1.length + 1 = n ∧ q.1.length = j then callR (den (.ins c' fs :: p.1) q.1) q.2 else .bad else .bad
  | _ => .bad := rfl
@[simp] theorem pislst {r : En} {i : Nat} : isLstAt r i = match r[i]? with
  | some (some s) => s.mine && (match s.d with | .lst _ => true | _ => false)
  | _ => false := by
  unfold isLstAt
  cases r[i]? with
  | none => rfl
  | some o =>
    cases o with
    | none => rfl
    | some s =>
      cases s <;> first | rfl | (rename_i d; cases d <;> rfl)
@[simp] theorem plm {i : Nat} {g : List D → List D → Option (D × List D)} {fa : En → Res (List D × En)} {r : En} : eLm i g fa r = if isLstAt r i = true then (fa r).bind fun p => atMine p.2 i fun s => match s.d with
  | .lst ds => (match g ds p.1 with
    | some (z, es) => .ok (z, p.2.set i (some (s.put (.lst es))))
    | none => .bad)
  | _ => .bad else .bad := rfl
end Dl

set_option Elab.async false
set_option linter.all false
set_option maxRecDepth 100000
set_option maxHeartbeats 4000000
namespace Dl
open PySem L2
local instance : Tb := ⟨[]⟩
section
variable {r : En} {i j : Nat} {f g fk fv fa fb : En → Res (D × En)} {s1 s2 : En → SR} {d : D} {ds : List D} {kvs : List (Key × D)}
@[simp] theorem pnoXok {α : Type} {a : α} : noX (.ok a) = .ok a := rfl
@[simp] theorem psalt : sAlt s1 s2 r = match s1 r with
  | .bad => s2 r
  | x => x := rfl
@[simp] theorem pparO : sParO i j fa fb r = sBind (fa r) fun p => sBind (noX (fb p.2)) fun q => .nx ((q.2.set i (some (.ow p.1))).set j (some (.fz q.1))) := rfl
@[simp] theorem pdisp1 : eDisp1 fk fv r = (noX (fk r)).bind fun a => (noX (fv a.2)).bind fun b => match keyD a.1 with
  | some k => .ok (.dk [(k, b.1)], b.2)
  | none => .bad := rfl
@[simp] theorem pcnt : eCnt fa fb r = (fa r).bind fun p => (noX (fb p.2)).bind fun q => (liftR (cntD p.1 q.1)).bind fun z => .ok (z, q.2) := rfl
@[simp] theorem pikey : iKeyD f r = (f r).bind fun p => match p.1 with
  | .dk kvs => .ok (keysOfD kvs, p.2)
  | _ => .bad := rfl
@[simp] theorem piown {c n : Str} : iOwn c n f r = (f r).bind fun p => match p.1 with
  | .ins c' fs => if c' = c then (match fs.lookup n with
    | some (.dk kvs) => .ok (keysOfD kvs, p.2)
    | _ => .bad) else .bad
  | _ => .bad := rfl
@[simp] theorem plistK : listK (.dk kvs) = some (.lst (keysOfD kvs)) := rfl
@[simp] theorem plistKL : listK (.lst ds) = none := rfl
@[simp] theorem plistKT : listK (.tup ds) = none := rfl
@[simp] theorem plistDK : listD (.dk kvs) = none := rfl
@[simp] theorem prevL : revD (.lst ds) = some (.lst ds.reverse) := rfl
@[simp] theorem psortTL : sortedT (.lst ds) = none := rfl
@[simp] theorem psortKL : sortedK (.lst ds) = none := rfl
@[simp] theorem psortKT : sortedK (.tup ds) = none := rfl
@[simp] theorem psortDT : sortedD (.tup ds) = none := rfl
@[simp] theorem psortDK : sortedD (.dk kvs) = none := rfl
@[simp] theorem psortTK : sortedT (.dk kvs) = none := rfl
@[simp] theorem pkeyS {x : Str} : keyD (.str x) = some (.inr x) := rfl
@[simp] theorem pkeyI {x : Int} : keyD (.int x) = some (.inl x) := rfl
@[simp] theorem pdgetS {x : Str} : dgetD (.dk kvs) (.str x) = getKD kvs (.inr x) := rfl
@[simp] theorem pdinS {x : Str} : dinD (.str x) (.dk kvs) = some (.bl (getKD kvs (.inr x)).isSome) := rfl
@[simp] theorem plenTK : lenD (.dk kvs) = none := rfl
@[simp] theorem plsetT : lenSetT (.lst ds) = none := rfl
@[simp] theorem plsetD : lenSetD (.tup ds) = none := rfl
end
end Dl

set_option Elab.async false
set_option linter.all false
set_option maxRecDepth 100000
set_option maxHeartbeats 4000000
namespace Dl
open PySem L2
/-! ### dicts with texts for keys, of any values -/
section
variable {α : Type} {f : α → D}
def kd (f : α → D) (l : List (Str × α)) : List (Key × D) := l.map fun q => (Sum.inr q.1, f q.2)
def getT (l : List (Str × α)) (x : Str) : Option α := (l.find? fun q => decide (q.1 = x)).map (·.2)
end
end Dl

set_option Elab.async false
set_option linter.all false
set_option maxRecDepth 100000
set_option maxHeartbeats 4000000
namespace Dl
open PySem L2
section
variable {c c' : Str} {fs : List (Str × D)} {r r' : En} {ns : List Str} {fa : En → Res (List D × En)} {f g : En → Res (D × En)} {den : List D → Res D} {α β : Type} {d d1 : D}
@[simp] theorem pcallRE : callR (.er c fs r') r = .er c fs r := rfl
@[simp] theorem pbindE {k : α → Res β} : (Res.er c fs r : Res α).bind k = .er c fs r := rfl
@[simp] theorem psbindE {k : α → SR} : sBind (.er c fs r : Res α) k = .er c fs r := rfl
@[simp] theorem praise : sRaise c ns fa r = sBind (fa r) fun p => if p.1.length = ns.length then .er c (ns.zip p.1).reverse p.2 else .bad := rfl
@[simp] theorem pmapRE {q : D → Option D} : mapR q (.er c fs r) = .er c fs r := rfl
@[simp] theorem pmkR : mkR (.ok (.non, d1)) r = if noOwn d1 = true then .ok (d1, r) else .bad := rfl
@[simp] theorem pmkRE : mkR (.er c fs r') r = .er c fs r := rfl
@[simp] theorem pmakeJ {n m : Nat} {den : D → List D → List D → Res (D × D)} {fa fk : En → Res (List D × En)} : eMakeJ c n m den fa fk r = (fa r).bind fun p => (fk p.2).bind fun q => if p.1.length = n ∧ q.1.length = m then mkR (den (.ins c []) p.1 q.1) q.2 else .bad := rfl
@[simp] theorem popX : eOpX c den f g r = (f r).bind fun p => (g p.2).bind fun q => match p.1 with
  | .ins c' fs => if c' = c ∧ (tnD q.1).isSome = true then callR (mapR some (den [.ins c' fs, q.1])) q.2 else .bad
  | _ => .bad := rfl
@[simp] theorem plenO : eLenO c den f r = (f r).bind fun p => match p.1 with
  | .ins c' fs => if c' = c then callR (mapR toLen (den [.ins c' fs])) p.2 else .bad
  | _ => .bad := rfl
@[simp] theorem pfrz0 : frzOnly [] = [] := rfl
@[simp] theorem pfrzF : frzOnly (some (.fz d) :: r) = some (.fz d) :: frzOnly r := rfl
@[simp] theorem pfrzO : frzOnly (some (.ow d) :: r) = none :: frzOnly r := rfl
@[simp] theorem pfrzB : frzOnly (some (.bo d) :: r) = none :: frzOnly r := rfl
@[simp] theorem pfrzN : frzOnly (none :: r) = none :: frzOnly r := rfl
end
/-! ### what can be shown -/
structure Shw (n c : Nat) (d : D) : Prop where
  dt : isData d = true
  sh : (toPy d).showable = true
  dp : (toPy d).depth ≤ n
  ln : (toPy d).shown.length ≤ c
end Dl

set_option Elab.async false
set_option linter.all false
set_option maxRecDepth 100000
set_option maxHeartbeats 4000000
namespace Dl
open PySem L2
/-! ### simp equations of the later combinators -/
section
variable {α : Type} {r r1 : En} {i j n np : Nat} {f g h fk fv : En → Res (D × En)} {fd : En → Res (BV × En)} {as : En → Res (List D × En)} {ls : En → Res (List Sl × En)} {ps : En → Res (List (D × D) × En)} {d d0 z : D} {ds : List D} {cs : List Str} {nm c m : Str} {fs : List (Str × D)} {s : Sl}
@[simp] theorem pnXok (a : α) : noX (.ok a) = .ok a := rfl
@[simp] theorem pownO : ownFld cs nm r i = match r[i]? with
  | some (some s) => if s.mine = true then (match s.d with
    | .ins c fs => if c ∈ cs then (match fs.lookup nm with
      | some (.own d) => some (s, d)
      | _ => none) else none
    | _ => none) else none
  | _ => none := rfl
@[simp] theorem pputOwn : putOwn nm d (.ins c fs) = .ins c (putD nm (.own d) fs) := rfl
@[simp] theorem punF {q : D → Option D} : eUnF q cs nm i r = match ownFld cs nm r i with
  | some p => (liftR (q p.2)).bind fun z => .ok (z, r)
  | none => .bad := rfl
@[simp] theorem patF {q : D → D → Option D} : eAtF q cs nm i fk r = match ownFld cs nm r i with
  | some p => (noX (fk (r.set i none))).bind fun x => (liftR (q p.2 x.1)).bind fun z => .ok (z, x.2.set i (some p.1))
  | none => .bad := rfl
@[simp] theorem pinF {q : D → D → Option D} : eInF q cs nm i fk r = (fk r).bind fun p => match ownFld cs nm p.2 i with
  | some x => (liftR (q p.1 x.2)).bind fun z => .ok (z, p.2)
  | none => .bad := rfl
@[simp] theorem pdputF : sDPutF cs nm i fk fv r = sBind (fv r) fun p => match ownFld cs nm p.2 i with
  | some x => sBind (noX (fk (p.2.set i none))) fun z => (match x.2, keyD z.1 with
    | .dk kvs, some k => if kvs.length < 100000 then .nx (z.2.set i (some (x.1.put (putOwn nm (.dk (putKD kvs k p.1)) x.1.d)))) else .bad
    | _, _ => .bad)
  | none => .bad := rfl
@[simp] theorem pfldOwn : sFldOwn cs nm i f r = sBind (f r) fun p => atMineS p.2 i fun s => match s.d with
  | .ins c fs => if c ∈ cs ∧ fs.length < 1000 ∧ isPart p.1 = true then .nx (p.2.set i (some (s.put (.ins c (putD nm (.own p.1) fs))))) else .bad
  | _ => .bad := rfl
@[simp] theorem pisPartL : isPart (.lst ds) = true := rfl
@[simp] theorem pisPartK {kvs : List (Key × D)} : isPart (.dk kvs) = true := rfl
@[simp] theorem pefrz : eFrz f r = (f r).bind fun p => .ok (unown p.1, p.2) := rfl
@[simp] theorem pefrzV : eFrzV f r = (f r).bind fun p => .ok (unV p.1, p.2) := rfl
@[simp] theorem peown : eOwn f r = (f r).bind fun p => .ok (.own p.1, p.2) := rfl
@[simp] theorem punVo : unV (.own d) = unown d := rfl
@[simp] theorem punVn : unV .non = .non := rfl
@[simp] theorem punownI : unown (.ins c fs) = .ins c (unF fs) := rfl
@[simp] theorem punownL : unown (.lst ds) = .lst ds := rfl
@[simp] theorem punownK {kvs : List (Key × D)} : unown (.dk kvs) = .dk kvs := rfl
@[simp] theorem punF0 : unF [] = [] := rfl
@[simp] theorem punF1 {x : Str} : unF ((x, d) :: fs) = (x, un1 d) :: unF fs := rfl
@[simp] theorem pun1o : un1 (.own d) = d := rfl
@[simp] theorem pun1l : un1 (.lst ds) = .lst ds := rfl
@[simp] theorem pun1k {kvs : List (Key × D)} : un1 (.dk kvs) = .dk kvs := rfl
@[simp] theorem pun1n : un1 .non = .non := rfl
@[simp] theorem pun1i : un1 (.ins c fs) = .ins c fs := rfl
@[simp] theorem psetV : sSetV i f r = sBind (f r) fun p => .nx (p.2.set i (some (slV p.1))) := rfl
@[simp] theorem pslVo : slV (.own d) = .ow d := rfl
@[simp] theorem pslVn : slV .non = .fz .non := rfl
@[simp] theorem pretV : sRetV f r = sBind (f r) fun p => retV p.1 p.2 := rfl
@[simp] theorem pretVo : retV (.own d) r = .rv d r := rfl
@[simp] theorem pretVn : retV .non r = .rt .non r := rfl
@[simp] theorem pmvV : eMvV i r = match r[i]? with
  | some (some (.fz d)) => .ok (d, r)
  | some (some (.ow d)) => .ok (.own d, r.set i none)
  | _ => .bad := rfl
@[simp] theorem pmakeM {den : D → List D → Res (D × D)} : eMakeM c den as r = (as r).bind fun p => match den (.ins c []) p.1 with
  | .ok (.non, d1) => .ok (d1, p.2)
  | .er c' fs _ => .er c' fs p.2
  | _ => .bad := rfl
@[simp] theorem plNil : lNil r = .ok ([], r) := rfl
@[simp] theorem plFz : lFz f ls r = (f r).bind fun p => (ls p.2).bind fun q => .ok (.fz p.1 :: q.1, q.2) := rfl
@[simp] theorem plOw : lOw f ls r = (f r).bind fun p => (ls p.2).bind fun q => .ok (.ow p.1 :: q.1, q.2) := rfl
@[simp] theorem plV : lV f ls r = (f r).bind fun p => (ls p.2).bind fun q => .ok (slV p.1 :: q.1, q.2) := rfl
@[simp] theorem psetL0 {ss : List Sl} : setL r [] ss = r := by cases ss <;> rfl
@[simp] theorem psetL1 {is : List Nat} {ss : List Sl} : setL r (i :: is) (s :: ss) = setL (r.set i (some s)) is ss := rfl
@[simp] theorem pparL {is : List Nat} : sParL is ls r = sBind (ls r) fun p => if is.length = p.1.length then .nx (setL p.2 is p.1) else .bad := rfl
@[simp] theorem pclear : sClear i r = atMineS r i fun s => match s.d with
  | .lst _ => .nx (r.set i (some (s.put (.lst []))))
  | .dk _ => .nx (r.set i (some (s.put (.dk []))))
  | _ => .bad := rfl
@[simp] theorem pdict0T : eDict0T r = .ok (.dt [], r) := rfl
@[simp] theorem patT : eAtT fd as r = (fd r).bind fun p => (as p.2).bind fun q => (getB p.1 q.2).bind fun x => match x, keysD q.1 with
  | .dt kvs, some ks => if q.1.length ≤ 1000 then (liftR (getTD kvs ks)).bind fun z => .ok (z, q.2) else .bad
  | _, _ => .bad := rfl
@[simp] theorem pdputT : sDPutT i as fv r = sBind (fv r) fun p => if isMine p.2 i = true then sBind (as p.2) fun q => atMineS q.2 i fun s => match s.d, keysD q.1 with
  | .dt kvs, some ks => if kvs.length < 100000 ∧ q.1.length ≤ 1000 then .nx (q.2.set i (some (s.put (.dt (putTD kvs ks p.1))))) else .bad
  | _, _ => .bad else .bad := rfl
@[simp] theorem pkeysD2 {a b : Str} : keysD [.str a, .str b] = some [.inr a, .inr b] := rfl
@[simp] theorem pget2 : eGet2 fd fk fv r = (fd r).bind fun p => (getB p.1 p.2).bind fun d => if isDk d = true then (fk p.2).bind fun q => (fv q.2).bind fun z => (getB p.1 z.2).bind fun d => (liftR (dgetE d q.1 z.1)).bind fun y => .ok (y, z.2) else .bad := rfl
@[simp] theorem pgetF2 : eGetF2 cs nm i fk fv r = match ownFld cs nm r i with
  | some q => if isDk q.2 = true then (noX (fk (r.set i none))).bind fun p => (noX (fv p.2)).bind fun z => (liftR (dgetE q.2 p.1 z.1)).bind fun y => .ok (y, z.2.set i (some q.1)) else .bad
  | none => .bad := rfl
@[simp] theorem pisDk {kvs : List (Key × D)} : isDk (.dk kvs) = true := rfl
@[simp] theorem ppNil : pNil r = .ok ([], r) := rfl
@[simp] theorem ppCons : pCons fk fv ps r = (fk r).bind fun p => (fv p.2).bind fun q => (ps q.2).bind fun z => .ok ((p.1, q.1) :: z.1, z.2) := rfl
@[simp] theorem pdispN : eDispN ps r = (noX (ps r)).bind fun p => match keyPs p.1 with
  | some kvs => if kvs.length ≤ 15 then .ok (.dk (mergeKD [] kvs), p.2) else .bad
  | none => .bad := rfl
@[simp] theorem pmethW {den : D → List D → Res (D × D)} : eMethW c m den f as r = (f r).bind fun p => match p.1 with
  | .own (.ins c' fs) => if c' = c ∧ hasNo fs m = true then (as p.2).bind fun q => callR (fstR (den (.ins c' fs) q.1)) q.2 else .bad
  | _ => .bad := rfl
@[simp] theorem praise0 : sRaise0 c r = .er c [] r := rfl
@[simp] theorem palt_ok {x y : En → Res α} {a : α} (e : x r = .ok a) : eAlt x y r = .ok a := by
  unfold eAlt
  rw [e]
end
end Dl
namespace Dl
open PySem L2
section
variable {r : En} {f : En → Res (D × En)} {d : D}
@[simp] theorem psnap : eSnap f r = match f (frzAll r) with
  | .ok (z, _) => if isFlat z = true then .ok (z, r) else .bad
  | _ => .bad := rfl
@[simp] theorem pfa0 : frzAll [] = [] := rfl
@[simp] theorem pfaF : frzAll (some (.fz d) :: r) = some (.fz d) :: frzAll r := rfl
@[simp] theorem pfaO : frzAll (some (.ow d) :: r) = some (.fz (unown d)) :: frzAll r := rfl
@[simp] theorem pfaB : frzAll (some (.bo d) :: r) = some (.fz (unown d)) :: frzAll r := rfl
@[simp] theorem pfaN : frzAll (none :: r) = none :: frzAll r := rfl
@[simp] theorem pflB {b : Bool} : isFlat (.bl b) = true := rfl
@[simp] theorem pflI {i : Int} : isFlat (.int i) = true := rfl
@[simp] theorem pflS {x : Str} : isFlat (.str x) = true := rfl
@[simp] theorem pflN : isFlat .non = true := rfl
end
end Dl

set_option Elab.async false
set_option linter.all false
set_option maxRecDepth 100000
set_option maxHeartbeats 4000000
namespace Dl
open PySem L2
/-! ### one's own parts, step by step -/
section
variable {α : Type} {r r1 r2 : En} {i j : Nat} {s : Sl} {c nm : Str} {cs : List Str} {fs : List (Str × D)} {dd kd z v : D} {g : D → D → Option D} {fk fv : En → Res (D × En)} {G : En → Res (D × En)}
theorem eVar_fz (h : r[j]? = some (some (.fz kd))) : eVar j r = .ok (kd, r) := by
  unfold eVar
  rw [h]
end
theorem seq_nx {f g : En → SR} {r r' : En} (h : f r = .nx r') : sSeq f g r = g r' := by
  unfold sSeq
  rw [h]
theorem seq_rt {f g : En → SR} {r r' : En} {d : D} (h : f r = .rt d r') : sSeq f g r = .rt d r' := by
  unfold sSeq
  rw [h]
theorem sif_t {t : En → Res (Bool × En)} {f g : En → SR} {r r' : En} (h : t r = .ok (true, r')) : sIf t f g r = f r' := by
  unfold sIf
  rw [h]
  rfl
theorem sif_f {t : En → Res (Bool × En)} {f g : En → SR} {r r' : En} (h : t r = .ok (false, r')) : sIf t f g r = g r' := by
  unfold sIf
  rw [h]
  rfl
end Dl

set_option Elab.async false
set_option linter.all false
set_option maxRecDepth 100000
set_option maxHeartbeats 4000000
namespace K21
open PySem L2 Dl
theorem drawF {pot : D} {n : Int} (h : VP pot) (h0 : 0 < n) (h1 : n < 1073741824) : ∃ k pot', b_ldraw pot [.int n] = .ok (.int k, pot') ∧ 0 ≤ k ∧ k < n ∧ VP pot' := by
  obtain ⟨p0, p1, rfl, a, b, c⟩ := h
  by_cases q : 0 < p0
  · refine ⟨p0 % n, .lst [.int (p0 / n), .int p1], ?_, Int.emod_nonneg _ (by omega), Int.emod_lt_of_pos _ h0, _, _, rfl, Int.ediv_nonneg a (by omega), b, c⟩
    have e : divmodD (.int p0) (.int n) = some (.tup [.int (p0 / n), .int (p0 % n)]) := by
      show (if 0 < n ∧ n < 1073741824 then some (D.tup [.int (p0 / n), .int (p0 % n)]) else none) = _
      rw [if_pos ⟨h0, h1⟩]
    unfold b_ldraw runB s_ldraw s_ldraw_1
    simp [startB, q, e]
  · have b1 : 0 ≤ (p1 * 39373 + 14033) % 2147483629 := Int.emod_nonneg _ (by decide)
    have b2 : (p1 * 39373 + 14033) % 2147483629 < 2147483629 := Int.emod_lt_of_pos _ (by decide)
    have e1 : mulI (.int p1) (.int 39373) = some (.int (p1 * 39373)) := pmul ⟨by omega, by omega⟩
    have e2 : ∀ x : Int, modI (.int x) (.int 2147483629) = some (.int (x % 2147483629)) := fun x => pmod (by decide)
    have e3 : ∀ x : Int, modI (.int x) (.int 2147483563) = some (.int (x % 2147483563)) := fun x => pmod (by decide)
    have e4 : ∀ x : Int, fdivI (.int x) (.int 17) = some (.int (x / 17)) := fun x => pfdiv (by decide) (by decide)
    have e5 : ∀ x : Int, modI (.int x) (.int n) = some (.int (x % n)) := fun x => pmod h0
    have e6 : mulI (.int ((p1 * 39373 + 14033) % 2147483629)) (.int ((p1 * 39373 + 14033) % 2147483629)) = some (.int ((p1 * 39373 + 14033) % 2147483629 * ((p1 * 39373 + 14033) % 2147483629))) := pmul ⟨by omega, by omega⟩
    refine ⟨(((p1 * 39373 + 14033) % 2147483629 * ((p1 * 39373 + 14033) % 2147483629)) % 2147483563 / 17) % n, .lst [.int p0, .int ((p1 * 39373 + 14033) % 2147483629)], ?_, Int.emod_nonneg _ (by omega), Int.emod_lt_of_pos _ h0, _, _, rfl, a, b1, by omega⟩
    unfold b_ldraw runB s_ldraw s_ldraw_1
    simp [startB, q, e1, e2, e3, e4, e5, e6]
theorem pickG {α : Type} {f : α → D} {pot : D} {l : List α} (h : VP pot) (hn : l ≠ []) (hl : l.length ≤ 100000) : ∃ x pot', b_lpick pot [.lst (l.map f)] = .ok (f x, pot') ∧ x ∈ l ∧ VP pot' := by
  have l0 : 0 < l.length := List.length_pos_iff.mpr hn
  obtain ⟨k, pot', e, h0, h1, v⟩ := drawF (n := l.length) h (by omega) (by omega)
  obtain ⟨x, ex, hx⟩ := atI_mem (l := l.map f) (k := k) h0 (by rw [List.length_map]; exact h1)
  obtain ⟨y, hy, rfl⟩ := List.mem_map.mp hx
  refine ⟨y, pot', ?_, hy, v⟩
  unfold b_lpick runB s_lpick
  simp [startB, e, ex]
theorem potF {ns : List Int} {k : Nat} (hk : k ≤ 63) : ∃ pot, d_lpot [.scr ns, .int k] = .ok (.own pot) ∧ VP pot := by
  have key : ∀ cell : Int, 0 ≤ cell → ∃ pot, (eLst (aCons (eBin max2D (bOf (eC (.int 0))) (bOf (eBin subI (bVar 2) (bOf (eBin powI (bOf (eC (.int 10))) (bOf (eC (.int 18)))))))) (aCons (eBin addI (bOf (eBin modI (bOf (eBin mulI (bOf (eUn intD (bOf (eBin addI (bOf (eBin modI (bOf (eUn intD (bVar 2))) (bOf (eC (.int 2147483563))))) (bOf (eC (.int 29))))))) (bOf (eBin powI (bOf (eBin addI (bOf (eBin mulI (bOf (eC (.int 2))) (bVar 1))) (bOf (eC (.int 7))))) (bOf (eC (.int 3))))))) (bOf (eC (.int 2147483489))))) (bOf (eC (.int 1)))) aNil)))
      [some (.fz (.scr ns)), some (.fz (.int k)), some (.fz (.int cell))] = .ok (pot, [some (.fz (.scr ns)), some (.fz (.int k)), some (.fz (.int cell))]) ∧ VP pot := by
    intro cell h
    have e1 : powI (.int 10) (.int 18) = some (.int (10 ^ 18)) := rfl
    have e2 : ∀ x : Int, modI (.int x) (.int 2147483563) = some (.int (x % 2147483563)) := fun x => pmod (by decide)
    have e3 : ∀ x : Int, modI (.int x) (.int 2147483489) = some (.int (x % 2147483489)) := fun x => pmod (by decide)
    have e4 : mulI (.int 2) (.int k) = some (.int (2 * k)) := pmul ⟨by decide, by decide⟩
    have e5 : powI (.int (2 * k + 7)) (.int 3) = some (.int ((2 * k + 7) ^ 3)) := by
      show (if 0 ≤ (3 : Int) ∧ (3 : Int) ≤ 1000000 ∧ (2 * (k : Int) + 7).natAbs < 2 ^ 64 then some (D.int ((2 * (k : Int) + 7) ^ (3 : Int).toNat)) else none) = _
      rw [if_pos ⟨by decide, by decide, by omega⟩]
      rfl
    have b1 : 0 ≤ cell % 2147483563 := Int.emod_nonneg _ (by decide)
    have b2 : cell % 2147483563 < 2147483563 := Int.emod_lt_of_pos _ (by decide)
    have e6 : mulI (.int (cell % 2147483563 + 29)) (.int ((2 * k + 7) ^ 3)) = some (.int ((cell % 2147483563 + 29) * (2 * k + 7) ^ 3)) := pmul ⟨by omega, by omega⟩
    have b3 : 0 ≤ (cell % 2147483563 + 29) * (2 * (k : Int) + 7) ^ 3 % 2147483489 := Int.emod_nonneg _ (by decide)
    have b4 : (cell % 2147483563 + 29) * (2 * (k : Int) + 7) ^ 3 % 2147483489 < 2147483489 := Int.emod_lt_of_pos _ (by decide)
    refine ⟨.lst [.int (if cell - 10 ^ 18 > 0 then cell - 10 ^ 18 else 0), .int ((cell % 2147483563 + 29) * (2 * k + 7) ^ 3 % 2147483489 + 1)], ?_, _, _, rfl, ?_, by omega, by omega⟩
    · simp [e1, e2, e3, e4, e5, e6, max2D]
    · split <;> omega
  have e0 : mulI (.int 31) (.int k) = some (.int (31 * k)) := pmul ⟨by decide, by decide⟩
  have el : lenD (.scr ns) = some (.int ns.length) := rfl
  by_cases q : (k : Int) < ns.length
  · obtain ⟨x, ex, _⟩ := atI_mem (l := ns) (k := (k : Int)) (by omega) q
    have ei : ixG (.scr ns) (.int k) = some (.int x) := by
      show (atI ns (k : Int)).map D.int = _
      rw [ex]
      rfl
    obtain ⟨pot, e, v⟩ := key (if x < 0 then -x else x) (by split <;> omega)
    refine ⟨pot, ?_, v⟩
    unfold d_lpot Dl.runV s_lpot s_lpot_2 s_lpot_3
    simp only [startE, pseq, pset, pbin, pbof, pc, pbvar, psif, ptofe, pun, porU]
    simp [e0, el, q, ei, absD, pretV, peown]
    simp at e
    simp [e, pretV, peown, retV]
  · obtain ⟨pot, e, v⟩ := key (31 * k + 11) (by omega)
    refine ⟨pot, ?_, v⟩
    unfold d_lpot Dl.runV s_lpot s_lpot_2 s_lpot_3
    simp only [startE, pseq, pset, pbin, pbof, pc, pbvar, psif, ptofe, pun, porU]
    simp [e0, el, q, pretV, peown]
    simp at e
    simp [e, pretV, peown, retV]

end K21

set_option Elab.async false
set_option linter.all false
set_option maxRecDepth 100000
set_option maxHeartbeats 4000000
namespace Dl
open PySem L2
theorem Shw.mono {n m c e : Nat} {d : D} (h : Shw n c d) (a : n ≤ m) (b : c ≤ e) : Shw m e d := ⟨h.dt, h.sh, Nat.le_trans h.dp a, Nat.le_trans h.ln b⟩
end Dl

set_option Elab.async false
set_option linter.all false
set_option maxRecDepth 100000
set_option maxHeartbeats 4000000
namespace Dl
open PySem L2
/-! ### a def's answer from its body's -/
section
variable {n np : Nat} {f : En → SR} {d0 d d1 : D} {ds : List D} {r r0 : En} {c : Str} {fs : List (Str × D)}
theorem runB_rt (s : startB n d0 ds = r0) (hl : ds.length + 1 = np) (h : f r0 = .rt d r) (h0 : r[0]? = some (some (.bo d1))) : runB n np f d0 ds = .ok (d, d1) := by
  unfold runB endB
  rw [if_pos hl, s, h]
  simp only [h0]
theorem runB_nx (s : startB n d0 ds = r0) (hl : ds.length + 1 = np) (h : f r0 = .nx r) (h0 : r[0]? = some (some (.bo d1))) : runB n np f d0 ds = .ok (.non, d1) := by
  unfold runB endB
  rw [if_pos hl, s, h]
  simp only [h0]
theorem runF_rt (s : startE n ds = r0) (hl : ds.length = np) (h : f r0 = .rt d r) : runF n np f ds = .ok d := by
  unfold runF
  rw [if_pos hl, s, h]
theorem runF_er (s : startE n ds = r0) (hl : ds.length = np) (h : f r0 = .er c fs r) : runF n np f ds = .er c fs r := by
  unfold runF
  rw [if_pos hl, s, h]
end
end Dl

set_option Elab.async false
set_option linter.all false
set_option maxRecDepth 100000
set_option maxHeartbeats 4000000
namespace Dl
open PySem L2
theorem rg_n {m : Nat} : rngD 0 (m : Int) = (List.range m).map fun i : Nat => D.int (0 + (i : Int)) := by
  unfold rngD
  rw [Int.sub_zero, Int.toNat_natCast]
theorem irg_ok {as : En → Res (List D × En)} {r r' : En} {n : Nat} (e : as r = .ok ([.int n], r')) (h : n < 4000000) : iRg1 as r = .ok ((List.range n).map fun i : Nat => D.int (0 + (i : Int)), r') := by
  rw [pirg1, e, pbind_ok]
  simp only
  rw [if_pos ⟨by omega, by omega⟩, rg_n]
section
variable {r r1 r2 : En} {fa fb : En → Res (BV × En)} {f : En → Res (D × En)} {a b : BV} {x y z d : D} {bb : Bool} {i : Nat}
theorem bin_ok {g : D → D → Option D} (h1 : fa r = .ok (a, r1)) (h2 : fb r1 = .ok (b, r2)) (h3 : getB a r2 = .ok x) (h4 : getB b r2 = .ok y) (h5 : g x y = some z) : eBin g fa fb r = .ok (z, r2) := by
  unfold eBin
  simp only [h1, h2, h3, h4, h5, bind_ok, liftR]
theorem un_ok {g : D → Option D} (h1 : fa r = .ok (a, r1)) (h3 : getB a r1 = .ok x) (h5 : g x = some z) : eUn g fa r = .ok (z, r1) := by
  unfold eUn
  simp only [h1, h3, h5, bind_ok, liftR]
theorem bof_ok (h : f r = .ok (d, r1)) : bOf f r = .ok (.fz d, r1) := by
  unfold bOf
  simp only [h, bind_ok]
theorem tof_ok (h : f r = .ok (.bl bb, r1)) : tOfE f r = .ok (bb, r1) := by
  unfold tOfE
  simp only [h, bind_ok]
theorem set_ok (h : f r = .ok (d, r1)) : sSet i f r = .nx (r1.set i (some (.fz d))) := by
  unfold sSet
  rw [h]
  rfl
theorem own_ok (h : f r = .ok (d, r1)) : sOwn i f r = .nx (r1.set i (some (.ow d))) := by
  unfold sOwn
  rw [h]
  rfl
theorem ret_ok (h : f r = .ok (d, r1)) : sRet f r = .rt d r1 := by
  unfold sRet
  rw [h]
  rfl
theorem cons_ok {g : En → Res (List D × En)} {ds : List D} (h : f r = .ok (d, r1)) (k : g r1 = .ok (ds, r2)) : aCons f g r = .ok (d :: ds, r2) := by
  unfold aCons
  simp only [h, k, bind_ok]
theorem call_ok {den : List D → Res D} {g : En → Res (List D × En)} {ds : List D} (h : g r = .ok (ds, r1)) (k : den ds = .ok d) : eCall den g r = .ok (d, r1) := by
  unfold eCall
  simp only [h, k, bind_ok, callR]
theorem meth_ok {c m : Str} {fs : List (Str × D)} {den : List D → Res D} {g : En → Res (List D × En)} {ds : List D} (h : f r = .ok (.ins c fs, r1)) (hn : hasNo fs m = true) (h2 : g r1 = .ok (ds, r2)) (k : den (.ins c fs :: ds) = .ok d) : eMeth c m den f g r = .ok (d, r2) := by
  unfold eMeth
  rw [h, bind_ok]
  show (if c = c ∧ hasNo fs m = true then (g r1).bind fun q => callR (den (.ins c fs :: q.1)) q.2 else .bad) = _
  rw [if_pos ⟨rfl, hn⟩, h2, bind_ok]
  show callR (den (.ins c fs :: ds)) r2 = _
  rw [k]
  rfl
theorem tor_t {t u : En → Res (Bool × En)} (h : t r = .ok (true, r1)) : tOrD t u r = .ok (true, r1) := by
  rw [ptor, h]
  rfl
theorem tor_f {t u : En → Res (Bool × En)} (h : t r = .ok (false, r1)) (k : u r1 = .ok (bb, r2)) : tOrD t u r = .ok (bb, r2) := by
  rw [ptor, h]
  exact k
theorem tnot_ok {t : En → Res (Bool × En)} (h : t r = .ok (bb, r1)) : tNotD t r = .ok (!bb, r1) := by
  rw [ptnot, h]
  rfl
theorem tand_t {t u : En → Res (Bool × En)} (h : t r = .ok (true, r1)) (k : u r1 = .ok (bb, r2)) : tAndD t u r = .ok (bb, r2) := by
  rw [ptand, h]
  exact k
theorem tand_f {t u : En → Res (Bool × En)} (h : t r = .ok (false, r1)) : tAndD t u r = .ok (false, r1) := by
  rw [ptand, h]
  rfl
end
theorem append_ok {f : En → Res (D × En)} {r r1 : En} {i : Nat} {s s1 : Sl} {d : D} {ds ds0 : List D} (h0 : r[i]? = some (some s)) (m0 : s.mine = true) (d0 : s.d = .lst ds0) (h : f r = .ok (d, r1)) (h1 : r1[i]? = some (some s1)) (m1 : s1.mine = true) (d1 : s1.d = .lst ds) (hl : ds.length < 100000) :
    sAppend i f r = .nx (r1.set i (some (s1.put (.lst (ds ++ [d]))))) := by
  unfold sAppend
  simp only [patmineS, h0, if_pos m0, d0, h, psbind_ok, h1, if_pos m1, d1, if_pos hl]
theorem fldset_ok {cs : List Str} {n c : Str} {i : Nat} {f : En → Res (D × En)} {r r1 : En} {s : Sl} {fs : List (Str × D)} {d : D} (h : f r = .ok (d, r1)) (h0 : r1[i]? = some (some s)) (m0 : s.mine = true) (d0 : s.d = .ins c fs) (hc : c ∈ cs) (hl : fs.length < 1000) : sFldSet cs n i f r = .nx (r1.set i (some (s.put (.ins c (putD n d fs))))) := by
  unfold sFldSet
  rw [h, psbind_ok, patmineS]
  simp only [h0, if_pos m0, d0]
  rw [if_pos (show c ∈ cs ∧ fs.length < 1000 from ⟨hc, hl⟩)]
end Dl

set_option Elab.async false
set_option linter.all false
set_option maxRecDepth 100000
set_option maxHeartbeats 4000000
namespace Dl
open PySem L2
/-! ### new things, step by step -/
section
variable {r r1 : En} {f : En → Res (D × En)} {as : En → Res (List D × En)} {d d1 : D} {ds : List D} {c c' m : Str} {fs : List (Str × D)} {i : Nat}
theorem seq_er {f g : En → SR} {r r' : En} {c : Str} {fs : List (Str × D)} (h : f r = .er c fs r') : sSeq f g r = .er c fs r' := by
  unfold sSeq
  rw [h]
end
end Dl

set_option Elab.async false
set_option linter.all false
set_option maxRecDepth 100000
set_option maxHeartbeats 4000000
namespace K21
open PySem L2 Dl
/-! ### what is odd, and what is told of it -/
def erOf : Res D → Option (Str × List (Str × D))
  | .er c fs _ => some (c, fs)
  | _ => none
theorem er_ex {x : Res D} {c : Str} {fs : List (Str × D)} (h : erOf x = some (c, fs)) : ∃ r, x = .er c fs r := by
  cases x with
  | er c' fs' r =>
    cases h
    exact ⟨r, rfl⟩
  | _ => cases h
abbrev rp : D → Option D := orU (orU (orU reprB reprD) reprK) reprS
/-- what is shown of it is a text -/
def Sh (d : D) (s : Str) : Prop := rp d = some (.str s) ∧ PyData.strOk s = true
def shB (d : D) : Bool := match rp d with
  | some (.str s) => PyData.strOk s
  | _ => false
theorem sh_b {d : D} (h : shB d = true) : ∃ s, Sh d s := by
  unfold shB at h
  split at h
  · rename_i s e
    exact ⟨s, e, h⟩
  · cases h
def Bd (c n : Str) (x : Res D) (d : D) : Prop := erOf x = some (c, [(n, d)]) ∧ ∃ s, Sh d s
abbrev oddName : List D := [.non, .int 0, .bl true, .str "", .str "day", .str "A", .str "a1", .str "abcdefg", .str "a b", .lst [.str "a"], .tup [.str "a"], .dk [], .str "a_", .str "a\n"]
theorem bd_name : ∀ d ∈ oddName, Bd "InvalidName" "value" (d_want_name [d]) d := by
  intro d hd
  simp only [oddName, List.mem_cons, List.not_mem_nil, or_false] at hd
  rcases hd with rfl | rfl | rfl | rfl | rfl | rfl | rfl | rfl | rfl | rfl | rfl | rfl | rfl | rfl <;> exact ⟨by kernel_rfl, sh_b (by kernel_rfl)⟩
/-- names, none of which is right, and the position -/
abbrev oddNames : List (D × D) := [(.non, .non), (.str "a", .non), (.dk [], .non), (.dk [(Sum.inr "a", .int 1)], .non), (.lst [], .non), (.tup [], .non), (.lst [.str "a", .str "a"], .int 1), (.lst [.str "day"], .int 0),
  (.lst [.str "a", .str "b", .str "a", .non], .int 2), (.tup [.str "a", .str "B"], .int 1), (.lst [.non, .str "a"], .int 0), (.lst [.str "a", .bl true], .int 1), (.lst [.lst [.str "a"]], .int 0),
  (.lst [.str "a", .str "b", .str "c", .str "d", .str "e", .str ""], .int 5), (.tup [.str "abcdefg", .int 1], .int 0), (.int 5, .non)]
theorem bd_names : ∀ q ∈ oddNames, Bd "InvalidNames" "position" (d_want_names [q.1]) q.2 := by
  intro d hd
  simp only [oddNames, List.mem_cons, List.not_mem_nil, or_false] at hd
  rcases hd with rfl | rfl | rfl | rfl | rfl | rfl | rfl | rfl | rfl | rfl | rfl | rfl | rfl | rfl | rfl | rfl <;> exact ⟨by kernel_rfl, sh_b (by kernel_rfl)⟩
abbrev oddPoint : List D := [.non, .int 0, .str "day", .tup [.str "day"], .tup [.str "day", .int 0, .int 0], .lst [.str "m", .int 0], .tup [.str "m", .non], .tup [.str "m", .bl true], .tup [.str "M", .int 0], .tup [.str "", .int 0], .tup [.int 0, .str "m"],
  .tup [.non, .int 0], .tup [.str "abcdefg", .int 1], .dk [], .tup [.str "m", .str "1"], .tup [.tup [.str "m"], .int 0], .tup [.lst [.str "m"], .int 0]]
theorem od_point : ∀ d ∈ oddPoint, d_is_point [d] = .ok (.bl false) ∧ ∃ s, Sh d s := by
  intro d hd
  simp only [oddPoint, List.mem_cons, List.not_mem_nil, or_false] at hd
  rcases hd with rfl | rfl | rfl | rfl | rfl | rfl | rfl | rfl | rfl | rfl | rfl | rfl | rfl | rfl | rfl | rfl | rfl <;> exact ⟨by kernel_rfl, sh_b (by kernel_rfl)⟩
abbrev oddNum : List D := [.non, .int (-1), .bl true, .str "1", .lst [], .int (10 ^ 20 - 10 ^ 21), .tup [.int 1]]
theorem od_num : ∀ d ∈ oddNum, d_is_count [d] = .ok (.bl false) ∧ ∃ s, Sh d s := by
  intro d hd
  simp only [oddNum, List.mem_cons, List.not_mem_nil, or_false] at hd
  rcases hd with rfl | rfl | rfl | rfl | rfl | rfl | rfl <;> exact ⟨by kernel_rfl, sh_b (by kernel_rfl)⟩
end K21

set_option Elab.async false
set_option linter.all false
set_option maxRecDepth 100000
set_option maxHeartbeats 4000000
namespace Dl
open PySem L2
section
variable {r r1 r2 r' : En} {c : Str} {fs : List (Str × D)} {ds : List D} {f : En → Res (D × En)} {g : En → Res (List D × En)} {d d1 : D}
theorem call_er {den : List D → Res D} (h : g r = .ok (ds, r1)) (k : den ds = .er c fs r') : eCall den g r = .er c fs r1 := by
  unfold eCall
  rw [h, bind_ok]
  simp only [k]
  rfl
theorem expr_ok (h : f r = .ok (d, r1)) : sExpr f r = .nx r1 := by
  rw [pexpr, h]
  rfl
theorem expr_er (h : f r = .er c fs r1) : sExpr f r = .er c fs r1 := by
  rw [pexpr, h]
  rfl
theorem raise_ok {ns : List Str} (h : g r = .ok (ds, r1)) (hl : ds.length = ns.length) : sRaise c ns g r = .er c (ns.zip ds).reverse r1 := by
  unfold sRaise
  rw [h]
  show (if ds.length = ns.length then SR.er c (ns.zip ds).reverse r1 else .bad) = _
  rw [if_pos hl]
theorem runB_er {n np : Nat} {f : En → SR} {d0 : D} {r0 : En} (s : startB n d0 ds = r0) (hl : ds.length + 1 = np) (h : f r0 = .er c fs r) : runB n np f d0 ds = .er c fs r := by
  unfold runB
  rw [if_pos hl, s, h]
theorem tup_ok {as : En → Res (List D × En)} (h : as r = .ok (ds, r1)) (hl : ds.length ≤ 1000) : eTup as r = .ok (.tup ds, r1) := by
  rw [ptup, h, pbind_ok]
  simp only [if_pos hl]
theorem lst_ok {as : En → Res (List D × En)} (h : as r = .ok (ds, r1)) (hl : ds.length ≤ 1000) : eLst as r = .ok (.lst ds, r1) := by
  rw [plst, h, pbind_ok]
  simp only [if_pos hl]
end
end Dl
namespace K21
open PySem L2 Dl
/-! ### a deal made, or refused -/
abbrev S0 : D := .ins "Deal" []
abbrev I11 (d0 d1 d2 d3 d4 d5 d6 al d7 : D) (x : Option Sl) : En := [some (.bo S0), some (.fz d0), some (.fz d1), some (.fz d2), some (.fz d3), some (.fz d4), some (.fz d5), some (.fz d6), some (.fz al), some (.fz d7), x]
section
variable {d0 d1 d2 d3 d4 d5 d6 al d7 : D} {x : Option Sl} {c : Str} {fs : List (Str × D)} {r' : En}
theorem p0 (h : d_want_name [d0] = .ok .non) : sExpr (eCall d_want_name (aCons (eVar 1) aNil)) (I11 d0 d1 d2 d3 d4 d5 d6 al d7 x) = .nx (I11 d0 d1 d2 d3 d4 d5 d6 al d7 x) := expr_ok (call_ok (ds := [d0]) rfl h)
theorem q0 (h : d_want_name [d0] = .er c fs r') : sExpr (eCall d_want_name (aCons (eVar 1) aNil)) (I11 d0 d1 d2 d3 d4 d5 d6 al d7 x) = .er c fs (I11 d0 d1 d2 d3 d4 d5 d6 al d7 x) := expr_er (call_er (ds := [d0]) rfl h)
theorem p1 (h : d_want_name [d1] = .ok .non) : sExpr (eCall d_want_name (aCons (eVar 2) aNil)) (I11 d0 d1 d2 d3 d4 d5 d6 al d7 x) = .nx (I11 d0 d1 d2 d3 d4 d5 d6 al d7 x) := expr_ok (call_ok (ds := [d1]) rfl h)
theorem q1 (h : d_want_name [d1] = .er c fs r') : sExpr (eCall d_want_name (aCons (eVar 2) aNil)) (I11 d0 d1 d2 d3 d4 d5 d6 al d7 x) = .er c fs (I11 d0 d1 d2 d3 d4 d5 d6 al d7 x) := expr_er (call_er (ds := [d1]) rfl h)
theorem l_ok {d : D} (h : d_want_names [d] = .ok .non) : s_Deal_init_3_b (I11 d0 d1 d2 d3 d4 d5 d6 al d7 (some (.fz d))) = .nx (I11 d0 d1 d2 d3 d4 d5 d6 al d7 (some (.fz d))) := by
  unfold s_Deal_init_3_b
  exact expr_ok (call_ok (ds := [d]) rfl h)
theorem l_er {d : D} (h : d_want_names [d] = .er c fs r') : s_Deal_init_3_b (I11 d0 d1 d2 d3 d4 d5 d6 al d7 (some (.fz d))) = .er c fs (I11 d0 d1 d2 d3 d4 d5 d6 al d7 (some (.fz d))) := by
  unfold s_Deal_init_3_b
  exact expr_er (call_er (ds := [d]) rfl h)
theorem l_for : s_Deal_init_3 (I11 d0 d1 d2 d3 d4 d5 d6 al d7 x) = forD (gNm 10) s_Deal_init_3_b [d2, d3, d4] (I11 d0 d1 d2 d3 d4 d5 d6 al d7 x) := by
  have t : eTup (aCons (eVar 3) (aCons (eVar 4) (aCons (eVar 5) aNil))) (I11 d0 d1 d2 d3 d4 d5 d6 al d7 x) = .ok (.tup [d2, d3, d4], I11 d0 d1 d2 d3 d4 d5 d6 al d7 x) := tup_ok rfl (by simp)
  unfold s_Deal_init_3
  rw [psfor, piseq, t]
  rfl
theorem for_nx {d : D} {ds : List D} (h : d_want_names [d] = .ok .non) : forD (gNm 10) s_Deal_init_3_b (d :: ds) (I11 d0 d1 d2 d3 d4 d5 d6 al d7 x) = forD (gNm 10) s_Deal_init_3_b ds (I11 d0 d1 d2 d3 d4 d5 d6 al d7 (some (.fz d))) := by
  have e : forD (gNm 10) s_Deal_init_3_b (d :: ds) (I11 d0 d1 d2 d3 d4 d5 d6 al d7 x) = (match s_Deal_init_3_b (I11 d0 d1 d2 d3 d4 d5 d6 al d7 (some (.fz d))) with
    | .nx r2 => forD (gNm 10) s_Deal_init_3_b ds r2
    | .ct r2 => forD (gNm 10) s_Deal_init_3_b ds r2
    | .bk r2 => .nx r2
    | x => x) := rfl
  rw [e, l_ok h]
theorem for_er {d : D} {ds : List D} (h : d_want_names [d] = .er c fs r') : ∃ r, forD (gNm 10) s_Deal_init_3_b (d :: ds) (I11 d0 d1 d2 d3 d4 d5 d6 al d7 x) = .er c fs r := by
  have e : forD (gNm 10) s_Deal_init_3_b (d :: ds) (I11 d0 d1 d2 d3 d4 d5 d6 al d7 x) = (match s_Deal_init_3_b (I11 d0 d1 d2 d3 d4 d5 d6 al d7 (some (.fz d))) with
    | .nx r2 => forD (gNm 10) s_Deal_init_3_b ds r2
    | .ct r2 => forD (gNm 10) s_Deal_init_3_b ds r2
    | .bk r2 => .nx r2
    | x => x) := rfl
  rw [e, l_er h]
  exact ⟨_, rfl⟩
theorem p4 (h2 : d_want_names [d2] = .ok .non) (h3 : d_want_names [d3] = .ok .non) (h4 : d_want_names [d4] = .ok .non) : s_Deal_init_3 (I11 d0 d1 d2 d3 d4 d5 d6 al d7 x) = .nx (I11 d0 d1 d2 d3 d4 d5 d6 al d7 (some (.fz d4))) := by
  rw [l_for, for_nx h2, for_nx h3, for_nx h4]
  rfl
theorem p5 (h : d_want_points [d5, d6] = .ok .non) : sExpr (eCall d_want_points (aCons (eVar 6) (aCons (eVar 7) aNil))) (I11 d0 d1 d2 d3 d4 d5 d6 al d7 x) = .nx (I11 d0 d1 d2 d3 d4 d5 d6 al d7 x) := expr_ok (call_ok (ds := [d5, d6]) rfl h)
theorem q5 (h : d_want_points [d5, d6] = .er c fs r') : sExpr (eCall d_want_points (aCons (eVar 6) (aCons (eVar 7) aNil))) (I11 d0 d1 d2 d3 d4 d5 d6 al d7 x) = .er c fs (I11 d0 d1 d2 d3 d4 d5 d6 al d7 x) := expr_er (call_er (ds := [d5, d6]) rfl h)
theorem p7 (h : d_is_count [d7] = .ok (.bl true)) : s_Deal_init_5 (I11 d0 d1 d2 d3 d4 d5 d6 al d7 x) = .nx (I11 d0 d1 d2 d3 d4 d5 d6 al d7 x) := by
  unfold s_Deal_init_5
  exact (sif_f (tnot_ok (bb := true) (tof_ok (call_ok (ds := [d7]) rfl h)))).trans rfl
theorem q7 (h : d_is_count [d7] = .ok (.bl false)) : s_Deal_init_5 (I11 d0 d1 d2 d3 d4 d5 d6 al d7 x) = .er "InvalidNumber" [("value", d7)] (I11 d0 d1 d2 d3 d4 d5 d6 al d7 x) := by
  unfold s_Deal_init_5
  exact (sif_t (tnot_ok (bb := false) (tof_ok (call_ok (ds := [d7]) rfl h)))).trans (raise_ok (ds := [d7]) rfl rfl)
/-- a list too long, or not -/
theorem few {d : D} {n m : Nat} {w : Str} (h : (orU lenD lenK) d = some (.int (n : Int))) : (n ≤ m → d_want_few [d, .int m, .str w] = .ok .non) ∧ (m < n → ∃ r, d_want_few [d, .int m, .str w] = .er "TooMany" [("limit", .int m), ("what", .str w)] r) := by
  have t : tOfE (eBin gtI (bOf (eUn (orU lenD lenK) (bVar 0))) (bVar 1)) [some (.fz d), some (.fz (.int (m : Int))), some (.fz (.str w))] = .ok (decide ((m : Int) < n), [some (.fz d), some (.fz (.int (m : Int))), some (.fz (.str w))]) :=
    tof_ok (bin_ok (b := .sl 1) (y := .int (m : Int)) (bof_ok (un_ok (a := .sl 0) rfl rfl h)) rfl rfl rfl rfl)
  constructor
  · intro hl
    rw [decide_eq_false (by omega)] at t
    have e : s_want_few [some (.fz d), some (.fz (.int (m : Int))), some (.fz (.str w))] = .nx [some (.fz d), some (.fz (.int (m : Int))), some (.fz (.str w))] := by
      unfold s_want_few s_want_few_1
      exact (sif_f t).trans rfl
    unfold d_want_few runF
    show (match s_want_few [some (.fz d), some (.fz (.int (m : Int))), some (.fz (.str w))] with
      | .rt d _ => Res.ok d
      | .nx _ => .ok .non
      | .er c fs r => .er c fs r
      | _ => .bad) = _
    rw [e]
  · intro hl
    rw [decide_eq_true (by omega)] at t
    refine ⟨[some (.fz d), some (.fz (.int (m : Int))), some (.fz (.str w))], runF_er (np := 3) (n := 3) (ds := [d, .int m, .str w]) (r0 := [some (.fz d), some (.fz (.int (m : Int))), some (.fz (.str w))]) rfl rfl ?_⟩
    unfold s_want_few s_want_few_1
    exact (sif_t t).trans (raise_ok (ds := [.str w, .int m]) rfl rfl)
end
end K21
namespace K21
open PySem L2 Dl
noncomputable abbrev ini (d0 d1 d2 d3 d4 d5 d6 al d7 : D) : Res (D × D) := b_Deal_init S0 [d0, d1, d2, d3, d4, d5, d6, al, d7]
abbrev eDl (d0 d1 : D) (t2 t3 t4 : List D) (d5 d6 al d7 : D) : D := .ins "Deal" [("own_name", d0), ("own_house", d1), ("own_films", .tup t2), ("own_lands", .tup t3), ("own_ways", .tup t4), ("own_begin", d5), ("own_end", d6), ("is_alone", al), ("own_price", d7)]
section
variable {d0 d1 d2 d3 d4 d5 d6 al d7 : D} {c : Str} {fs : List (Str × D)}
theorem ini_of (h : ∃ r, s_Deal_init (I11 d0 d1 d2 d3 d4 d5 d6 al d7 none) = .er c fs r) : ∃ r, ini d0 d1 d2 d3 d4 d5 d6 al d7 = .er c fs r := by
  obtain ⟨r, h⟩ := h
  exact ⟨r, runB_er (r0 := I11 d0 d1 d2 d3 d4 d5 d6 al d7 none) rfl rfl h⟩
theorem ini0 (h : ∃ r, d_want_name [d0] = .er c fs r) : ∃ r, ini d0 d1 d2 d3 d4 d5 d6 al d7 = .er c fs r := by
  obtain ⟨r, h⟩ := h
  exact ini_of ⟨_, by
    unfold s_Deal_init
    exact seq_er (q0 h)⟩
theorem ini1 (g0 : d_want_name [d0] = .ok .non) (h : ∃ r, d_want_name [d1] = .er c fs r) : ∃ r, ini d0 d1 d2 d3 d4 d5 d6 al d7 = .er c fs r := by
  obtain ⟨r, h⟩ := h
  exact ini_of ⟨_, by
    unfold s_Deal_init
    exact (seq_nx (p0 g0)).trans (seq_er (q1 h))⟩
theorem ini2 (g0 : d_want_name [d0] = .ok .non) (g1 : d_want_name [d1] = .ok .non) (h : ∃ r, forD (gNm 10) s_Deal_init_3_b [d2, d3, d4] (I11 d0 d1 d2 d3 d4 d5 d6 al d7 none) = .er c fs r) : ∃ r, ini d0 d1 d2 d3 d4 d5 d6 al d7 = .er c fs r := by
  obtain ⟨r, h⟩ := h
  exact ini_of ⟨_, by
    unfold s_Deal_init
    exact (seq_nx (p0 g0)).trans ((seq_nx (p1 g1)).trans (seq_er (l_for.trans h)))⟩
theorem ini3 (g0 : d_want_name [d0] = .ok .non) (g1 : d_want_name [d1] = .ok .non) (g2 : d_want_names [d2] = .ok .non) (g3 : d_want_names [d3] = .ok .non) (g4 : d_want_names [d4] = .ok .non) (h : ∃ r, d_want_points [d5, d6] = .er c fs r) : ∃ r, ini d0 d1 d2 d3 d4 d5 d6 al d7 = .er c fs r := by
  obtain ⟨r, h⟩ := h
  exact ini_of ⟨_, by
    unfold s_Deal_init
    exact (seq_nx (p0 g0)).trans ((seq_nx (p1 g1)).trans ((seq_nx (p4 g2 g3 g4)).trans (seq_er (q5 h))))⟩
/-- names, lists and points are right -/
structure G5 (d0 d1 d2 d3 d4 d5 d6 : D) : Prop where
  g0 : d_want_name [d0] = .ok .non
  g1 : d_want_name [d1] = .ok .non
  g2 : d_want_names [d2] = .ok .non
  g3 : d_want_names [d3] = .ok .non
  g4 : d_want_names [d4] = .ok .non
  g5 : d_want_points [d5, d6] = .ok .non
theorem ini4 (g : G5 d0 d1 d2 d3 d4 d5 d6) (h : d_is_count [d7] = .ok (.bl false)) : ∃ r, ini d0 d1 d2 d3 d4 d5 d6 al d7 = .er "InvalidNumber" [("value", d7)] r := by
  exact ini_of ⟨_, by
    unfold s_Deal_init
    exact (seq_nx (p0 g.g0)).trans ((seq_nx (p1 g.g1)).trans ((seq_nx (p4 g.g2 g.g3 g.g4)).trans ((seq_nx (p5 g.g5)).trans (seq_er (q7 h)))))⟩
theorem w1 {x : Option Sl} (h : d_want_few [d2, .int 4, .str "films"] = .ok .non) : sExpr (eCall d_want_few (aCons (eVar 3) (aCons (eC (.int (4))) (aCons (eC (.str "films")) aNil)))) (I11 d0 d1 d2 d3 d4 d5 d6 al d7 x) = .nx (I11 d0 d1 d2 d3 d4 d5 d6 al d7 x) := expr_ok (call_ok (ds := [d2, .int 4, .str "films"]) rfl h)
theorem v1 {x : Option Sl} (h : ∃ r, d_want_few [d2, .int 4, .str "films"] = .er c fs r) : sExpr (eCall d_want_few (aCons (eVar 3) (aCons (eC (.int (4))) (aCons (eC (.str "films")) aNil)))) (I11 d0 d1 d2 d3 d4 d5 d6 al d7 x) = .er c fs (I11 d0 d1 d2 d3 d4 d5 d6 al d7 x) := by
  obtain ⟨r, h⟩ := h
  exact expr_er (call_er (ds := [d2, .int 4, .str "films"]) rfl h)
theorem w2 {x : Option Sl} (h : d_want_few [d3, .int 4, .str "lands"] = .ok .non) : sExpr (eCall d_want_few (aCons (eVar 4) (aCons (eC (.int (4))) (aCons (eC (.str "lands")) aNil)))) (I11 d0 d1 d2 d3 d4 d5 d6 al d7 x) = .nx (I11 d0 d1 d2 d3 d4 d5 d6 al d7 x) := expr_ok (call_ok (ds := [d3, .int 4, .str "lands"]) rfl h)
theorem v2 {x : Option Sl} (h : ∃ r, d_want_few [d3, .int 4, .str "lands"] = .er c fs r) : sExpr (eCall d_want_few (aCons (eVar 4) (aCons (eC (.int (4))) (aCons (eC (.str "lands")) aNil)))) (I11 d0 d1 d2 d3 d4 d5 d6 al d7 x) = .er c fs (I11 d0 d1 d2 d3 d4 d5 d6 al d7 x) := by
  obtain ⟨r, h⟩ := h
  exact expr_er (call_er (ds := [d3, .int 4, .str "lands"]) rfl h)
theorem w3 {x : Option Sl} (h : d_want_few [d4, .int 3, .str "ways"] = .ok .non) : sExpr (eCall d_want_few (aCons (eVar 5) (aCons (eC (.int (3))) (aCons (eC (.str "ways")) aNil)))) (I11 d0 d1 d2 d3 d4 d5 d6 al d7 x) = .nx (I11 d0 d1 d2 d3 d4 d5 d6 al d7 x) := expr_ok (call_ok (ds := [d4, .int 3, .str "ways"]) rfl h)
theorem v3 {x : Option Sl} (h : ∃ r, d_want_few [d4, .int 3, .str "ways"] = .er c fs r) : sExpr (eCall d_want_few (aCons (eVar 5) (aCons (eC (.int (3))) (aCons (eC (.str "ways")) aNil)))) (I11 d0 d1 d2 d3 d4 d5 d6 al d7 x) = .er c fs (I11 d0 d1 d2 d3 d4 d5 d6 al d7 x) := by
  obtain ⟨r, h⟩ := h
  exact expr_er (call_er (ds := [d4, .int 3, .str "ways"]) rfl h)
theorem ini5 (g : G5 d0 d1 d2 d3 d4 d5 d6) (g7 : d_is_count [d7] = .ok (.bl true)) (h : ∃ r, d_want_few [d2, .int 4, .str "films"] = .er c fs r) : ∃ r, ini d0 d1 d2 d3 d4 d5 d6 al d7 = .er c fs r := by
  exact ini_of ⟨_, by
    unfold s_Deal_init
    exact (seq_nx (p0 g.g0)).trans ((seq_nx (p1 g.g1)).trans ((seq_nx (p4 g.g2 g.g3 g.g4)).trans ((seq_nx (p5 g.g5)).trans ((seq_nx (p7 g7)).trans (seq_er (v1 h))))))⟩
theorem ini6 (g : G5 d0 d1 d2 d3 d4 d5 d6) (g7 : d_is_count [d7] = .ok (.bl true)) (a1 : d_want_few [d2, .int 4, .str "films"] = .ok .non) (h : ∃ r, d_want_few [d3, .int 4, .str "lands"] = .er c fs r) : ∃ r, ini d0 d1 d2 d3 d4 d5 d6 al d7 = .er c fs r := by
  exact ini_of ⟨_, by
    unfold s_Deal_init
    exact (seq_nx (p0 g.g0)).trans ((seq_nx (p1 g.g1)).trans ((seq_nx (p4 g.g2 g.g3 g.g4)).trans ((seq_nx (p5 g.g5)).trans ((seq_nx (p7 g7)).trans ((seq_nx (w1 a1)).trans (seq_er (v2 h)))))))⟩
theorem ini7 (g : G5 d0 d1 d2 d3 d4 d5 d6) (g7 : d_is_count [d7] = .ok (.bl true)) (a1 : d_want_few [d2, .int 4, .str "films"] = .ok .non) (a2 : d_want_few [d3, .int 4, .str "lands"] = .ok .non) (h : ∃ r, d_want_few [d4, .int 3, .str "ways"] = .er c fs r) : ∃ r, ini d0 d1 d2 d3 d4 d5 d6 al d7 = .er c fs r := by
  exact ini_of ⟨_, by
    unfold s_Deal_init
    exact (seq_nx (p0 g.g0)).trans ((seq_nx (p1 g.g1)).trans ((seq_nx (p4 g.g2 g.g3 g.g4)).trans ((seq_nx (p5 g.g5)).trans ((seq_nx (p7 g7)).trans ((seq_nx (w1 a1)).trans ((seq_nx (w2 a2)).trans (seq_er (v3 h))))))))⟩
/-- a list's sorted tuple -/
def Srt (d : D) (t : List D) : Prop := ∃ s, (orU (orU sortedD sortedT) sortedK) d = some s ∧ tupleD s = some (.tup t)
theorem ini_ok {t2 t3 t4 : List D} (g : G5 d0 d1 d2 d3 d4 d5 d6) (g7 : d_is_count [d7] = .ok (.bl true)) (a1 : d_want_few [d2, .int 4, .str "films"] = .ok .non) (a2 : d_want_few [d3, .int 4, .str "lands"] = .ok .non) (a3 : d_want_few [d4, .int 3, .str "ways"] = .ok .non)
    (b1 : Srt d2 t2) (b2 : Srt d3 t3) (b3 : Srt d4 t4) : ini d0 d1 d2 d3 d4 d5 d6 al d7 = .ok (.non, eDl d0 d1 t2 t3 t4 d5 d6 al d7) := by
  obtain ⟨s2, b1, c1⟩ := b1
  obtain ⟨s3, b2, c2⟩ := b2
  obtain ⟨s4, b3, c3⟩ := b3
  have fl : ∀ {n : Str} {f : En → Res (D × En)} {z : D} {fs : List (Str × D)}, f (some (.bo (.ins "Deal" fs)) :: (I11 d0 d1 d2 d3 d4 d5 d6 al d7 (some (.fz d4))).tail) = .ok (z, some (.bo (.ins "Deal" fs)) :: (I11 d0 d1 d2 d3 d4 d5 d6 al d7 (some (.fz d4))).tail) → fs.length < 1000 →
      sFldSet ["Deal"] n 0 f (some (.bo (.ins "Deal" fs)) :: (I11 d0 d1 d2 d3 d4 d5 d6 al d7 (some (.fz d4))).tail) = .nx (some (.bo (.ins "Deal" (putD n z fs))) :: (I11 d0 d1 d2 d3 d4 d5 d6 al d7 (some (.fz d4))).tail) := fun h l =>
    (fldset_ok h rfl rfl rfl (by simp) l).trans rfl
  have L : s_Deal_init (I11 d0 d1 d2 d3 d4 d5 d6 al d7 none) = .nx (some (.bo (eDl d0 d1 t2 t3 t4 d5 d6 al d7)) :: (I11 d0 d1 d2 d3 d4 d5 d6 al d7 (some (.fz d4))).tail) := by
    unfold s_Deal_init
    refine (seq_nx (p0 g.g0)).trans ((seq_nx (p1 g.g1)).trans ((seq_nx (p4 g.g2 g.g3 g.g4)).trans ((seq_nx (p5 g.g5)).trans ((seq_nx (p7 g7)).trans ((seq_nx (w1 a1)).trans ((seq_nx (w2 a2)).trans ((seq_nx (w3 a3)).trans ?_)))))))
    refine (seq_nx (fl (fs := []) rfl (by simp))).trans ?_
    refine (seq_nx (fl rfl (by simp [putD]))).trans ?_
    refine (seq_nx (fl (z := .tup t2) (un_ok (bof_ok (un_ok (a := .sl 3) rfl rfl b1)) rfl c1) (by simp [putD]))).trans ?_
    refine (seq_nx (fl (z := .tup t3) (un_ok (bof_ok (un_ok (a := .sl 4) rfl rfl b2)) rfl c2) (by simp [putD]))).trans ?_
    refine (seq_nx (fl (z := .tup t4) (un_ok (bof_ok (un_ok (a := .sl 5) rfl rfl b3)) rfl c3) (by simp [putD]))).trans ?_
    refine (seq_nx (fl rfl (by simp [putD]))).trans ?_
    refine (seq_nx (fl rfl (by simp [putD]))).trans ?_
    refine (seq_nx (fl rfl (by simp [putD]))).trans ?_
    exact (fl rfl (by simp [putD])).trans rfl
  exact runB_nx (r0 := I11 d0 d1 d2 d3 d4 d5 d6 al d7 none) rfl rfl L rfl
end
end K21

set_option Elab.async false
set_option linter.all false
set_option maxRecDepth 100000
set_option maxHeartbeats 4000000
namespace K21
open PySem L2 Dl
/-! ### what is heard of a call -/
theorem xRep_of {g : Str → List (Str × D) → Option D} {c : Str} {fs : List (Str × D)} {d : D} {s : Str} (hg : g c fs = some d) (h : rp d = some (.str s)) : xRep g c fs = some (.str s) := by
  unfold xRep xOr xUn
  rw [hg]
  simp only [Option.bind_some]
  unfold rp orU at h
  cases h1 : reprB d with
  | some z =>
    simp only [h1] at h ⊢
    exact h
  | none =>
    cases h2 : reprD d with
    | some z =>
      simp only [h1, h2] at h ⊢
      exact h
    | none =>
      cases h3 : reprK d with
      | some z =>
        simp only [h1, h2, h3] at h ⊢
        exact h
      | none =>
        simp only [h1, h2, h3] at h ⊢
        exact h
abbrev tx (k s : Str) : D := .lst [.str k, .str s, .bl true]
abbrev told : D := .lst [.str "told"]
abbrev many (w : Str) (m : Int) : D := .lst [.str "many", .str w, .int m, .bl true]
theorem act_er [Dl.Tb] {L : Sl} {c : Str} {fs : List (Str × D)} : eAct L (.er c fs []) [some L, none] = .er c fs [some L, none] := by
  unfold eAct
  exact if_pos (show ([some L, none] : En)[0]? = some (some L) from rfl)
theorem try_1 {L : Sl} {ms ns : List Str} {gs : Str → List (Str × D) → Option (List D)} {l : List XCl} {c : Str} {fs : List (Str × D)} {zs : List D} (h : c ∈ ms) (e : gs c fs = some zs) (hl : zs.length ≤ 1000) :
    trySel 1 ((ms, ns, xRetL gs) :: l) c fs [some L, none] = .rt (.lst zs) [some L, none] := by
  unfold trySel
  rw [if_pos h, if_pos (by simp)]
  unfold xRetL
  rw [e]
  simp only [if_pos hl]
  rfl
theorem try_0 {L : Sl} {ms ns : List Str} {g : Str → List (Str × D) → En → SR} {l : List XCl} {c : Str} {fs : List (Str × D)} (h : c ∉ ms) (k : c ∈ ns) :
    trySel 1 ((ms, ns, g) :: l) c fs [some L, none] = trySel 1 l c fs [some L, none] := by
  conv => lhs; unfold trySel
  rw [if_neg h, if_pos k]
theorem hr_er {c : Str} {fs : List (Str × D)} {d : D} (h : ∀ L, trySel 1 [(["InvalidName"], ["InvalidNames", "InvalidPoint", "InvalidNumber", "TooMany"], xRetL (xCons (xC (.str "name")) (xCons (xRep (xFld ["InvalidName"] "value")) (xCons (xAnd (xIs ["InvalidName"]) (xIs ["InvalidName"])) xNil)))), (["InvalidNames"], ["InvalidPoint", "InvalidNumber", "TooMany"], xRetL (xCons (xC (.str "names")) (xCons (xRep (xFld ["InvalidNames"] "position")) (xCons (xIs ["InvalidNames"]) xNil)))), (["InvalidPoint"], ["InvalidNumber", "TooMany"], xRetL (xCons (xC (.str "point")) (xCons (xRep (xFld ["InvalidPoint"] "value")) (xCons (xIs ["InvalidPoint"]) xNil)))), (["InvalidNumber"], ["TooMany"], xRetL (xCons (xC (.str "number")) (xCons (xRep (xFld ["InvalidNumber"] "value")) (xCons (xIs ["InvalidNumber"]) xNil)))), (["TooMany"], [], xRetL (xCons (xC (.str "many")) (xCons (xFld ["TooMany"] "what") (xCons (xFld ["TooMany"] "limit") (xCons (xAnd (xIs ["TooMany"]) (xIs ["TooMany"])) xNil)))))] c fs [some L, none] = .rt d [some L, none]) :
    h_lheard (.er c fs []) = some d := by
  haveI : Dl.Tb := ⟨[]⟩
  refine hOf_ok fun L => ⟨[some L, none], ?_⟩
  show sh_lheard L (.er c fs []) [some L, none] = _
  unfold sh_lheard
  refine seq_rt ?_
  unfold sTry sExpr
  rw [act_er]
  exact h L
section
variable {d : D} {s : Str}
theorem hr_name (h : rp d = some (.str s)) : h_lheard (.er "InvalidName" [("value", d)] []) = some (tx "name" s) := by
  refine hr_er fun L => try_1 (zs := [.str "name", .str s, .bl true]) (by simp) ?_ (by simp)
  unfold xCons
  rw [xRep_of (d := d) rfl h]
  rfl
theorem hr_names (h : rp d = some (.str s)) : h_lheard (.er "InvalidNames" [("position", d)] []) = some (tx "names" s) := by
  refine hr_er fun L => (try_0 (by decide +kernel) (by simp)).trans (try_1 (zs := [.str "names", .str s, .bl true]) (by simp) ?_ (by simp))
  unfold xCons
  rw [xRep_of (d := d) rfl h]
  rfl
theorem hr_point (h : rp d = some (.str s)) : h_lheard (.er "InvalidPoint" [("value", d)] []) = some (tx "point" s) := by
  refine hr_er fun L => (try_0 (by decide +kernel) (by simp)).trans ((try_0 (by decide +kernel) (by simp)).trans (try_1 (zs := [.str "point", .str s, .bl true]) (by simp) ?_ (by simp)))
  unfold xCons
  rw [xRep_of (d := d) rfl h]
  rfl
theorem hr_number (h : rp d = some (.str s)) : h_lheard (.er "InvalidNumber" [("value", d)] []) = some (tx "number" s) := by
  refine hr_er fun L => (try_0 (by decide +kernel) (by simp)).trans ((try_0 (by decide +kernel) (by simp)).trans ((try_0 (by decide +kernel) (by simp)).trans (try_1 (zs := [.str "number", .str s, .bl true]) (by simp) ?_ (by simp))))
  unfold xCons
  rw [xRep_of (d := d) rfl h]
  rfl
theorem hr_many {w : Str} {m : Int} : h_lheard (.er "TooMany" [("limit", .int m), ("what", .str w)] []) = some (many w m) := by
  refine hr_er fun L => (try_0 (by decide +kernel) (by simp)).trans ((try_0 (by decide +kernel) (by simp)).trans ((try_0 (by decide +kernel) (by simp)).trans ((try_0 (by decide +kernel) (by simp)).trans (try_1 (zs := [.str "many", .str w, .int m, .bl true]) (by simp) rfl (by simp)))))
theorem hr_ok : h_lheard (.ok d) = some told := by
  haveI : Dl.Tb := ⟨[]⟩
  refine hOf_ok fun L => ⟨[some L, none], ?_⟩
  show sh_lheard L (.ok d) [some L, none] = _
  have a : eAct L (.ok d) [some L, none] = .ok (d, [some L, none]) := by
    unfold eAct
    exact if_pos (show ([some L, none] : En)[0]? = some (some L) from rfl)
  unfold sh_lheard
  refine (seq_nx (r' := [some L, none]) ?_).trans rfl
  unfold sTry sExpr
  rw [a]
  rfl
end
/-! ### a deal of eight parts -/
section
variable {d0 d1 d2 d3 d4 d5 d6 d7 : D} {c : Str} {fs : List (Str × D)}
abbrev l8 (d0 d1 d2 d3 d4 d5 d6 d7 : D) : D := .lst [d0, d1, d2, d3, d4, d5, d6, d7]
theorem made_args : aCons (eBin ixG (bVar 0) (bOf (eC (.int 0)))) (aCons (eBin ixG (bVar 0) (bOf (eC (.int 1)))) (aCons (eBin ixG (bVar 0) (bOf (eC (.int 2)))) (aCons (eBin ixG (bVar 0) (bOf (eC (.int 3)))) (aCons (eBin ixG (bVar 0) (bOf (eC (.int 4)))) (aCons (eBin ixG (bVar 0) (bOf (eC (.int 5)))) (aCons (eBin ixG (bVar 0) (bOf (eC (.int 6)))) aNil)))))) [some (.fz (l8 d0 d1 d2 d3 d4 d5 d6 d7))] = .ok ([d0, d1, d2, d3, d4, d5, d6], [some (.fz (l8 d0 d1 d2 d3 d4 d5 d6 d7))]) := rfl
theorem made_k : aCons (eBin ixG (bVar 0) (bOf (eC (.int 7)))) aNil [some (.fz (l8 d0 d1 d2 d3 d4 d5 d6 d7))] = .ok ([d7], [some (.fz (l8 d0 d1 d2 d3 d4 d5 d6 d7))]) := rfl
theorem made_all : aCons (eBin ixG (bVar 0) (bOf (eC (.int 7)))) (aCons (eBin ixG (bVar 0) (bOf (eC (.int 6)))) (aCons (eBin ixG (bVar 0) (bOf (eC (.int 5)))) (aCons (eBin ixG (bVar 0) (bOf (eC (.int 4)))) (aCons (eBin ixG (bVar 0) (bOf (eC (.int 3)))) (aCons (eBin ixG (bVar 0) (bOf (eC (.int 2)))) (aCons (eBin ixG (bVar 0) (bOf (eC (.int 1)))) (aCons (eBin ixG (bVar 0) (bOf (eC (.int 0)))) aNil))))))) [some (.fz (l8 d0 d1 d2 d3 d4 d5 d6 d7))] = .ok ([d7, d6, d5, d4, d3, d2, d1, d0], [some (.fz (l8 d0 d1 d2 d3 d4 d5 d6 d7))]) := rfl
theorem makeJ_ok {c : Str} {n m : Nat} {den : D → List D → List D → Res (D × D)} {fa fk : En → Res (List D × En)} {r r1 r2 : En} {as zs : List D} (h1 : fa r = .ok (as, r1)) (h2 : fk r1 = .ok (zs, r2)) (hn : as.length = n) (hm : zs.length = m) : eMakeJ c n m den fa fk r = mkR (den (.ins c []) as zs) r2 := by
  unfold eMakeJ
  rw [h1, bind_ok, h2, bind_ok]
  simp only [if_pos (show as.length = n ∧ zs.length = m from ⟨hn, hm⟩)]
theorem mk_made : eMakeJ "Deal" 7 1 dk_Deal_init_7_price (aCons (eBin ixG (bVar 0) (bOf (eC (.int 0)))) (aCons (eBin ixG (bVar 0) (bOf (eC (.int 1)))) (aCons (eBin ixG (bVar 0) (bOf (eC (.int 2)))) (aCons (eBin ixG (bVar 0) (bOf (eC (.int 3)))) (aCons (eBin ixG (bVar 0) (bOf (eC (.int 4)))) (aCons (eBin ixG (bVar 0) (bOf (eC (.int 5)))) (aCons (eBin ixG (bVar 0) (bOf (eC (.int 6)))) aNil))))))) (aCons (eBin ixG (bVar 0) (bOf (eC (.int 7)))) aNil) [some (.fz (l8 d0 d1 d2 d3 d4 d5 d6 d7))] = mkR (ini d0 d1 d2 d3 d4 d5 d6 (.bl true) d7) [some (.fz (l8 d0 d1 d2 d3 d4 d5 d6 d7))] :=
  makeJ_ok made_args made_k rfl rfl
theorem mk_named : eMakeJ "Deal" 0 8 dk_Deal_init_0_price_end_begin_ways_lands_films_house_name aNil (aCons (eBin ixG (bVar 0) (bOf (eC (.int 7)))) (aCons (eBin ixG (bVar 0) (bOf (eC (.int 6)))) (aCons (eBin ixG (bVar 0) (bOf (eC (.int 5)))) (aCons (eBin ixG (bVar 0) (bOf (eC (.int 4)))) (aCons (eBin ixG (bVar 0) (bOf (eC (.int 3)))) (aCons (eBin ixG (bVar 0) (bOf (eC (.int 2)))) (aCons (eBin ixG (bVar 0) (bOf (eC (.int 1)))) (aCons (eBin ixG (bVar 0) (bOf (eC (.int 0)))) aNil)))))))) [some (.fz (l8 d0 d1 d2 d3 d4 d5 d6 d7))] = mkR (ini d0 d1 d2 d3 d4 d5 d6 (.bl true) d7) [some (.fz (l8 d0 d1 d2 d3 d4 d5 d6 d7))] :=
  makeJ_ok (as := []) rfl made_all rfl rfl
theorem made_er (h : ∃ r, ini d0 d1 d2 d3 d4 d5 d6 (.bl true) d7 = .er c fs r) : (∃ r, d_lmade [l8 d0 d1 d2 d3 d4 d5 d6 d7] = .er c fs r) ∧ ∃ r, d_lnamed [l8 d0 d1 d2 d3 d4 d5 d6 d7] = .er c fs r := by
  obtain ⟨r, h⟩ := h
  refine ⟨⟨_, runF_er (r0 := [some (.fz (l8 d0 d1 d2 d3 d4 d5 d6 d7))]) (r := [some (.fz (l8 d0 d1 d2 d3 d4 d5 d6 d7))]) rfl rfl ?_⟩, ⟨_, runF_er (r0 := [some (.fz (l8 d0 d1 d2 d3 d4 d5 d6 d7))]) (r := [some (.fz (l8 d0 d1 d2 d3 d4 d5 d6 d7))]) rfl rfl ?_⟩⟩
  · unfold s_lmade s_lmade_1 sRet
    rw [mk_made, h]
    rfl
  · unfold s_lnamed s_lnamed_1 sRet
    rw [mk_named, h]
    rfl
theorem made_ok {z : D} (h : ini d0 d1 d2 d3 d4 d5 d6 (.bl true) d7 = .ok (.non, z)) (n : noOwn z = true) : d_lmade [l8 d0 d1 d2 d3 d4 d5 d6 d7] = .ok z ∧ d_lnamed [l8 d0 d1 d2 d3 d4 d5 d6 d7] = .ok z := by
  have e : mkR (Res.ok (D.non, z)) [some (.fz (l8 d0 d1 d2 d3 d4 d5 d6 d7))] = .ok (z, [some (.fz (l8 d0 d1 d2 d3 d4 d5 d6 d7))]) := if_pos n
  refine ⟨runF_rt (r0 := [some (.fz (l8 d0 d1 d2 d3 d4 d5 d6 d7))]) (r := [some (.fz (l8 d0 d1 d2 d3 d4 d5 d6 d7))]) rfl rfl ?_, runF_rt (r0 := [some (.fz (l8 d0 d1 d2 d3 d4 d5 d6 d7))]) (r := [some (.fz (l8 d0 d1 d2 d3 d4 d5 d6 d7))]) rfl rfl ?_⟩
  · unfold s_lmade s_lmade_1
    exact ret_ok (mk_made.trans ((congrArg (mkR · _) h).trans e))
  · unfold s_lnamed s_lnamed_1
    exact ret_ok (mk_named.trans ((congrArg (mkR · _) h).trans e))
end
end K21

set_option Elab.async false
set_option linter.all false
set_option maxRecDepth 100000
set_option maxHeartbeats 4000000
namespace Dl
open PySem L2
theorem callB_ok {r r1 : En} {i : Nat} {s : Sl} {fa : En → Res (List D × En)} {ds : List D} {d d1 : D} {den : D → List D → Res (D × D)} (h0 : isMine r i = true) (h : fa r = .ok (ds, r1)) (h1 : r1[i]? = some (some s)) (m1 : s.mine = true) (k : den s.d ds = .ok (d, d1)) : eCallB den i fa r = .ok (d, r1.set i (some (s.put d1))) := by
  unfold eCallB
  rw [if_pos h0, h, bind_ok]
  unfold atMine
  simp only [h1, if_pos m1, k]
  rfl
theorem callB0 {pot pot1 pot' : D} {t t' : En} {fa : En → Res (List D × En)} {ds : List D} {d : D} {den : D → List D → Res (D × D)} (h : fa (some (.bo pot) :: t) = .ok (ds, some (.bo pot1) :: t')) (k : den pot1 ds = .ok (d, pot')) : eCallB den 0 fa (some (.bo pot) :: t) = .ok (d, some (.bo pot') :: t') :=
  callB_ok (s := .bo pot1) rfl h rfl rfl k
theorem asg_ok {f : En → Res (D × En)} {r r1 r2 : En} {d : D} {g : D → En → Res En} (h : f r = .ok (d, r1)) (k : g d r1 = .ok r2) : sAsg f g r = .nx r2 := by
  rw [pasg, h, psbind_ok]
  simp only [k]
  rfl
theorem setIx_ok {i at_ : Nat} {fi : En → Res (D × En)} {v : D} {r r1 : En} {s : Sl} {ds : List D} (h0 : isMine r i = true) (h : fi r = .ok (.int (at_ : Int), r1)) (h1 : r1[i]? = some (some s)) (m1 : s.mine = true) (hd : s.d = .lst ds) (hl : at_ < ds.length) : gSetIx i fi v r = .ok (r1.set i (some (s.put (.lst (ds.set at_ v))))) := by
  have e : ixD ds.length (.int (at_ : Int)) = some at_ := by
    show ixN ds.length (at_ : Int) = some at_
    unfold ixN
    simp
    omega
  unfold gSetIx
  rw [if_pos h0, h, bind_ok]
  unfold atMine
  simp only [h1, if_pos m1, hd, e]
end Dl
namespace K21
open PySem L2 Dl
/-! ### one part spoilt -/
theorem draw0 {pot : D} {n : Int} (h : VP pot) (h0 : 0 < n) (h1 : n < 1073741824) : ∃ k pot', (∀ t, eCallB b_ldraw 0 (aCons (eC (.int n)) aNil) (some (.bo pot) :: t) = .ok (.int k, some (.bo pot') :: t)) ∧ 0 ≤ k ∧ k < n ∧ VP pot' := by
  obtain ⟨k, pot', e, a, b, v⟩ := drawF h h0 h1
  exact ⟨k, pot', fun t => callB0 (ds := [.int n]) rfl e, a, b, v⟩
theorem odd_nameF {pot : D} (h : VP pot) : ∃ d pot', b_lodd_name pot [] = .ok (d, pot') ∧ d ∈ oddName ∧ VP pot' := by
  obtain ⟨d, pot', e, hd, v⟩ := pickG (f := fun d : D => d) (l := oddName) h (by simp) (by simp)
  refine ⟨d, pot', runB_rt (r0 := [some (.bo pot)]) (r := [some (.bo pot')]) rfl rfl ?_ rfl, hd, v⟩
  unfold s_lodd_name s_lodd_name_1
  exact ret_ok (callB0 (pot1 := pot) (ds := [.lst oddName]) (cons_ok (lst_ok (ds := oddName) (r1 := [some (.bo pot)]) rfl (by simp)) rfl) e)
theorem odd_namesF {pot : D} (h : VP pot) : ∃ q pot', b_lodd_names pot [] = .ok (.tup [q.1, q.2], pot') ∧ q ∈ oddNames ∧ VP pot' := by
  obtain ⟨q, pot', e, hd, v⟩ := pickG (f := fun q : D × D => D.tup [q.1, q.2]) (l := oddNames) h (by simp) (by simp)
  refine ⟨q, pot', runB_rt (r0 := [some (.bo pot), none]) (r := [some (.bo pot'), some (.fz (.lst ((oddNames.take 13).map fun q : D × D => D.tup [q.1, q.2])))]) rfl rfl ?_ rfl, hd, v⟩
  have s1 : s_lodd_names_1 [some (.bo pot), none] = .nx [some (.bo pot), some (.fz (.lst ((oddNames.take 8).map fun q : D × D => D.tup [q.1, q.2])))] := rfl
  have s2 : s_lodd_names_2 [some (.bo pot), some (.fz (.lst ((oddNames.take 8).map fun q : D × D => D.tup [q.1, q.2])))] = .nx [some (.bo pot), some (.fz (.lst ((oddNames.take 13).map fun q : D × D => D.tup [q.1, q.2])))] := rfl
  unfold s_lodd_names
  refine (seq_nx s1).trans ((seq_nx s2).trans ?_)
  unfold s_lodd_names_3
  exact ret_ok (callB0 (pot1 := pot) (ds := [.lst (oddNames.map fun q : D × D => D.tup [q.1, q.2])]) (cons_ok (r1 := [some (.bo pot), some (.fz (.lst ((oddNames.take 13).map fun q : D × D => D.tup [q.1, q.2])))]) rfl rfl) e)
theorem odd_pointF {pot : D} (h : VP pot) : ∃ d pot', b_lodd_point pot [] = .ok (d, pot') ∧ d ∈ oddPoint ∧ VP pot' := by
  obtain ⟨d, pot', e, hd, v⟩ := pickG (f := fun d : D => d) (l := oddPoint) h (by simp) (by simp)
  refine ⟨d, pot', runB_rt (r0 := [some (.bo pot), none]) (r := [some (.bo pot'), some (.fz (.lst (oddPoint.take 11)))]) rfl rfl ?_ rfl, hd, v⟩
  have s1 : s_lodd_point_1 [some (.bo pot), none] = .nx [some (.bo pot), some (.fz (.lst (oddPoint.take 11)))] := rfl
  unfold s_lodd_point
  refine (seq_nx s1).trans ?_
  unfold s_lodd_point_2
  exact ret_ok (callB0 (pot1 := pot) (ds := [.lst oddPoint]) (cons_ok (r1 := [some (.bo pot), some (.fz (.lst (oddPoint.take 11)))]) rfl rfl) e)
/-- what a spoilt part is, and what is due -/
inductive Sp : Nat → D → D → Prop
  | nm {j : Nat} {d : D} {s : Str} (hj : j < 2) (hd : d ∈ oddName) (hs : rp d = some (.str s)) (ho : PyData.strOk s = true) : Sp j d (tx "name" s)
  | ns {j : Nat} {q : D × D} {s : Str} (h2 : 2 ≤ j) (hj : j < 5) (hd : q ∈ oddNames) (hs : rp q.2 = some (.str s)) (ho : PyData.strOk s = true) : Sp j q.1 (tx "names" s)
  | pt {j : Nat} {d : D} {s : Str} (h5 : 5 ≤ j) (hj : j < 7) (hd : d ∈ oddPoint) (hs : rp d = some (.str s)) (ho : PyData.strOk s = true) : Sp j d (tx "point" s)
  | nu {d : D} {s : Str} (hd : d ∈ oddNum) (hs : rp d = some (.str s)) (ho : PyData.strOk s = true) : Sp 7 d (tx "number" s)
abbrev A5 (pot : D) (ps : List D) (j : Nat) (x3 x4 : Option Sl) : En := [some (.bo pot), some (.fz (.lst ps)), some (.fz (.int (j : Int))), x3, x4]
theorem get_set {ds : List D} {j : Nat} {v : D} (h : j < ds.length) : ixG (.lst (ds.set j v)) (.int (j : Int)) = some v := by
  show atI (ds.set j v) (j : Int) = some v
  rw [Dl.atI_nat, List.getElem?_set_self h]
theorem tell {k : Str} {s : Str} {d : D} {pot : D} {ps ds : List D} {j : Nat} {x4 : Option Sl} (hl : j < ds.length) (h : rp d = some (.str s)) :
    sRet (eTup (aCons (eVar 3) (aCons (eLst (aCons (eC (.str k)) (aCons (eUn (orU (orU (orU reprB reprD) reprK) reprS) (bOf (eBin ixG (bVar 3) (bVar 2)))) (aCons (eC (.bl true)) aNil)))) aNil))) (A5 pot ps j (some (.ow (.lst (ds.set j d)))) x4) = .rt (.tup [.lst (ds.set j d), tx k s]) (A5 pot ps j (some (.fz (.lst (ds.set j d)))) x4) := by
  have u : eUn (orU (orU (orU reprB reprD) reprK) reprS) (bOf (eBin ixG (bVar 3) (bVar 2))) (A5 pot ps j (some (.fz (.lst (ds.set j d)))) x4) = .ok (.str s, A5 pot ps j (some (.fz (.lst (ds.set j d)))) x4) := un_ok (bof_ok (bin_ok (a := .sl 3) (b := .sl 2) rfl rfl rfl rfl (get_set hl))) rfl h
  exact ret_ok (tup_ok (cons_ok (d := .lst (ds.set j d)) (r1 := A5 pot ps j (some (.fz (.lst (ds.set j d)))) x4) rfl (cons_ok (lst_ok (cons_ok (f := eC (.str k)) (d := .str k) (r1 := A5 pot ps j (some (.fz (.lst (ds.set j d)))) x4) rfl (cons_ok u (cons_ok (f := eC (.bl true)) (d := .bl true) (r1 := A5 pot ps j (some (.fz (.lst (ds.set j d)))) x4) rfl rfl))) (by simp)) rfl)) (by simp))
theorem is01 {pot : D} {ps : List D} {j : Nat} (hj : j < 8) (x3 x4 : Option Sl) : tOfE (eBin inTup (bVar 2) (bOf (eTup (aCons (eC (.int 0)) (aCons (eC (.int 1)) aNil))))) (A5 pot ps j x3 x4) = .ok (decide (j < 2), A5 pot ps j x3 x4) := by
  have : j = 0 ∨ j = 1 ∨ j = 2 ∨ j = 3 ∨ j = 4 ∨ j = 5 ∨ j = 6 ∨ j = 7 := by omega
  rcases this with rfl | rfl | rfl | rfl | rfl | rfl | rfl | rfl <;> rfl
theorem is234 {pot : D} {ps : List D} {j : Nat} (hj : j < 8) (x3 x4 : Option Sl) : tOfE (eBin inTup (bVar 2) (bOf (eTup (aCons (eC (.int 2)) (aCons (eC (.int 3)) (aCons (eC (.int 4)) aNil)))))) (A5 pot ps j x3 x4) = .ok (decide (2 ≤ j ∧ j < 5), A5 pot ps j x3 x4) := by
  have : j = 0 ∨ j = 1 ∨ j = 2 ∨ j = 3 ∨ j = 4 ∨ j = 5 ∨ j = 6 ∨ j = 7 := by omega
  rcases this with rfl | rfl | rfl | rfl | rfl | rfl | rfl | rfl <;> rfl
theorem is56 {pot : D} {ps : List D} {j : Nat} (hj : j < 8) (x3 x4 : Option Sl) : tOfE (eBin inTup (bVar 2) (bOf (eTup (aCons (eC (.int 5)) (aCons (eC (.int 6)) aNil))))) (A5 pot ps j x3 x4) = .ok (decide (5 ≤ j ∧ j < 7), A5 pot ps j x3 x4) := by
  have : j = 0 ∨ j = 1 ∨ j = 2 ∨ j = 3 ∨ j = 4 ∨ j = 5 ∨ j = 6 ∨ j = 7 := by omega
  rcases this with rfl | rfl | rfl | rfl | rfl | rfl | rfl | rfl <;> rfl
theorem spoiltF {pot : D} {ds : List D} {j : Nat} (h : VP pot) (hl : ds.length = 8) (hj : j < 8) : ∃ v due pot', b_lspoilt pot [.lst ds, .int (j : Int)] = .ok (.tup [.lst (ds.set j v), due], pot') ∧ Sp j v due ∧ VP pot' := by
  have s1 : sOwn 3 (eUn listD (bVar 1)) (A5 pot ds j none none) = .nx (A5 pot ds j (some (.ow (.lst ds))) none) := rfl
  have c1 := is01 (pot := pot) (ps := ds) hj (some (.ow (.lst ds))) none
  have c2 := is234 (pot := pot) (ps := ds) hj (some (.ow (.lst ds))) none
  have c3 := is56 (pot := pot) (ps := ds) hj (some (.ow (.lst ds))) none
  have fin : ∀ {z pot' : D} {x3 x4 : Option Sl}, s_lspoilt (A5 pot ds j none none) = .rt z (A5 pot' ds j x3 x4) → b_lspoilt pot [.lst ds, .int (j : Int)] = .ok (z, pot') := fun L => runB_rt (r0 := A5 pot ds j none none) rfl rfl L rfl
  have put : ∀ {v pot' : D} {x4 : Option Sl}, gSetIx 3 (eVar 2) v (A5 pot' ds j (some (.ow (.lst ds))) x4) = .ok (A5 pot' ds j (some (.ow (.lst (ds.set j v)))) x4) := fun {v pot' x4} => (setIx_ok (at_ := j) (s := .ow (.lst ds)) (r1 := A5 pot' ds j (some (.ow (.lst ds))) x4) rfl rfl rfl rfl rfl (by omega)).trans rfl
  by_cases j2 : j < 2
  · rw [decide_eq_true j2] at c1
    obtain ⟨d, pot', e, hd, v⟩ := odd_nameF h
    obtain ⟨_, s, hs, ho⟩ := bd_name d hd
    have s2 : s_lspoilt_2 (A5 pot ds j (some (.ow (.lst ds))) none) = .rt (.tup [.lst (ds.set j d), tx "name" s]) (A5 pot' ds j (some (.fz (.lst (ds.set j d)))) none) := by
      unfold s_lspoilt_2
      exact (sif_t c1).trans ((seq_nx (asg_ok (callB0 (ds := []) (pot1 := pot) rfl e) put)).trans (tell (by omega) hs))
    refine ⟨d, _, pot', fin (by
      unfold s_lspoilt
      exact (seq_nx s1).trans (seq_rt s2)), .nm j2 hd hs ho, v⟩
  · rw [decide_eq_false j2] at c1
    have s2 : s_lspoilt_2 (A5 pot ds j (some (.ow (.lst ds))) none) = .nx (A5 pot ds j (some (.ow (.lst ds))) none) := by
      unfold s_lspoilt_2
      exact (sif_f c1).trans rfl
    by_cases j5 : j < 5
    · rw [decide_eq_true (show 2 ≤ j ∧ j < 5 by omega)] at c2
      obtain ⟨q, pot', e, hd, v⟩ := odd_namesF h
      obtain ⟨_, s, hs, ho⟩ := bd_names q hd
      have k : gTp 2 (gsCons (gSetIx 3 (eVar 2)) (gsCons (gNm 4) gsNil)) (.tup [q.1, q.2]) (A5 pot' ds j (some (.ow (.lst ds))) none) = .ok (A5 pot' ds j (some (.ow (.lst (ds.set j q.1)))) (some (.fz q.2))) := by
        show Res.bind (gSetIx 3 (eVar 2) q.1 (A5 pot' ds j (some (.ow (.lst ds))) none)) _ = _
        rw [put]
        rfl
      have s3 : s_lspoilt_3 (A5 pot ds j (some (.ow (.lst ds))) none) = .rt (.tup [.lst (ds.set j q.1), tx "names" s]) (A5 pot' ds j (some (.fz (.lst (ds.set j q.1)))) (some (.fz q.2))) := by
        unfold s_lspoilt_3
        refine (sif_t c2).trans ((seq_nx (asg_ok (callB0 (ds := []) (pot1 := pot) rfl e) k)).trans ?_)
        have u : eUn (orU (orU (orU reprB reprD) reprK) reprS) (bVar 4) (A5 pot' ds j (some (.fz (.lst (ds.set j q.1)))) (some (.fz q.2))) = .ok (.str s, A5 pot' ds j (some (.fz (.lst (ds.set j q.1)))) (some (.fz q.2))) := un_ok (a := .sl 4) rfl rfl hs
        exact ret_ok (tup_ok (cons_ok (d := .lst (ds.set j q.1)) (r1 := A5 pot' ds j (some (.fz (.lst (ds.set j q.1)))) (some (.fz q.2))) rfl (cons_ok (lst_ok (cons_ok (f := eC (.str "names")) (d := .str "names") (r1 := A5 pot' ds j (some (.fz (.lst (ds.set j q.1)))) (some (.fz q.2))) rfl (cons_ok u (cons_ok (f := eC (.bl true)) (d := .bl true) (r1 := A5 pot' ds j (some (.fz (.lst (ds.set j q.1)))) (some (.fz q.2))) rfl rfl))) (by simp)) rfl)) (by simp))
      refine ⟨q.1, _, pot', fin (by
        unfold s_lspoilt
        exact (seq_nx s1).trans ((seq_nx s2).trans (seq_rt s3))), .ns (by omega) j5 hd hs ho, v⟩
    · rw [decide_eq_false (show ¬ (2 ≤ j ∧ j < 5) by omega)] at c2
      have s3 : s_lspoilt_3 (A5 pot ds j (some (.ow (.lst ds))) none) = .nx (A5 pot ds j (some (.ow (.lst ds))) none) := by
        unfold s_lspoilt_3
        exact (sif_f c2).trans rfl
      by_cases j7 : j < 7
      · rw [decide_eq_true (show 5 ≤ j ∧ j < 7 by omega)] at c3
        obtain ⟨d, pot', e, hd, v⟩ := odd_pointF h
        obtain ⟨_, s, hs, ho⟩ := od_point d hd
        have s4 : s_lspoilt_4 (A5 pot ds j (some (.ow (.lst ds))) none) = .rt (.tup [.lst (ds.set j d), tx "point" s]) (A5 pot' ds j (some (.fz (.lst (ds.set j d)))) none) := by
          unfold s_lspoilt_4
          exact (sif_t c3).trans ((seq_nx (asg_ok (callB0 (ds := []) (pot1 := pot) rfl e) put)).trans (tell (by omega) hs))
        refine ⟨d, _, pot', fin (by
          unfold s_lspoilt
          exact (seq_nx s1).trans ((seq_nx s2).trans ((seq_nx s3).trans (seq_rt s4)))), .pt (by omega) j7 hd hs ho, v⟩
      · rw [decide_eq_false (show ¬ (5 ≤ j ∧ j < 7) by omega)] at c3
        have s4 : s_lspoilt_4 (A5 pot ds j (some (.ow (.lst ds))) none) = .nx (A5 pot ds j (some (.ow (.lst ds))) none) := by
          unfold s_lspoilt_4
          exact (sif_f c3).trans rfl
        have e7 : j = 7 := by omega
        obtain ⟨d, pot', e, hd, v⟩ := pickG (f := fun d : D => d) (l := oddNum) h (by simp) (by simp)
        obtain ⟨_, s, hs, ho⟩ := od_num d hd
        have s5 : s_lspoilt_5 (A5 pot ds j (some (.ow (.lst ds))) none) = .nx (A5 pot' ds j (some (.ow (.lst (ds.set j d)))) none) := by
          unfold s_lspoilt_5
          exact asg_ok (callB0 (ds := [.lst oddNum]) (pot1 := pot) rfl e) put
        subst e7
        refine ⟨d, _, pot', fin (by
          unfold s_lspoilt
          exact (seq_nx s1).trans ((seq_nx s2).trans ((seq_nx s3).trans ((seq_nx s4).trans ((seq_nx s5).trans (tell (by omega) hs)))))), .nu hd hs ho, v⟩
end K21

set_option Elab.async false
set_option linter.all false
set_option maxRecDepth 100000
set_option maxHeartbeats 4000000
namespace K21
open PySem L2 Dl
/-! ### good parts -/
abbrev tags : List Str := ["a", "bb", "ccc", "zzzzzz"]
abbrev gl (n : Nat) : List D := (tags.take n).map D.str
theorem srt_of {l : List D} (h1 : okPyL l = true) (h2 : allAlikeB (l.map toPy) = true) (h3 : sortableB (l.map toPy) = true) (h4 : l.length ≤ 100) (h5 : l.Pairwise fun a b => PySem.W.dataLe false toPy a b = true) : Srt (.lst l) l := by
  refine ⟨.lst l, ?_, rfl⟩
  have e : sortedD (.lst l) = some (.lst (l.mergeSort (PySem.W.dataLe false toPy))) := if_pos ⟨h1, h2, h3, by omega⟩
  rw [List.mergeSort_of_pairwise h5] at e
  unfold orU
  simp only [e]
theorem srt_ofT {l : List D} (h1 : okPyL l = true) (h2 : allAlikeB (l.map toPy) = true) (h3 : sortableB (l.map toPy) = true) (h4 : l.length ≤ 100) (h5 : l.Pairwise fun a b => PySem.W.dataLe false toPy a b = true) : Srt (.tup l) l := by
  refine ⟨.lst l, ?_, rfl⟩
  have e0 : sortedD (.tup l) = none := rfl
  have e : sortedT (.tup l) = some (.lst (l.mergeSort (PySem.W.dataLe false toPy))) := if_pos ⟨h1, h2, h3, by omega⟩
  rw [List.mergeSort_of_pairwise h5] at e
  unfold orU
  simp only [e0, e]
theorem pwB {l : List D} (h : decide (l.Pairwise fun a b => PySem.W.dataLe false toPy a b = true) = true) : l.Pairwise fun a b => PySem.W.dataLe false toPy a b = true := of_decide_eq_true h
/-- a list of names that is let -/
structure GL (d : D) (t : List D) : Prop where
  names : d_want_names [d] = .ok .non
  srt : Srt d t
theorem gl_ok : ∀ n, n < 4 → GL (.lst (gl (n + 1))) (gl (n + 1)) := by
  intro n hn
  have : n = 0 ∨ n = 1 ∨ n = 2 ∨ n = 3 := by omega
  rcases this with rfl | rfl | rfl | rfl <;> exact ⟨by kernel_rfl, srt_of (by kernel_rfl) (by kernel_rfl) (by kernel_rfl) (by decide) (pwB (by kernel_rfl))⟩
abbrev goodP : List (D × D) := [(.tup [.str "m", .int 0], .tup [.str "m", .int 0]), (.tup [.str "m", .int 0], .tup [.str "m", .int 1]), (.tup [.str "m", .int 0], .tup [.str "m", .int 9]),
  (.tup [.str "m", .int (-3)], .tup [.str "m", .int (-3)]), (.tup [.str "m", .int (-3)], .tup [.str "m", .int (-2)]), (.tup [.str "m", .int (-3)], .tup [.str "m", .int 6]),
  (.tup [.str "m", .int (10 ^ 29)], .tup [.str "m", .int (10 ^ 29)]), (.tup [.str "m", .int (10 ^ 29)], .tup [.str "m", .int (10 ^ 29 + 1)]), (.tup [.str "m", .int (10 ^ 29)], .tup [.str "m", .int (10 ^ 29 + 9)]),
  (.tup [.str "m", .int 5], .tup [.str "day", .int 1]), (.tup [.str "day", .int 2], .tup [.str "x", .int (-3)]), (.tup [.str "day", .int (-1)], .tup [.str "day", .int (-1)])]
theorem goodP_ok : ∀ q ∈ goodP, d_want_points [q.1, q.2] = .ok .non ∧ d_is_point [q.1] = .ok (.bl true) ∧ d_is_point [q.2] = .ok (.bl true) := by
  intro q hq
  simp only [goodP, List.mem_cons, List.not_mem_nil, or_false] at hq
  rcases hq with rfl | rfl | rfl | rfl | rfl | rfl | rfl | rfl | rfl | rfl | rfl | rfl <;> exact ⟨by kernel_rfl, by kernel_rfl, by kernel_rfl⟩
abbrev goodN : List D := [.int 0, .int 1, .int 7]
theorem goodN_ok : ∀ q ∈ goodN, d_is_count [q] = .ok (.bl true) := by
  intro q hq
  simp only [goodN, List.mem_cons, List.not_mem_nil, or_false] at hq
  rcases hq with rfl | rfl | rfl <;> kernel_rfl
theorem nm_n : d_want_name [.str "n"] = .ok .non := by kernel_rfl
theorem nm_h : d_want_name [.str "h"] = .ok .non := by kernel_rfl
end K21

set_option Elab.async false
set_option linter.all false
set_option maxRecDepth 100000
set_option maxHeartbeats 4000000
namespace Dl
open PySem L2
theorem lc_step {g : D → En → Res En} {e : En → Res (D × En)} {vs : List Nat} {d z : D} {ds acc : List D} {r r1 r3 : En} (h1 : g d r = .ok r1) (h5 : e r1 = .ok (z, r3)) : lcLoop g tYesD e vs (d :: ds) r acc = lcLoop g tYesD e vs ds (wipeE r3 vs) (acc ++ [z]) := by
  have h2 : tYesD r1 = .ok (true, r1) := rfl
  conv => lhs; unfold lcLoop
  rw [h1, nX_ok, bind_ok, h2, nX_ok, bind_ok]
  simp only
  rw [h5, nX_ok, bind_ok]
theorem elc_run {s : En → Res (List D × En)} {g : D → En → Res En} {t : En → Res (Bool × En)} {e : En → Res (D × En)} {vs : List Nat} {r r0 r1 : En} {l zs : List D} (hs : s r = .ok (l, r0)) (hl : l.length ≤ 100000) (h : lcLoop g t e vs l (wipeE r0 vs) [] = .ok (zs, r1)) : eLc s g t e vs r = .ok (.lst zs, restore r0 vs r1) := by
  unfold eLc
  rw [hs, bind_ok]
  simp only [if_pos hl]
  rw [h, nX_ok, bind_ok]
theorem sl_ok {g : D → Option Int → Option Int → Option D} {fe : En → Res (BV × En)} {fl fh : En → Res (Option Int × En)} {r r1 r2 r3 : En} {p : BV} {l u : Option Int} {d z : D} (h1 : fe r = .ok (p, r1)) (h2 : fl r1 = .ok (l, r2)) (h3 : fh r2 = .ok (u, r3)) (h4 : getB p r3 = .ok d) (h5 : g d l u = some z) : eSl g fe fl fh r = .ok (z, r3) := by
  unfold eSl
  rw [h1, bind_ok]
  simp only
  rw [h2, bind_ok]
  simp only
  rw [h3, bind_ok]
  simp only
  rw [h4, bind_ok, h5]
  rfl
theorem doSome_ok {f : En → Res (D × En)} {r r1 : En} {i : Int} (h : f r = .ok (.int i, r1)) : doSome f r = .ok (some i, r1) := by
  unfold doSome
  rw [h, bind_ok]
end Dl
namespace K21
open PySem L2 Dl
/-! ### the parts of a deal, drawn -/
def Gp (ps : List D) : Prop := ∃ i j k : Nat, ∃ q : D × D, ∃ n : D, i < 4 ∧ j < 4 ∧ k < 3 ∧ q ∈ goodP ∧ n ∈ goodN ∧ ps = [.str "n", .str "h", .lst (gl (i + 1)), .lst (gl (j + 1)), .lst (gl (k + 1)), q.1, q.2, n]
abbrev B6 (pot : D) (x1 x2 x3 x4 x5 : Option Sl) : En := [some (.bo pot), x1, x2, x3, x4, x5]
theorem tag_cut {pot : D} {m : Int} (hv : VP pot) (h0 : 0 < m) (h4 : m ≤ 4) (x1 : Option Sl) : ∃ (k : Nat) (pot' : D), (k : Int) < m ∧ VP pot' ∧
    eSl slL (bVar 2) doNone (doSome (eBin addI (bOf (eC (.int 1))) (bOf (eCallB b_ldraw 0 (aCons (eVar 4) aNil))))) (B6 pot x1 (some (.fz (.lst (gl 4)))) none (some (.fz (.int m))) none) = .ok (.lst (gl (k + 1)), B6 pot' x1 (some (.fz (.lst (gl 4)))) none (some (.fz (.int m))) none) := by
  obtain ⟨k, pot', e, k0, k1, v⟩ := drawF (n := m) hv h0 (by omega)
  obtain ⟨n, rfl⟩ := Int.eq_ofNat_of_zero_le k0
  refine ⟨n, pot', k1, v, ?_⟩
  have a : eCallB b_ldraw 0 (aCons (eVar 4) aNil) (B6 pot x1 (some (.fz (.lst (gl 4)))) none (some (.fz (.int m))) none) = .ok (.int (n : Int), B6 pot' x1 (some (.fz (.lst (gl 4)))) none (some (.fz (.int m))) none) := callB0 (ds := [.int m]) rfl e
  refine sl_ok (p := .sl 2) (d := .lst (gl 4)) rfl rfl (doSome_ok (bin_ok (a := .fz (.int 1)) rfl (bof_ok a) rfl rfl rfl)) rfl ?_
  have : n = 0 ∨ n = 1 ∨ n = 2 ∨ n = 3 := by omega
  rcases this with rfl | rfl | rfl | rfl <;> rfl
theorem partsF {pot : D} (hv : VP pot) : ∃ ps pot', b_lparts pot [] = .ok (.lst ps, pot') ∧ Gp ps ∧ VP pot' := by
  obtain ⟨f, p1, e1, hf, v1⟩ := pickG (f := D.int) (l := [0, -3, 10 ^ 29]) hv (by simp) (by simp)
  obtain ⟨i, p2, hi, v2, e2⟩ := tag_cut v1 (show (0 : Int) < 4 by decide) (by decide) (some (.fz (.int f)))
  obtain ⟨j, p3, hj, v3, e3⟩ := tag_cut v2 (show (0 : Int) < 4 by decide) (by decide) (some (.fz (.int f)))
  obtain ⟨k, p4, hk, v4, e4⟩ := tag_cut v3 (show (0 : Int) < 3 by decide) (by decide) (some (.fz (.int f)))
  obtain ⟨g, p5, e5, hg, v5⟩ := pickG (f := D.int) (l := [0, 1, 9]) v4 (by simp) (by simp)
  obtain ⟨q, p6, e6, hq, v6⟩ := pickG (f := fun q : D × D => D.lst [q.1, q.2]) (l := [(.tup [.str "m", .int f], .tup [.str "m", .int (f + g)]), (.tup [.str "m", .int 5], .tup [.str "day", .int 1]), (.tup [.str "day", .int 2], .tup [.str "x", .int (-3)]), (.tup [.str "day", .int (-1)], .tup [.str "day", .int (-1)])]) v5 (by simp) (by simp)
  obtain ⟨n, p7, e7, hn, v7⟩ := pickG (f := fun d : D => d) (l := goodN) v6 (by simp) (by simp)
  refine ⟨[.str "n", .str "h", .lst (gl (i + 1)), .lst (gl (j + 1)), .lst (gl (k + 1)), q.1, q.2, n], p7, ?_, ⟨i, j, k, q, n, by omega, by omega, by omega, ?_, hn, rfl⟩, v7⟩
  · have s1 : sSet 1 (eCallB b_lpick 0 (aCons (eLst (aCons (eC (.int 0)) (aCons (eUn negI (bOf (eC (.int 3)))) (aCons (eBin powI (bOf (eC (.int 10))) (bOf (eC (.int 29)))) aNil)))) aNil)) (B6 pot none none none none none) = .nx (B6 p1 (some (.fz (.int f))) none none none none) :=
      (set_ok (callB0 (ds := [.lst ([0, -3, 10 ^ 29].map D.int)]) (pot1 := pot) rfl e1)).trans rfl
    have s2 : sSet 2 (eLst (aCons (eC (.str "a")) (aCons (eC (.str "bb")) (aCons (eC (.str "ccc")) (aCons (eC (.str "zzzzzz")) aNil))))) (B6 p1 (some (.fz (.int f))) none none none none) = .nx (B6 p1 (some (.fz (.int f))) (some (.fz (.lst (gl 4)))) none none none) := rfl
    have lc : e_lparts_1 (B6 p1 (some (.fz (.int f))) (some (.fz (.lst (gl 4)))) none none none) = .ok (.lst [.lst (gl (i + 1)), .lst (gl (j + 1)), .lst (gl (k + 1))], B6 p4 (some (.fz (.int f))) (some (.fz (.lst (gl 4)))) none none none) := by
      unfold e_lparts_1
      refine (elc_run (l := [.int 4, .int 4, .int 3]) (zs := [.lst (gl (i + 1)), .lst (gl (j + 1)), .lst (gl (k + 1))]) (r0 := B6 p1 (some (.fz (.int f))) (some (.fz (.lst (gl 4)))) none none none) (r1 := B6 p4 (some (.fz (.int f))) (some (.fz (.lst (gl 4)))) none none none) rfl (by simp) ?_).trans rfl
      exact (lc_step (r := B6 p1 (some (.fz (.int f))) (some (.fz (.lst (gl 4)))) none none none) rfl e2).trans ((lc_step (r := B6 p2 (some (.fz (.int f))) (some (.fz (.lst (gl 4)))) none none none) rfl e3).trans ((lc_step (r := B6 p3 (some (.fz (.int f))) (some (.fz (.lst (gl 4)))) none none none) rfl e4).trans rfl))
    have s3 : sSet 3 (eBin catL (bOf (eLst (aCons (eC (.str "n")) (aCons (eC (.str "h")) aNil)))) (bOf e_lparts_1)) (B6 p1 (some (.fz (.int f))) (some (.fz (.lst (gl 4)))) none none none) = .nx (B6 p4 (some (.fz (.int f))) (some (.fz (.lst (gl 4)))) (some (.fz (.lst [.str "n", .str "h", .lst (gl (i + 1)), .lst (gl (j + 1)), .lst (gl (k + 1))]))) none none) :=
      (set_ok (bin_ok (a := .fz (.lst [.str "n", .str "h"])) (r1 := B6 p1 (some (.fz (.int f))) (some (.fz (.lst (gl 4)))) none none none) rfl (bof_ok lc) rfl rfl rfl)).trans rfl
    have s4 : sSet 5 (eLst (aCons (eTup (aCons (eC (.str "m")) (aCons (eVar 1) aNil))) (aCons (eTup (aCons (eC (.str "m")) (aCons (eBin addI (bVar 1) (bOf (eCallB b_lpick 0 (aCons (eLst (aCons (eC (.int 0)) (aCons (eC (.int 1)) (aCons (eC (.int 9)) aNil)))) aNil)))) aNil))) aNil)))
        (B6 p4 (some (.fz (.int f))) (some (.fz (.lst (gl 4)))) (some (.fz (.lst [.str "n", .str "h", .lst (gl (i + 1)), .lst (gl (j + 1)), .lst (gl (k + 1))]))) none none) = .nx (B6 p5 (some (.fz (.int f))) (some (.fz (.lst (gl 4)))) (some (.fz (.lst [.str "n", .str "h", .lst (gl (i + 1)), .lst (gl (j + 1)), .lst (gl (k + 1))]))) none (some (.fz (.lst [.tup [.str "m", .int f], .tup [.str "m", .int (f + g)]])))) := by
      have c : eCallB b_lpick 0 (aCons (eLst (aCons (eC (.int 0)) (aCons (eC (.int 1)) (aCons (eC (.int 9)) aNil)))) aNil) (B6 p4 (some (.fz (.int f))) (some (.fz (.lst (gl 4)))) (some (.fz (.lst [.str "n", .str "h", .lst (gl (i + 1)), .lst (gl (j + 1)), .lst (gl (k + 1))]))) none none) = .ok (.int g, B6 p5 (some (.fz (.int f))) (some (.fz (.lst (gl 4)))) (some (.fz (.lst [.str "n", .str "h", .lst (gl (i + 1)), .lst (gl (j + 1)), .lst (gl (k + 1))]))) none none) := callB0 (ds := [.lst ([0, 1, 9].map D.int)]) (pot1 := p4) rfl e5
      exact (set_ok (lst_ok (cons_ok (d := .tup [.str "m", .int f]) (r1 := B6 p4 (some (.fz (.int f))) (some (.fz (.lst (gl 4)))) (some (.fz (.lst [.str "n", .str "h", .lst (gl (i + 1)), .lst (gl (j + 1)), .lst (gl (k + 1))]))) none none) rfl
        (cons_ok (tup_ok (cons_ok (d := .str "m") rfl (cons_ok (bin_ok (a := .sl 1) (x := .int f) rfl (bof_ok c) rfl rfl rfl) rfl)) (by simp)) rfl)) (by simp))).trans rfl
    have s5 : s_lparts_5 (B6 p5 (some (.fz (.int f))) (some (.fz (.lst (gl 4)))) (some (.fz (.lst [.str "n", .str "h", .lst (gl (i + 1)), .lst (gl (j + 1)), .lst (gl (k + 1))]))) none (some (.fz (.lst [.tup [.str "m", .int f], .tup [.str "m", .int (f + g)]])))) = .nx (B6 p6 (some (.fz (.int f))) (some (.fz (.lst (gl 4)))) (some (.fz (.lst [.str "n", .str "h", .lst (gl (i + 1)), .lst (gl (j + 1)), .lst (gl (k + 1))]))) none (some (.fz (.lst [q.1, q.2])))) := by
      unfold s_lparts_5
      exact (set_ok (callB0 (ds := [.lst _]) (pot1 := p5) rfl e6)).trans rfl
    have s6 : sRet (eBin catL (bOf (eBin catL (bVar 3) (bVar 5))) (bOf (eLst (aCons (eCallB b_lpick 0 (aCons (eLst (aCons (eC (.int 0)) (aCons (eC (.int 1)) (aCons (eC (.int 7)) aNil)))) aNil)) aNil))))
        (B6 p6 (some (.fz (.int f))) (some (.fz (.lst (gl 4)))) (some (.fz (.lst [.str "n", .str "h", .lst (gl (i + 1)), .lst (gl (j + 1)), .lst (gl (k + 1))]))) none (some (.fz (.lst [q.1, q.2])))) = .rt (.lst [.str "n", .str "h", .lst (gl (i + 1)), .lst (gl (j + 1)), .lst (gl (k + 1)), q.1, q.2, n]) (B6 p7 (some (.fz (.int f))) (some (.fz (.lst (gl 4)))) (some (.fz (.lst [.str "n", .str "h", .lst (gl (i + 1)), .lst (gl (j + 1)), .lst (gl (k + 1))]))) none (some (.fz (.lst [q.1, q.2])))) := by
      have c : eCallB b_lpick 0 (aCons (eLst (aCons (eC (.int 0)) (aCons (eC (.int 1)) (aCons (eC (.int 7)) aNil)))) aNil) (B6 p6 (some (.fz (.int f))) (some (.fz (.lst (gl 4)))) (some (.fz (.lst [.str "n", .str "h", .lst (gl (i + 1)), .lst (gl (j + 1)), .lst (gl (k + 1))]))) none (some (.fz (.lst [q.1, q.2])))) = .ok (n, B6 p7 (some (.fz (.int f))) (some (.fz (.lst (gl 4)))) (some (.fz (.lst [.str "n", .str "h", .lst (gl (i + 1)), .lst (gl (j + 1)), .lst (gl (k + 1))]))) none (some (.fz (.lst [q.1, q.2])))) := callB0 (ds := [.lst goodN]) (pot1 := p6) rfl e7
      exact ret_ok (bin_ok (a := .fz (.lst [.str "n", .str "h", .lst (gl (i + 1)), .lst (gl (j + 1)), .lst (gl (k + 1)), q.1, q.2])) (r1 := B6 p6 (some (.fz (.int f))) (some (.fz (.lst (gl 4)))) (some (.fz (.lst [.str "n", .str "h", .lst (gl (i + 1)), .lst (gl (j + 1)), .lst (gl (k + 1))]))) none (some (.fz (.lst [q.1, q.2])))) rfl (bof_ok (lst_ok (cons_ok c rfl) (by simp))) rfl rfl rfl)
    have L := (seq_nx s1).trans ((seq_nx s2).trans ((seq_nx s3).trans ((seq_nx s4).trans ((seq_nx s5).trans s6))))
    exact runB_rt (r0 := B6 pot none none none none none) rfl rfl L rfl
  · simp only [List.mem_cons, List.not_mem_nil, or_false] at hf hg hq
    rcases hq with rfl | rfl | rfl | rfl
    · rcases hf with rfl | rfl | rfl <;> rcases hg with rfl | rfl | rfl <;> simp [goodP]
    all_goals simp [goodP]
end K21

set_option Elab.async false
set_option linter.all false
set_option maxRecDepth 100000
set_option maxHeartbeats 4000000
namespace K21
open PySem L2 Dl
/-! ### what is due, compared -/
theorem tx_eq {k s : Str} (hk : PyData.strOk k = true) (hs : PyData.strOk s = true) : eqD (tx k s) told = some (.bl false) ∧ neD (tx k s) (tx k s) = some (.bl false) ∧ eqD (tx k s) (tx k s) = some (.bl true) := by
  have o : okPy (tx k s) = true := by
    simp [okPy, isData, toPy, toPyL, SeqAt.shaped, isDataL, hk, hs, PyData.canLay0, PyData.canLayAll0, PyData.depth, PyData.depthAll]
  have o2 : okPy told = true := by kernel_rfl
  have e : PyData.eqv (toPy (tx k s)) (toPy (tx k s)) = true := by
    simp [toPy, toPyL, PyData.eqv, PyData.eqvAll]
  have e2 : PyData.eqv (toPy (tx k s)) (toPy told) = false := by
    simp [toPy, toPyL, PyData.eqv, PyData.eqvAll]
  refine ⟨?_, ?_, ?_⟩
  · show (if okPy (tx k s) = true ∧ okPy told = true then some (D.bl (PyData.eqv (toPy (tx k s)) (toPy told))) else none) = _
    rw [if_pos ⟨o, o2⟩, e2]
  · show (if okPy (tx k s) = true ∧ okPy (tx k s) = true then some (D.bl (!PyData.eqv (toPy (tx k s)) (toPy (tx k s)))) else none) = _
    rw [if_pos ⟨o, o⟩, e]
    rfl
  · show (if okPy (tx k s) = true ∧ okPy (tx k s) = true then some (D.bl (PyData.eqv (toPy (tx k s)) (toPy (tx k s)))) else none) = _
    rw [if_pos ⟨o, o⟩, e]
theorem told_eq : eqD told told = some (.bl true) ∧ neD told told = some (.bl false) := ⟨by kernel_rfl, by kernel_rfl⟩
/-- a deal of these eight parts is let, or refused so -/
structure Tell (ds : List D) (due : D) : Prop where
  ex : (∃ c fs, (∃ r, d_lmade [.lst ds] = .er c fs r) ∧ (∃ r, d_lnamed [.lst ds] = .er c fs r) ∧ h_lheard (.er c fs []) = some due) ∨ ((∃ z, d_lmade [.lst ds] = .ok z) ∧ (∃ z, d_lnamed [.lst ds] = .ok z) ∧ due = told)
theorem tell_er {d0 d1 d2 d3 d4 d5 d6 d7 due : D} {c : Str} {fs : List (Str × D)} (h : ∃ r, ini d0 d1 d2 d3 d4 d5 d6 (.bl true) d7 = .er c fs r) (k : h_lheard (.er c fs []) = some due) : Tell [d0, d1, d2, d3, d4, d5, d6, d7] due :=
  ⟨.inl ⟨c, fs, (made_er h).1, (made_er h).2, k⟩⟩
theorem want_pt {d : D} {d6 : D} (h : d_is_point [d] = .ok (.bl false)) : ∃ r, d_want_points [d, d6] = .er "InvalidPoint" [("value", d)] r := by
  refine ⟨[some (.fz d), some (.fz d6)], runF_er (r0 := [some (.fz d), some (.fz d6)]) rfl rfl ?_⟩
  unfold s_want_points
  refine seq_er ?_
  unfold s_want_points_1
  exact (sif_t (tnot_ok (bb := false) (tof_ok (call_ok (ds := [d]) (r1 := [some (.fz d), some (.fz d6)]) rfl h)))).trans (raise_ok (ds := [d]) rfl rfl)
theorem want_pt2 {d : D} {d5 : D} (h5 : d_is_point [d5] = .ok (.bl true)) (h : d_is_point [d] = .ok (.bl false)) : ∃ r, d_want_points [d5, d] = .er "InvalidPoint" [("value", d)] r := by
  refine ⟨[some (.fz d5), some (.fz d)], runF_er (r0 := [some (.fz d5), some (.fz d)]) rfl rfl ?_⟩
  unfold s_want_points
  have s1 : s_want_points_1 [some (.fz d5), some (.fz d)] = .nx [some (.fz d5), some (.fz d)] := by
    unfold s_want_points_1
    exact (sif_f (tnot_ok (bb := true) (tof_ok (call_ok (ds := [d5]) (r1 := [some (.fz d5), some (.fz d)]) rfl h5)))).trans rfl
  refine (seq_nx s1).trans ?_
  unfold s_want_points_2
  exact (sif_t (tor_t (tnot_ok (bb := false) (tof_ok (call_ok (ds := [d]) (r1 := [some (.fz d5), some (.fz d)]) rfl h))))).trans (raise_ok (ds := [d]) rfl rfl)
/-- the first spoilt part is told -/
theorem tell_sp {ps ds : List D} {j : Nat} {v due : D} (g : Gp ps) (hl : ds.length = 8) (hj : j < 8) (hv : ds[j]? = some v) (hs : Sp j v due) (hb : ∀ i, i < j → ds[i]? = ps[i]?) : Tell ds due := by
  obtain ⟨a, b, c, q, n, ha, hb2, hc, hq, hn, rfl⟩ := g
  match ds, hl with
  | [d0, d1, d2, d3, d4, d5, d6, d7], _ =>
    have g2 := (gl_ok a ha).names
    have g3 := (gl_ok b hb2).names
    have g4 := (gl_ok c (by omega)).names
    have gq := goodP_ok q hq
    cases hs with
    | nm hj2 hd hs ho =>
      have : j = 0 ∨ j = 1 := by omega
      rcases this with rfl | rfl
      · cases hv
        exact tell_er (ini0 (er_ex (bd_name _ hd).1)) (hr_name hs)
      · cases hv
        have e0 : d0 = .str "n" := by have := hb 0 (by omega); simpa using this
        subst e0
        exact tell_er (ini1 nm_n (er_ex (bd_name _ hd).1)) (hr_name hs)
    | ns h2 hj2 hd hs ho =>
      have e0 : d0 = .str "n" := by have := hb 0 (by omega); simpa using this
      have e1 : d1 = .str "h" := by have := hb 1 (by omega); simpa using this
      subst e0 e1
      obtain ⟨r, hr⟩ := er_ex (bd_names _ hd).1
      have : j = 2 ∨ j = 3 ∨ j = 4 := by omega
      rcases this with rfl | rfl | rfl
      · cases hv
        exact tell_er (ini2 nm_n nm_h (for_er hr)) (hr_names hs)
      · cases hv
        have e2 : d2 = .lst (gl (a + 1)) := by have := hb 2 (by omega); simpa using this
        subst e2
        exact tell_er (ini2 nm_n nm_h (by rw [for_nx g2]; exact for_er hr)) (hr_names hs)
      · cases hv
        have e2 : d2 = .lst (gl (a + 1)) := by have := hb 2 (by omega); simpa using this
        have e3 : d3 = .lst (gl (b + 1)) := by have := hb 3 (by omega); simpa using this
        subst e2 e3
        exact tell_er (ini2 nm_n nm_h (by rw [for_nx g2, for_nx g3]; exact for_er hr)) (hr_names hs)
    | pt h5 hj2 hd hs ho =>
      have e0 : d0 = .str "n" := by have := hb 0 (by omega); simpa using this
      have e1 : d1 = .str "h" := by have := hb 1 (by omega); simpa using this
      have e2 : d2 = .lst (gl (a + 1)) := by have := hb 2 (by omega); simpa using this
      have e3 : d3 = .lst (gl (b + 1)) := by have := hb 3 (by omega); simpa using this
      have e4 : d4 = .lst (gl (c + 1)) := by have := hb 4 (by omega); simpa using this
      subst e0 e1 e2 e3 e4
      have : j = 5 ∨ j = 6 := by omega
      rcases this with rfl | rfl
      · cases hv
        exact tell_er (ini3 nm_n nm_h g2 g3 g4 (want_pt (od_point _ hd).1)) (hr_point hs)
      · cases hv
        have e5 : d5 = q.1 := by have := hb 5 (by omega); simpa using this
        subst e5
        exact tell_er (ini3 nm_n nm_h g2 g3 g4 (want_pt2 gq.2.1 (od_point _ hd).1)) (hr_point hs)
    | nu hd hs ho =>
      have e0 : d0 = .str "n" := by have := hb 0 (by omega); simpa using this
      have e1 : d1 = .str "h" := by have := hb 1 (by omega); simpa using this
      have e2 : d2 = .lst (gl (a + 1)) := by have := hb 2 (by omega); simpa using this
      have e3 : d3 = .lst (gl (b + 1)) := by have := hb 3 (by omega); simpa using this
      have e4 : d4 = .lst (gl (c + 1)) := by have := hb 4 (by omega); simpa using this
      have e5 : d5 = q.1 := by have := hb 5 (by omega); simpa using this
      have e6 : d6 = q.2 := by have := hb 6 (by omega); simpa using this
      subst e0 e1 e2 e3 e4 e5 e6
      cases hv
      exact tell_er (ini4 ⟨nm_n, nm_h, g2, g3, g4, gq.1⟩ (od_num _ hd).1) (hr_number hs)
/-- a list of names, as long as may be or longer -/
structure Ln (m : Nat) (d : D) (l : List D) : Prop where
  eq : d = .lst l
  names : d_want_names [d] = .ok .non
  srt : l.length ≤ m → Srt d l
def dueOf (n2 n3 n4 : Nat) : D := if 4 < n2 then many "films" 4 else if 4 < n3 then many "lands" 4 else if 3 < n4 then many "ways" 3 else told
theorem tell_long {d2 d3 d4 : D} {l2 l3 l4 : List D} {q : D × D} {n : D} (h2 : Ln 4 d2 l2) (h3 : Ln 4 d3 l3) (h4 : Ln 3 d4 l4) (hq : q ∈ goodP) (hn : n ∈ goodN) : Tell [.str "n", .str "h", d2, d3, d4, q.1, q.2, n] (dueOf l2.length l3.length l4.length) := by
  have g : G5 (.str "n") (.str "h") d2 d3 d4 q.1 q.2 := ⟨nm_n, nm_h, h2.names, h3.names, h4.names, (goodP_ok q hq).1⟩
  have g7 := goodN_ok n hn
  have f2 := few (d := d2) (n := l2.length) (m := 4) (w := "films") (by rw [h2.eq]; rfl)
  have f3 := few (d := d3) (n := l3.length) (m := 4) (w := "lands") (by rw [h3.eq]; rfl)
  have f4 := few (d := d4) (n := l4.length) (m := 3) (w := "ways") (by rw [h4.eq]; rfl)
  unfold dueOf
  by_cases c2 : 4 < l2.length
  · rw [if_pos c2]
    exact tell_er (ini5 g g7 (f2.2 c2)) hr_many
  · rw [if_neg c2]
    by_cases c3 : 4 < l3.length
    · rw [if_pos c3]
      exact tell_er (ini6 g g7 (f2.1 (by omega)) (f3.2 c3)) hr_many
    · rw [if_neg c3]
      by_cases c4 : 3 < l4.length
      · rw [if_pos c4]
        exact tell_er (ini7 g g7 (f2.1 (by omega)) (f3.1 (by omega)) (f4.2 c4)) hr_many
      · rw [if_neg c4]
        have e := ini_ok (al := .bl true) g g7 (f2.1 (by omega)) (f3.1 (by omega)) (f4.1 (by omega)) (h2.srt (by omega)) (h3.srt (by omega)) (h4.srt (by omega))
        have no : noOwn (eDl (.str "n") (.str "h") l2 l3 l4 q.1 q.2 (.bl true) n) = true := by
          simp only [goodP, goodN, List.mem_cons, List.not_mem_nil, or_false] at hq hn
          rcases hq with rfl | rfl | rfl | rfl | rfl | rfl | rfl | rfl | rfl | rfl | rfl | rfl <;> rcases hn with rfl | rfl | rfl <;> rfl
        exact ⟨.inr ⟨⟨_, (made_ok e no).1⟩, ⟨_, (made_ok e no).2⟩, rfl⟩⟩
end K21

set_option Elab.async false
set_option linter.all false
set_option maxRecDepth 100000
set_option maxHeartbeats 4000000
namespace Dl
open PySem L2
theorem for_st {g : D → En → Res En} {b : En → SR} {d : D} {ds : List D} {r r1 r2 : En} (h : g d r = .ok r1) (k : b r1 = .nx r2) : forD g b (d :: ds) r = forD g b ds r2 := by
  conv => lhs; unfold forD
  rw [h, psbind_ok]
  simp only [k]
theorem lc_stepT {g : D → En → Res En} {t : En → Res (Bool × En)} {e : En → Res (D × En)} {vs : List Nat} {d z : D} {ds acc : List D} {r r1 r2 r3 : En} (h1 : g d r = .ok r1) (h2 : t r1 = .ok (true, r2)) (h5 : e r2 = .ok (z, r3)) : lcLoop g t e vs (d :: ds) r acc = lcLoop g t e vs ds (wipeE r3 vs) (acc ++ [z]) := by
  conv => lhs; unfold lcLoop
  rw [h1, nX_ok, bind_ok, h2, nX_ok, bind_ok]
  simp only
  rw [h5, nX_ok, bind_ok]
theorem lc_stepF {g : D → En → Res En} {t : En → Res (Bool × En)} {e : En → Res (D × En)} {vs : List Nat} {d : D} {ds acc : List D} {r r1 r2 : En} (h1 : g d r = .ok r1) (h2 : t r1 = .ok (false, r2)) : lcLoop g t e vs (d :: ds) r acc = lcLoop g t e vs ds (wipeE r2 vs) acc := by
  conv => lhs; unfold lcLoop
  rw [h1, nX_ok, bind_ok, h2, nX_ok, bind_ok]
end Dl
namespace K21
open PySem L2 Dl
/-! ### wrong parts: the loops -/
theorem heard_c {den : List D → Res D} {i : Nat} {d due : D} {r : En} (h3 : (frzOnly r)[i]? = some (some (.fz d))) (h : (∃ c fs, (∃ r, den [d] = .er c fs r) ∧ h_lheard (.er c fs []) = some due) ∨ ((∃ z, den [d] = .ok z) ∧ due = told)) : eHeard h_lheard (eCall den (aCons (eVar i) aNil)) r = .ok (due, r) := by
  have a : aCons (eVar i) aNil (frzOnly r) = .ok ([d], frzOnly r) := cons_ok (eVar_fz h3) rfl
  rcases h with ⟨c, fs, ⟨r', h⟩, k⟩ | ⟨⟨z, h⟩, rfl⟩
  · have e := call_er a h
    unfold eHeard
    simp only [e]
    have q : resD (Res.er (α := D × En) c fs (frzOnly r)) = .er c fs [] := rfl
    rw [q, k]
  · have e := call_ok a h
    unfold eHeard
    simp only [e]
    have q : resD (Res.ok (z, frzOnly r)) = .ok z := rfl
    rw [q, hr_ok]
theorem heard1 {ds : List D} {due : D} {r : En} (T : Tell ds due) (h3 : (frzOnly r)[3]? = some (some (.fz (.lst ds)))) : eHeard h_lheard l_lwrong_right_1 r = .ok (due, r) := by
  unfold l_lwrong_right_1
  refine heard_c h3 ?_
  rcases T.ex with ⟨c, fs, h, _, k⟩ | ⟨h, _, k⟩
  · exact .inl ⟨c, fs, h, k⟩
  · exact .inr ⟨h, k⟩
theorem heard2 {ds : List D} {due : D} {r : En} (T : Tell ds due) (h3 : (frzOnly r)[3]? = some (some (.fz (.lst ds)))) : eHeard h_lheard l_lwrong_right_2 r = .ok (due, r) := by
  unfold l_lwrong_right_2
  refine heard_c h3 ?_
  rcases T.ex with ⟨c, fs, _, h, k⟩ | ⟨_, h, k⟩
  · exact .inl ⟨c, fs, h, k⟩
  · exact .inr ⟨h, k⟩
abbrev T10 (pot : D) (ps : List D) (x2 x3 x4 x5 x6 x7 x8 x9 : Option Sl) : En := [some (.bo pot), some (.fz (.lst ps)), x2, x3, x4, x5, x6, x7, x8, x9]
theorem is0 {k : Int} (h0 : 0 ≤ k) (h1 : k < 6) : eqD (.int k) (.int 0) = some (.bl (decide (k = 0))) := by
  have : k = 0 ∨ k = 1 ∨ k = 2 ∨ k = 3 ∨ k = 4 ∨ k = 5 := by omega
  rcases this with rfl | rfl | rfl | rfl | rfl | rfl <;> rfl
/-- what the list is and what is due, when the parts from k on may be spoilt -/
inductive Nr (ps : List D) (k : Nat) : Sl → D → Prop
  | told : Nr ps k (.ow (.lst ps)) told
  | bad {ds : List D} {j : Nat} {v due : D} (hl : ds.length = 8) (hk : k ≤ j) (hj : j < 8) (hv : ds[j]? = some v) (hs : Sp j v due) (hb : ∀ i, i < j → ds[i]? = ps[i]?) : Nr ps k (.fz (.lst ds)) due
theorem loop_at {pot : D} {ps : List D} {k : Nat} {x2 x5 x6 x7 x8 x9 : Option Sl} {s : Sl} {due : D} (hv : VP pot) (hl : ps.length = 8) (hk : k < 8) (N : Nr ps (k + 1) s due) : ∃ pot' s' due', VP pot' ∧ Nr ps k s' due' ∧
    s_lwrong_right_1_2_1 (T10 pot ps x2 (some s) (some (.fz due)) (some (.fz (.int (k : Int)))) x6 x7 x8 x9) = .nx (T10 pot' ps x2 (some s') (some (.fz due')) (some (.fz (.int (k : Int)))) x6 x7 x8 x9) := by
  obtain ⟨i, p1, e1, i0, i1, v1⟩ := draw0 (n := 4) hv (by decide) (by decide)
  have t : tOfE (eBin eqD (bOf (eCallB b_ldraw 0 (aCons (eC (.int 4)) aNil))) (bOf (eC (.int 0)))) (T10 pot ps x2 (some s) (some (.fz due)) (some (.fz (.int (k : Int)))) x6 x7 x8 x9) = .ok (decide (i = 0), T10 p1 ps x2 (some s) (some (.fz due)) (some (.fz (.int (k : Int)))) x6 x7 x8 x9) :=
    tof_ok (bin_ok (bof_ok (e1 _)) rfl rfl rfl (is0 i0 (by omega)))
  by_cases q : i = 0
  · rw [decide_eq_true q] at t
    cases N with
    | told =>
      obtain ⟨v, due', p2, e2, sp, v2⟩ := spoiltF v1 hl hk
      refine ⟨p2, .fz (.lst (ps.set k v)), due', v2, .bad (by rw [List.length_set, hl]) (Nat.le_refl _) hk (by rw [List.getElem?_set_self (by omega)]) sp (fun i hi => by rw [List.getElem?_set_ne (by omega)]), ?_⟩
      unfold s_lwrong_right_1_2_1
      refine (sif_t t).trans (asg_ok (d := .tup [.lst (ps.set k v), due']) (r1 := T10 p2 ps x2 (some (.fz (.lst ps))) (some (.fz told)) (some (.fz (.int (k : Int)))) x6 x7 x8 x9) ?_ rfl)
      exact callB0 (ds := [.lst ps, .int (k : Int)]) (pot1 := p1) rfl e2
    | @bad ds j w _ hl2 hkj hj hw hs hb =>
      obtain ⟨v, due', p2, e2, sp, v2⟩ := spoiltF v1 hl2 hk
      refine ⟨p2, .fz (.lst (ds.set k v)), due', v2, .bad (by rw [List.length_set, hl2]) (Nat.le_refl _) hk (by rw [List.getElem?_set_self (by omega)]) sp (fun i hi => by rw [List.getElem?_set_ne (by omega)]; exact hb i (by omega)), ?_⟩
      unfold s_lwrong_right_1_2_1
      refine (sif_t t).trans (asg_ok (d := .tup [.lst (ds.set k v), due']) (r1 := T10 p2 ps x2 (some (.fz (.lst ds))) (some (.fz due)) (some (.fz (.int (k : Int)))) x6 x7 x8 x9) ?_ rfl)
      exact callB0 (ds := [.lst ds, .int (k : Int)]) (pot1 := p1) rfl e2
  · rw [decide_eq_false q] at t
    refine ⟨p1, s, due, v1, ?_, ?_⟩
    · cases N with
      | told => exact .told
      | bad hl2 hkj hj hw hs hb => exact .bad hl2 (by omega) hj hw hs hb
    · unfold s_lwrong_right_1_2_1
      exact (sif_f t).trans rfl
theorem loop2 {pot : D} {ps : List D} {x2 x5 x6 x7 x8 x9 : Option Sl} (hv : VP pot) (hl : ps.length = 8) : ∃ pot' s' due' x5', VP pot' ∧ Nr ps 0 s' due' ∧
    s_lwrong_right_1_2 (T10 pot ps x2 (some (.ow (.lst ps))) (some (.fz told)) x5 x6 x7 x8 x9) = .nx (T10 pot' ps x2 (some s') (some (.fz due')) x5' x6 x7 x8 x9) := by
  have key : ∀ (n : Nat) (pot : D) (s : Sl) (due : D) (x5 : Option Sl), n ≤ 8 → VP pot → Nr ps n s due → ∃ pot' s' due' x5', VP pot' ∧ Nr ps 0 s' due' ∧
      forD (gNm 5) s_lwrong_right_1_2_1 ((List.range n).reverse.map fun i : Nat => D.int (i : Int)) (T10 pot ps x2 (some s) (some (.fz due)) x5 x6 x7 x8 x9) = .nx (T10 pot' ps x2 (some s') (some (.fz due')) x5' x6 x7 x8 x9) := by
    intro n
    induction n with
    | zero => intro pot s due x5 _ v N; exact ⟨pot, s, due, x5, v, N, rfl⟩
    | succ n ih =>
      intro pot s due x5 hn v N
      obtain ⟨p1, s1, due1, v1, N1, e1⟩ := loop_at (x2 := x2) (x5 := x5) (x6 := x6) (x7 := x7) (x8 := x8) (x9 := x9) v hl (show n < 8 by omega) N
      obtain ⟨p2, s2, due2, x52, v2, N2, e2⟩ := ih p1 s1 due1 (some (.fz (.int (n : Int)))) (by omega) v1 N1
      refine ⟨p2, s2, due2, x52, v2, N2, ?_⟩
      rw [List.range_succ, List.reverse_append, List.map_append]
      exact (for_st (r1 := T10 pot ps x2 (some s) (some (.fz due)) (some (.fz (.int (n : Int)))) x6 x7 x8 x9) rfl e1).trans e2
  obtain ⟨p2, s2, due2, x52, v2, N2, e2⟩ := key 8 pot _ _ x5 (by omega) hv .told
  refine ⟨p2, s2, due2, x52, v2, N2, ?_⟩
  unfold s_lwrong_right_1_2
  rw [psfor, piseq]
  exact e2
/-! ### lists too long -/
abbrev abc : List D := (["a", "b", "c", "d", "e", "f"] : List Str).map D.str
theorem sp_due {j : Nat} {v due : D} (h : Sp j v due) : eqD due told = some (.bl false) ∧ neD due due = some (.bl false) := by
  cases h with
  | nm hj hd hs ho => exact ⟨(tx_eq (by decide +kernel) ho).1, (tx_eq (by decide +kernel) ho).2.1⟩
  | ns h2 hj hd hs ho => exact ⟨(tx_eq (by decide +kernel) ho).1, (tx_eq (by decide +kernel) ho).2.1⟩
  | pt h2 hj hd hs ho => exact ⟨(tx_eq (by decide +kernel) ho).1, (tx_eq (by decide +kernel) ho).2.1⟩
  | nu hd hs ho => exact ⟨(tx_eq (by decide +kernel) ho).1, (tx_eq (by decide +kernel) ho).2.1⟩
theorem long_no {pot : D} {ps : List D} {x2 x3 x5 x6 x7 x8 x9 : Option Sl} {due : D} (h : eqD due told = some (.bl false)) : s_lwrong_right_1_3 (T10 pot ps x2 x3 (some (.fz due)) x5 x6 x7 x8 x9) = .nx (T10 pot ps x2 x3 (some (.fz due)) (some (.fz (.int 2))) (some (.fz (.int 4))) x7 x8 x9) := by
  have b : ∀ x5 x6 : Option Sl, s_lwrong_right_1_3_1 (T10 pot ps x2 x3 (some (.fz due)) x5 x6 x7 x8 x9) = .nx (T10 pot ps x2 x3 (some (.fz due)) x5 x6 x7 x8 x9) := by
    intro x5 x6
    unfold s_lwrong_right_1_3_1
    exact (sif_f (tand_f (tof_ok (bin_ok (a := .sl 4) (b := .fz told) (r1 := T10 pot ps x2 x3 (some (.fz due)) x5 x6 x7 x8 x9) rfl rfl rfl rfl h)))).trans rfl
  unfold s_lwrong_right_1_3
  rw [psfor, piseq]
  refine (for_st (g := gTp 2 (gsCons (gNm 5) (gsCons (gNm 6) gsNil))) (d := .tup [.int 4, .int 3]) (r := T10 pot ps x2 x3 (some (.fz due)) x5 x6 x7 x8 x9) (r1 := T10 pot ps x2 x3 (some (.fz due)) (some (.fz (.int 4))) (some (.fz (.int 3))) x7 x8 x9) rfl (b _ _)).trans ?_
  refine (for_st (g := gTp 2 (gsCons (gNm 5) (gsCons (gNm 6) gsNil))) (d := .tup [.int 3, .int 4]) (r1 := T10 pot ps x2 x3 (some (.fz due)) (some (.fz (.int 3))) (some (.fz (.int 4))) x7 x8 x9) rfl (b _ _)).trans ?_
  exact (for_st (g := gTp 2 (gsCons (gNm 5) (gsCons (gNm 6) gsNil))) (d := .tup [.int 2, .int 4]) (r1 := T10 pot ps x2 x3 (some (.fz due)) (some (.fz (.int 2))) (some (.fz (.int 4))) x7 x8 x9) rfl (b _ _)).trans rfl
def putV (ds : List D) (a : Nat) : Option D → List D
  | none => ds
  | some z => ds.set a z
theorem putV_len {ds : List D} {a : Nat} {v : Option D} : (putV ds a v).length = ds.length := by
  cases v with
  | none => rfl
  | some z => exact List.length_set
theorem long_st {pot : D} {ps ds : List D} {x2 x7 x8 x9 : Option Sl} {a m : Nat} (hv : VP pot) (hl : ds.length = 8) (ha : a < 8) (hm : m = 3 ∨ m = 4) : ∃ pot' v, VP pot' ∧ (v = none ∨ v = some (D.lst (abc.take (m + 1)))) ∧
    s_lwrong_right_1_3_1 (T10 pot ps x2 (some (.ow (.lst ds))) (some (.fz told)) (some (.fz (.int (a : Int)))) (some (.fz (.int (m : Int)))) x7 x8 x9) = .nx (T10 pot' ps x2 (some (.ow (.lst (putV ds a v)))) (some (.fz told)) (some (.fz (.int (a : Int)))) (some (.fz (.int (m : Int)))) x7 x8 x9) := by
  obtain ⟨i, p1, e1, i0, i1, v1⟩ := draw0 (n := 6) hv (by decide) (by decide)
  have t : tAndD (tOfE (eBin eqD (bVar 4) (bOf (eLst (aCons (eC (.str "told")) aNil))))) (tOfE (eBin eqD (bOf (eCallB b_ldraw 0 (aCons (eC (.int 6)) aNil))) (bOf (eC (.int 0))))) (T10 pot ps x2 (some (.ow (.lst ds))) (some (.fz told)) (some (.fz (.int (a : Int)))) (some (.fz (.int (m : Int)))) x7 x8 x9) = .ok (decide (i = 0), T10 p1 ps x2 (some (.ow (.lst ds))) (some (.fz told)) (some (.fz (.int (a : Int)))) (some (.fz (.int (m : Int)))) x7 x8 x9) :=
    tand_t (tof_ok (bin_ok (a := .sl 4) (b := .fz told) (r1 := T10 pot ps x2 (some (.ow (.lst ds))) (some (.fz told)) (some (.fz (.int (a : Int)))) (some (.fz (.int (m : Int)))) x7 x8 x9) rfl rfl rfl rfl told_eq.1))
      (tof_ok (bin_ok (bof_ok (e1 _)) rfl rfl rfl (is0 i0 (by omega))))
  by_cases q : i = 0
  · rw [decide_eq_true q] at t
    refine ⟨p1, some (.lst (abc.take (m + 1))), v1, .inr rfl, ?_⟩
    unfold s_lwrong_right_1_3_1
    refine (sif_t t).trans (asg_ok (d := .lst (abc.take (m + 1))) (r1 := T10 p1 ps x2 (some (.ow (.lst ds))) (some (.fz told)) (some (.fz (.int (a : Int)))) (some (.fz (.int (m : Int)))) x7 x8 x9) ?_ ?_)
    · rcases hm with rfl | rfl <;> rfl
    · exact (setIx_ok (at_ := a) (s := .ow (.lst ds)) (r1 := T10 p1 ps x2 (some (.ow (.lst ds))) (some (.fz told)) (some (.fz (.int (a : Int)))) (some (.fz (.int (m : Int)))) x7 x8 x9) rfl rfl rfl rfl rfl (by omega)).trans rfl
  · rw [decide_eq_false q] at t
    refine ⟨p1, none, v1, .inl rfl, ?_⟩
    unfold s_lwrong_right_1_3_1
    exact (sif_f t).trans rfl
theorem ln_a : Ln 4 (.lst (abc.take 5)) (abc.take 5) := ⟨rfl, by kernel_rfl, fun h => absurd h (by decide)⟩
theorem ln_b : Ln 3 (.lst (abc.take 4)) (abc.take 4) := ⟨rfl, by kernel_rfl, fun h => absurd h (by decide)⟩
theorem ln_g {m a : Nat} (h : a < 4) : Ln m (.lst (gl (a + 1))) (gl (a + 1)) := ⟨rfl, (gl_ok a h).names, fun _ => (gl_ok a h).srt⟩
theorem loop3 {pot : D} {ps : List D} {x2 x5 x6 x7 x8 x9 : Option Sl} (hv : VP pot) (g : Gp ps) : ∃ pot' d2 d3 d4 l2 l3 l4 q n, VP pot' ∧ Ln 4 d2 l2 ∧ Ln 4 d3 l3 ∧ Ln 3 d4 l4 ∧ q ∈ goodP ∧ n ∈ goodN ∧
    s_lwrong_right_1_3 (T10 pot ps x2 (some (.ow (.lst ps))) (some (.fz told)) x5 x6 x7 x8 x9) = .nx (T10 pot' ps x2 (some (.ow (.lst [.str "n", .str "h", d2, d3, d4, q.1, q.2, n]))) (some (.fz told)) (some (.fz (.int 2))) (some (.fz (.int 4))) x7 x8 x9) := by
  obtain ⟨a, b, c, q, n, ha, hb, hc, hq, hn, hps⟩ := g
  have hl : ps.length = 8 := by rw [hps]; rfl
  obtain ⟨p1, v1, w1, o1, e1⟩ := long_st (ps := ps) (ds := ps) (x2 := x2) (x7 := x7) (x8 := x8) (x9 := x9) hv hl (show 4 < 8 by decide) (.inl rfl)
  obtain ⟨p2, v2, w2, o2, e2⟩ := long_st (ps := ps) (ds := (putV ps 4 v1)) (x2 := x2) (x7 := x7) (x8 := x8) (x9 := x9) w1 (by rw [putV_len, hl]) (show 3 < 8 by decide) (.inr rfl)
  obtain ⟨p3, v3, w3, o3, e3⟩ := long_st (ps := ps) (ds := (putV (putV ps 4 v1) 3 v2)) (x2 := x2) (x7 := x7) (x8 := x8) (x9 := x9) w2 (by rw [putV_len, putV_len, hl]) (show 2 < 8 by decide) (.inr rfl)
  have e : s_lwrong_right_1_3 (T10 pot ps x2 (some (.ow (.lst ps))) (some (.fz told)) x5 x6 x7 x8 x9) = .nx (T10 p3 ps x2 (some (.ow (.lst (putV (putV (putV ps 4 v1) 3 v2) 2 v3)))) (some (.fz told)) (some (.fz (.int 2))) (some (.fz (.int 4))) x7 x8 x9) := by
    unfold s_lwrong_right_1_3
    rw [psfor, piseq]
    refine (for_st (g := gTp 2 (gsCons (gNm 5) (gsCons (gNm 6) gsNil))) (d := .tup [.int 4, .int 3]) (r := T10 pot ps x2 (some (.ow (.lst ps))) (some (.fz told)) x5 x6 x7 x8 x9) (r1 := T10 pot ps x2 (some (.ow (.lst ps))) (some (.fz told)) (some (.fz (.int 4))) (some (.fz (.int 3))) x7 x8 x9) rfl e1).trans ?_
    refine (for_st (g := gTp 2 (gsCons (gNm 5) (gsCons (gNm 6) gsNil))) (d := .tup [.int 3, .int 4]) (r1 := T10 p1 ps x2 (some (.ow (.lst (putV ps 4 v1)))) (some (.fz told)) (some (.fz (.int 3))) (some (.fz (.int 4))) x7 x8 x9) rfl e2).trans ?_
    exact (for_st (g := gTp 2 (gsCons (gNm 5) (gsCons (gNm 6) gsNil))) (d := .tup [.int 2, .int 4]) (r1 := T10 p2 ps x2 (some (.ow (.lst (putV (putV ps 4 v1) 3 v2)))) (some (.fz told)) (some (.fz (.int 2))) (some (.fz (.int 4))) x7 x8 x9) rfl e3).trans rfl
  have gc : Ln 3 (.lst (gl (c + 1))) (gl (c + 1)) := ln_g (by omega)
  subst hps
  rcases o1 with rfl | rfl <;> rcases o2 with rfl | rfl <;> rcases o3 with rfl | rfl
  · exact ⟨p3, _, _, _, _, _, _, q, n, w3, ln_g ha, ln_g hb, gc, hq, hn, e⟩
  · exact ⟨p3, _, _, _, _, _, _, q, n, w3, ln_a, ln_g hb, gc, hq, hn, e⟩
  · exact ⟨p3, _, _, _, _, _, _, q, n, w3, ln_g ha, ln_a, gc, hq, hn, e⟩
  · exact ⟨p3, _, _, _, _, _, _, q, n, w3, ln_a, ln_a, gc, hq, hn, e⟩
  · exact ⟨p3, _, _, _, _, _, _, q, n, w3, ln_g ha, ln_g hb, ln_b, hq, hn, e⟩
  · exact ⟨p3, _, _, _, _, _, _, q, n, w3, ln_a, ln_g hb, ln_b, hq, hn, e⟩
  · exact ⟨p3, _, _, _, _, _, _, q, n, w3, ln_g ha, ln_a, ln_b, hq, hn, e⟩
  · exact ⟨p3, _, _, _, _, _, _, q, n, w3, ln_a, ln_a, ln_b, hq, hn, e⟩
end K21

set_option Elab.async false
set_option linter.all false
set_option maxRecDepth 100000
set_option maxHeartbeats 4000000
namespace Dl
open PySem L2
theorem lc_if {g : D → En → Res En} {t : En → Res (Bool × En)} {e : En → Res (D × En)} {vs : List Nat} {d z : D} {ds acc : List D} {r r1 r2 : En} {bb : Bool} (h1 : g d r = .ok r1) (h2 : t r1 = .ok (bb, r2)) (h5 : e r2 = .ok (z, r2)) : lcLoop g t e vs (d :: ds) r acc = lcLoop g t e vs ds (wipeE r2 vs) (acc ++ if bb then [z] else []) := by
  cases bb with
  | true => exact lc_stepT h1 h2 h5
  | false => exact (lc_stepF h1 h2).trans (by simp)
end Dl
namespace K21
open PySem L2 Dl
section
variable {pot : D} {ps : List D} {x2 x7 x8 x9 : Option Sl}
theorem ev5 {pot : D} {ps : List D} {x2 x3 x4 x6 x7 x8 x9 : Option Sl} {d : D} : eVar 5 (T10 pot ps x2 x3 x4 (some (.fz d)) x6 x7 x8 x9) = .ok (d, T10 pot ps x2 x3 x4 (some (.fz d)) x6 x7 x8 x9) := rfl
/-- which lists are too long -/
theorem longs {d2 d3 d4 d5 d6 d7 : D} {l2 l3 l4 : List D} (h2 : d2 = .lst l2) (h3 : d3 = .lst l3) (h4 : d4 = .lst l4) :
    e_lwrong_right_1 (T10 pot ps x2 (some (.ow (.lst [.str "n", .str "h", d2, d3, d4, d5, d6, d7]))) (some (.fz told)) (some (.fz (.int 2))) (some (.fz (.int 4))) x7 x8 x9) =
      .ok (.lst (((([] : List D) ++ if decide ((4 : Int) < (l2.length : Int)) then [D.int 2] else []) ++ if decide ((4 : Int) < (l3.length : Int)) then [D.int 3] else []) ++ if decide ((3 : Int) < (l4.length : Int)) then [D.int 4] else []), T10 pot ps x2 (some (.ow (.lst [.str "n", .str "h", d2, d3, d4, d5, d6, d7]))) (some (.fz told)) (some (.fz (.int 2))) (some (.fz (.int 4))) x7 x8 x9) := by
  subst h2 h3 h4
  have t : ∀ {a m : Int} {l : List D}, ixG (.lst [.str "n", .str "h", .lst l2, .lst l3, .lst l4, d5, d6, d7]) (.int a) = some (.lst l) → tAndD (tOfE (eBin eqD (bVar 4) (bOf (eLst (aCons (eC (.str "told")) aNil))))) (tOfE (eBin gtI (bOf (eUn (orU lenD lenK) (bOf (eBin ixG (bVar 3) (bVar 5))))) (bVar 6)))
      (T10 pot ps x2 (some (.ow (.lst [.str "n", .str "h", .lst l2, .lst l3, .lst l4, d5, d6, d7]))) (some (.fz told)) (some (.fz (.int a))) (some (.fz (.int m))) x7 x8 x9) = .ok (decide (m < (l.length : Int)), T10 pot ps x2 (some (.ow (.lst [.str "n", .str "h", .lst l2, .lst l3, .lst l4, d5, d6, d7]))) (some (.fz told)) (some (.fz (.int a))) (some (.fz (.int m))) x7 x8 x9) := by
    intro a m l h
    refine tand_t (tof_ok (bin_ok (a := .sl 4) (b := .fz told) (r1 := T10 pot ps x2 (some (.ow (.lst [.str "n", .str "h", .lst l2, .lst l3, .lst l4, d5, d6, d7]))) (some (.fz told)) (some (.fz (.int a))) (some (.fz (.int m))) x7 x8 x9) rfl rfl rfl rfl told_eq.1)) ?_
    exact tof_ok (bin_ok (b := .sl 6) (y := .int m) (bof_ok (un_ok (bof_ok (bin_ok (a := .sl 3) (b := .sl 5) rfl rfl rfl rfl h)) rfl rfl)) rfl rfl rfl rfl)
  unfold e_lwrong_right_1
  refine (elc_run (l := [.tup [.int 2, .int 4], .tup [.int 3, .int 4], .tup [.int 4, .int 3]]) (zs := (((([] : List D) ++ if decide ((4 : Int) < (l2.length : Int)) then [D.int 2] else []) ++ if decide ((4 : Int) < (l3.length : Int)) then [D.int 3] else []) ++ if decide ((3 : Int) < (l4.length : Int)) then [D.int 4] else [])) (r0 := T10 pot ps x2 (some (.ow (.lst [.str "n", .str "h", .lst l2, .lst l3, .lst l4, d5, d6, d7]))) (some (.fz told)) (some (.fz (.int 2))) (some (.fz (.int 4))) x7 x8 x9) (r1 := T10 pot ps x2 (some (.ow (.lst [.str "n", .str "h", .lst l2, .lst l3, .lst l4, d5, d6, d7]))) (some (.fz told)) none none x7 x8 x9) rfl (by simp) ?_).trans rfl
  refine (lc_if (g := gTp 2 (gsCons (gNm 5) (gsCons (gNm 6) gsNil))) (r := T10 pot ps x2 (some (.ow (.lst [.str "n", .str "h", .lst l2, .lst l3, .lst l4, d5, d6, d7]))) (some (.fz told)) none none x7 x8 x9) (r1 := T10 pot ps x2 (some (.ow (.lst [.str "n", .str "h", .lst l2, .lst l3, .lst l4, d5, d6, d7]))) (some (.fz told)) (some (.fz (.int 2))) (some (.fz (.int 4))) x7 x8 x9) rfl (t rfl) ev5).trans ?_
  refine (lc_if (g := gTp 2 (gsCons (gNm 5) (gsCons (gNm 6) gsNil))) (r := T10 pot ps x2 (some (.ow (.lst [.str "n", .str "h", .lst l2, .lst l3, .lst l4, d5, d6, d7]))) (some (.fz told)) none none x7 x8 x9) (r1 := T10 pot ps x2 (some (.ow (.lst [.str "n", .str "h", .lst l2, .lst l3, .lst l4, d5, d6, d7]))) (some (.fz told)) (some (.fz (.int 3))) (some (.fz (.int 4))) x7 x8 x9) rfl (t rfl) ev5).trans ?_
  exact (lc_if (g := gTp 2 (gsCons (gNm 5) (gsCons (gNm 6) gsNil))) (r := T10 pot ps x2 (some (.ow (.lst [.str "n", .str "h", .lst l2, .lst l3, .lst l4, d5, d6, d7]))) (some (.fz told)) none none x7 x8 x9) (r1 := T10 pot ps x2 (some (.ow (.lst [.str "n", .str "h", .lst l2, .lst l3, .lst l4, d5, d6, d7]))) (some (.fz told)) (some (.fz (.int 4))) (some (.fz (.int 3))) x7 x8 x9) rfl (t rfl) ev5).trans rfl
theorem longs_no {x3 : Option Sl} {due : D} (h : eqD due told = some (.bl false)) :
    e_lwrong_right_1 (T10 pot ps x2 x3 (some (.fz due)) (some (.fz (.int 2))) (some (.fz (.int 4))) x7 x8 x9) = .ok (.lst [], T10 pot ps x2 x3 (some (.fz due)) (some (.fz (.int 2))) (some (.fz (.int 4))) x7 x8 x9) := by
  have t : ∀ {x5 x6 : Option Sl}, tAndD (tOfE (eBin eqD (bVar 4) (bOf (eLst (aCons (eC (.str "told")) aNil))))) (tOfE (eBin gtI (bOf (eUn (orU lenD lenK) (bOf (eBin ixG (bVar 3) (bVar 5))))) (bVar 6)))
      (T10 pot ps x2 x3 (some (.fz due)) x5 x6 x7 x8 x9) = .ok (false, T10 pot ps x2 x3 (some (.fz due)) x5 x6 x7 x8 x9) := fun {x5 x6} =>
    tand_f (tof_ok (bin_ok (a := .sl 4) (b := .fz told) (r1 := T10 pot ps x2 x3 (some (.fz due)) x5 x6 x7 x8 x9) rfl rfl rfl rfl h))
  unfold e_lwrong_right_1
  refine (elc_run (l := [.tup [.int 2, .int 4], .tup [.int 3, .int 4], .tup [.int 4, .int 3]]) (zs := []) (r0 := T10 pot ps x2 x3 (some (.fz due)) (some (.fz (.int 2))) (some (.fz (.int 4))) x7 x8 x9) (r1 := T10 pot ps x2 x3 (some (.fz due)) none none x7 x8 x9) rfl (by simp) ?_).trans rfl
  refine (lc_stepF (g := gTp 2 (gsCons (gNm 5) (gsCons (gNm 6) gsNil))) (r := T10 pot ps x2 x3 (some (.fz due)) none none x7 x8 x9) (r1 := T10 pot ps x2 x3 (some (.fz due)) (some (.fz (.int 2))) (some (.fz (.int 4))) x7 x8 x9) rfl t).trans ?_
  refine (lc_stepF (g := gTp 2 (gsCons (gNm 5) (gsCons (gNm 6) gsNil))) (r := T10 pot ps x2 x3 (some (.fz due)) none none x7 x8 x9) (r1 := T10 pot ps x2 x3 (some (.fz due)) (some (.fz (.int 3))) (some (.fz (.int 4))) x7 x8 x9) rfl t).trans ?_
  exact (lc_stepF (g := gTp 2 (gsCons (gNm 5) (gsCons (gNm 6) gsNil))) (r := T10 pot ps x2 x3 (some (.fz due)) none none x7 x8 x9) (r1 := T10 pot ps x2 x3 (some (.fz due)) (some (.fz (.int 4))) (some (.fz (.int 3))) x7 x8 x9) rfl t).trans rfl
theorem due5 {b2 b3 b4 : Bool} {x3 : Option Sl} {x5 x6 : Option Sl} :
    s_lwrong_right_1_5 (T10 pot ps x2 x3 (some (.fz told)) x5 x6 (some (.fz (.lst (((([] : List D) ++ if b2 then [D.int 2] else []) ++ if b3 then [D.int 3] else []) ++ if b4 then [D.int 4] else [])))) x8 x9) =
      .nx (T10 pot ps x2 x3 (some (.fz (if b2 then many "films" 4 else if b3 then many "lands" 4 else if b4 then many "ways" 3 else told))) x5 x6 (some (.fz (.lst (((([] : List D) ++ if b2 then [D.int 2] else []) ++ if b3 then [D.int 3] else []) ++ if b4 then [D.int 4] else [])))) x8 x9) := by
  cases b2 <;> cases b3 <;> cases b4 <;> rfl
end
theorem due_same {b2 b3 b4 : Bool} : neD (if b2 then many "films" 4 else if b3 then many "lands" 4 else if b4 then many "ways" 3 else told) (if b2 then many "films" 4 else if b3 then many "lands" 4 else if b4 then many "ways" 3 else told) = some (.bl false) := by
  cases b2 <;> cases b3 <;> cases b4 <;> kernel_rfl
/-- the end of a turn: both deals told, and what is due -/
theorem turn_end {pot : D} {ps ds : List D} {x2 x5 x6 x7 x8 x9 : Option Sl} {s3 : Sl} {due : D} (hs : s3 = .ow (.lst ds) ∨ s3 = .fz (.lst ds)) (T : Tell ds due) (hd : neD due due = some (.bl false)) :
    sSeq (sSet 8 (eFzL 3 (eHeard h_lheard l_lwrong_right_1))) s_lwrong_right_1_7 (T10 pot ps x2 (some s3) (some (.fz due)) x5 x6 x7 x8 x9) = .nx (T10 pot ps x2 (some (.fz (.lst ds))) (some (.fz due)) x5 x6 x7 (some (.fz due)) x9) := by
  have z : ∀ x8, fzL 3 (T10 pot ps x2 (some s3) (some (.fz due)) x5 x6 x7 x8 x9) = T10 pot ps x2 (some (.fz (.lst ds))) (some (.fz due)) x5 x6 x7 x8 x9 := by
    intro x8
    rcases hs with rfl | rfl <;> rfl
  have a : sSet 8 (eFzL 3 (eHeard h_lheard l_lwrong_right_1)) (T10 pot ps x2 (some s3) (some (.fz due)) x5 x6 x7 x8 x9) = .nx (T10 pot ps x2 (some (.fz (.lst ds))) (some (.fz due)) x5 x6 x7 (some (.fz due)) x9) := by
    refine (set_ok (d := due) (r1 := T10 pot ps x2 (some (.fz (.lst ds))) (some (.fz due)) x5 x6 x7 x8 x9) ?_).trans rfl
    show eHeard h_lheard l_lwrong_right_1 (fzL 3 (T10 pot ps x2 (some s3) (some (.fz due)) x5 x6 x7 x8 x9)) = _
    rw [z]
    exact heard1 T rfl
  refine (seq_nx a).trans ?_
  have b : eFzL 3 (eHeard h_lheard l_lwrong_right_2) (T10 pot ps x2 (some (.fz (.lst ds))) (some (.fz due)) x5 x6 x7 (some (.fz due)) x9) = .ok (due, T10 pot ps x2 (some (.fz (.lst ds))) (some (.fz due)) x5 x6 x7 (some (.fz due)) x9) := by
    show eHeard h_lheard l_lwrong_right_2 (fzL 3 _) = _
    have z2 : fzL 3 (T10 pot ps x2 (some (.fz (.lst ds))) (some (.fz due)) x5 x6 x7 (some (.fz due)) x9) = T10 pot ps x2 (some (.fz (.lst ds))) (some (.fz due)) x5 x6 x7 (some (.fz due)) x9 := rfl
    rw [z2]
    exact heard2 T rfl
  unfold s_lwrong_right_1_7
  exact (sif_f (tor_f (tof_ok (bin_ok (a := .sl 8) (b := .sl 4) (r1 := T10 pot ps x2 (some (.fz (.lst ds))) (some (.fz due)) x5 x6 x7 (some (.fz due)) x9) rfl rfl rfl rfl hd)) (tof_ok (bin_ok (b := .sl 4) (bof_ok b) rfl rfl rfl hd)))).trans rfl
theorem turnF {pot : D} {ps : List D} {x2 x3 x4 x5 x6 x7 x8 x9 : Option Sl} (hv : VP pot) (g : Gp ps) : ∃ pot' x3' x4' x5' x6' x7' x8', VP pot' ∧
    s_lwrong_right_1_b (T10 pot ps x2 x3 x4 x5 x6 x7 x8 x9) = .nx (T10 pot' ps x2 x3' x4' x5' x6' x7' x8' x9) := by
  have hl : ps.length = 8 := by
    obtain ⟨a, b, c, q, n, ha, hb, hc, hq, hn, hps⟩ := g
    rw [hps]
    rfl
  have s1 : sParL [3, 4] (lOw (eUn listD (bVar 1)) (lFz (eLst (aCons (eC (.str "told")) aNil)) lNil)) (T10 pot ps x2 x3 x4 x5 x6 x7 x8 x9) = .nx (T10 pot ps x2 (some (.ow (.lst ps))) (some (.fz told)) x5 x6 x7 x8 x9) := rfl
  obtain ⟨p1, s3, due, x5', v1, N, e1⟩ := loop2 (x2 := x2) (x5 := x5) (x6 := x6) (x7 := x7) (x8 := x8) (x9 := x9) hv hl
  cases N with
  | told =>
    obtain ⟨p2, d2, d3, d4, l2, l3, l4, q, n, v2, h2, h3, h4, hq, hn, e2⟩ := loop3 (x2 := x2) (x5 := x5') (x6 := x6) (x7 := x7) (x8 := x8) (x9 := x9) v1 g
    have T := tell_long h2 h3 h4 hq hn
    have du : dueOf l2.length l3.length l4.length = (if decide ((4 : Int) < (l2.length : Int)) then many "films" 4 else if decide ((4 : Int) < (l3.length : Int)) then many "lands" 4 else if decide ((3 : Int) < (l4.length : Int)) then many "ways" 3 else told) := by
      unfold dueOf
      have a : (4 < l2.length) = ((4 : Int) < (l2.length : Int)) := by apply propext; omega
      have b : (4 < l3.length) = ((4 : Int) < (l3.length : Int)) := by apply propext; omega
      have c : (3 < l4.length) = ((3 : Int) < (l4.length : Int)) := by apply propext; omega
      simp only [a, b, c, decide_eq_true_eq]
    rw [du] at T
    have L := (seq_nx s1).trans ((seq_nx e1).trans ((seq_nx e2).trans ((seq_nx (set_ok (i := 7) (longs (pot := p2) (ps := ps) (x2 := x2) (x7 := x7) (x8 := x8) (x9 := x9) h2.eq h3.eq h4.eq))).trans ((seq_nx (due5 (pot := p2) (ps := ps) (x2 := x2) (x8 := x8) (x9 := x9))).trans (turn_end (.inl rfl) T due_same)))))
    exact ⟨p2, _, _, _, _, _, _, v2, L⟩
  | @bad ds j w _ hl2 hk hj hw hs hb =>
    have e2 := long_no (pot := p1) (ps := ps) (x2 := x2) (x3 := some (.fz (.lst ds))) (x5 := x5') (x6 := x6) (x7 := x7) (x8 := x8) (x9 := x9) (sp_due hs).1
    have T := tell_sp g hl2 hj hw hs hb
    have e5 : s_lwrong_right_1_5 (T10 p1 ps x2 (some (.fz (.lst ds))) (some (.fz due)) (some (.fz (.int 2))) (some (.fz (.int 4))) (some (.fz (.lst []))) x8 x9) = .nx (T10 p1 ps x2 (some (.fz (.lst ds))) (some (.fz due)) (some (.fz (.int 2))) (some (.fz (.int 4))) (some (.fz (.lst []))) x8 x9) := rfl
    have L := (seq_nx s1).trans ((seq_nx e1).trans ((seq_nx e2).trans ((seq_nx (set_ok (i := 7) (longs_no (pot := p1) (ps := ps) (x2 := x2) (x3 := some (.fz (.lst ds))) (x7 := x7) (x8 := x8) (x9 := x9) (sp_due hs).1))).trans ((seq_nx e5).trans (turn_end (.inr rfl) T (sp_due hs).2)))))
    exact ⟨p1, _, _, _, _, _, _, v1, L⟩
theorem loop1 {pot : D} {ps : List D} {x3 x4 x5 x6 x7 x8 x9 : Option Sl} (hv : VP pot) (g : Gp ps) : ∃ pot' x2' x3' x4' x5' x6' x7' x8', VP pot' ∧
    s_lwrong_right_1 (T10 pot ps none x3 x4 x5 x6 x7 x8 x9) = .nx (T10 pot' ps x2' x3' x4' x5' x6' x7' x8' x9) := by
  have key : ∀ (l : List D) (pot : D) (x2 x3 x4 x5 x6 x7 x8 : Option Sl), VP pot → ∃ pot' x2' x3' x4' x5' x6' x7' x8', VP pot' ∧
      forD (gNm 2) s_lwrong_right_1_b l (T10 pot ps x2 x3 x4 x5 x6 x7 x8 x9) = .nx (T10 pot' ps x2' x3' x4' x5' x6' x7' x8' x9) := by
    intro l
    induction l with
    | nil => intro pot x2 x3 x4 x5 x6 x7 x8 v; exact ⟨pot, x2, x3, x4, x5, x6, x7, x8, v, rfl⟩
    | cons d l ih =>
      intro pot x2 x3 x4 x5 x6 x7 x8 v
      obtain ⟨p1, y3, y4, y5, y6, y7, y8, v1, e1⟩ := turnF (x2 := some (.fz d)) (x3 := x3) (x4 := x4) (x5 := x5) (x6 := x6) (x7 := x7) (x8 := x8) (x9 := x9) v g
      obtain ⟨p2, z2, z3, z4, z5, z6, z7, z8, v2, e2⟩ := ih p1 (some (.fz d)) y3 y4 y5 y6 y7 y8 v1
      exact ⟨p2, z2, z3, z4, z5, z6, z7, z8, v2, (for_st (r := T10 pot ps x2 x3 x4 x5 x6 x7 x8 x9) (r1 := T10 pot ps (some (.fz d)) x3 x4 x5 x6 x7 x8 x9) rfl e1).trans e2⟩
  obtain ⟨p2, z2, z3, z4, z5, z6, z7, z8, v2, e2⟩ := key (rngD 0 8) pot none x3 x4 x5 x6 x7 x8 hv
  refine ⟨p2, z2, z3, z4, z5, z6, z7, z8, v2, ?_⟩
  unfold s_lwrong_right_1
  rw [psfor]
  exact e2
end K21

set_option Elab.async false
set_option linter.all false
set_option maxRecDepth 100000
set_option maxHeartbeats 4000000
namespace K21
open PySem L2 Dl
/-! ### wrong parts: the end -/
abbrev m3 : D := .tup [.str "m", .int 3]
abbrev m4 : D := .tup [.str "m", .int 4]
abbrev t3 : Str := "('m', 3)"
theorem rp_m3 : rp m3 = some (.str t3) := by kernel_rfl
theorem rp_m3' : (orU reprB reprD) m3 = some (.str t3) := by kernel_rfl
theorem rp_1 : rp (.int (-1)) = some (.str "-1") := by kernel_rfl
theorem tell_tu {l2 l3 l4 n : D} (h2 : d_want_names [l2] = .ok .non) (h3 : d_want_names [l3] = .ok .non) (h4 : d_want_names [l4] = .ok .non) : Tell [.str "n", .str "h", l2, l3, l4, m4, m3, n] (tx "point" t3) := by
  refine tell_er (ini3 (c := "InvalidPoint") (fs := [("value", m3)]) nm_n nm_h h2 h3 h4 (er_ex (x := d_want_points [m4, m3]) ?_)) (hr_point rp_m3)
  kernel_rfl
theorem tell_ab {l2 l3 : D} (h2 : d_want_names [l2] = .ok .non) (h3 : d_want_names [l3] = .ok .non) : Tell [.str "n", .str "h", l2, l3, .lst (abc.take 4), m3, m3, .int (-1)] (tx "number" "-1") := by
  refine tell_er (ini4 ⟨nm_n, nm_h, h2, h3, ln_b.names, ?_⟩ ?_) (hr_number rp_1)
  · kernel_rfl
  · kernel_rfl
theorem heard4 {ds : List D} {due : D} {r : En} (T : Tell ds due) (h3 : (frzOnly r)[9]? = some (some (.fz (.lst ds)))) : eHeard h_lheard l_lwrong_right_4 r = .ok (due, r) := by
  unfold l_lwrong_right_4
  refine heard_c h3 ?_
  rcases T.ex with ⟨c, fs, h, _, k⟩ | ⟨h, _, k⟩
  · exact .inl ⟨c, fs, h, k⟩
  · exact .inr ⟨h, k⟩
theorem wrongF {pot : D} {ps : List D} (hv : VP pot) (g0 : Gp ps) : ∃ pot', b_lwrong_right pot [.lst ps] = .ok (.bl true, pot') ∧ VP pot' := by
  have g1 := g0
  obtain ⟨a, b, c, q, n, ha, hb, hc, hq, hn, rfl⟩ := g1
  have h2 := (gl_ok a ha).names
  have h3 := (gl_ok b hb).names
  have h4 := (gl_ok c (by omega)).names
  obtain ⟨p1, x2, x3, x4, x5, x6, x7, x8, v1, e1⟩ := loop1 (x3 := none) (x4 := none) (x5 := none) (x6 := none) (x7 := none) (x8 := none) (x9 := none) hv g0
  have e2 : sSetV 3 (eCall d_lturned (aCons (eVar 1) aNil)) (T10 p1 [.str "n", .str "h", .lst (gl (a + 1)), .lst (gl (b + 1)), .lst (gl (c + 1)), q.1, q.2, n] x2 x3 x4 x5 x6 x7 x8 none) = .nx (T10 p1 [.str "n", .str "h", .lst (gl (a + 1)), .lst (gl (b + 1)), .lst (gl (c + 1)), q.1, q.2, n] x2 (some (.ow (.lst [.str "n", .str "h", .lst (gl (a + 1)), .lst (gl (b + 1)), .lst (gl (c + 1)), m4, m3, n]))) x4 x5 x6 x7 x8 none) := rfl
  have e3 : s_lwrong_right_3 (T10 p1 [.str "n", .str "h", .lst (gl (a + 1)), .lst (gl (b + 1)), .lst (gl (c + 1)), q.1, q.2, n] x2 (some (.ow (.lst [.str "n", .str "h", .lst (gl (a + 1)), .lst (gl (b + 1)), .lst (gl (c + 1)), m4, m3, n]))) x4 x5 x6 x7 x8 none) = .nx (T10 p1 [.str "n", .str "h", .lst (gl (a + 1)), .lst (gl (b + 1)), .lst (gl (c + 1)), q.1, q.2, n] x2 (some (.fz (.lst [.str "n", .str "h", .lst (gl (a + 1)), .lst (gl (b + 1)), .lst (gl (c + 1)), m4, m3, n]))) x4 x5 x6 x7 x8 none) := by
    have k : eFzL 3 (eHeard h_lheard l_lwrong_right_1) (T10 p1 [.str "n", .str "h", .lst (gl (a + 1)), .lst (gl (b + 1)), .lst (gl (c + 1)), q.1, q.2, n] x2 (some (.ow (.lst [.str "n", .str "h", .lst (gl (a + 1)), .lst (gl (b + 1)), .lst (gl (c + 1)), m4, m3, n]))) x4 x5 x6 x7 x8 none) = .ok (tx "point" t3, T10 p1 [.str "n", .str "h", .lst (gl (a + 1)), .lst (gl (b + 1)), .lst (gl (c + 1)), q.1, q.2, n] x2 (some (.fz (.lst [.str "n", .str "h", .lst (gl (a + 1)), .lst (gl (b + 1)), .lst (gl (c + 1)), m4, m3, n]))) x4 x5 x6 x7 x8 none) := by
      show eHeard h_lheard l_lwrong_right_1 (T10 p1 [.str "n", .str "h", .lst (gl (a + 1)), .lst (gl (b + 1)), .lst (gl (c + 1)), q.1, q.2, n] x2 (some (.fz (.lst [.str "n", .str "h", .lst (gl (a + 1)), .lst (gl (b + 1)), .lst (gl (c + 1)), m4, m3, n]))) x4 x5 x6 x7 x8 none) = _
      exact heard1 (tell_tu h2 h3 h4) rfl
    have u : ∀ r : En, eUn (orU reprB reprD) (bOf (eTup (aCons (eC (.str "m")) (aCons (eC (.int 3)) aNil)))) r = .ok (.str t3, r) := fun r => un_ok (bof_ok (tup_ok (ds := [.str "m", .int 3]) (r1 := r) rfl (by simp))) rfl rp_m3'
    unfold s_lwrong_right_3
    exact (sif_f (tof_ok (bin_ok (b := .fz (tx "point" t3)) (bof_ok k) (bof_ok (lst_ok (cons_ok (d := .str "point") (r1 := T10 p1 [.str "n", .str "h", .lst (gl (a + 1)), .lst (gl (b + 1)), .lst (gl (c + 1)), q.1, q.2, n] x2 (some (.fz (.lst [.str "n", .str "h", .lst (gl (a + 1)), .lst (gl (b + 1)), .lst (gl (c + 1)), m4, m3, n]))) x4 x5 x6 x7 x8 none) rfl (cons_ok (u _) (cons_ok (d := .bl true) (r1 := T10 p1 [.str "n", .str "h", .lst (gl (a + 1)), .lst (gl (b + 1)), .lst (gl (c + 1)), q.1, q.2, n] x2 (some (.fz (.lst [.str "n", .str "h", .lst (gl (a + 1)), .lst (gl (b + 1)), .lst (gl (c + 1)), m4, m3, n]))) x4 x5 x6 x7 x8 none) rfl rfl))) (by simp))) rfl rfl (tx_eq (by decide +kernel) (by decide +kernel)).2.1))).trans rfl
  have e4 : sOwn 9 (eBin catL (bOf (eBin catL (bOf (eSl slL (bVar 3) doNone (doSome (eC (.int 4))))) (bOf (eLst (aCons (eLst (aCons (eC (.str "a")) (aCons (eC (.str "b")) (aCons (eC (.str "c")) (aCons (eC (.str "d")) aNil))))) aNil))))) (bOf (eSl slL (bVar 3) (doSome (eC (.int 5))) doNone))) (T10 p1 [.str "n", .str "h", .lst (gl (a + 1)), .lst (gl (b + 1)), .lst (gl (c + 1)), q.1, q.2, n] x2 (some (.fz (.lst [.str "n", .str "h", .lst (gl (a + 1)), .lst (gl (b + 1)), .lst (gl (c + 1)), m4, m3, n]))) x4 x5 x6 x7 x8 none) =
      .nx (T10 p1 [.str "n", .str "h", .lst (gl (a + 1)), .lst (gl (b + 1)), .lst (gl (c + 1)), q.1, q.2, n] x2 (some (.fz (.lst [.str "n", .str "h", .lst (gl (a + 1)), .lst (gl (b + 1)), .lst (gl (c + 1)), m4, m3, n]))) x4 x5 x6 x7 x8 (some (.ow (.lst [.str "n", .str "h", .lst (gl (a + 1)), .lst (gl (b + 1)), .lst (abc.take 4), m4, m3, n])))) := rfl
  have e5 : sAsg (eTup (aCons (eTup (aCons (eC (.str "m")) (aCons (eC (.int 3)) aNil))) (aCons (eUn negI (bOf (eC (.int 1)))) aNil))) (gTp 2 (gsCons (gSetIx 9 (eC (.int 5))) (gsCons (gSetIx 9 (eC (.int 7))) gsNil))) (T10 p1 [.str "n", .str "h", .lst (gl (a + 1)), .lst (gl (b + 1)), .lst (gl (c + 1)), q.1, q.2, n] x2 (some (.fz (.lst [.str "n", .str "h", .lst (gl (a + 1)), .lst (gl (b + 1)), .lst (gl (c + 1)), m4, m3, n]))) x4 x5 x6 x7 x8 (some (.ow (.lst [.str "n", .str "h", .lst (gl (a + 1)), .lst (gl (b + 1)), .lst (abc.take 4), m4, m3, n])))) =
      .nx (T10 p1 [.str "n", .str "h", .lst (gl (a + 1)), .lst (gl (b + 1)), .lst (gl (c + 1)), q.1, q.2, n] x2 (some (.fz (.lst [.str "n", .str "h", .lst (gl (a + 1)), .lst (gl (b + 1)), .lst (gl (c + 1)), m4, m3, n]))) x4 x5 x6 x7 x8 (some (.ow (.lst [.str "n", .str "h", .lst (gl (a + 1)), .lst (gl (b + 1)), .lst (abc.take 4), m3, m3, .int (-1)])))) := rfl
  have k : eFzL 9 (eHeard h_lheard l_lwrong_right_4) (T10 p1 [.str "n", .str "h", .lst (gl (a + 1)), .lst (gl (b + 1)), .lst (gl (c + 1)), q.1, q.2, n] x2 (some (.fz (.lst [.str "n", .str "h", .lst (gl (a + 1)), .lst (gl (b + 1)), .lst (gl (c + 1)), m4, m3, n]))) x4 x5 x6 x7 x8 (some (.ow (.lst [.str "n", .str "h", .lst (gl (a + 1)), .lst (gl (b + 1)), .lst (abc.take 4), m3, m3, .int (-1)])))) =
      .ok (tx "number" "-1", T10 p1 [.str "n", .str "h", .lst (gl (a + 1)), .lst (gl (b + 1)), .lst (gl (c + 1)), q.1, q.2, n] x2 (some (.fz (.lst [.str "n", .str "h", .lst (gl (a + 1)), .lst (gl (b + 1)), .lst (gl (c + 1)), m4, m3, n]))) x4 x5 x6 x7 x8 (some (.fz (.lst [.str "n", .str "h", .lst (gl (a + 1)), .lst (gl (b + 1)), .lst (abc.take 4), m3, m3, .int (-1)])))) := by
    show eHeard h_lheard l_lwrong_right_4 (T10 p1 [.str "n", .str "h", .lst (gl (a + 1)), .lst (gl (b + 1)), .lst (gl (c + 1)), q.1, q.2, n] x2 (some (.fz (.lst [.str "n", .str "h", .lst (gl (a + 1)), .lst (gl (b + 1)), .lst (gl (c + 1)), m4, m3, n]))) x4 x5 x6 x7 x8 (some (.fz (.lst [.str "n", .str "h", .lst (gl (a + 1)), .lst (gl (b + 1)), .lst (abc.take 4), m3, m3, .int (-1)])))) = _
    exact heard4 (tell_ab h2 h3) rfl
  have e6 : sRet (eBin eqD (bOf (eFzL 9 (eHeard h_lheard l_lwrong_right_4))) (bOf (eLst (aCons (eC (.str "number")) (aCons (eC (.str "-1")) (aCons (eC (.bl true)) aNil)))))) _ = .rt _ _ := ret_ok (bin_ok (b := .fz (tx "number" "-1")) (z := .bl true) (bof_ok k) rfl rfl rfl (tx_eq (by decide +kernel) (by decide +kernel)).2.2)
  have L := (seq_nx e1).trans ((seq_nx e2).trans ((seq_nx e3).trans ((seq_nx e4).trans ((seq_nx e5).trans e6))))
  exact ⟨p1, runB_rt (r0 := T10 pot [.str "n", .str "h", .lst (gl (a + 1)), .lst (gl (b + 1)), .lst (gl (c + 1)), q.1, q.2, n] none none none none none none none none) rfl rfl L rfl, v1⟩
theorem errorsF : d_lerrors_right [] = .ok (.bl true) := by kernel_rfl
end K21

set_option Elab.async false
set_option linter.all false
set_option maxRecDepth 100000
set_option maxHeartbeats 4000000
namespace K21
open PySem L2 Dl
/-! ### just as many as are let -/
abbrev Z6 (ps : List D) (x1 x2 x3 x4 x5 : Option Sl) : En := [some (.fz (.lst ps)), x1, x2, x3, x4, x5]
theorem ln_c : Ln 4 (.lst (abc.take 4)) (abc.take 4) := ⟨rfl, by kernel_rfl, fun _ => srt_of (by kernel_rfl) (by kernel_rfl) (by kernel_rfl) (by decide) (pwB (by kernel_rfl))⟩
theorem ln_d : Ln 3 (.lst (abc.take 3)) (abc.take 3) := ⟨rfl, by kernel_rfl, fun _ => srt_of (by kernel_rfl) (by kernel_rfl) (by kernel_rfl) (by decide) (pwB (by kernel_rfl))⟩
theorem own_no {l2 l3 l4 : List D} {q : D × D} {n al : D} {s0 s1 : Str} (hal : isOwn al = false) (hq : q ∈ goodP) (hn : n ∈ goodN) : noOwn (eDl (.str s0) (.str s1) l2 l3 l4 q.1 q.2 al n) = true := by
  have a : isOwn q.1 = false ∧ isOwn q.2 = false ∧ isOwn n = false := by
    simp only [goodP, goodN, List.mem_cons, List.not_mem_nil, or_false] at hq hn
    rcases hq with rfl | rfl | rfl | rfl | rfl | rfl | rfl | rfl | rfl | rfl | rfl | rfl <;> rcases hn with rfl | rfl | rfl <;> exact ⟨rfl, rfl, rfl⟩
  obtain ⟨a, b, c⟩ := a
  have t : ∀ l : List D, isOwn (.tup l) = false := fun _ => rfl
  have u : ∀ x : Str, isOwn (.str x) = false := fun _ => rfl
  simp [noOwn, a, b, c, hal, t, u]
theorem madeF {d2 d3 d4 : D} {l2 l3 l4 : List D} {q : D × D} {n : D} (h2 : Ln 4 d2 l2) (h3 : Ln 4 d3 l3) (h4 : Ln 3 d4 l4) (c2 : l2.length ≤ 4) (c3 : l3.length ≤ 4) (c4 : l4.length ≤ 3) (hq : q ∈ goodP) (hn : n ∈ goodN)
    (no : noOwn (eDl (.str "n") (.str "h") l2 l3 l4 q.1 q.2 (.bl true) n) = true) : d_lmade [.lst [.str "n", .str "h", d2, d3, d4, q.1, q.2, n]] = .ok (eDl (.str "n") (.str "h") l2 l3 l4 q.1 q.2 (.bl true) n) := by
  have g : G5 (.str "n") (.str "h") d2 d3 d4 q.1 q.2 := ⟨nm_n, nm_h, h2.names, h3.names, h4.names, (goodP_ok q hq).1⟩
  have g7 := goodN_ok n hn
  have f2 := few (d := d2) (n := l2.length) (m := 4) (w := "films") (by rw [h2.eq]; rfl)
  have f3 := few (d := d3) (n := l3.length) (m := 4) (w := "lands") (by rw [h3.eq]; rfl)
  have f4 := few (d := d4) (n := l4.length) (m := 3) (w := "ways") (by rw [h4.eq]; rfl)
  exact (made_ok (ini_ok (al := .bl true) g g7 (f2.1 (by omega)) (f3.1 (by omega)) (f4.1 (by omega)) (h2.srt c2) (h3.srt c3) (h4.srt c4)) no).1
theorem len48 {q1 q2 n : D} : d_Deal_len [eDl (.str "n") (.str "h") (abc.take 4) (abc.take 4) (abc.take 3) q1 q2 (.bl true) n] = .ok (.int 48) := by kernel_rfl
theorem heardL1 {ds : List D} {due : D} {r : En} (T : Tell ds due) (h3 : (frzOnly r)[1]? = some (some (.fz (.lst ds)))) : eHeard h_lheard l_llimits_right_1 r = .ok (due, r) := by
  unfold l_llimits_right_1
  refine heard_c h3 ?_
  rcases T.ex with ⟨c, fs, h, _, k⟩ | ⟨h, _, k⟩
  · exact .inl ⟨c, fs, h, k⟩
  · exact .inr ⟨h, k⟩
theorem heardL2 {ds : List D} {due : D} {r : En} (T : Tell ds due) (h3 : (frzOnly r)[5]? = some (some (.fz (.lst ds)))) : eHeard h_lheard l_llimits_right_2 r = .ok (due, r) := by
  unfold l_llimits_right_2
  refine heard_c h3 ?_
  rcases T.ex with ⟨c, fs, h, _, k⟩ | ⟨h, _, k⟩
  · exact .inl ⟨c, fs, h, k⟩
  · exact .inr ⟨h, k⟩
theorem lim_st {ps fu ds : List D} {a m : Int} {w : Str} {x5 : Option Sl} (T : Tell ds (many w m)) (hne : neD (many w m) (many w m) = some (.bl false))
    (e : sAsg (eBin catL (bOf (eBin ixG (bVar 1) (bVar 2))) (bOf (eLst (aCons (eC (.str "e")) aNil)))) (gSetIx 5 (eVar 2)) (Z6 ps (some (.fz (.lst fu))) (some (.fz (.int a))) (some (.fz (.str w))) (some (.fz (.int m))) (some (.ow (.lst fu)))) = .nx (Z6 ps (some (.fz (.lst fu))) (some (.fz (.int a))) (some (.fz (.str w))) (some (.fz (.int m))) (some (.ow (.lst ds))))) :
    s_llimits_right_3_b (Z6 ps (some (.fz (.lst fu))) (some (.fz (.int a))) (some (.fz (.str w))) (some (.fz (.int m))) x5) = .nx (Z6 ps (some (.fz (.lst fu))) (some (.fz (.int a))) (some (.fz (.str w))) (some (.fz (.int m))) (some (.fz (.lst ds)))) := by
  have s1 : sOwn 5 (eUn listD (bVar 1)) (Z6 ps (some (.fz (.lst fu))) (some (.fz (.int a))) (some (.fz (.str w))) (some (.fz (.int m))) x5) = .nx (Z6 ps (some (.fz (.lst fu))) (some (.fz (.int a))) (some (.fz (.str w))) (some (.fz (.int m))) (some (.ow (.lst fu)))) := rfl
  have k : eFzL 5 (eHeard h_lheard l_llimits_right_2) (Z6 ps (some (.fz (.lst fu))) (some (.fz (.int a))) (some (.fz (.str w))) (some (.fz (.int m))) (some (.ow (.lst ds)))) = .ok (many w m, Z6 ps (some (.fz (.lst fu))) (some (.fz (.int a))) (some (.fz (.str w))) (some (.fz (.int m))) (some (.fz (.lst ds)))) := by
    show eHeard h_lheard l_llimits_right_2 (Z6 ps (some (.fz (.lst fu))) (some (.fz (.int a))) (some (.fz (.str w))) (some (.fz (.int m))) (some (.fz (.lst ds)))) = _
    exact heardL2 T rfl
  have s3 : s_llimits_right_3_3 (Z6 ps (some (.fz (.lst fu))) (some (.fz (.int a))) (some (.fz (.str w))) (some (.fz (.int m))) (some (.ow (.lst ds)))) = .nx (Z6 ps (some (.fz (.lst fu))) (some (.fz (.int a))) (some (.fz (.str w))) (some (.fz (.int m))) (some (.fz (.lst ds)))) := by
    unfold s_llimits_right_3_3
    exact (sif_f (tof_ok (bin_ok (b := .fz (many w m)) (bof_ok k) rfl rfl rfl hne))).trans rfl
  unfold s_llimits_right_3_b
  exact (seq_nx s1).trans ((seq_nx e).trans s3)
theorem limitsF {ps : List D} (g0 : Gp ps) : d_llimits_right [.lst ps] = .ok (.bl true) := by
  obtain ⟨a, b, c, q, n, ha, hb, hc, hq, hn, rfl⟩ := g0
  have T0 : Tell [.str "n", .str "h", .lst (abc.take 4), .lst (abc.take 4), .lst (abc.take 3), q.1, q.2, n] told := tell_long ln_c ln_c ln_d hq hn
  have T1 : Tell [.str "n", .str "h", .lst (abc.take 5), .lst (abc.take 4), .lst (abc.take 3), q.1, q.2, n] (many "films" 4) := tell_long ln_a ln_c ln_d hq hn
  have T2 : Tell [.str "n", .str "h", .lst (abc.take 4), .lst (abc.take 5), .lst (abc.take 3), q.1, q.2, n] (many "lands" 4) := tell_long ln_c ln_a ln_d hq hn
  have T3 : Tell [.str "n", .str "h", .lst (abc.take 4), .lst (abc.take 4), .lst (((["a", "b", "c", "e"] : List Str)).map D.str), q.1, q.2, n] (many "ways" 3) := tell_long ln_c ln_c ⟨rfl, by kernel_rfl, fun h => absurd h (by decide)⟩ hq hn
  have s1 : s_llimits_right_1 (Z6 [.str "n", .str "h", .lst (gl (a + 1)), .lst (gl (b + 1)), .lst (gl (c + 1)), q.1, q.2, n] none none none none none) = .nx (Z6 [.str "n", .str "h", .lst (gl (a + 1)), .lst (gl (b + 1)), .lst (gl (c + 1)), q.1, q.2, n] (some (.fz (.lst [.str "n", .str "h", .lst (abc.take 4), .lst (abc.take 4), .lst (abc.take 3), q.1, q.2, n]))) none none none none) := rfl
  have m : eCall d_lmade (aCons (eVar 1) aNil) (Z6 [.str "n", .str "h", .lst (gl (a + 1)), .lst (gl (b + 1)), .lst (gl (c + 1)), q.1, q.2, n] (some (.fz (.lst [.str "n", .str "h", .lst (abc.take 4), .lst (abc.take 4), .lst (abc.take 3), q.1, q.2, n]))) none none none none) = .ok (eDl (.str "n") (.str "h") (abc.take 4) (abc.take 4) (abc.take 3) q.1 q.2 (.bl true) n, Z6 [.str "n", .str "h", .lst (gl (a + 1)), .lst (gl (b + 1)), .lst (gl (c + 1)), q.1, q.2, n] (some (.fz (.lst [.str "n", .str "h", .lst (abc.take 4), .lst (abc.take 4), .lst (abc.take 3), q.1, q.2, n]))) none none none none) :=
    call_ok (ds := [.lst [.str "n", .str "h", .lst (abc.take 4), .lst (abc.take 4), .lst (abc.take 3), q.1, q.2, n]]) rfl (madeF ln_c ln_c ln_d (by decide) (by decide) (by decide) hq hn (own_no rfl hq hn))
  have l : eLenO "Deal" d_Deal_len (eCall d_lmade (aCons (eVar 1) aNil)) (Z6 [.str "n", .str "h", .lst (gl (a + 1)), .lst (gl (b + 1)), .lst (gl (c + 1)), q.1, q.2, n] (some (.fz (.lst [.str "n", .str "h", .lst (abc.take 4), .lst (abc.take 4), .lst (abc.take 3), q.1, q.2, n]))) none none none none) = .ok (.int 48, Z6 [.str "n", .str "h", .lst (gl (a + 1)), .lst (gl (b + 1)), .lst (gl (c + 1)), q.1, q.2, n] (some (.fz (.lst [.str "n", .str "h", .lst (abc.take 4), .lst (abc.take 4), .lst (abc.take 3), q.1, q.2, n]))) none none none none) := by
    unfold eLenO
    rw [m, bind_ok]
    simp only [if_true]
    rw [len48]
    rfl
  have s2 : s_llimits_right_2 (Z6 [.str "n", .str "h", .lst (gl (a + 1)), .lst (gl (b + 1)), .lst (gl (c + 1)), q.1, q.2, n] (some (.fz (.lst [.str "n", .str "h", .lst (abc.take 4), .lst (abc.take 4), .lst (abc.take 3), q.1, q.2, n]))) none none none none) = .nx (Z6 [.str "n", .str "h", .lst (gl (a + 1)), .lst (gl (b + 1)), .lst (gl (c + 1)), q.1, q.2, n] (some (.fz (.lst [.str "n", .str "h", .lst (abc.take 4), .lst (abc.take 4), .lst (abc.take 3), q.1, q.2, n]))) none none none none) := by
    unfold s_llimits_right_2
    exact (sif_f (tor_f (tof_ok (bin_ok (b := .fz told) (bof_ok (heardL1 T0 rfl)) rfl rfl rfl told_eq.2)) (tof_ok (bin_ok (b := .fz (.int 48)) (bof_ok l) rfl rfl rfl rfl)))).trans rfl
  have s3 : s_llimits_right_3 (Z6 [.str "n", .str "h", .lst (gl (a + 1)), .lst (gl (b + 1)), .lst (gl (c + 1)), q.1, q.2, n] (some (.fz (.lst [.str "n", .str "h", .lst (abc.take 4), .lst (abc.take 4), .lst (abc.take 3), q.1, q.2, n]))) none none none none) = .nx (Z6 [.str "n", .str "h", .lst (gl (a + 1)), .lst (gl (b + 1)), .lst (gl (c + 1)), q.1, q.2, n] (some (.fz (.lst [.str "n", .str "h", .lst (abc.take 4), .lst (abc.take 4), .lst (abc.take 3), q.1, q.2, n]))) (some (.fz (.int 4))) (some (.fz (.str "ways"))) (some (.fz (.int 3))) (some (.fz (.lst [.str "n", .str "h", .lst (abc.take 4), .lst (abc.take 4), .lst (((["a", "b", "c", "e"] : List Str)).map D.str), q.1, q.2, n])))) := by
    unfold s_llimits_right_3
    rw [psfor, piseq]
    refine (for_st (g := gTp 3 (gsCons (gNm 2) (gsCons (gNm 3) (gsCons (gNm 4) gsNil)))) (d := .tup [.int 2, .str "films", .int 4]) (r := Z6 [.str "n", .str "h", .lst (gl (a + 1)), .lst (gl (b + 1)), .lst (gl (c + 1)), q.1, q.2, n] (some (.fz (.lst [.str "n", .str "h", .lst (abc.take 4), .lst (abc.take 4), .lst (abc.take 3), q.1, q.2, n]))) none none none none) (r1 := Z6 [.str "n", .str "h", .lst (gl (a + 1)), .lst (gl (b + 1)), .lst (gl (c + 1)), q.1, q.2, n] (some (.fz (.lst [.str "n", .str "h", .lst (abc.take 4), .lst (abc.take 4), .lst (abc.take 3), q.1, q.2, n]))) (some (.fz (.int 2))) (some (.fz (.str "films"))) (some (.fz (.int 4))) none) rfl (lim_st T1 (by kernel_rfl) rfl)).trans ?_
    refine (for_st (g := gTp 3 (gsCons (gNm 2) (gsCons (gNm 3) (gsCons (gNm 4) gsNil)))) (d := .tup [.int 3, .str "lands", .int 4]) (r1 := Z6 [.str "n", .str "h", .lst (gl (a + 1)), .lst (gl (b + 1)), .lst (gl (c + 1)), q.1, q.2, n] (some (.fz (.lst [.str "n", .str "h", .lst (abc.take 4), .lst (abc.take 4), .lst (abc.take 3), q.1, q.2, n]))) (some (.fz (.int 3))) (some (.fz (.str "lands"))) (some (.fz (.int 4))) (some (.fz (.lst [.str "n", .str "h", .lst (abc.take 5), .lst (abc.take 4), .lst (abc.take 3), q.1, q.2, n])))) rfl (lim_st T2 (by kernel_rfl) rfl)).trans ?_
    exact (for_st (g := gTp 3 (gsCons (gNm 2) (gsCons (gNm 3) (gsCons (gNm 4) gsNil)))) (d := .tup [.int 4, .str "ways", .int 3]) (r1 := Z6 [.str "n", .str "h", .lst (gl (a + 1)), .lst (gl (b + 1)), .lst (gl (c + 1)), q.1, q.2, n] (some (.fz (.lst [.str "n", .str "h", .lst (abc.take 4), .lst (abc.take 4), .lst (abc.take 3), q.1, q.2, n]))) (some (.fz (.int 4))) (some (.fz (.str "ways"))) (some (.fz (.int 3))) (some (.fz (.lst [.str "n", .str "h", .lst (abc.take 4), .lst (abc.take 5), .lst (abc.take 3), q.1, q.2, n])))) rfl (lim_st T3 (by kernel_rfl) rfl)).trans rfl
  have L := (seq_nx s1).trans ((seq_nx s2).trans ((seq_nx s3).trans (show sRet (eC (.bl true)) _ = .rt (.bl true) _ from rfl)))
  exact runF_rt (r0 := Z6 [.str "n", .str "h", .lst (gl (a + 1)), .lst (gl (b + 1)), .lst (gl (c + 1)), q.1, q.2, n] none none none none none) rfl rfl L
end K21

set_option Elab.async false
set_option linter.all false
set_option maxRecDepth 100000
set_option maxHeartbeats 4000000
namespace Dl
open PySem L2
theorem extend_ok {f : En → Res (D × En)} {r r1 : En} {i : Nat} {s s1 : Sl} {ds0 : List D} {d z : D} (h0 : r[i]? = some (some s)) (m : s.mine = true) (hd : s.d = .lst ds0) (hf : f r = .ok (d, r1)) (h1 : r1[i]? = some (some s1)) (m1 : s1.mine = true) (k : extD s1.d d = some z) : sExtend i f r = .nx (r1.set i (some (s1.put z))) := by
  unfold sExtend atMineS
  simp only [h0, if_pos m, hd, hf, psbind_ok, h1, if_pos m1, k]
/-- a text that is let, of at most so many signs -/
def TxOk (b : Nat) (s : Str) : Prop := PyData.strOk s = true ∧ s.length ≤ b
theorem TxOk.app {a b : Nat} {x y : Str} (h1 : TxOk a x) (h2 : TxOk b y) : TxOk (a + b) (x ++ y) := by
  refine ⟨?_, by rw [PySem.Str.length_append]; have := h1.2; have := h2.2; omega⟩
  have a := h1.1
  have b := h2.1
  unfold PyData.strOk at a b ⊢
  rw [PySem.Str.cps_append, Array.all_append, a, b]
  rfl
theorem jc_ex {f : En → Res (D × En)} {g : Str → En → Res (Str × En)} {acc y : Str} {r r1 r2 : En} {a b : Nat} (hacc : TxOk a acc) (hf : f r = .ok (.str y, r1)) (hy : TxOk b y) (hl : a + b ≤ 1000000) (k : ∀ acc', TxOk (a + b) acc' → ∃ t, PyData.strOk t = true ∧ g acc' r1 = .ok (t, r2)) :
    ∃ t, PyData.strOk t = true ∧ jCons f g acc r = .ok (t, r2) := by
  obtain ⟨t, ht, e⟩ := k _ (hacc.app hy)
  refine ⟨t, ht, ?_⟩
  unfold jCons
  rw [hf, bind_ok]
  have l := (hacc.app hy).2
  simp only [if_pos (show (acc ++ y).length ≤ 1000000 by omega)]
  exact e
theorem fmt_ok {f : En → Res (D × En)} {r r1 : En} {d z : D} (h : f r = .ok (d, r1)) (k : fmtD d = some z) : eFmt f r = .ok (z, r1) := by
  unfold eFmt
  rw [h, bind_ok]
  simp only [k]
  rfl
theorem joinE_ok {fa fb : En → Res (D × En)} {r r1 r2 : En} {a b z : D} (h1 : fa r = .ok (a, r1)) (h2 : fb r1 = .ok (b, r2)) (k : joinD a b = some z) : eJoin fa fb r = .ok (z, r2) := by
  unfold eJoin
  rw [h1, bind_ok, h2, nX_ok, bind_ok]
  simp only [k]
  rfl
end Dl
namespace K21
open PySem L2 Dl
/-! ### what is shown of a deal -/
def shLB (d : D) : Bool := match (orU reprB reprD) d with
  | some (.str s) => PyData.strOk s && decide (s.length ≤ 200)
  | _ => false
theorem shL {d : D} (h : shLB d = true) : ∃ s, (orU reprB reprD) d = some (.str s) ∧ TxOk 200 s := by
  unfold shLB at h
  split at h
  · rename_i s e
    rw [Bool.and_eq_true, decide_eq_true_eq] at h
    exact ⟨s, e, h⟩
  · cases h
def shPB (d : D) : Bool := match rp d with
  | some (.str s) => PyData.strOk s && decide (s.length ≤ 200)
  | _ => false
theorem shP {d : D} (h : shPB d = true) : ∃ s, rp d = some (.str s) ∧ TxOk 200 s := by
  unfold shPB at h
  split at h
  · rename_i s e
    rw [Bool.and_eq_true, decide_eq_true_eq] at h
    exact ⟨s, e, h⟩
  · cases h
def shFB (d : D) : Bool := match fmtD d with
  | some (.str s) => PyData.strOk s && decide (s.length ≤ 200)
  | _ => false
theorem shF {d : D} (h : shFB d = true) : ∃ s, fmtD d = some (.str s) ∧ TxOk 200 s := by
  unfold shFB at h
  split at h
  · rename_i s e
    rw [Bool.and_eq_true, decide_eq_true_eq] at h
    exact ⟨s, e, h⟩
  · cases h
theorem gl_sh : ∀ n, n < 4 → ∃ s, (orU reprB reprD) (.lst (gl (n + 1))) = some (.str s) ∧ TxOk 200 s := by
  intro n hn
  have : n = 0 ∨ n = 1 ∨ n = 2 ∨ n = 3 := by omega
  rcases this with rfl | rfl | rfl | rfl <;> exact shL (by kernel_rfl)
theorem q_sh : ∀ q ∈ goodP, (∃ s, rp q.1 = some (.str s) ∧ TxOk 200 s) ∧ ∃ s, rp q.2 = some (.str s) ∧ TxOk 200 s := by
  intro q hq
  simp only [goodP, List.mem_cons, List.not_mem_nil, or_false] at hq
  rcases hq with rfl | rfl | rfl | rfl | rfl | rfl | rfl | rfl | rfl | rfl | rfl | rfl <;> exact ⟨shP (by kernel_rfl), shP (by kernel_rfl)⟩
theorem n_sh : ∀ n ∈ goodN, ∃ s, fmtD n = some (.str s) ∧ TxOk 200 s := by
  intro n hn
  simp only [goodN, List.mem_cons, List.not_mem_nil, or_false] at hn
  rcases hn with rfl | rfl | rfl <;> exact shF (by kernel_rfl)
theorem join7 {a b c d e f g : Str} (ha : TxOk 200 a) (hb : TxOk 200 b) (hc : TxOk 200 c) (hd : TxOk 200 d) (he : TxOk 200 e) (hf : TxOk 200 f) (hg : TxOk 200 g) :
    ∃ t, joinD (.str ", ") (.lst [.str a, .str b, .str c, .str d, .str e, .str f, .str g]) = some (.str t) ∧ TxOk 1412 t := by
  have s : TxOk 2 (", " : Str) := ⟨by decide +kernel, by decide +kernel⟩
  have ej : Txt.join ", " [a, b, c, d, e, f, g] = a ++ ", " ++ b ++ ", " ++ c ++ ", " ++ d ++ ", " ++ e ++ ", " ++ f ++ ", " ++ g := by
    refine PySem.Str.ext' ?_
    simp only [PySem.Str.cps_append]
    rfl
  refine ⟨Txt.join ", " [a, b, c, d, e, f, g], ?_, ?_⟩
  · unfold joinD
    show ((strsD [.str a, .str b, .str c, .str d, .str e, .str f, .str g]).bind _) = _
    have x : strsD [.str a, .str b, .str c, .str d, .str e, .str f, .str g] = some [a, b, c, d, e, f, g] := rfl
    rw [x]
    have l : (([a, b, c, d, e, f, g] : List Str).map (·.length)).sum + ([a, b, c, d, e, f, g] : List Str).length * (", " : Str).length ≤ 1000000 := by
      have l2 : (", " : Str).length = 2 := by decide +kernel
      have := ha.2
      have := hb.2
      have := hc.2
      have := hd.2
      have := he.2
      have := hf.2
      have := hg.2
      simp only [List.map_cons, List.map_nil, List.sum_cons, List.sum_nil, List.length_cons, List.length_nil, l2]
      omega
    exact if_pos l
  · rw [ej]
    exact ((((((((((((ha.app s).app hb).app s).app hc).app s).app hd).app s).app he).app s).app hf).app s).app hg)
/-- what parts a deal is made of -/
structure Pa (l2 l3 l4 : List D) (q1 q2 n : D) : Prop where
  s2 : ∃ s, (orU reprB reprD) (.lst l2) = some (.str s) ∧ TxOk 200 s
  s3 : ∃ s, (orU reprB reprD) (.lst l3) = some (.str s) ∧ TxOk 200 s
  s4 : ∃ s, (orU reprB reprD) (.lst l4) = some (.str s) ∧ TxOk 200 s
  s5 : ∃ s, rp q1 = some (.str s) ∧ TxOk 200 s
  s6 : ∃ s, rp q2 = some (.str s) ∧ TxOk 200 s
  s7 : ∃ s, fmtD n = some (.str s) ∧ TxOk 200 s
abbrev eP (l2 l3 l4 : List D) (q1 q2 n : D) : D := eDl (.str "n") (.str "h") l2 l3 l4 q1 q2 (.bl true) n
theorem points_ok {d0 d1 al d7 : D} {l2 l3 l4 : List D} {sa sb : Str} {i j : Int} : d_Deal_points [eDl d0 d1 l2 l3 l4 (.tup [.str sa, .int i]) (.tup [.str sb, .int j]) al d7] = .ok (.tup [.tup [.str sa, .int i], .tup [.str sb, .int j]]) := rfl
abbrev R4 (s : D) (x1 x2 x3 : Option Sl) : En := [some (.fz s), x1, x2, x3]
theorem rp_n : rp (.str "n") = some (.str "'n'") := by kernel_rfl
theorem rp_h : rp (.str "h") = some (.str "'h'") := by kernel_rfl
theorem reprF {l2 l3 l4 : List D} {sa sb : Str} {i j k : Int} (p : Pa l2 l3 l4 (.tup [.str sa, .int i]) (.tup [.str sb, .int j]) (.int k)) : ∃ t, PyData.strOk t = true ∧ d_Deal_repr [eP l2 l3 l4 (.tup [.str sa, .int i]) (.tup [.str sb, .int j]) (.int k)] = .ok (.str t) := by
  obtain ⟨⟨a2, e2, k2⟩, ⟨a3, e3, k3⟩, ⟨a4, e4, k4⟩, ⟨a5, e5, k5⟩, ⟨a6, e6, k6⟩, ⟨a7, e7, k7⟩⟩ := p
  obtain ⟨tj, ej, kj⟩ := join7 (a := "'n'") (b := "'h'") (c := a2) (d := a3) (e := a4) (f := a5) (g := a6) ⟨by decide +kernel, by decide +kernel⟩ ⟨by decide +kernel, by decide +kernel⟩ k2 k3 k4 k5 k6
  have s1 : sOwn 1 (eLst (aCons (eUn (orU (orU (orU reprB reprD) reprK) reprS) (bOf (eUn (fldD ["Deal"] "own_name") (bVar 0)))) (aCons (eUn (orU (orU (orU reprB reprD) reprK) reprS) (bOf (eUn (fldD ["Deal"] "own_house") (bVar 0)))) aNil))) (R4 (eP l2 l3 l4 (.tup [.str sa, .int i]) (.tup [.str sb, .int j]) (.int k)) none none none) = .nx (R4 (eP l2 l3 l4 (.tup [.str sa, .int i]) (.tup [.str sb, .int j]) (.int k)) (some (.ow (.lst [.str "'n'", .str "'h'"]))) none none) := by
    refine (own_ok (d := .lst [.str "'n'", .str "'h'"]) (r1 := R4 (eP l2 l3 l4 (.tup [.str sa, .int i]) (.tup [.str sb, .int j]) (.int k)) none none none) ?_).trans rfl
    exact lst_ok (cons_ok (un_ok (x := .str "n") (r1 := R4 (eP l2 l3 l4 (.tup [.str sa, .int i]) (.tup [.str sb, .int j]) (.int k)) none none none) rfl rfl rp_n) (cons_ok (un_ok (x := .str "h") (r1 := R4 (eP l2 l3 l4 (.tup [.str sa, .int i]) (.tup [.str sb, .int j]) (.int k)) none none none) rfl rfl rp_h) rfl)) (by simp)
  have c1 : e_Deal_repr_1 (R4 (eP l2 l3 l4 (.tup [.str sa, .int i]) (.tup [.str sb, .int j]) (.int k)) (some (.ow (.lst [.str "'n'", .str "'h'"]))) none none) = .ok (.lst [.str a2, .str a3, .str a4], R4 (eP l2 l3 l4 (.tup [.str sa, .int i]) (.tup [.str sb, .int j]) (.int k)) (some (.ow (.lst [.str "'n'", .str "'h'"]))) none none) := by
    have u : ∀ {l : List D} {a : Str} (_ : (orU reprB reprD) (.lst l) = some (.str a)), eUn (orU reprB reprD) (bOf (eUn listD (bVar 2))) (R4 (eP l2 l3 l4 (.tup [.str sa, .int i]) (.tup [.str sb, .int j]) (.int k)) (some (.ow (.lst [.str "'n'", .str "'h'"]))) (some (.fz (.tup l))) none) = .ok (.str a, R4 (eP l2 l3 l4 (.tup [.str sa, .int i]) (.tup [.str sb, .int j]) (.int k)) (some (.ow (.lst [.str "'n'", .str "'h'"]))) (some (.fz (.tup l))) none) :=
      fun h => un_ok (bof_ok (un_ok (a := .sl 2) rfl rfl rfl)) rfl h
    unfold e_Deal_repr_1
    refine (elc_run (l := [.tup l2, .tup l3, .tup l4]) (zs := [.str a2, .str a3, .str a4]) (r0 := R4 (eP l2 l3 l4 (.tup [.str sa, .int i]) (.tup [.str sb, .int j]) (.int k)) (some (.ow (.lst [.str "'n'", .str "'h'"]))) none none) (r1 := R4 (eP l2 l3 l4 (.tup [.str sa, .int i]) (.tup [.str sb, .int j]) (.int k)) (some (.ow (.lst [.str "'n'", .str "'h'"]))) none none) rfl (by simp) ?_).trans rfl
    exact (lc_step (g := gNm 2) (r := R4 (eP l2 l3 l4 (.tup [.str sa, .int i]) (.tup [.str sb, .int j]) (.int k)) (some (.ow (.lst [.str "'n'", .str "'h'"]))) none none) rfl (u e2)).trans ((lc_step (g := gNm 2) (r := R4 (eP l2 l3 l4 (.tup [.str sa, .int i]) (.tup [.str sb, .int j]) (.int k)) (some (.ow (.lst [.str "'n'", .str "'h'"]))) none none) rfl (u e3)).trans ((lc_step (g := gNm 2) (r := R4 (eP l2 l3 l4 (.tup [.str sa, .int i]) (.tup [.str sb, .int j]) (.int k)) (some (.ow (.lst [.str "'n'", .str "'h'"]))) none none) rfl (u e4)).trans rfl))
  have s2 : sExtend 1 e_Deal_repr_1 (R4 (eP l2 l3 l4 (.tup [.str sa, .int i]) (.tup [.str sb, .int j]) (.int k)) (some (.ow (.lst [.str "'n'", .str "'h'"]))) none none) = .nx (R4 (eP l2 l3 l4 (.tup [.str sa, .int i]) (.tup [.str sb, .int j]) (.int k)) (some (.ow (.lst [.str "'n'", .str "'h'", .str a2, .str a3, .str a4]))) none none) :=
    (extend_ok (s := .ow (.lst [.str "'n'", .str "'h'"])) rfl rfl rfl c1 rfl rfl rfl).trans rfl
  have c2 : e_Deal_repr_2 (R4 (eP l2 l3 l4 (.tup [.str sa, .int i]) (.tup [.str sb, .int j]) (.int k)) (some (.ow (.lst [.str "'n'", .str "'h'", .str a2, .str a3, .str a4]))) none none) = .ok (.lst [.str a5, .str a6], R4 (eP l2 l3 l4 (.tup [.str sa, .int i]) (.tup [.str sb, .int j]) (.int k)) (some (.ow (.lst [.str "'n'", .str "'h'", .str a2, .str a3, .str a4]))) none none) := by
    have u : ∀ {l : D} {a : Str} (_ : rp l = some (.str a)), eUn (orU (orU (orU reprB reprD) reprK) reprS) (bVar 3) (R4 (eP l2 l3 l4 (.tup [.str sa, .int i]) (.tup [.str sb, .int j]) (.int k)) (some (.ow (.lst [.str "'n'", .str "'h'", .str a2, .str a3, .str a4]))) none (some (.fz l))) = .ok (.str a, R4 (eP l2 l3 l4 (.tup [.str sa, .int i]) (.tup [.str sb, .int j]) (.int k)) (some (.ow (.lst [.str "'n'", .str "'h'", .str a2, .str a3, .str a4]))) none (some (.fz l))) :=
      fun h => un_ok (a := .sl 3) rfl rfl h
    unfold e_Deal_repr_2
    refine (elc_run (l := [(.tup [.str sa, .int i]), (.tup [.str sb, .int j])]) (zs := [.str a5, .str a6]) (r0 := R4 (eP l2 l3 l4 (.tup [.str sa, .int i]) (.tup [.str sb, .int j]) (.int k)) (some (.ow (.lst [.str "'n'", .str "'h'", .str a2, .str a3, .str a4]))) none none) (r1 := R4 (eP l2 l3 l4 (.tup [.str sa, .int i]) (.tup [.str sb, .int j]) (.int k)) (some (.ow (.lst [.str "'n'", .str "'h'", .str a2, .str a3, .str a4]))) none none) ?_ (by simp) ?_).trans rfl
    · unfold iSeq
      rw [meth_ok (ds := []) (r2 := R4 (eP l2 l3 l4 (.tup [.str sa, .int i]) (.tup [.str sb, .int j]) (.int k)) (some (.ow (.lst [.str "'n'", .str "'h'", .str a2, .str a3, .str a4]))) none none) rfl rfl rfl points_ok]
      rfl
    · exact (lc_step (g := gNm 3) (r := R4 (eP l2 l3 l4 (.tup [.str sa, .int i]) (.tup [.str sb, .int j]) (.int k)) (some (.ow (.lst [.str "'n'", .str "'h'", .str a2, .str a3, .str a4]))) none none) rfl (u e5)).trans ((lc_step (g := gNm 3) (r := R4 (eP l2 l3 l4 (.tup [.str sa, .int i]) (.tup [.str sb, .int j]) (.int k)) (some (.ow (.lst [.str "'n'", .str "'h'", .str a2, .str a3, .str a4]))) none none) rfl (u e6)).trans rfl)
  have s3 : sExtend 1 e_Deal_repr_2 (R4 (eP l2 l3 l4 (.tup [.str sa, .int i]) (.tup [.str sb, .int j]) (.int k)) (some (.ow (.lst [.str "'n'", .str "'h'", .str a2, .str a3, .str a4]))) none none) = .nx (R4 (eP l2 l3 l4 (.tup [.str sa, .int i]) (.tup [.str sb, .int j]) (.int k)) (some (.ow (.lst [.str "'n'", .str "'h'", .str a2, .str a3, .str a4, .str a5, .str a6]))) none none) :=
    (extend_ok (s := .ow (.lst [.str "'n'", .str "'h'", .str a2, .str a3, .str a4])) rfl rfl rfl c2 rfl rfl rfl).trans rfl
  have s4 : ∃ t, PyData.strOk t = true ∧ (jCons (eC (.str "Deal(")) (jCons (eFmt (eJoin (eC (.str ", ")) (eVar 1))) (jCons (eC (.str ", alone=")) (jCons (eFmt (eUn (fldD ["Deal"] "is_alone") (bVar 0))) (jCons (eC (.str ", price=")) (jCons (eFmt (eUn (fldD ["Deal"] "own_price") (bVar 0))) (jCons (eC (.str ")")) jNil))))))) Str.empty (R4 (eP l2 l3 l4 (.tup [.str sa, .int i]) (.tup [.str sb, .int j]) (.int k)) (some (.ow (.lst [.str "'n'", .str "'h'", .str a2, .str a3, .str a4, .str a5, .str a6]))) none none) = .ok (t, R4 (eP l2 l3 l4 (.tup [.str sa, .int i]) (.tup [.str sb, .int j]) (.int k)) (some (.fz (.lst [.str "'n'", .str "'h'", .str a2, .str a3, .str a4, .str a5, .str a6]))) none none) := by
    refine jc_ex (a := 0) (b := 5) (y := "Deal(") ⟨by decide +kernel, by decide +kernel⟩ rfl ⟨by decide +kernel, by decide +kernel⟩ (by decide) fun acc ha => ?_
    refine jc_ex (y := tj) ha (fmt_ok (joinE_ok (r2 := R4 (eP l2 l3 l4 (.tup [.str sa, .int i]) (.tup [.str sb, .int j]) (.int k)) (some (.fz (.lst [.str "'n'", .str "'h'", .str a2, .str a3, .str a4, .str a5, .str a6]))) none none) rfl rfl ej) (if_pos (by have := kj.2; omega))) kj (by decide) fun acc ha => ?_
    refine jc_ex (b := 8) (y := ", alone=") ha rfl ⟨by decide +kernel, by decide +kernel⟩ (by decide) fun acc ha => ?_
    refine jc_ex (b := 4) (y := "True") ha (fmt_ok (d := .bl true) rfl rfl) ⟨by decide +kernel, by decide +kernel⟩ (by decide) fun acc ha => ?_
    refine jc_ex (b := 8) (y := ", price=") ha rfl ⟨by decide +kernel, by decide +kernel⟩ (by decide) fun acc ha => ?_
    refine jc_ex (y := a7) ha (fmt_ok (d := (.int k)) rfl e7) k7 (by decide) fun acc ha => ?_
    refine jc_ex (b := 1) (y := ")") ha rfl ⟨by decide +kernel, by decide +kernel⟩ (by decide) fun acc ha => ⟨acc, ha.1, rfl⟩
  obtain ⟨t, ht, e⟩ := s4
  refine ⟨t, ht, ?_⟩
  have s5 : sRet (eJs (jCons (eC (.str "Deal(")) (jCons (eFmt (eJoin (eC (.str ", ")) (eVar 1))) (jCons (eC (.str ", alone=")) (jCons (eFmt (eUn (fldD ["Deal"] "is_alone") (bVar 0))) (jCons (eC (.str ", price=")) (jCons (eFmt (eUn (fldD ["Deal"] "own_price") (bVar 0))) (jCons (eC (.str ")")) jNil)))))))) (R4 (eP l2 l3 l4 (.tup [.str sa, .int i]) (.tup [.str sb, .int j]) (.int k)) (some (.ow (.lst [.str "'n'", .str "'h'", .str a2, .str a3, .str a4, .str a5, .str a6]))) none none) = .rt (.str t) (R4 (eP l2 l3 l4 (.tup [.str sa, .int i]) (.tup [.str sb, .int j]) (.int k)) (some (.fz (.lst [.str "'n'", .str "'h'", .str a2, .str a3, .str a4, .str a5, .str a6]))) none none) := by
    refine ret_ok ?_
    unfold eJs
    rw [e, bind_ok]
  have L := (seq_nx s1).trans ((seq_nx s2).trans ((seq_nx s3).trans s5))
  exact runF_rt (r0 := R4 (eP l2 l3 l4 (.tup [.str sa, .int i]) (.tup [.str sb, .int j]) (.int k)) none none none) rfl rfl L
end K21

set_option Elab.async false
set_option linter.all false
set_option maxRecDepth 100000
set_option maxHeartbeats 4000000
namespace Dl
open PySem L2
theorem meth_er {f : En → Res (D × En)} {r r1 r2 r' : En} {c m c' : Str} {fs fs' : List (Str × D)} {den : List D → Res D} {g : En → Res (List D × En)} {ds : List D} (h : f r = .ok (.ins c fs, r1)) (hn : hasNo fs m = true) (h2 : g r1 = .ok (ds, r2)) (k : den (.ins c fs :: ds) = .er c' fs' r') : eMeth c m den f g r = .er c' fs' r2 := by
  unfold eMeth
  rw [h, bind_ok]
  show (if c = c ∧ hasNo fs m = true then (g r1).bind fun q => callR (den (.ins c fs :: q.1)) q.2 else .bad) = _
  rw [if_pos ⟨rfl, hn⟩, h2, bind_ok]
  show callR (den (.ins c fs :: ds)) r2 = _
  rw [k]
  rfl
theorem ret_er {f : En → Res (D × En)} {r r1 : En} {c : Str} {fs : List (Str × D)} (h : f r = .er c fs r1) : sRet f r = .er c fs r1 := by
  unfold sRet
  rw [h]
  rfl
theorem and_ok {f g : En → Res (D × En)} {r r1 : En} {z : Res (D × En)} (h : f r = .ok (.bl true, r1)) (k : g r1 = z) : eAnd f g r = z := by
  unfold eAnd
  rw [h, bind_ok]
  exact k
end Dl
namespace K21
open PySem L2 Dl
/-! ### deals made of a deal -/
section
variable {x0 x1 sa sb : Str} {i j k : Int} {b0 : Bool} {nm hs p5 p6 al pr : D} {l2 l3 l4 : List D} {c : Str} {fs : List (Str × D)}
abbrev M8 (s nm hs pts al pr : D) (x6 x7 : Option Sl) : En := [some (.fz s), some (.fz nm), some (.fz hs), some (.fz pts), some (.fz al), some (.fz pr), x6, x7]
theorem mk_meth : eMakeJ "Deal" 7 2 dk_Deal_init_7_alone_price (aCons (eVar 1) (aCons (eVar 2) (aCons (eUn (fldD ["Deal"] "own_films") (bVar 0)) (aCons (eUn (fldD ["Deal"] "own_lands") (bVar 0)) (aCons (eUn (fldD ["Deal"] "own_ways") (bVar 0)) (aCons (eVar 6) (aCons (eVar 7) aNil))))))) (aCons (eVar 4) (aCons (eVar 5) aNil))
    (M8 (eDl (.str x0) (.str x1) l2 l3 l4 (.tup [.str sa, .int i]) (.tup [.str sb, .int j]) (.bl b0) (.int k)) nm hs (.tup [p5, p6]) al pr (some (.fz p5)) (some (.fz p6))) = mkR (ini nm hs (.tup l2) (.tup l3) (.tup l4) p5 p6 al pr) (M8 (eDl (.str x0) (.str x1) l2 l3 l4 (.tup [.str sa, .int i]) (.tup [.str sb, .int j]) (.bl b0) (.int k)) nm hs (.tup [p5, p6]) al pr (some (.fz p5)) (some (.fz p6))) :=
  makeJ_ok (as := [nm, hs, .tup l2, .tup l3, .tup l4, p5, p6]) (zs := [al, pr]) (r1 := M8 (eDl (.str x0) (.str x1) l2 l3 l4 (.tup [.str sa, .int i]) (.tup [.str sb, .int j]) (.bl b0) (.int k)) nm hs (.tup [p5, p6]) al pr (some (.fz p5)) (some (.fz p6))) rfl rfl rfl rfl
theorem mm1 : sAsg (eVar 3) (gTp 2 (gsCons (gNm 6) (gsCons (gNm 7) gsNil))) (M8 (eDl (.str x0) (.str x1) l2 l3 l4 (.tup [.str sa, .int i]) (.tup [.str sb, .int j]) (.bl b0) (.int k)) nm hs (.tup [p5, p6]) al pr none none) = .nx (M8 (eDl (.str x0) (.str x1) l2 l3 l4 (.tup [.str sa, .int i]) (.tup [.str sb, .int j]) (.bl b0) (.int k)) nm hs (.tup [p5, p6]) al pr (some (.fz p5)) (some (.fz p6))) := rfl
theorem mmade_er (h : ∃ r, ini nm hs (.tup l2) (.tup l3) (.tup l4) p5 p6 al pr = .er c fs r) : ∃ r, d_Deal_made [eDl (.str x0) (.str x1) l2 l3 l4 (.tup [.str sa, .int i]) (.tup [.str sb, .int j]) (.bl b0) (.int k), nm, hs, .tup [p5, p6], al, pr] = .er c fs r := by
  obtain ⟨r, h⟩ := h
  refine ⟨M8 (eDl (.str x0) (.str x1) l2 l3 l4 (.tup [.str sa, .int i]) (.tup [.str sb, .int j]) (.bl b0) (.int k)) nm hs (.tup [p5, p6]) al pr (some (.fz p5)) (some (.fz p6)), runF_er (r0 := M8 (eDl (.str x0) (.str x1) l2 l3 l4 (.tup [.str sa, .int i]) (.tup [.str sb, .int j]) (.bl b0) (.int k)) nm hs (.tup [p5, p6]) al pr none none) rfl rfl ?_⟩
  · unfold s_Deal_made
    refine (seq_nx mm1).trans ?_
    unfold s_Deal_made_2
    refine ret_er ?_
    rw [mk_meth, h]
    rfl
theorem mmade_ok {z : D} (h : ini nm hs (.tup l2) (.tup l3) (.tup l4) p5 p6 al pr = .ok (.non, z)) (no : noOwn z = true) : d_Deal_made [eDl (.str x0) (.str x1) l2 l3 l4 (.tup [.str sa, .int i]) (.tup [.str sb, .int j]) (.bl b0) (.int k), nm, hs, .tup [p5, p6], al, pr] = .ok z := by
  refine runF_rt (r0 := M8 (eDl (.str x0) (.str x1) l2 l3 l4 (.tup [.str sa, .int i]) (.tup [.str sb, .int j]) (.bl b0) (.int k)) nm hs (.tup [p5, p6]) al pr none none) (r := M8 (eDl (.str x0) (.str x1) l2 l3 l4 (.tup [.str sa, .int i]) (.tup [.str sb, .int j]) (.bl b0) (.int k)) nm hs (.tup [p5, p6]) al pr (some (.fz p5)) (some (.fz p6))) rfl rfl ?_
  unfold s_Deal_made
  refine (seq_nx mm1).trans ?_
  unfold s_Deal_made_2
  refine ret_ok ?_
  rw [mk_meth, h]
  exact if_pos no
abbrev Y2 (s v : D) : En := [some (.fz s), some (.fz v)]
theorem pts_e {v : D} {f : En → Res (D × En)} {r : En} (h : f r = .ok (eDl (.str x0) (.str x1) l2 l3 l4 (.tup [.str sa, .int i]) (.tup [.str sb, .int j]) (.bl b0) (.int k), r)) : eMeth "Deal" "points" d_Deal_points f aNil r = .ok (.tup [(.tup [.str sa, .int i]), (.tup [.str sb, .int j])], r) :=
  meth_ok (ds := []) h rfl rfl points_ok
theorem named_a {v : D} : aCons (eVar 1) (aCons (eUn (fldD ["Deal"] "own_house") (bVar 0)) (aCons (eMeth "Deal" "points" d_Deal_points (eVar 0) aNil) (aCons (eUn (fldD ["Deal"] "is_alone") (bVar 0)) (aCons (eUn (fldD ["Deal"] "own_price") (bVar 0)) aNil)))) (Y2 (eDl (.str x0) (.str x1) l2 l3 l4 (.tup [.str sa, .int i]) (.tup [.str sb, .int j]) (.bl b0) (.int k)) v) = .ok ([v, (.str x1), .tup [(.tup [.str sa, .int i]), (.tup [.str sb, .int j])], (.bl b0), (.int k)], Y2 (eDl (.str x0) (.str x1) l2 l3 l4 (.tup [.str sa, .int i]) (.tup [.str sb, .int j]) (.bl b0) (.int k)) v) :=
  cons_ok (r1 := Y2 (eDl (.str x0) (.str x1) l2 l3 l4 (.tup [.str sa, .int i]) (.tup [.str sb, .int j]) (.bl b0) (.int k)) v) rfl (cons_ok (d := (.str x1)) (r1 := Y2 (eDl (.str x0) (.str x1) l2 l3 l4 (.tup [.str sa, .int i]) (.tup [.str sb, .int j]) (.bl b0) (.int k)) v) rfl (cons_ok (pts_e (v := v) rfl) rfl))
theorem house_a {v : D} : aCons (eUn (fldD ["Deal"] "own_name") (bVar 0)) (aCons (eVar 1) (aCons (eMeth "Deal" "points" d_Deal_points (eVar 0) aNil) (aCons (eUn (fldD ["Deal"] "is_alone") (bVar 0)) (aCons (eUn (fldD ["Deal"] "own_price") (bVar 0)) aNil)))) (Y2 (eDl (.str x0) (.str x1) l2 l3 l4 (.tup [.str sa, .int i]) (.tup [.str sb, .int j]) (.bl b0) (.int k)) v) = .ok ([(.str x0), v, .tup [(.tup [.str sa, .int i]), (.tup [.str sb, .int j])], (.bl b0), (.int k)], Y2 (eDl (.str x0) (.str x1) l2 l3 l4 (.tup [.str sa, .int i]) (.tup [.str sb, .int j]) (.bl b0) (.int k)) v) :=
  cons_ok (d := (.str x0)) (r1 := Y2 (eDl (.str x0) (.str x1) l2 l3 l4 (.tup [.str sa, .int i]) (.tup [.str sb, .int j]) (.bl b0) (.int k)) v) rfl (cons_ok (d := v) (r1 := Y2 (eDl (.str x0) (.str x1) l2 l3 l4 (.tup [.str sa, .int i]) (.tup [.str sb, .int j]) (.bl b0) (.int k)) v) rfl (cons_ok (pts_e (v := v) rfl) rfl))
theorem priced_a {v : D} : aCons (eUn (fldD ["Deal"] "own_name") (bVar 0)) (aCons (eUn (fldD ["Deal"] "own_house") (bVar 0)) (aCons (eMeth "Deal" "points" d_Deal_points (eVar 0) aNil) (aCons (eUn (fldD ["Deal"] "is_alone") (bVar 0)) (aCons (eVar 1) aNil)))) (Y2 (eDl (.str x0) (.str x1) l2 l3 l4 (.tup [.str sa, .int i]) (.tup [.str sb, .int j]) (.bl b0) (.int k)) v) = .ok ([(.str x0), (.str x1), .tup [(.tup [.str sa, .int i]), (.tup [.str sb, .int j])], (.bl b0), v], Y2 (eDl (.str x0) (.str x1) l2 l3 l4 (.tup [.str sa, .int i]) (.tup [.str sb, .int j]) (.bl b0) (.int k)) v) :=
  cons_ok (d := (.str x0)) (r1 := Y2 (eDl (.str x0) (.str x1) l2 l3 l4 (.tup [.str sa, .int i]) (.tup [.str sb, .int j]) (.bl b0) (.int k)) v) rfl (cons_ok (d := (.str x1)) (r1 := Y2 (eDl (.str x0) (.str x1) l2 l3 l4 (.tup [.str sa, .int i]) (.tup [.str sb, .int j]) (.bl b0) (.int k)) v) rfl (cons_ok (pts_e (v := v) rfl) rfl))
theorem named_er {v : D} (h : ∃ r, ini v (.str x1) (.tup l2) (.tup l3) (.tup l4) (.tup [.str sa, .int i]) (.tup [.str sb, .int j]) (.bl b0) (.int k) = .er c fs r) : ∃ r, d_Deal_named [eDl (.str x0) (.str x1) l2 l3 l4 (.tup [.str sa, .int i]) (.tup [.str sb, .int j]) (.bl b0) (.int k), v] = .er c fs r := by
  obtain ⟨r, h⟩ := mmade_er (x0 := x0) (x1 := x1) (sa := sa) (sb := sb) (i := i) (j := j) (b0 := b0) (k := k) h
  refine ⟨Y2 (eDl (.str x0) (.str x1) l2 l3 l4 (.tup [.str sa, .int i]) (.tup [.str sb, .int j]) (.bl b0) (.int k)) v, runF_er (r0 := Y2 (eDl (.str x0) (.str x1) l2 l3 l4 (.tup [.str sa, .int i]) (.tup [.str sb, .int j]) (.bl b0) (.int k)) v) rfl rfl ?_⟩
  · unfold s_Deal_named
    exact ret_er (meth_er (r1 := Y2 (eDl (.str x0) (.str x1) l2 l3 l4 (.tup [.str sa, .int i]) (.tup [.str sb, .int j]) (.bl b0) (.int k)) v) rfl rfl named_a h)
theorem named_ok {v z : D} (h : ini v (.str x1) (.tup l2) (.tup l3) (.tup l4) (.tup [.str sa, .int i]) (.tup [.str sb, .int j]) (.bl b0) (.int k) = .ok (.non, z)) (no : noOwn z = true) : d_Deal_named [eDl (.str x0) (.str x1) l2 l3 l4 (.tup [.str sa, .int i]) (.tup [.str sb, .int j]) (.bl b0) (.int k), v] = .ok z := by
  refine runF_rt (r0 := Y2 (eDl (.str x0) (.str x1) l2 l3 l4 (.tup [.str sa, .int i]) (.tup [.str sb, .int j]) (.bl b0) (.int k)) v) (r := Y2 (eDl (.str x0) (.str x1) l2 l3 l4 (.tup [.str sa, .int i]) (.tup [.str sb, .int j]) (.bl b0) (.int k)) v) rfl rfl ?_
  unfold s_Deal_named
  exact ret_ok (meth_ok (r1 := Y2 (eDl (.str x0) (.str x1) l2 l3 l4 (.tup [.str sa, .int i]) (.tup [.str sb, .int j]) (.bl b0) (.int k)) v) rfl rfl named_a (mmade_ok h no))
theorem house_er {v : D} (h : ∃ r, ini (.str x0) v (.tup l2) (.tup l3) (.tup l4) (.tup [.str sa, .int i]) (.tup [.str sb, .int j]) (.bl b0) (.int k) = .er c fs r) : ∃ r, d_Deal_of_house [eDl (.str x0) (.str x1) l2 l3 l4 (.tup [.str sa, .int i]) (.tup [.str sb, .int j]) (.bl b0) (.int k), v] = .er c fs r := by
  obtain ⟨r, h⟩ := mmade_er (x0 := x0) (x1 := x1) (sa := sa) (sb := sb) (i := i) (j := j) (b0 := b0) (k := k) h
  refine ⟨Y2 (eDl (.str x0) (.str x1) l2 l3 l4 (.tup [.str sa, .int i]) (.tup [.str sb, .int j]) (.bl b0) (.int k)) v, runF_er (r0 := Y2 (eDl (.str x0) (.str x1) l2 l3 l4 (.tup [.str sa, .int i]) (.tup [.str sb, .int j]) (.bl b0) (.int k)) v) rfl rfl ?_⟩
  · unfold s_Deal_of_house
    exact ret_er (meth_er (r1 := Y2 (eDl (.str x0) (.str x1) l2 l3 l4 (.tup [.str sa, .int i]) (.tup [.str sb, .int j]) (.bl b0) (.int k)) v) rfl rfl house_a h)
theorem priced_er {v : D} (h : ∃ r, ini (.str x0) (.str x1) (.tup l2) (.tup l3) (.tup l4) (.tup [.str sa, .int i]) (.tup [.str sb, .int j]) (.bl b0) v = .er c fs r) : ∃ r, d_Deal_priced [eDl (.str x0) (.str x1) l2 l3 l4 (.tup [.str sa, .int i]) (.tup [.str sb, .int j]) (.bl b0) (.int k), v] = .er c fs r := by
  obtain ⟨r, h⟩ := mmade_er (x0 := x0) (x1 := x1) (sa := sa) (sb := sb) (i := i) (j := j) (b0 := b0) (k := k) h
  refine ⟨Y2 (eDl (.str x0) (.str x1) l2 l3 l4 (.tup [.str sa, .int i]) (.tup [.str sb, .int j]) (.bl b0) (.int k)) v, runF_er (r0 := Y2 (eDl (.str x0) (.str x1) l2 l3 l4 (.tup [.str sa, .int i]) (.tup [.str sb, .int j]) (.bl b0) (.int k)) v) rfl rfl ?_⟩
  · unfold s_Deal_priced
    exact ret_er (meth_er (r1 := Y2 (eDl (.str x0) (.str x1) l2 l3 l4 (.tup [.str sa, .int i]) (.tup [.str sb, .int j]) (.bl b0) (.int k)) v) rfl rfl priced_a h)
theorem priced_ok {v z : D} (h : ini (.str x0) (.str x1) (.tup l2) (.tup l3) (.tup l4) (.tup [.str sa, .int i]) (.tup [.str sb, .int j]) (.bl b0) v = .ok (.non, z)) (no : noOwn z = true) : d_Deal_priced [eDl (.str x0) (.str x1) l2 l3 l4 (.tup [.str sa, .int i]) (.tup [.str sb, .int j]) (.bl b0) (.int k), v] = .ok z := by
  refine runF_rt (r0 := Y2 (eDl (.str x0) (.str x1) l2 l3 l4 (.tup [.str sa, .int i]) (.tup [.str sb, .int j]) (.bl b0) (.int k)) v) (r := Y2 (eDl (.str x0) (.str x1) l2 l3 l4 (.tup [.str sa, .int i]) (.tup [.str sb, .int j]) (.bl b0) (.int k)) v) rfl rfl ?_
  unfold s_Deal_priced
  exact ret_ok (meth_ok (r1 := Y2 (eDl (.str x0) (.str x1) l2 l3 l4 (.tup [.str sa, .int i]) (.tup [.str sb, .int j]) (.bl b0) (.int k)) v) rfl rfl priced_a (mmade_ok h no))
abbrev V5 (s v : D) (x2 x3 x4 : Option Sl) : En := [some (.fz s), some (.fz v), x2, x3, x4]
theorem moved_er {v : D} (h : d_is_integer [v] = .ok (.bl false)) : ∃ r, d_Deal_moved [eDl (.str x0) (.str x1) l2 l3 l4 (.tup [.str sa, .int i]) (.tup [.str sb, .int j]) (.bl b0) (.int k), v] = .er "InvalidNumber" [("value", v)] r := by
  refine ⟨V5 (eDl (.str x0) (.str x1) l2 l3 l4 (.tup [.str sa, .int i]) (.tup [.str sb, .int j]) (.bl b0) (.int k)) v none none none, runF_er (r0 := V5 (eDl (.str x0) (.str x1) l2 l3 l4 (.tup [.str sa, .int i]) (.tup [.str sb, .int j]) (.bl b0) (.int k)) v none none none) rfl rfl ?_⟩
  unfold s_Deal_moved
  refine seq_er ?_
  unfold s_Deal_moved_1
  exact (sif_t (tnot_ok (bb := false) (tof_ok (call_ok (ds := [v]) (r1 := V5 (eDl (.str x0) (.str x1) l2 l3 l4 (.tup [.str sa, .int i]) (.tup [.str sb, .int j]) (.bl b0) (.int k)) v none none none) rfl h)))).trans (raise_ok (ds := [v]) rfl rfl)
theorem moved_ok {z : D} {a b : Str} {i j : Int} (h : ini (.str x0) (.str x1) (.tup l2) (.tup l3) (.tup l4) (.tup [.str a, .int (i + -1)]) (.tup [.str b, .int (j + -1)]) (.bl b0) (.int k) = .ok (.non, z)) (no : noOwn z = true) :
    d_Deal_moved [eDl (.str x0) (.str x1) l2 l3 l4 (.tup [.str a, .int i]) (.tup [.str b, .int j]) (.bl b0) (.int k), .int (-1)] = .ok z := by
  have s1 : s_Deal_moved_1 (V5 (eDl (.str x0) (.str x1) l2 l3 l4 (.tup [.str a, .int i]) (.tup [.str b, .int j]) (.bl b0) (.int k)) (.int (-1)) none none none) = .nx (V5 (eDl (.str x0) (.str x1) l2 l3 l4 (.tup [.str a, .int i]) (.tup [.str b, .int j]) (.bl b0) (.int k)) (.int (-1)) none none none) := by
    unfold s_Deal_moved_1
    exact (sif_f (tnot_ok (bb := true) (tof_ok (call_ok (ds := [.int (-1)]) (r1 := V5 (eDl (.str x0) (.str x1) l2 l3 l4 (.tup [.str a, .int i]) (.tup [.str b, .int j]) (.bl b0) (.int k)) (.int (-1)) none none none) rfl (by kernel_rfl))))).trans rfl
  have e1 : e_Deal_moved_1 (V5 (eDl (.str x0) (.str x1) l2 l3 l4 (.tup [.str a, .int i]) (.tup [.str b, .int j]) (.bl b0) (.int k)) (.int (-1)) none none none) = .ok (.lst [.tup [.str a, .int (i + -1)], .tup [.str b, .int (j + -1)]], V5 (eDl (.str x0) (.str x1) l2 l3 l4 (.tup [.str a, .int i]) (.tup [.str b, .int j]) (.bl b0) (.int k)) (.int (-1)) none none none) := by
    unfold e_Deal_moved_1
    refine (elc_run (l := [.tup [.str a, .int i], .tup [.str b, .int j]]) (zs := [.tup [.str a, .int (i + -1)], .tup [.str b, .int (j + -1)]]) (r0 := V5 (eDl (.str x0) (.str x1) l2 l3 l4 (.tup [.str a, .int i]) (.tup [.str b, .int j]) (.bl b0) (.int k)) (.int (-1)) none none none) (r1 := V5 (eDl (.str x0) (.str x1) l2 l3 l4 (.tup [.str a, .int i]) (.tup [.str b, .int j]) (.bl b0) (.int k)) (.int (-1)) none none none) ?_ (by simp) ?_).trans rfl
    · unfold iSeq
      rw [pts_e (x0 := x0) (x1 := x1) (l2 := l2) (l3 := l3) (l4 := l4) (sa := a) (sb := b) (i := i) (j := j) (b0 := b0) (k := k) (v := .non) rfl]
      rfl
    · exact (lc_step (g := gTp 2 (gsCons (gNm 3) (gsCons (gNm 4) gsNil))) (d := .tup [.str a, .int i]) (z := .tup [.str a, .int (i + -1)]) (r := V5 (eDl (.str x0) (.str x1) l2 l3 l4 (.tup [.str a, .int i]) (.tup [.str b, .int j]) (.bl b0) (.int k)) (.int (-1)) none none none) (r1 := V5 (eDl (.str x0) (.str x1) l2 l3 l4 (.tup [.str a, .int i]) (.tup [.str b, .int j]) (.bl b0) (.int k)) (.int (-1)) none (some (.fz (.str a))) (some (.fz (.int i)))) (r3 := V5 (eDl (.str x0) (.str x1) l2 l3 l4 (.tup [.str a, .int i]) (.tup [.str b, .int j]) (.bl b0) (.int k)) (.int (-1)) none (some (.fz (.str a))) (some (.fz (.int i)))) rfl rfl).trans
        ((lc_step (g := gTp 2 (gsCons (gNm 3) (gsCons (gNm 4) gsNil))) (d := .tup [.str b, .int j]) (z := .tup [.str b, .int (j + -1)]) (r := V5 (eDl (.str x0) (.str x1) l2 l3 l4 (.tup [.str a, .int i]) (.tup [.str b, .int j]) (.bl b0) (.int k)) (.int (-1)) none none none) (r1 := V5 (eDl (.str x0) (.str x1) l2 l3 l4 (.tup [.str a, .int i]) (.tup [.str b, .int j]) (.bl b0) (.int k)) (.int (-1)) none (some (.fz (.str b))) (some (.fz (.int j)))) (r3 := V5 (eDl (.str x0) (.str x1) l2 l3 l4 (.tup [.str a, .int i]) (.tup [.str b, .int j]) (.bl b0) (.int k)) (.int (-1)) none (some (.fz (.str b))) (some (.fz (.int j)))) rfl rfl).trans rfl)
  have s2 : sSet 2 (eUn tupleD (bOf e_Deal_moved_1)) (V5 (eDl (.str x0) (.str x1) l2 l3 l4 (.tup [.str a, .int i]) (.tup [.str b, .int j]) (.bl b0) (.int k)) (.int (-1)) none none none) = .nx (V5 (eDl (.str x0) (.str x1) l2 l3 l4 (.tup [.str a, .int i]) (.tup [.str b, .int j]) (.bl b0) (.int k)) (.int (-1)) (some (.fz (.tup [.tup [.str a, .int (i + -1)], .tup [.str b, .int (j + -1)]]))) none none) :=
    (set_ok (i := 2) (un_ok (g := tupleD) (z := .tup [.tup [.str a, .int (i + -1)], .tup [.str b, .int (j + -1)]]) (bof_ok e1) rfl rfl)).trans rfl
  refine runF_rt (r0 := V5 (eDl (.str x0) (.str x1) l2 l3 l4 (.tup [.str a, .int i]) (.tup [.str b, .int j]) (.bl b0) (.int k)) (.int (-1)) none none none) (r := V5 (eDl (.str x0) (.str x1) l2 l3 l4 (.tup [.str a, .int i]) (.tup [.str b, .int j]) (.bl b0) (.int k)) (.int (-1)) (some (.fz (.tup [.tup [.str a, .int (i + -1)], .tup [.str b, .int (j + -1)]]))) none none) rfl rfl ?_
  unfold s_Deal_moved
  refine (seq_nx s1).trans ((seq_nx s2).trans ?_)
  exact ret_ok (meth_ok (ds := [(.str x0), (.str x1), .tup [.tup [.str a, .int (i + -1)], .tup [.str b, .int (j + -1)]], (.bl b0), (.int k)]) (r1 := V5 (eDl (.str x0) (.str x1) l2 l3 l4 (.tup [.str a, .int i]) (.tup [.str b, .int j]) (.bl b0) (.int k)) (.int (-1)) (some (.fz (.tup [.tup [.str a, .int (i + -1)], .tup [.str b, .int (j + -1)]]))) none none) rfl rfl rfl (mmade_ok h no))
end
end K21

set_option Elab.async false
set_option linter.all false
set_option maxRecDepth 100000
set_option maxHeartbeats 4000000
namespace K21
open PySem L2 Dl
/-! ### derived deals -/
theorem heard_m {den : List D → Res D} {m : Str} {fa : En → Res (D × En)} {fs : List (Str × D)} {v due : D} {r : En} (hn : hasNo fs m = true) (h1 : (frzOnly r)[1]? = some (some (.fz (.ins "Deal" fs)))) (ha : fa (frzOnly r) = .ok (v, frzOnly r))
    (h : (∃ c gs, (∃ r, den [.ins "Deal" fs, v] = .er c gs r) ∧ h_lheard (.er c gs []) = some due) ∨ ((∃ z, den [.ins "Deal" fs, v] = .ok z) ∧ due = told)) : eHeard h_lheard (eMeth "Deal" m den (eVar 1) (aCons fa aNil)) r = .ok (due, r) := by
  have a : aCons fa aNil (frzOnly r) = .ok ([v], frzOnly r) := cons_ok ha rfl
  rcases h with ⟨c, gs, ⟨r', h⟩, k⟩ | ⟨⟨z, h⟩, rfl⟩
  · have e := meth_er (m := m) (eVar_fz h1) hn a h
    unfold eHeard
    simp only [e]
    have q : resD (Res.er (α := D × En) c gs (frzOnly r)) = .er c gs [] := rfl
    rw [q, k]
  · have e := meth_ok (m := m) (eVar_fz h1) hn a h
    unfold eHeard
    simp only [e]
    have q : resD (Res.ok (z, frzOnly r)) = .ok z := rfl
    rw [q, hr_ok]
abbrev odd2 : List D := [.non, .bl true, .str "1", .lst [], .tup [.int 2], .dk []]
theorem od2 : ∀ d ∈ odd2, d_is_count [d] = .ok (.bl false) ∧ d_is_integer [d] = .ok (.bl false) ∧ ∃ s, Sh d s := by
  intro d hd
  simp only [odd2, List.mem_cons, List.not_mem_nil, or_false] at hd
  rcases hd with rfl | rfl | rfl | rfl | rfl | rfl <;> exact ⟨by kernel_rfl, by kernel_rfl, sh_b (by kernel_rfl)⟩
theorem cnt_neg : d_is_count [.int (-1)] = .ok (.bl false) := by kernel_rfl
theorem nm_q : d_want_name [.str "q"] = .ok .non := by kernel_rfl
theorem glT_ok : ∀ n, n < 4 → d_want_names [.tup (gl (n + 1))] = .ok .non ∧ Srt (.tup (gl (n + 1))) (gl (n + 1)) := by
  intro n hn
  have : n = 0 ∨ n = 1 ∨ n = 2 ∨ n = 3 := by omega
  rcases this with rfl | rfl | rfl | rfl <;> exact ⟨by kernel_rfl, srt_ofT (by kernel_rfl) (by kernel_rfl) (by kernel_rfl) (by decide) (pwB (by kernel_rfl))⟩
theorem gl_len {n : Nat} (h : n < 4) : (gl (n + 1)).length = n + 1 := by
  have : n = 0 ∨ n = 1 ∨ n = 2 ∨ n = 3 := by omega
  rcases this with rfl | rfl | rfl | rfl <;> rfl
theorem goodP_mv : ∀ q ∈ goodP, ∃ (a b : Str) (i j : Int), q = (.tup [.str a, .int i], .tup [.str b, .int j]) ∧ d_want_points [.tup [.str a, .int (i + -1)], .tup [.str b, .int (j + -1)]] = .ok .non := by
  intro q hq
  simp only [goodP, List.mem_cons, List.not_mem_nil, or_false] at hq
  rcases hq with rfl | rfl | rfl | rfl | rfl | rfl | rfl | rfl | rfl | rfl | rfl | rfl <;> exact ⟨_, _, _, _, rfl, by kernel_rfl⟩
theorem tx2_ne {k s : Str} (hk : PyData.strOk k = true) (hs : PyData.strOk s = true) : neD (.lst [tx k s, tx k s]) (.lst [tx k s, tx k s]) = some (.bl false) := by
  have o : okPy (.lst [tx k s, tx k s]) = true := by
    simp [okPy, isData, toPy, toPyL, SeqAt.shaped, isDataL, hk, hs, PyData.canLay0, PyData.canLayAll0, PyData.depth, PyData.depthAll]
  have e : PyData.eqv (toPy (.lst [tx k s, tx k s])) (toPy (.lst [tx k s, tx k s])) = true := by
    simp [toPy, toPyL, PyData.eqv, PyData.eqvAll]
  show (if okPy (.lst [tx k s, tx k s]) = true ∧ okPy (.lst [tx k s, tx k s]) = true then some (D.bl (!PyData.eqv (toPy (.lst [tx k s, tx k s])) (toPy (.lst [tx k s, tx k s])))) else none) = _
  rw [if_pos ⟨o, o⟩, e]
  rfl
theorem str_eq {s : Str} (hs : PyData.strOk s = true) : eqD (.str s) (.str s) = some (.bl true) := by
  simp [eqD]
theorem told3 : eqD (.lst [told, told, told]) (.lst [told, told, told]) = some (.bl true) := by kernel_rfl
section
variable {pot P d : D} {s k : Str} {x3 x4 x5 : Option Sl}
/-- what both are held against -/
theorem txs (h : rp d = some (.str s)) : eBin repD (bOf (eLst (aCons (eLst (aCons (eC (.str k)) (aCons (eUn (orU (orU (orU reprB reprD) reprK) reprS) (bVar 2)) (aCons (eC (.bl true)) aNil)))) aNil))) (bOf (eC (.int 2))) (B6 pot (some (.fz P)) (some (.fz d)) x3 x4 x5) = .ok (.lst [tx k s, tx k s], B6 pot (some (.fz P)) (some (.fz d)) x3 x4 x5) := by
  have u : eUn (orU (orU (orU reprB reprD) reprK) reprS) (bVar 2) (B6 pot (some (.fz P)) (some (.fz d)) x3 x4 x5) = .ok (.str s, B6 pot (some (.fz P)) (some (.fz d)) x3 x4 x5) := un_ok (a := .sl 2) rfl rfl h
  exact bin_ok (b := .fz (.int 2)) (bof_ok (lst_ok (cons_ok (lst_ok (cons_ok (f := eC (.str k)) (d := .str k) (r1 := B6 pot (some (.fz P)) (some (.fz d)) x3 x4 x5) rfl (cons_ok u (cons_ok (f := eC (.bl true)) (d := .bl true) (r1 := B6 pot (some (.fz P)) (some (.fz d)) x3 x4 x5) rfl rfl))) (by simp)) rfl) (by simp))) rfl rfl rfl rfl
end
theorem reprO_ok {r : En} {i : Nat} {fs : List (Str × D)} {t : Str} (h : r[i]? = some (some (.fz (.ins "Deal" fs)))) (e : d_Deal_repr [.ins "Deal" fs] = .ok (.str t)) : eReprO "Deal" d_Deal_repr (eVar i) r = .ok (.str t, r) := by
  unfold eReprO
  rw [eVar_fz h, bind_ok]
  simp only [if_true]
  rw [e]
  rfl
theorem derivedQ {pot : D} {a b c : Nat} {sa sb : Str} {i j k : Int} (hv : VP pot) (ha : a < 4) (hb : b < 4) (hc : c < 3) (hq : ((.tup [.str sa, .int i], .tup [.str sb, .int j]) : D × D) ∈ goodP) (hw : d_want_points [.tup [.str sa, .int (i + -1)], .tup [.str sb, .int (j + -1)]] = .ok .non) (hn : (D.int k) ∈ goodN) :
    ∃ pot', b_lderived_right pot [eP (gl (a + 1)) (gl (b + 1)) (gl (c + 1)) (.tup [.str sa, .int i]) (.tup [.str sb, .int j]) (.int k)] = .ok (.bl true, pot') ∧ VP pot' := by
  obtain ⟨t, ht, et⟩ := reprF (l2 := gl (a + 1)) (l3 := gl (b + 1)) (l4 := gl (c + 1)) (sa := sa) (sb := sb) (i := i) (j := j) (k := k) ⟨gl_sh a ha, gl_sh b hb, gl_sh c (by omega), (q_sh _ hq).1, (q_sh _ hq).2, n_sh _ hn⟩
  have w2 := glT_ok a ha
  have w3 := glT_ok b hb
  have w4 := glT_ok c (by omega)
  have g5 : ∀ {nm hs : D}, d_want_name [nm] = .ok .non → d_want_name [hs] = .ok .non → G5 nm hs (.tup (gl (a + 1))) (.tup (gl (b + 1))) (.tup (gl (c + 1))) (.tup [.str sa, .int i]) (.tup [.str sb, .int j]) := fun h0 h1 => ⟨h0, h1, w2.1, w3.1, w4.1, (goodP_ok _ hq).1⟩
  have f2 := (few (d := .tup (gl (a + 1))) (n := (gl (a + 1)).length) (m := 4) (w := "films") rfl).1 (by rw [gl_len ha]; omega)
  have f3 := (few (d := .tup (gl (b + 1))) (n := (gl (b + 1)).length) (m := 4) (w := "lands") rfl).1 (by rw [gl_len hb]; omega)
  have f4 := (few (d := .tup (gl (c + 1))) (n := (gl (c + 1)).length) (m := 3) (w := "ways") rfl).1 (by rw [gl_len (by omega)]; omega)
  obtain ⟨od, p1, e1, ho, v1⟩ := odd_nameF hv
  obtain ⟨bo, s, hs, hso⟩ := bd_name od ho
  obtain ⟨o2, p2, e2, ho2, v2⟩ := pickG (f := fun d : D => d) (l := odd2) v1 (by simp) (by simp)
  obtain ⟨oc, oi, s2, hs2, hso2⟩ := od2 o2 ho2
  have okn : ∀ {x0 : Str}, noOwn (eDl (.str x0) (.str "h") (gl (a + 1)) (gl (b + 1)) (gl (c + 1)) (.tup [.str sa, .int i]) (.tup [.str sb, .int j]) (.bl true) (.int k)) = true := fun {x0} => own_no rfl hq hn
  have ok0 : noOwn (eDl (.str "n") (.str "h") (gl (a + 1)) (gl (b + 1)) (gl (c + 1)) (.tup [.str sa, .int i]) (.tup [.str sb, .int j]) (.bl true) (.int 0)) = true := own_no rfl hq (by simp [goodN])
  have t1 : sAsg (eTup (aCons (eCallB b_lodd_name 0 aNil) (aCons (eReprO "Deal" d_Deal_repr (eVar 1)) aNil))) (gTp 2 (gsCons (gNm 2) (gsCons (gNm 3) gsNil))) (B6 pot (some (.fz (eP (gl (a + 1)) (gl (b + 1)) (gl (c + 1)) (.tup [.str sa, .int i]) (.tup [.str sb, .int j]) (.int k)))) none none none none) = .nx (B6 p1 (some (.fz (eP (gl (a + 1)) (gl (b + 1)) (gl (c + 1)) (.tup [.str sa, .int i]) (.tup [.str sb, .int j]) (.int k)))) (some (.fz od)) (some (.fz (.str t))) none none) :=
    asg_ok (d := .tup [od, .str t]) (tup_ok (cons_ok (callB0 (ds := []) (pot1 := pot) rfl e1) (cons_ok (reprO_ok rfl et) rfl)) (by simp)) rfl
  have h1 : ∀ {x3 x4 x5 : Option Sl}, eHeard h_lheard l_lderived_right_1 (B6 p1 (some (.fz (eP (gl (a + 1)) (gl (b + 1)) (gl (c + 1)) (.tup [.str sa, .int i]) (.tup [.str sb, .int j]) (.int k)))) (some (.fz od)) x3 x4 x5) = .ok (tx "name" s, B6 p1 (some (.fz (eP (gl (a + 1)) (gl (b + 1)) (gl (c + 1)) (.tup [.str sa, .int i]) (.tup [.str sb, .int j]) (.int k)))) (some (.fz od)) x3 x4 x5) := by
    intro x3 x4 x5
    unfold l_lderived_right_1
    exact heard_m rfl rfl (eVar_fz rfl) (.inl ⟨_, _, named_er (ini0 (er_ex bo)), hr_name hs⟩)
  have h2 : ∀ {x3 x4 x5 : Option Sl}, eHeard h_lheard l_lderived_right_2 (B6 p1 (some (.fz (eP (gl (a + 1)) (gl (b + 1)) (gl (c + 1)) (.tup [.str sa, .int i]) (.tup [.str sb, .int j]) (.int k)))) (some (.fz od)) x3 x4 x5) = .ok (tx "name" s, B6 p1 (some (.fz (eP (gl (a + 1)) (gl (b + 1)) (gl (c + 1)) (.tup [.str sa, .int i]) (.tup [.str sb, .int j]) (.int k)))) (some (.fz od)) x3 x4 x5) := by
    intro x3 x4 x5
    unfold l_lderived_right_2
    exact heard_m rfl rfl (eVar_fz rfl) (.inl ⟨_, _, house_er (ini1 nm_n (er_ex bo)), hr_name hs⟩)
  have t2 : sOwn 4 (eLst (aCons (eHeard h_lheard l_lderived_right_1) aNil)) (B6 p1 (some (.fz (eP (gl (a + 1)) (gl (b + 1)) (gl (c + 1)) (.tup [.str sa, .int i]) (.tup [.str sb, .int j]) (.int k)))) (some (.fz od)) (some (.fz (.str t))) none none) = .nx (B6 p1 (some (.fz (eP (gl (a + 1)) (gl (b + 1)) (gl (c + 1)) (.tup [.str sa, .int i]) (.tup [.str sb, .int j]) (.int k)))) (some (.fz od)) (some (.fz (.str t))) (some (.ow (.lst [tx "name" s]))) none) :=
    (own_ok (lst_ok (cons_ok h1 rfl) (by simp))).trans rfl
  have t3 : sAppend 4 (eHeard h_lheard l_lderived_right_2) (B6 p1 (some (.fz (eP (gl (a + 1)) (gl (b + 1)) (gl (c + 1)) (.tup [.str sa, .int i]) (.tup [.str sb, .int j]) (.int k)))) (some (.fz od)) (some (.fz (.str t))) (some (.ow (.lst [tx "name" s]))) none) = .nx (B6 p1 (some (.fz (eP (gl (a + 1)) (gl (b + 1)) (gl (c + 1)) (.tup [.str sa, .int i]) (.tup [.str sb, .int j]) (.int k)))) (some (.fz od)) (some (.fz (.str t))) (some (.ow (.lst [tx "name" s, tx "name" s]))) none) :=
    (append_ok (s := .ow (.lst [tx "name" s])) (s1 := .ow (.lst [tx "name" s])) rfl rfl rfl h2 rfl rfl rfl (by simp)).trans rfl
  have t4 : s_lderived_right_4 (B6 p1 (some (.fz (eP (gl (a + 1)) (gl (b + 1)) (gl (c + 1)) (.tup [.str sa, .int i]) (.tup [.str sb, .int j]) (.int k)))) (some (.fz od)) (some (.fz (.str t))) (some (.ow (.lst [tx "name" s, tx "name" s]))) none) = .nx (B6 p1 (some (.fz (eP (gl (a + 1)) (gl (b + 1)) (gl (c + 1)) (.tup [.str sa, .int i]) (.tup [.str sb, .int j]) (.int k)))) (some (.fz od)) (some (.fz (.str t))) (some (.ow (.lst [tx "name" s, tx "name" s]))) none) := by
    unfold s_lderived_right_4
    exact (sif_f (tof_ok (bin_ok (a := .sl 4) (r1 := B6 p1 (some (.fz (eP (gl (a + 1)) (gl (b + 1)) (gl (c + 1)) (.tup [.str sa, .int i]) (.tup [.str sb, .int j]) (.int k)))) (some (.fz od)) (some (.fz (.str t))) (some (.ow (.lst [tx "name" s, tx "name" s]))) none) rfl (bof_ok (txs hs)) rfl rfl (tx2_ne (by decide +kernel) hso)))).trans rfl
  have t5 : sSet 2 (eCallB b_lpick 0 (aCons (eLst (aCons (eC .non) (aCons (eC (.bl true)) (aCons (eC (.str "1")) (aCons (eLst aNil) (aCons (eTup (aCons (eC (.int 2)) aNil)) (aCons eDict0 aNil))))))) aNil)) (B6 p1 (some (.fz (eP (gl (a + 1)) (gl (b + 1)) (gl (c + 1)) (.tup [.str sa, .int i]) (.tup [.str sb, .int j]) (.int k)))) (some (.fz od)) (some (.fz (.str t))) (some (.ow (.lst [tx "name" s, tx "name" s]))) none) = .nx (B6 p2 (some (.fz (eP (gl (a + 1)) (gl (b + 1)) (gl (c + 1)) (.tup [.str sa, .int i]) (.tup [.str sb, .int j]) (.int k)))) (some (.fz o2)) (some (.fz (.str t))) (some (.ow (.lst [tx "name" s, tx "name" s]))) none) :=
    (set_ok (callB0 (ds := [.lst odd2]) (pot1 := p1) rfl e2)).trans rfl
  have h3 : ∀ {x3 x4 x5 : Option Sl}, eHeard h_lheard l_lderived_right_3 (B6 p2 (some (.fz (eP (gl (a + 1)) (gl (b + 1)) (gl (c + 1)) (.tup [.str sa, .int i]) (.tup [.str sb, .int j]) (.int k)))) (some (.fz o2)) x3 x4 x5) = .ok (tx "number" s2, B6 p2 (some (.fz (eP (gl (a + 1)) (gl (b + 1)) (gl (c + 1)) (.tup [.str sa, .int i]) (.tup [.str sb, .int j]) (.int k)))) (some (.fz o2)) x3 x4 x5) := by
    intro x3 x4 x5
    unfold l_lderived_right_3
    exact heard_m rfl rfl (eVar_fz rfl) (.inl ⟨_, _, priced_er (ini4 (g5 nm_n nm_h) oc), hr_number hs2⟩)
  have h4 : ∀ {x3 x4 x5 : Option Sl}, eHeard h_lheard l_lderived_right_4 (B6 p2 (some (.fz (eP (gl (a + 1)) (gl (b + 1)) (gl (c + 1)) (.tup [.str sa, .int i]) (.tup [.str sb, .int j]) (.int k)))) (some (.fz o2)) x3 x4 x5) = .ok (tx "number" s2, B6 p2 (some (.fz (eP (gl (a + 1)) (gl (b + 1)) (gl (c + 1)) (.tup [.str sa, .int i]) (.tup [.str sb, .int j]) (.int k)))) (some (.fz o2)) x3 x4 x5) := by
    intro x3 x4 x5
    unfold l_lderived_right_4
    exact heard_m rfl rfl (eVar_fz rfl) (.inl ⟨_, _, moved_er oi, hr_number hs2⟩)
  have h5 : ∀ {x3 x4 x5 : Option Sl}, eHeard h_lheard l_lderived_right_5 (B6 p2 (some (.fz (eP (gl (a + 1)) (gl (b + 1)) (gl (c + 1)) (.tup [.str sa, .int i]) (.tup [.str sb, .int j]) (.int k)))) (some (.fz o2)) x3 x4 x5) = .ok (tx "number" "-1", B6 p2 (some (.fz (eP (gl (a + 1)) (gl (b + 1)) (gl (c + 1)) (.tup [.str sa, .int i]) (.tup [.str sb, .int j]) (.int k)))) (some (.fz o2)) x3 x4 x5) := by
    intro x3 x4 x5
    unfold l_lderived_right_5
    exact heard_m (v := .int (-1)) rfl rfl rfl (.inl ⟨_, _, priced_er (ini4 (g5 nm_n nm_h) cnt_neg), hr_number rp_1⟩)
  have h6 : ∀ {x3 x4 x5 : Option Sl}, eHeard h_lheard l_lderived_right_6 (B6 p2 (some (.fz (eP (gl (a + 1)) (gl (b + 1)) (gl (c + 1)) (.tup [.str sa, .int i]) (.tup [.str sb, .int j]) (.int k)))) (some (.fz o2)) x3 x4 x5) = .ok (told, B6 p2 (some (.fz (eP (gl (a + 1)) (gl (b + 1)) (gl (c + 1)) (.tup [.str sa, .int i]) (.tup [.str sb, .int j]) (.int k)))) (some (.fz o2)) x3 x4 x5) := by
    intro x3 x4 x5
    unfold l_lderived_right_6
    refine heard_m (v := .int (-1)) rfl rfl rfl (.inr ⟨?_, rfl⟩)
    refine ⟨_, moved_ok (ini_ok (t2 := gl (a + 1)) (t3 := gl (b + 1)) (t4 := gl (c + 1)) ⟨nm_n, nm_h, w2.1, w3.1, w4.1, hw⟩ (goodN_ok _ hn) f2 f3 f4 w2.2 w3.2 w4.2) ?_⟩
    rfl
  have h7 : ∀ {x3 x4 x5 : Option Sl}, eHeard h_lheard l_lderived_right_7 (B6 p2 (some (.fz (eP (gl (a + 1)) (gl (b + 1)) (gl (c + 1)) (.tup [.str sa, .int i]) (.tup [.str sb, .int j]) (.int k)))) (some (.fz o2)) x3 x4 x5) = .ok (told, B6 p2 (some (.fz (eP (gl (a + 1)) (gl (b + 1)) (gl (c + 1)) (.tup [.str sa, .int i]) (.tup [.str sb, .int j]) (.int k)))) (some (.fz o2)) x3 x4 x5) := by
    intro x3 x4 x5
    unfold l_lderived_right_7
    exact heard_m (v := .int 0) rfl rfl rfl (.inr ⟨⟨_, priced_ok (ini_ok (g5 nm_n nm_h) (goodN_ok (.int 0) (by simp [goodN])) f2 f3 f4 w2.2 w3.2 w4.2) ok0⟩, rfl⟩)
  have h8 : ∀ {x3 x4 x5 : Option Sl}, eHeard h_lheard l_lderived_right_8 (B6 p2 (some (.fz (eP (gl (a + 1)) (gl (b + 1)) (gl (c + 1)) (.tup [.str sa, .int i]) (.tup [.str sb, .int j]) (.int k)))) (some (.fz o2)) x3 x4 x5) = .ok (told, B6 p2 (some (.fz (eP (gl (a + 1)) (gl (b + 1)) (gl (c + 1)) (.tup [.str sa, .int i]) (.tup [.str sb, .int j]) (.int k)))) (some (.fz o2)) x3 x4 x5) := by
    intro x3 x4 x5
    unfold l_lderived_right_8
    exact heard_m (v := .str "q") rfl rfl rfl (.inr ⟨⟨_, named_ok (ini_ok (g5 nm_q nm_h) (goodN_ok _ hn) f2 f3 f4 w2.2 w3.2 w4.2) okn⟩, rfl⟩)
  have t6 : sOwn 4 (eLst (aCons (eHeard h_lheard l_lderived_right_3) aNil)) (B6 p2 (some (.fz (eP (gl (a + 1)) (gl (b + 1)) (gl (c + 1)) (.tup [.str sa, .int i]) (.tup [.str sb, .int j]) (.int k)))) (some (.fz o2)) (some (.fz (.str t))) (some (.ow (.lst [tx "name" s, tx "name" s]))) none) = .nx (B6 p2 (some (.fz (eP (gl (a + 1)) (gl (b + 1)) (gl (c + 1)) (.tup [.str sa, .int i]) (.tup [.str sb, .int j]) (.int k)))) (some (.fz o2)) (some (.fz (.str t))) (some (.ow (.lst [tx "number" s2]))) none) :=
    (own_ok (lst_ok (cons_ok h3 rfl) (by simp))).trans rfl
  have t7 : sAppend 4 (eHeard h_lheard l_lderived_right_4) (B6 p2 (some (.fz (eP (gl (a + 1)) (gl (b + 1)) (gl (c + 1)) (.tup [.str sa, .int i]) (.tup [.str sb, .int j]) (.int k)))) (some (.fz o2)) (some (.fz (.str t))) (some (.ow (.lst [tx "number" s2]))) none) = .nx (B6 p2 (some (.fz (eP (gl (a + 1)) (gl (b + 1)) (gl (c + 1)) (.tup [.str sa, .int i]) (.tup [.str sb, .int j]) (.int k)))) (some (.fz o2)) (some (.fz (.str t))) (some (.ow (.lst [tx "number" s2, tx "number" s2]))) none) :=
    (append_ok (s := .ow (.lst [tx "number" s2])) (s1 := .ow (.lst [tx "number" s2])) rfl rfl rfl h4 rfl rfl rfl (by simp)).trans rfl
  have t8 : s_lderived_right_8 (B6 p2 (some (.fz (eP (gl (a + 1)) (gl (b + 1)) (gl (c + 1)) (.tup [.str sa, .int i]) (.tup [.str sb, .int j]) (.int k)))) (some (.fz o2)) (some (.fz (.str t))) (some (.ow (.lst [tx "number" s2, tx "number" s2]))) none) = .nx (B6 p2 (some (.fz (eP (gl (a + 1)) (gl (b + 1)) (gl (c + 1)) (.tup [.str sa, .int i]) (.tup [.str sb, .int j]) (.int k)))) (some (.fz o2)) (some (.fz (.str t))) (some (.ow (.lst [tx "number" s2, tx "number" s2]))) none) := by
    unfold s_lderived_right_8
    exact (sif_f (tor_f (tof_ok (bin_ok (a := .sl 4) (r1 := B6 p2 (some (.fz (eP (gl (a + 1)) (gl (b + 1)) (gl (c + 1)) (.tup [.str sa, .int i]) (.tup [.str sb, .int j]) (.int k)))) (some (.fz o2)) (some (.fz (.str t))) (some (.ow (.lst [tx "number" s2, tx "number" s2]))) none) rfl (bof_ok (txs hs2)) rfl rfl (tx2_ne (by decide +kernel) hso2))) (tof_ok (bin_ok (b := .fz (tx "number" "-1")) (bof_ok h5) rfl rfl rfl (tx_eq (by decide +kernel) (by decide +kernel)).2.1)))).trans rfl
  have t9 : sOwn 5 (eLst (aCons (eHeard h_lheard l_lderived_right_6) aNil)) (B6 p2 (some (.fz (eP (gl (a + 1)) (gl (b + 1)) (gl (c + 1)) (.tup [.str sa, .int i]) (.tup [.str sb, .int j]) (.int k)))) (some (.fz o2)) (some (.fz (.str t))) (some (.ow (.lst [tx "number" s2, tx "number" s2]))) none) = .nx (B6 p2 (some (.fz (eP (gl (a + 1)) (gl (b + 1)) (gl (c + 1)) (.tup [.str sa, .int i]) (.tup [.str sb, .int j]) (.int k)))) (some (.fz o2)) (some (.fz (.str t))) (some (.ow (.lst [tx "number" s2, tx "number" s2]))) (some (.ow (.lst [told])))) :=
    (own_ok (lst_ok (cons_ok h6 rfl) (by simp))).trans rfl
  have t10 : sAppend 5 (eHeard h_lheard l_lderived_right_7) (B6 p2 (some (.fz (eP (gl (a + 1)) (gl (b + 1)) (gl (c + 1)) (.tup [.str sa, .int i]) (.tup [.str sb, .int j]) (.int k)))) (some (.fz o2)) (some (.fz (.str t))) (some (.ow (.lst [tx "number" s2, tx "number" s2]))) (some (.ow (.lst [told])))) = .nx (B6 p2 (some (.fz (eP (gl (a + 1)) (gl (b + 1)) (gl (c + 1)) (.tup [.str sa, .int i]) (.tup [.str sb, .int j]) (.int k)))) (some (.fz o2)) (some (.fz (.str t))) (some (.ow (.lst [tx "number" s2, tx "number" s2]))) (some (.ow (.lst [told, told])))) :=
    (append_ok (s := .ow (.lst [told])) (s1 := .ow (.lst [told])) rfl rfl rfl h7 rfl rfl rfl (by simp)).trans rfl
  have t11 : sAppend 5 (eHeard h_lheard l_lderived_right_8) (B6 p2 (some (.fz (eP (gl (a + 1)) (gl (b + 1)) (gl (c + 1)) (.tup [.str sa, .int i]) (.tup [.str sb, .int j]) (.int k)))) (some (.fz o2)) (some (.fz (.str t))) (some (.ow (.lst [tx "number" s2, tx "number" s2]))) (some (.ow (.lst [told, told])))) = .nx (B6 p2 (some (.fz (eP (gl (a + 1)) (gl (b + 1)) (gl (c + 1)) (.tup [.str sa, .int i]) (.tup [.str sb, .int j]) (.int k)))) (some (.fz o2)) (some (.fz (.str t))) (some (.ow (.lst [tx "number" s2, tx "number" s2]))) (some (.ow (.lst [told, told, told])))) :=
    (append_ok (s := .ow (.lst [told, told])) (s1 := .ow (.lst [told, told])) rfl rfl rfl h8 rfl rfl rfl (by simp)).trans rfl
  have t12 : sRet (eAnd (eBin eqD (bVar 5) (bOf (eBin repD (bOf (eLst (aCons (eLst (aCons (eC (.str "told")) aNil)) aNil))) (bOf (eC (.int 3)))))) (eBin eqD (bOf (eReprO "Deal" d_Deal_repr (eVar 1))) (bVar 3))) (B6 p2 (some (.fz (eP (gl (a + 1)) (gl (b + 1)) (gl (c + 1)) (.tup [.str sa, .int i]) (.tup [.str sb, .int j]) (.int k)))) (some (.fz o2)) (some (.fz (.str t))) (some (.ow (.lst [tx "number" s2, tx "number" s2]))) (some (.ow (.lst [told, told, told])))) = .rt (.bl true) (B6 p2 (some (.fz (eP (gl (a + 1)) (gl (b + 1)) (gl (c + 1)) (.tup [.str sa, .int i]) (.tup [.str sb, .int j]) (.int k)))) (some (.fz o2)) (some (.fz (.str t))) (some (.ow (.lst [tx "number" s2, tx "number" s2]))) (some (.ow (.lst [told, told, told])))) := by
    refine ret_ok (and_ok (r1 := B6 p2 (some (.fz (eP (gl (a + 1)) (gl (b + 1)) (gl (c + 1)) (.tup [.str sa, .int i]) (.tup [.str sb, .int j]) (.int k)))) (some (.fz o2)) (some (.fz (.str t))) (some (.ow (.lst [tx "number" s2, tx "number" s2]))) (some (.ow (.lst [told, told, told])))) ?_ ?_)
    · exact bin_ok (a := .sl 5) (b := .fz (.lst [told, told, told])) (r1 := B6 p2 (some (.fz (eP (gl (a + 1)) (gl (b + 1)) (gl (c + 1)) (.tup [.str sa, .int i]) (.tup [.str sb, .int j]) (.int k)))) (some (.fz o2)) (some (.fz (.str t))) (some (.ow (.lst [tx "number" s2, tx "number" s2]))) (some (.ow (.lst [told, told, told])))) rfl rfl rfl rfl told3
    · exact bin_ok (b := .sl 3) (bof_ok (reprO_ok rfl et)) rfl rfl rfl (str_eq ht)
  have L := (seq_nx t1).trans ((seq_nx t2).trans ((seq_nx t3).trans ((seq_nx t4).trans ((seq_nx t5).trans ((seq_nx t6).trans ((seq_nx t7).trans ((seq_nx t8).trans ((seq_nx t9).trans ((seq_nx t10).trans ((seq_nx t11).trans t12))))))))))
  exact ⟨p2, runB_rt (r0 := B6 pot (some (.fz (eP (gl (a + 1)) (gl (b + 1)) (gl (c + 1)) (.tup [.str sa, .int i]) (.tup [.str sb, .int j]) (.int k)))) none none none none) rfl rfl L rfl, v2⟩
theorem derivedF {pot : D} {a b c : Nat} {q : D × D} {n : D} (hv : VP pot) (ha : a < 4) (hb : b < 4) (hc : c < 3) (hq : q ∈ goodP) (hn : n ∈ goodN) :
    ∃ pot', b_lderived_right pot [eP (gl (a + 1)) (gl (b + 1)) (gl (c + 1)) q.1 q.2 n] = .ok (.bl true, pot') ∧ VP pot' := by
  obtain ⟨sa, sb, i, j, rfl, hw⟩ := goodP_mv q hq
  have : ∃ k, n = .int k := by
    simp only [goodN, List.mem_cons, List.not_mem_nil, or_false] at hn
    rcases hn with rfl | rfl | rfl <;> exact ⟨_, rfl⟩
  obtain ⟨k, rfl⟩ := this
  exact derivedQ hv ha hb hc hq hw hn
end K21

set_option Elab.async false
set_option linter.all false
set_option maxRecDepth 100000
set_option maxHeartbeats 4000000
namespace K21
open PySem L2 Dl
/-! ### the law -/
theorem all_told {α : Type} {l : List α} : allD (.lst (l.map fun _ : α => D.bl true)) = some (.bl true) := by
  rw [all_bl (p := fun _ => true)]
  simp
theorem heardR {ds : List D} {due : D} {r : En} (T : Tell ds due) (h3 : (frzOnly r)[1]? = some (some (.fz (.lst ds)))) : eHeard h_lheard l_lright_1 r = .ok (due, r) := by
  unfold l_lright_1
  refine heard_c h3 ?_
  rcases T.ex with ⟨c, fs, h, _, k⟩ | ⟨h, _, k⟩
  · exact .inl ⟨c, fs, h, k⟩
  · exact .inr ⟨h, k⟩
abbrev U2 (pot : D) (x1 : Option Sl) : En := [some (.bo pot), x1]
theorem rightF {pot : D} (hv : VP pot) : ∃ pot', b_lright pot [] = .ok (.bl true, pot') := by
  obtain ⟨ps, p1, e1, g0, v1⟩ := partsF hv
  obtain ⟨p2, e2, v2⟩ := wrongF v1 g0
  have e3 := limitsF g0
  obtain ⟨a, b, c, q, n, ha, hb, hc, hq, hn, rfl⟩ := g0
  obtain ⟨p3, e4, v3⟩ := derivedF (n := n) v2 ha hb hc hq hn
  have T : Tell [.str "n", .str "h", .lst (gl (a + 1)), .lst (gl (b + 1)), .lst (gl (c + 1)), q.1, q.2, n] told := by
    have t := tell_long (ln_g (m := 4) ha) (ln_g (m := 4) hb) (ln_g (m := 3) (show c < 4 by omega)) hq hn
    have du : dueOf (gl (a + 1)).length (gl (b + 1)).length (gl (c + 1)).length = told := by
      rw [gl_len ha, gl_len hb, gl_len (by omega)]
      unfold dueOf
      rw [if_neg (by omega), if_neg (by omega), if_neg (by omega)]
    rw [du] at t
    exact t
  have md := madeF (ln_g (m := 4) ha) (ln_g (m := 4) hb) (ln_g (m := 3) (show c < 4 by omega)) (by rw [gl_len ha]; omega) (by rw [gl_len hb]; omega) (by rw [gl_len (by omega)]; omega) hq hn (own_no rfl hq hn)
  have s1 : sSet 1 (eCallB b_lparts 0 aNil) (U2 pot none) = .nx (U2 p1 (some (.fz (.lst [.str "n", .str "h", .lst (gl (a + 1)), .lst (gl (b + 1)), .lst (gl (c + 1)), q.1, q.2, n])))) :=
    (set_ok (callB0 (ds := []) (pot1 := pot) rfl e1)).trans rfl
  have s2 : s_lright_2 (U2 p1 (some (.fz (.lst [.str "n", .str "h", .lst (gl (a + 1)), .lst (gl (b + 1)), .lst (gl (c + 1)), q.1, q.2, n])))) = .nx (U2 p1 (some (.fz (.lst [.str "n", .str "h", .lst (gl (a + 1)), .lst (gl (b + 1)), .lst (gl (c + 1)), q.1, q.2, n])))) := by
    unfold s_lright_2
    exact (sif_f (tof_ok (bin_ok (b := .fz told) (bof_ok (heardR T rfl)) rfl rfl rfl told_eq.2))).trans rfl
  have s3 : s_lright_3 (U2 p1 (some (.fz (.lst [.str "n", .str "h", .lst (gl (a + 1)), .lst (gl (b + 1)), .lst (gl (c + 1)), q.1, q.2, n])))) = .nx (U2 p2 (some (.fz (.lst [.str "n", .str "h", .lst (gl (a + 1)), .lst (gl (b + 1)), .lst (gl (c + 1)), q.1, q.2, n])))) := by
    unfold s_lright_3
    exact (sif_f (tor_f (tnot_ok (bb := true) (tof_ok (callB0 (ds := [.lst [.str "n", .str "h", .lst (gl (a + 1)), .lst (gl (b + 1)), .lst (gl (c + 1)), q.1, q.2, n]]) (pot1 := p1) rfl e2))) (tnot_ok (bb := true) (tof_ok (call_ok (ds := [.lst [.str "n", .str "h", .lst (gl (a + 1)), .lst (gl (b + 1)), .lst (gl (c + 1)), q.1, q.2, n]]) (r1 := U2 p2 (some (.fz (.lst [.str "n", .str "h", .lst (gl (a + 1)), .lst (gl (b + 1)), .lst (gl (c + 1)), q.1, q.2, n])))) rfl e3))))).trans rfl
  have s4 : sRet (eAnd (eCallB b_lderived_right 0 (aCons (eCall d_lmade (aCons (eVar 1) aNil)) aNil)) (eCall d_lerrors_right aNil)) (U2 p2 (some (.fz (.lst [.str "n", .str "h", .lst (gl (a + 1)), .lst (gl (b + 1)), .lst (gl (c + 1)), q.1, q.2, n])))) = .rt (.bl true) (U2 p3 (some (.fz (.lst [.str "n", .str "h", .lst (gl (a + 1)), .lst (gl (b + 1)), .lst (gl (c + 1)), q.1, q.2, n])))) := by
    refine ret_ok (and_ok (r1 := U2 p3 (some (.fz (.lst [.str "n", .str "h", .lst (gl (a + 1)), .lst (gl (b + 1)), .lst (gl (c + 1)), q.1, q.2, n])))) ?_ (call_ok (ds := []) rfl errorsF))
    exact callB0 (ds := [eP (gl (a + 1)) (gl (b + 1)) (gl (c + 1)) q.1 q.2 n]) (pot1 := p2) (cons_ok (call_ok (ds := [.lst [.str "n", .str "h", .lst (gl (a + 1)), .lst (gl (b + 1)), .lst (gl (c + 1)), q.1, q.2, n]]) (r1 := U2 p2 (some (.fz (.lst [.str "n", .str "h", .lst (gl (a + 1)), .lst (gl (b + 1)), .lst (gl (c + 1)), q.1, q.2, n])))) rfl md) rfl) e4
  have L := (seq_nx s1).trans ((seq_nx s2).trans ((seq_nx s3).trans s4))
  exact ⟨p3, runB_rt (r0 := U2 pot none) rfl rfl L rfl⟩
theorem pure_law (ns : List Int) (hl : ns.length ≤ 63) : d_law [.scr ns] = .ok (.bl true) := by
  generalize hn : (max 1 (min ns.length 3)) = n
  have n4 : n ≤ 3 := by omega
  have em : (if (if (ns.length : Int) < 3 then (ns.length : Int) else 3) > 1 then (if (ns.length : Int) < 3 then (ns.length : Int) else 3) else 1) = (n : Int) := by
    subst hn
    split <;> split <;> omega
  have m : eBin max2D (bOf (eC (.int 1))) (bOf (eBin min2D (bOf (eC (.int 3))) (bOf (eUn (orU lenD lenK) (bVar 0))))) [some (.fz (.scr ns)), none] = .ok (.int n, [some (.fz (.scr ns)), none]) := by
    refine bin_ok (a := .fz (.int 1)) (r1 := [some (.fz (.scr ns)), none]) rfl (bof_ok (bin_ok (a := .fz (.int 3)) (y := .int ns.length) (r1 := [some (.fz (.scr ns)), none]) rfl (bof_ok (un_ok (a := .sl 0) rfl rfl rfl)) rfl rfl rfl)) rfl rfl ?_
    show some (D.int _) = _
    rw [← em]
  have e : e_law_1 [some (.fz (.scr ns)), none] = .ok (.lst ((List.range n).map fun _ => .bl true), [some (.fz (.scr ns)), none]) := by
    unfold e_law_1
    rw [elc_all (f := fun i : Nat => D.int (0 + (i : Int))) (z := fun _ => .bl true) (l := List.range n) (r0 := [some (.fz (.scr ns)), none]) (irg_ok (n := n) (r' := [some (.fz (.scr ns)), none]) (cons_ok m rfl) (by omega)) (by rw [List.length_range]; omega)]
    · rfl
    · intro i hi
      have hi2 : i < n := List.mem_range.mp hi
      obtain ⟨pot, e0, v0⟩ := potF (ns := ns) (k := i) (by omega)
      obtain ⟨pot', e1⟩ := rightF v0
      refine ⟨[some (.fz (.scr ns)), some (.fz (.int (0 + (i : Int))))], [some (.fz (.scr ns)), some (.fz (.int (0 + (i : Int))))], rfl, ?_, rfl⟩
      have hp : isPart pot = true := by
        obtain ⟨a, b, rfl, _⟩ := v0
        rfl
      have c : eCall d_lpot (aCons (eVar 0) (aCons (eVar 1) aNil)) [some (.fz (.scr ns)), some (.fz (.int (0 + (i : Int))))] = .ok (.own pot, [some (.fz (.scr ns)), some (.fz (.int (0 + (i : Int))))]) :=
        call_ok (ds := [.scr ns, .int (0 + (i : Int))]) rfl (by rw [Int.zero_add]; exact e0)
      have w : eNewV (eCall d_lpot (aCons (eVar 0) (aCons (eVar 1) aNil))) [some (.fz (.scr ns)), some (.fz (.int (0 + (i : Int))))] = .ok (pot, [some (.fz (.scr ns)), some (.fz (.int (0 + (i : Int))))]) := by
        unfold eNewV
        rw [c, bind_ok]
        simp only [if_pos hp]
      rw [pcallBN, w, pbind_ok]
      simp only [e1]
      rfl
  have L : s_law [some (.fz (.scr ns)), none] = .rt (.bl true) [some (.fz (.scr ns)), none] := by
    unfold s_law
    exact ret_ok (un_ok (bof_ok e) rfl all_told)
  exact runF_rt (r0 := [some (.fz (.scr ns)), none]) rfl rfl L
end K21

set_option Elab.async false
set_option linter.all false
set_option maxRecDepth 100000
set_option maxHeartbeats 0
open PySem PySem.W PySem.Calls PyProof.Rows
theorem K21.law_end (hp : ∀ ns : List Int, ns.length ≤ 63 → K21.d_law [.scr ns] = .ok (.bl true)) : PySem.Challenge.rw_letdays_k21_deals_refused.Holds := by
  w_on; o_law
  refine HandSHeadRun.head_any (r := OpenLaw.row PySem.Challenge.rw_letdays_k21_deals_refused) (q := view (OpenLaw.row PySem.Challenge.rw_letdays_k21_deals_refused).prog [51]) (H := K21.hk) (ob := K21.ob) (M := 20000) (loose := K21.loose) (d := HandSHeadRun.topDef (OpenLaw.row PySem.Challenge.rw_letdays_k21_deals_refused).prog 51) (kwd := []) K21.ob_eq
    (by kernel_rfl) (fun s => by kernel_rfl) K21.run (by kernel_rfl) (by kernel_rfl) (by kernel_rfl) (by rfl) (by first | assumption | decide +kernel) (by decide +kernel) ⟨rfl, rfl, rfl, rfl, rfl, by decide +kernel⟩ ?hw ?hc
  case hw => w_witness2
  case hc =>
    letI : Dl.Tb := ⟨[]⟩
    refine Dl.walk_lawT (l := PySem.Challenge.rw_letdays_k21_deals_refused) (n := 63) (k := 13) (x := "_law_script") (CX := L2.CX0) rfl (by decide) (by kernel_rfl) ⟨rfl, by decide, by decide⟩ ?F (fun _ _ _ _ z => z)
    intro w mg fa h Y G hmg0
    obtain ⟨K, KX, c⟩ := Y
    have V : Dl.Wd K21.fa K21.fn K21.fb K mg := ⟨⟨h, KX, G⟩, c.s⟩
    have hmg : mg ("law" : PySem.Str) = some (.ref fa) := by
      have e : (HandSHeadRun.topDef (OpenLaw.row PySem.Challenge.rw_letdays_k21_deals_refused).prog 51).name = ("law" : PySem.Str) := by kernel_rfl
      rw [← e]
      exact hmg0
    have e := hmg.symm.trans (V.glo 0 (x := "law") rfl)
    cases e
    obtain ⟨fd, F⟩ := V.d.def_ 43 (d := K21.df_43) rfl
    have b := L2.FunD.bindsA (ps := ["_law_script"]) F fun _ _ _ _ _ _ us hl => match us, hl with | [_], _ => rfl
    letI : Dl.Tb := ⟨Dl.TOf K K21.lams⟩
    refine ⟨K, fd, fun vs H Q _ => Dl.spD K mg K21.d_law vs H Q fun _ _ _ => False, Dl.csOf K K21.lams, KX, fun s v => b s [v] rfl, c.t.hT, c.t.nK, fun p hp => ?_, fun H a ns hl hT hS => Dl.law_sp hp H (fun p hp => ?_) a ns hl hS, fun base kb _ TB => ?_⟩
    · obtain ⟨x, _, e⟩ := List.mem_filterMap.mp hp
      exact (Dl.tabOf_hd KX e).1
    · obtain ⟨q, hq, e⟩ := Dl.TOf_cs hp
      rw [← e]
      exact hT q hq
    · have VM : K21.WD K mg base := ⟨V, c.c, c.t.nd, c.t.so, rfl, kb, TB⟩
      exact Dl.law_fn F K21.sc_law (K21.ok_law VM _)
theorem PySem.Challenge.cw_letdays_k21_deals_refused_holds : PySem.Challenge.rw_letdays_k21_deals_refused.Holds := by
  exact K21.law_end K21.pure_law
