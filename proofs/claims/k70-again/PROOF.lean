import PyProof.Rows.All
import HandS.ForMost
import HandS.ForExc
import HandS.ExcCtx
import HandS.HotCalls
import HandS.Lambda
import HandS.Conv
import HandS.Zip
import HandS.IsInst
import HandS.SetFor
import HandS.SetKeys
import HandS.TupAny
import HandS.TupMul
import HandS.SortInts
import HandS.Remove
import HandS.Strs
import HandS.EndTab
import HandS.Style
import KE.DataMinMax
import KE.GoesEnum
import HandS.ExcIs
import KE.Datum
import KE.KExcHand
import HandS.ExcValue
import HandS.HeadWalk
import HandS.HeadHook4
import HandS.Head0
import HandS.Head1
import HandS.Head2
import PySem.Challenge.RW_gatebeats_k70_whole_again
set_option Elab.async false
set_option linter.all false
set_option maxRecDepth 100000
/-! DL: data by value over the hand layer. -/
namespace DL
open PySem PySem.Spec PyProof.Rows L2

/-- the program's own refusals -/
inductive Ex where
  | row | gate | period | text | back
  deriving DecidableEq
/-- data by value; ref: what may change (a list that is being made, an object), looked up in GH; scr: the script -/
inductive D where
  | non | bl (b : Bool) | int (i : Int) | str (x : Str) | tup (xs : List D) | lst (xs : List D) | ref (a : Addr) | scr
inductive GO where
  | lst (xs : List D)
  | ins (c : Str) (fs : List (Str × D))
  | exc (x : Ex)
  | code (q : Str)
  | tz (xs : List D)
abbrev GH := Addr → Option GO
def gup (G : GH) (a : Addr) (o : GO) : GH := fun b => if b = a then some o else G b
theorem gup_same {G : GH} {a : Addr} {o : GO} : gup G a o a = some o := if_pos rfl
theorem gup_ne {G : GH} {a b : Addr} {o : GO} (h : b ≠ a) : gup G a o b = G b := if_neg h
theorem gup_gup {G : GH} {a : Addr} {o u : GO} : gup (gup G a o) a u = gup G a u := by
  funext b; unfold gup; split <;> rfl

structure Pm where
  K : PySem.W.Frag
  sa : Addr
  ns : List Int
  T : List (Addr × Str)
  ca : Str → Addr
  xa : Ex → Addr
  ln : ns.length ≤ 63

mutual
def Rep (p : Pm) (G : GH) (H : Hp) : D → V → Prop
  | .non, v => v = .non
  | .bl b, v => v = .bl b
  | .int i, v => v = .int i
  | .str x, v => v = .str x
  | .ref a, v => v = .ref a
  | .scr, v => v = .ref p.sa
  | .tup ds, v => ∃ a vs, v = .ref a ∧ Rd H a (.tup vs) ∧ RepL p G H ds vs
  | .lst ds, v => ∃ a vs, v = .ref a ∧ H a = some (.lst vs) ∧ G a = none ∧ RepL p G H ds vs
def RepL (p : Pm) (G : GH) (H : Hp) : List D → List V → Prop
  | [], vs => vs = []
  | d :: ds, vs => ∃ v vr, vs = v :: vr ∧ Rep p G H d v ∧ RepL p G H ds vr
end
def RepF (p : Pm) (G : GH) (H : Hp) : List (Str × D) → List (Str × V) → Prop
  | [], vs => vs = []
  | d :: ds, vs => ∃ v vr, vs = (d.1, v) :: vr ∧ Rep p G H d.2 v ∧ RepF p G H ds vr
def ExcAt (C a : Addr) : Heap → Prop := fun h => ∃ o vs, h.get? a = some o ∧ o.cls = .ref C ∧ o.dict = none ∧ o.data = .fields vs
def RepO (p : Pm) (G : GH) (H : Hp) (a : Addr) : GO → Prop
  | .lst ds => ∃ vs, H a = some (.lst vs) ∧ RepL p G H ds vs
  | .ins c fs => ∃ dx fv, H a = some (.ins (p.ca c) dx fv) ∧ RepF p G H fs fv
  | .exc x => H a = some (.ext (ExcAt (p.xa x) a))
  | .code q => H a = some (LamX.CodeO a q)
  | .tz ds => ∃ o vs, H a = some (.frz o (.tup vs)) ∧ o.cls = .type "tuple" ∧ o.dict = none ∧ RepL p G H ds vs
def ScrOk (p : Pm) (G : GH) (H : Hp) : Prop := (Rd H p.sa (.lst (p.ns.map V.int)) ∧ G p.sa = none) ∨ ∀ H', SqL p.K H' p.sa (p.ns.map V.int)
structure RepH (p : Pm) (G : GH) (H : Hp) : Prop where
  obj : ∀ a g, G a = some g → RepO p G H a g
  scr : ScrOk p G H
  tab : LamX.Tabs p.T H
def Step (p : Pm) (G : GH) (H : Hp) (G' : GH) (H' : Hp) : Prop := ∀ d v, Rep p G H d v → Rep p G' H' d v
structure Nxt (p : Pm) (G : GH) (H : Hp) (G' : GH) (H' : Hp) : Prop where
  rep : RepH p G' H'
  st : Step p G H G' H'

section
variable {p : Pm} {G G1 G2 G' : GH} {H H1 H2 H' : Hp} {d : D} {ds : List D} {v : V} {vs : List V}
theorem Step.refl : Step p G H G H := fun _ _ h => h
theorem Step.trans (a : Step p G H G1 H1) (b : Step p G1 H1 G2 H2) : Step p G H G2 H2 := fun d v h => b d v (a d v h)
theorem Nxt.refl (h : RepH p G H) : Nxt p G H G H := ⟨h, Step.refl⟩
theorem Nxt.trans (a : Nxt p G H G1 H1) (b : Nxt p G1 H1 G2 H2) : Nxt p G H G2 H2 := ⟨b.rep, a.st.trans b.st⟩
theorem Step.list (s : Step p G H G' H') : ∀ {ds : List D} {vs : List V}, RepL p G H ds vs → RepL p G' H' ds vs
  | [], _, h => h
  | _ :: _, _, ⟨v, vr, e, r, t⟩ => ⟨v, vr, e, s _ _ r, Step.list s t⟩
theorem Step.flds (s : Step p G H G' H') : ∀ {ds : List (Str × D)} {vs : List (Str × V)}, RepF p G H ds vs → RepF p G' H' ds vs
  | [], _, h => h
  | _ :: _, _, ⟨v, vr, e, r, t⟩ => ⟨v, vr, e, s _ _ r, Step.flds s t⟩
theorem RepL.length : ∀ {ds : List D} {vs : List V}, RepL p G H ds vs → ds.length = vs.length
  | [], _, h => by cases (show _ = _ from h); rfl
  | _ :: _, _, ⟨v, vr, e, r, t⟩ => by rw [e, List.length_cons, List.length_cons, RepL.length t]
theorem RepL.get : ∀ {ds : List D} {vs : List V} {i : Nat} {d : D}, RepL p G H ds vs → ds[i]? = some d → ∃ v, vs[i]? = some v ∧ Rep p G H d v
  | [], _, _, _, _, e => by simp at e
  | _ :: _, _, 0, _, ⟨v, vr, e', r, t⟩, e => by
    have e1 := Option.some.inj e
    subst e1; subst e'
    exact ⟨v, rfl, r⟩
  | _ :: _, _, i + 1, _, ⟨v, vr, e', r, t⟩, e => by
    subst e'
    exact RepL.get (i := i) t (by simpa using e)
theorem RepL.append : ∀ {ds es : List D} {vs ws : List V}, RepL p G H ds vs → RepL p G H es ws → RepL p G H (ds ++ es) (vs ++ ws)
  | [], _, _, _, h, q => by cases (show _ = _ from h); exact q
  | _ :: _, _, _, _, ⟨v, vr, e, r, t⟩, q => ⟨v, vr ++ _, by rw [e]; rfl, r, RepL.append t q⟩
theorem RepL.drop : ∀ {ds : List D} {vs : List V} (n : Nat), RepL p G H ds vs → RepL p G H (ds.drop n) (vs.drop n)
  | _, _, 0, h => h
  | [], _, n + 1, h => by cases (show _ = _ from h); exact rfl
  | _ :: _, _, n + 1, ⟨v, vr, e, r, t⟩ => by subst e; exact RepL.drop n t
theorem RepL.take : ∀ {ds : List D} {vs : List V} (n : Nat), RepL p G H ds vs → RepL p G H (ds.take n) (vs.take n)
  | _, _, 0, h => rfl
  | [], _, n + 1, h => by cases (show _ = _ from h); exact rfl
  | _ :: _, _, n + 1, ⟨v, vr, e, r, t⟩ => by subst e; exact ⟨v, _, rfl, r, RepL.take n t⟩
theorem RepL.set : ∀ {ds : List D} {vs : List V} (i : Nat) {d : D} {v : V}, RepL p G H ds vs → Rep p G H d v → RepL p G H (ds.set i d) (vs.set i v)
  | [], _, _, _, _, h, _ => by cases (show _ = _ from h); exact rfl
  | _ :: _, _, 0, _, _, ⟨v, vr, e, r, t⟩, q => by subst e; exact ⟨_, _, rfl, q, t⟩
  | _ :: _, _, i + 1, _, _, ⟨v, vr, e, r, t⟩, q => by subst e; exact ⟨_, _, rfl, r, RepL.set i t q⟩
theorem RepL.reverse : ∀ {ds : List D} {vs : List V}, RepL p G H ds vs → RepL p G H ds.reverse vs.reverse
  | [], _, h => by cases (show _ = _ from h); exact rfl
  | _ :: _, _, ⟨v, vr, e, r, t⟩ => by
    subst e
    rw [List.reverse_cons, List.reverse_cons]
    exact RepL.append (RepL.reverse t) ⟨_, _, rfl, r, rfl⟩
theorem RepL.erase : ∀ {ds : List D} {vs : List V} (i : Nat), RepL p G H ds vs → RepL p G H (ds.eraseIdx i) (vs.eraseIdx i)
  | [], _, _, h => by cases (show _ = _ from h); exact rfl
  | _ :: _, _, 0, ⟨v, vr, e, r, t⟩ => by subst e; exact t
  | _ :: _, _, i + 1, ⟨v, vr, e, r, t⟩ => by subst e; exact ⟨_, _, rfl, r, RepL.erase i t⟩
theorem RepL.rep (n : Nat) {ds : List D} {vs : List V} (h : RepL p G H ds vs) : RepL p G H (List.replicate n ds).flatten (List.replicate n vs).flatten := by
  induction n with
  | zero => exact rfl
  | succ n ih =>
    rw [List.replicate_succ, List.replicate_succ, List.flatten_cons, List.flatten_cons]
    exact h.append ih
theorem RepL.cons {d : D} {v : V} {ds : List D} {vs : List V} (r : Rep p G H d v) (t : RepL p G H ds vs) : RepL p G H (d :: ds) (v :: vs) := ⟨v, vs, rfl, r, t⟩
theorem RepL.ints : ∀ {ns : List Int} {vs : List V}, RepL p G H (ns.map D.int) vs → vs = ns.map V.int
  | [], _, h => h
  | _ :: _, _, ⟨v, vr, e, r, t⟩ => by rw [e, RepL.ints t, (show v = _ from r)]; rfl
theorem RepL.ofInts : ∀ (ns : List Int), RepL p G H (ns.map D.int) (ns.map V.int)
  | [] => rfl
  | n :: ns => ⟨_, _, rfl, rfl, RepL.ofInts ns⟩
theorem RepL.bls : ∀ {bs : List Bool} {vs : List V}, RepL p G H (bs.map D.bl) vs → vs = bs.map V.bl
  | [], _, h => h
  | _ :: _, _, ⟨v, vr, e, r, t⟩ => by rw [e, RepL.bls t, (show v = _ from r)]; rfl
theorem RepL.strs : ∀ {bs : List Str} {vs : List V}, RepL p G H (bs.map D.str) vs → vs = bs.map V.str
  | [], _, h => h
  | _ :: _, _, ⟨v, vr, e, r, t⟩ => by rw [e, RepL.strs t, (show v = _ from r)]; rfl
theorem RepL.ofStrs : ∀ (ns : List Str), RepL p G H (ns.map D.str) (ns.map V.str)
  | [] => rfl
  | n :: ns => ⟨_, _, rfl, rfl, RepL.ofStrs ns⟩

theorem sqT_of {K : PySem.W.Frag} {a : Addr} (h : Rd H a (.tup vs)) : SqT K H a vs := .inl h
theorem rd_keep {a : Addr} {u : HO} (e : ∀ b o, (∀ ps, o ≠ .tbl ps) → H b = some o → H' b = some o) (hu : ∀ ps, u ≠ .tbl ps) (h : Rd H a u) : Rd H' a u := by
  rcases h with h | ⟨w, h⟩
  · exact .inl (e _ _ hu h)
  · exact .inr ⟨w, e _ _ (fun ps y => by cases y) h⟩
/-! ### the heap's steps -/
mutual
theorem rep_keep (ht : ∀ a vs, Rd H a (.tup vs) → Rd H' a (.tup vs)) (hl : ∀ a vs, H a = some (.lst vs) → G a = none → H' a = some (.lst vs) ∧ G' a = none) : ∀ (d : D) (v : V), Rep p G H d v → Rep p G' H' d v
  | .non, _, h => h
  | .bl _, _, h => h
  | .int _, _, h => h
  | .str _, _, h => h
  | .ref _, _, h => h
  | .scr, _, h => h
  | .tup ds, _, ⟨a, vs, e, q, r⟩ => ⟨a, vs, e, ht _ _ q, repL_keep ht hl ds vs r⟩
  | .lst ds, _, ⟨a, vs, e, q, n, r⟩ => ⟨a, vs, e, (hl _ _ q n).1, (hl _ _ q n).2, repL_keep ht hl ds vs r⟩
theorem repL_keep (ht : ∀ a vs, Rd H a (.tup vs) → Rd H' a (.tup vs)) (hl : ∀ a vs, H a = some (.lst vs) → G a = none → H' a = some (.lst vs) ∧ G' a = none) : ∀ (ds : List D) (vs : List V), RepL p G H ds vs → RepL p G' H' ds vs
  | [], _, h => h
  | d :: ds, _, ⟨v, vr, e, r, t⟩ => ⟨v, vr, e, rep_keep ht hl d v r, repL_keep ht hl ds vr t⟩
end
theorem rd_upd {a b : Addr} {o u : HO} (hn : H a = none) (h : Rd H b u) : Rd (upd H a o) b u := by
  rcases h with h | ⟨w, h⟩
  · exact .inl (by rw [upd_ne (ne_of_none h hn)]; exact h)
  · exact .inr ⟨w, by rw [upd_ne (ne_of_none h hn)]; exact h⟩
theorem rd_set {a b : Addr} {o u : HO} (hm : ¬ Rd H a u) (h : Rd H b u) : Rd (upd H a o) b u := by
  have : b ≠ a := fun z => hm (z ▸ h)
  rcases h with h | ⟨w, h⟩
  · exact .inl (by rw [upd_ne this]; exact h)
  · exact .inr ⟨w, by rw [upd_ne this]; exact h⟩
/-- a new object that no list of G is -/
theorem step_new {a : Addr} {o : HO} (hn : H a = none) : Step p G H G (upd H a o) :=
  rep_keep (fun b vs e => rd_upd hn e) fun b vs e n => ⟨by rw [upd_ne (ne_of_none e hn)]; exact e, n⟩
theorem step_newG {a : Addr} {o : HO} {g : GO} (hn : H a = none) : Step p G H (gup G a g) (upd H a o) :=
  rep_keep (fun b vs e => rd_upd hn e) fun b vs e n => ⟨by rw [upd_ne (ne_of_none e hn)]; exact e, by rw [gup_ne (ne_of_none e hn)]; exact n⟩
/-- what stands in G is changed -/
theorem step_set {a : Addr} {o : HO} {g g' : GO} (hg : G a = some g) (hm : ∀ vs, ¬ Rd H a (.tup vs)) : Step p G H (gup G a g') (upd H a o) :=
  rep_keep (fun b vs e => rd_set (hm vs) e) fun b vs e n => by
    have : b ≠ a := fun z => by rw [z, hg] at n; cases n
    exact ⟨by rw [upd_ne this]; exact e, by rw [gup_ne this]; exact n⟩
theorem RepH.free (h : RepH p G H) {a : Addr} (hn : H a = none) : G a = none := by
  cases e : G a with
  | none => rfl
  | some g =>
    have q := h.obj a g e
    cases g with
    | lst ds => obtain ⟨vs, q, _⟩ := q; rw [hn] at q; cases q
    | ins c fs => obtain ⟨dx, fv, q, _⟩ := q; rw [hn] at q; cases q
    | exc x => rw [show H a = some _ from q] at hn; cases hn
    | code x => rw [show H a = some _ from q] at hn; cases hn
    | tz ds => obtain ⟨_, _, q, _⟩ := q; rw [hn] at q; cases q
theorem repO_step {a : Addr} {g : GO} (s : Step p G H G' H') (e : H' a = H a) (h : RepO p G H a g) : RepO p G' H' a g := by
  cases g with
  | lst ds => obtain ⟨vs, q, r⟩ := h; exact ⟨vs, e.trans q, s.list r⟩
  | ins c fs => obtain ⟨dx, fv, q, r⟩ := h; exact ⟨dx, fv, e.trans q, s.flds r⟩
  | exc x => exact e.trans h
  | code x => exact e.trans h
  | tz ds => obtain ⟨o, vs, q, c, d, r⟩ := h; exact ⟨o, vs, e.trans q, c, d, s.list r⟩
theorem tabs_new {T : List (Addr × Str)} {a : Addr} {o : HO} (hn : H a = none) (t : LamX.Tabs T H) : LamX.Tabs T (upd H a o) :=
  t.ext fun b u e => by rw [upd_ne (ne_of_none e hn)]; exact e
theorem nxt_new {a : Addr} {o : HO} (h : RepH p G H) (hn : H a = none) : Nxt p G H G (upd H a o) :=
  ⟨⟨fun b g e => by
      have nb : b ≠ a := fun z => by rw [z, h.free hn] at e; cases e
      exact repO_step (step_new hn) (upd_ne nb) (h.obj b g e),
    by
      rcases h.scr with ⟨r, n⟩ | k
      · exact .inl ⟨rd_upd hn r, n⟩
      · exact .inr k,
    tabs_new hn h.tab⟩, step_new hn⟩
theorem nxt_newG {a : Addr} {o : HO} {g : GO} (h : RepH p G H) (hn : H a = none) (new : RepO p (gup G a g) (upd H a o) a g) : Nxt p G H (gup G a g) (upd H a o) :=
  ⟨⟨fun b g' e => by
      by_cases nb : b = a
      · subst nb
        rw [gup_same] at e; cases e
        exact new
      · rw [gup_ne nb] at e
        exact repO_step (step_newG hn) (upd_ne nb) (h.obj b g' e),
    by
      rcases h.scr with ⟨r, n⟩ | k
      · refine .inl ⟨rd_upd hn r, ?_⟩
        have : p.sa ≠ a := by
          rcases r with r | ⟨w, r⟩ <;> exact ne_of_none r hn
        rw [gup_ne this]; exact n
      · exact .inr k,
    tabs_new hn h.tab⟩, step_newG hn⟩
theorem nxt_set {a : Addr} {o : HO} {g g' : GO} (h : RepH p G H) (hg : G a = some g) (hm : ∀ vs, ¬ Rd H a (.tup vs)) (ht : ∀ ps, H a ≠ some (.tbl ps)) (hc : ∀ c q, H a ≠ some (LamX.CodeO c q)) (new : RepO p (gup G a g') (upd H a o) a g') :
    Nxt p G H (gup G a g') (upd H a o) :=
  ⟨⟨fun b g'' e => by
      by_cases nb : b = a
      · subst nb
        rw [gup_same] at e; cases e
        exact new
      · rw [gup_ne nb] at e
        exact repO_step (step_set hg hm) (upd_ne nb) (h.obj b g'' e),
    by
      rcases h.scr with ⟨r, n⟩ | k
      · have : p.sa ≠ a := fun z => by rw [z, hg] at n; cases n
        refine .inl ⟨?_, by rw [gup_ne this]; exact n⟩
        rcases r with r | ⟨w, r⟩
        · exact .inl (by rw [upd_ne this]; exact r)
        · exact .inr ⟨w, by rw [upd_ne this]; exact r⟩
      · exact .inr k,
    fun q hq => by
      obtain ⟨ps, h1, h2, h3⟩ := h.tab q hq
      have n1 : q.1 ≠ a := fun z => ht ps (z ▸ h1)
      refine ⟨ps, by rw [upd_ne n1]; exact h1, h2, fun pos cv hcv => ?_⟩
      obtain ⟨c, e1, e2⟩ := h3 pos cv hcv
      have n2 : c ≠ a := fun z => hc c q.2 (z ▸ e2)
      exact ⟨c, e1, by rw [upd_ne n2]; exact e2⟩⟩, step_set hg hm⟩
theorem nxt_setL {a : Addr} {ds ds' : List D} {vs vs' : List V} (h : RepH p G H) (hg : G a = some (.lst ds)) (hH : H a = some (.lst vs)) (r : RepL p G H ds' vs') :
    Nxt p G H (gup G a (.lst ds')) (upd H a (.lst vs')) := by
  have st : Step p G H (gup G a (.lst ds')) (upd H a (.lst vs')) := step_set hg fun vs z => by rcases z with z | ⟨_, z⟩ <;> (rw [hH] at z; cases z)
  refine nxt_set h hg (fun vs z => by rcases z with z | ⟨_, z⟩ <;> (rw [hH] at z; cases z)) (fun ps z => by rw [hH] at z; cases z) (fun c q z => ?_) ⟨vs', upd_same, st.list r⟩
  rw [hH] at z
  unfold LamX.CodeO at z
  cases z

/-! ### slots -/
abbrev St' := List (Option D)
structure RepS (p : Pm) (G : GH) (H : Hp) (σ' : St') (σ : L2.St) : Prop where
  len : σ'.length = σ.length
  at_ : ∀ (i : Nat) (d : D), σ'[i]? = some (some d) → ∃ v : V, σ[i]? = some (some v) ∧ Rep p G H d v
theorem RepS.step {σ' : St'} {σ : L2.St} (r : RepS p G H σ' σ) (s : Step p G H G' H') : RepS p G' H' σ' σ :=
  ⟨r.len, fun i d e => let ⟨v, e', q⟩ := r.at_ i d e; ⟨v, e', s _ _ q⟩⟩
theorem RepS.set {σ' : St'} {σ : L2.St} (r : RepS p G H σ' σ) (i : Nat) {d : D} {v : V} (q : Rep p G H d v) : RepS p G H (σ'.set i (some d)) (σ.set i (some v)) :=
  ⟨by rw [List.length_set, List.length_set]; exact r.len, fun j e h => by
    by_cases hj : i = j
    · subst hj
      by_cases hl : i < σ'.length
      · rw [List.getElem?_set_self hl] at h
        cases h
        exact ⟨v, by rw [List.getElem?_set_self (r.len ▸ hl)], q⟩
      · rw [List.getElem?_eq_none (by rw [List.length_set]; omega)] at h; cases h
    · rw [List.getElem?_set_ne hj] at h
      obtain ⟨w, e', z⟩ := r.at_ j e h
      exact ⟨w, by rw [List.getElem?_set_ne hj]; exact e', z⟩⟩
theorem RepS.unset {σ' : St'} {σ : L2.St} (r : RepS p G H σ' σ) (i : Nat) : RepS p G H (σ'.set i none) (σ.set i none) :=
  ⟨by rw [List.length_set, List.length_set]; exact r.len, fun j e h => by
    by_cases hj : i = j
    · subst hj
      by_cases hl : i < σ'.length
      · rw [List.getElem?_set_self hl] at h; cases h
      · rw [List.getElem?_eq_none (by rw [List.length_set]; omega)] at h; cases h
    · rw [List.getElem?_set_ne hj] at h
      obtain ⟨w, e', z⟩ := r.at_ j e h
      exact ⟨w, by rw [List.getElem?_set_ne hj]; exact e', z⟩⟩
end

/-! ### the lifted readings -/
abbrev QE := D → GH → Prop
abbrev TE' := St' → GH → QE → Prop
abbrev TT' := St' → GH → (Bool → GH → Prop) → Prop
abbrev TA' := St' → GH → (List D → GH → Prop) → Prop
structure Ends' where
  nx : St' → GH → Prop
  rt : QE
  bk : St' → GH → Prop := fun _ _ => False
  ct : St' → GH → Prop := fun _ _ => False
abbrev TS' := Ends' → St' → GH → Prop
/-- the base: what has held since some earlier state (where the def was entered, where a loop began) -/
structure Bs (p : Pm) where
  ok : GH → Hp → Prop
  step : ∀ G H G' H', ok G H → Step p G H G' H' → ok G' H'
def Bs.from (p : Pm) (G : GH) (H : Hp) : Bs p := ⟨fun G' H' => Step p G H G' H', fun _ _ _ _ a b => a.trans b⟩
def Bs.and {p : Pm} (B C : Bs p) : Bs p := ⟨fun G H => B.ok G H ∧ C.ok G H, fun _ _ _ _ a b => ⟨B.step _ _ _ _ a.1 b, C.step _ _ _ _ a.2 b⟩⟩
def Bs.Le {p : Pm} (B C : Bs p) : Prop := ∀ G H, B.ok G H → C.ok G H
structure At (p : Pm) (B : Bs p) (σ' : St') (G : GH) (σ : L2.St) (H : Hp) : Prop where
  s : RepS p G H σ' σ
  h : RepH p G H
  b : B.ok G H
section
variable {p : Pm} {B : Bs p} {σ' : St'} {σ : L2.St} {G G' : GH} {H H' : Hp}
theorem At.nxt (a : At p B σ' G σ H) (n : Nxt p G H G' H') : At p B σ' G' σ H' := ⟨a.s.step n.st, n.rep, B.step _ _ _ _ a.b n.st⟩
theorem At.set (a : At p B σ' G σ H) (i : Nat) {d : D} {v : V} (q : Rep p G H d v) : At p B (σ'.set i (some d)) G (σ.set i (some v)) H := ⟨a.s.set i q, a.h, a.b⟩
end
def liftE (p : Pm) (B : Bs p) (t : TE') : TE := fun σ H Q => ∃ σ' G Q', At p B σ' G σ H ∧ t σ' G Q' ∧ ∀ d G' v H', Nxt p G H G' H' → Rep p G' H' d v → Q' d G' → Q v H'
def liftT (p : Pm) (B : Bs p) (t : TT') : TT := fun σ H Q => ∃ σ' G Q', At p B σ' G σ H ∧ t σ' G Q' ∧ ∀ b G' H', Nxt p G H G' H' → Q' b G' → Q b H'
def liftA (p : Pm) (B : Bs p) (t : TA') : TA := fun σ H Q => ∃ σ' G Q', At p B σ' G σ H ∧ t σ' G Q' ∧ ∀ ds G' vs H', Nxt p G H G' H' → RepL p G' H' ds vs → Q' ds G' → Q vs H'
structure EndsOk (p : Pm) (B : Bs p) (D' : Ends') (D : Ends) : Prop where
  nx : ∀ σ' G σ H, At p B σ' G σ H → D'.nx σ' G → D.nx σ H
  bk : ∀ σ' G σ H, At p B σ' G σ H → D'.bk σ' G → D.bk σ H
  ct : ∀ σ' G σ H, At p B σ' G σ H → D'.ct σ' G → D.ct σ H
  rt : ∀ d G v H, RepH p G H → B.ok G H → Rep p G H d v → D'.rt d G → D.rt v H
def liftS (p : Pm) (B : Bs p) (t : TS') : TS := fun D σ H => ∃ σ' G D', At p B σ' G σ H ∧ t D' σ' G ∧ EndsOk p B D' D

/-! ### weakening -/
theorem PE.weak {X : Cx} {e : Expr} {t t' : TE} (h : PE X e t) (k : ∀ σ H Q, t' σ H Q → t σ H Q) : PE X e t' := ⟨fun pins s σ H Q I q => h.run pins s σ H Q I (k _ _ _ q)⟩
theorem PT.weak {X : Cx} {e : Expr} {t t' : TT} (h : PT X e t) (k : ∀ σ H Q, t' σ H Q → t σ H Q) : PT X e t' := ⟨fun pins s σ H Q I q => h.run pins s σ H Q I (k _ _ _ q)⟩
theorem PA.weak {X : Cx} {e : List Expr} {t t' : TA} (h : PA X e t) (k : ∀ σ H Q, t' σ H Q → t σ H Q) : PA X e t' := ⟨fun pos pins s σ H Q I q => h.run pos pins s σ H Q I (k _ _ _ q)⟩
theorem PS.weak {X : Cx} {e : Stmt} {t t' : TS} (h : PS X e t) (k : ∀ D σ H, t' D σ H → t D σ H) : PS X e t' := ⟨fun pins s σ H D I q => h.run pins s σ H D I (k _ _ _ q)⟩
theorem PSs.weak {X : Cx} {e : List Stmt} {t t' : TS} (h : PSs X e t) (k : ∀ D σ H, t' D σ H → t D σ H) : PSs X e t' := ⟨fun pins s σ H D I q => h.run pins s σ H D I (k _ _ _ q)⟩

abbrev DE (p : Pm) (B : Bs p) (X : Cx) (e : Expr) (t : TE') : Prop := PE X e (liftE p B t)
abbrev DT (p : Pm) (B : Bs p) (X : Cx) (e : Expr) (t : TT') : Prop := PT X e (liftT p B t)
abbrev DA (p : Pm) (B : Bs p) (X : Cx) (e : List Expr) (t : TA') : Prop := PA X e (liftA p B t)
abbrev DS (p : Pm) (B : Bs p) (X : Cx) (e : Stmt) (t : TS') : Prop := PS X e (liftS p B t)
abbrev DSs (p : Pm) (B : Bs p) (X : Cx) (e : List Stmt) (t : TS') : Prop := PSs X e (liftS p B t)
end DL

namespace DL
open PySem PySem.Spec PyProof.Rows L2

/-! ### sequences -/
def asL (G : GH) : D → Option (List D)
  | .lst ds => some ds
  | .ref a => match G a with
    | some (.lst ds) => some ds
    | _ => none
  | _ => none
def asQ (p : Pm) (G : GH) : D → Option (List D)
  | .tup ds => some ds
  | .scr => some (p.ns.map D.int)
  | d => asL G d
@[simp] theorem asL_lst {G : GH} {ds : List D} : asL G (.lst ds) = some ds := rfl
@[simp] theorem asQ_lst {p : Pm} {G : GH} {ds : List D} : asQ p G (.lst ds) = some ds := rfl
@[simp] theorem asQ_tup {p : Pm} {G : GH} {ds : List D} : asQ p G (.tup ds) = some ds := rfl
@[simp] theorem asQ_scr {p : Pm} {G : GH} : asQ p G .scr = some (p.ns.map D.int) := rfl
theorem asL_ref {G : GH} {a : Addr} {ds : List D} (h : G a = some (.lst ds)) : asL G (.ref a) = some ds := by show (match G a with | some (GO.lst ds) => some ds | _ => none) = _; rw [h]
theorem asQ_ref {p : Pm} {G : GH} {a : Addr} {ds : List D} (h : G a = some (.lst ds)) : asQ p G (.ref a) = some ds := asL_ref h
section
variable {p : Pm} {G G' : GH} {H H' : Hp} {d : D} {ds : List D} {v : V}
theorem asL_rep (h : RepH p G H) (r : Rep p G H d v) (e : asL G d = some ds) : ∃ a vs, v = .ref a ∧ H a = some (.lst vs) ∧ RepL p G H ds vs := by
  cases d with
  | lst es =>
    cases (show some es = some ds from e)
    obtain ⟨a, vs, e1, e2, _, e4⟩ := r
    exact ⟨a, vs, e1, e2, e4⟩
  | ref a =>
    unfold asL at e
    dsimp only at e
    split at e
    · rename_i es q
      cases e
      obtain ⟨vs, q1, q2⟩ := h.obj a _ q
      exact ⟨a, vs, r, q1, q2⟩
    · cases e
  | _ => cases e
theorem scr_sq (h : RepH p G H) : SqL p.K H p.sa (p.ns.map V.int) := by
  rcases h.scr with ⟨r, _⟩ | k
  · exact .inl r
  · exact k H
theorem asQ_rep (h : RepH p G H) (r : Rep p G H d v) (e : asQ p G d = some ds) : ∃ a vs, v = .ref a ∧ (SqL p.K H a vs ∨ SqT p.K H a vs) ∧ RepL p G H ds vs := by
  cases d with
  | tup es =>
    cases (show some es = some ds from e)
    obtain ⟨a, vs, e1, e2, e4⟩ := r
    exact ⟨a, vs, e1, .inr (sqT_of e2), e4⟩
  | scr =>
    cases (show some (p.ns.map D.int) = some ds from e)
    exact ⟨p.sa, _, r, .inl (scr_sq h), RepL.ofInts _⟩
  | lst es =>
    obtain ⟨a, vs, e1, e2, e3⟩ := asL_rep h r e
    exact ⟨a, vs, e1, .inl (SqL.of e2), e3⟩
  | ref a =>
    obtain ⟨a, vs, e1, e2, e3⟩ := asL_rep h r e
    exact ⟨a, vs, e1, .inl (SqL.of e2), e3⟩
  | _ => cases e
theorem rep_newT (h : RepH p G H) {a : Addr} (hn : H a = none) {vs : List V} (r : RepL p G H ds vs) : Nxt p G H G (upd H a (.tup vs)) ∧ Rep p G (upd H a (.tup vs)) (.tup ds) (.ref a) :=
  have n : Nxt p G H G (upd H a (.tup vs)) := nxt_new h hn
  ⟨n, a, vs, rfl, .inl upd_same, n.st.list r⟩
theorem rep_newF (h : RepH p G H) {a : Addr} (hn : H a = none) {vs : List V} (r : RepL p G H ds vs) : Nxt p G H G (upd H a (.lst vs)) ∧ Rep p G (upd H a (.lst vs)) (.lst ds) (.ref a) :=
  have n : Nxt p G H G (upd H a (.lst vs)) := nxt_new h hn
  ⟨n, a, vs, rfl, upd_same, h.free hn, n.st.list r⟩
theorem rep_newM (h : RepH p G H) {a : Addr} (hn : H a = none) {vs : List V} (r : RepL p G H ds vs) : Nxt p G H (gup G a (.lst ds)) (upd H a (.lst vs)) :=
  nxt_newG h hn ⟨vs, upd_same, (step_newG hn).list r⟩
end

/-! ### expressions -/
section
variable {p : Pm} {B : Bs p} {X : Cx} {a b c e : Expr} {es : List Expr} {ta tb tc : TE'} {pos : Pos}
@[simp] def tVar' (i : Nat) : TE' := fun σ G Q => ∃ d, σ[i]? = some (some d) ∧ Q d G
@[simp] def tC' (d : D) : TE' := fun _ G Q => Q d G
theorem de_var (i : Nat) {x : Str} {pos : Pos} (hN : X.N[i]? = some x := by rfl) (hv : Vis X.env.scope x := by first | exact Or.inl rfl | exact Or.inr (Or.inl rfl) | exact Or.inr (Or.inr rfl)) (hd : (x == ("__debug__" : Str)) = false := by decide)
    (hcd : (x == ("__classdict__" : Str)) = false := by decide) : DE p B X (.Name x pos) (tVar' i) :=
  PE.weak (pe_var hN hv hd hcd) fun σ H Q ⟨σ', G, Q', at_, ⟨d, e, q⟩, k⟩ => by
    obtain ⟨v, e', r⟩ := at_.s.at_ i d e
    exact ⟨v, e', k d G v H (.refl at_.h) r q⟩
theorem de_c {t : TE} {v : V} {d : D} (h : PE X e (tC v)) (r : ∀ G H, Rep p G H d v) : DE p B X e (tC' d) :=
  PE.weak h fun σ H Q ⟨σ', G, Q', at_, q, k⟩ => k d G v H (.refl at_.h) (r _ _) q
theorem de_int {i j pos} : DE p B X (.Constant (.int i) j pos) (tC' (.int i)) := de_c (t := tC (.int i)) pe_int fun _ _ => rfl
theorem de_bl {i j pos} : DE p B X (.Constant (.bool i) j pos) (tC' (.bl i)) := de_c (t := tC (.bl i)) pe_bl fun _ _ => rfl
theorem de_non {j pos} : DE p B X (.Constant .none j pos) (tC' .non) := de_c (t := tC .non) pe_non fun _ _ => rfl
theorem de_str {x j pos} : DE p B X (.Constant (.str x) j pos) (tC' (.str x)) := de_c (t := tC (.str x)) pe_str fun _ _ => rfl
/-- a constant of the module -/
theorem de_globI {x : Str} {i : Int} {t : Tok} {pos : Pos} (hg : Gl X x) (hm : X.mg x = some (.int i t)) (hd : (x == ("__debug__" : Str)) = false := by decide) : DE p B X (.Name x pos) (tC' (.int i)) :=
  de_c (t := tC (.int i)) (pe_glob (v := .int i) hg hm ⟨t, rfl⟩ hd) fun _ _ => rfl
theorem de_globS {x : Str} {i : Str} {t : Tok} {pos : Pos} (hg : Gl X x) (hm : X.mg x = some (.str i t)) (hd : (x == ("__debug__" : Str)) = false := by decide) : DE p B X (.Name x pos) (tC' (.str i)) :=
  de_c (t := tC (.str i)) (pe_glob (v := .str i) hg hm ⟨t, rfl⟩ hd) fun _ _ => rfl

/-! operators -/
abbrev R2' := D → D → GH → QE → Prop
def Lft2 (p : Pm) (r : R2) (r' : R2') : Prop := ∀ x y G Q' u v H Q, Rep p G H x u → Rep p G H y v → RepH p G H → r' x y G Q' → (∀ d G' w H', Nxt p G H G' H' → Rep p G' H' d w → Q' d G' → Q w H') → r u v H Q
@[simp] def tOp' (r : R2') (ta tb : TE') : TE' := fun σ G Q => ta σ G fun x G1 => tb σ G1 fun y G2 => r x y G2 Q
theorem lift_op {r : R2} {r' : R2'} (l : Lft2 p r r') {σ H Q} (h : liftE p B (tOp' r' ta tb) σ H Q) : tOp r (liftE p B ta) (liftE p B tb) σ H Q := by
  obtain ⟨σ', G, Q', at_, q, k⟩ := h
  refine ⟨σ', G, _, at_, q, fun x G1 u H1 n1 r1 q1 => ⟨σ', G1, _, at_.nxt n1, q1, fun y G2 v H2 n2 r2 q2 => ?_⟩⟩
  exact l x y G2 Q' u v H2 Q (n2.st _ _ r1) r2 n2.rep q2 fun d G3 w H3 n3 r3 q3 => k d G3 w H3 ((n1.trans n2).trans n3) r3 q3
theorem de_op {op : Operator} {r : R2} {r' : R2'} (ho : OpR X (binaryOp op) r) (l : Lft2 p r r') (ha : DE p B X a ta) (hb : DE p B X b tb) : DE p B X (.BinOp a op b pos) (tOp' r' ta tb) :=
  PE.weak (pe_op ho ha hb) fun σ H Q h => lift_op l h
theorem de_cmp {op : CmpOp} {r : R2} {r' : R2'} (ho : OpR X (compareOp op) r) (l : Lft2 p r r') (ha : DE p B X a ta) (hb : DE p B X b tb) (hm : behindInMarks op b = false) : DE p B X (.Compare a [op] [b] pos) (tOp' r' ta tb) :=
  PE.weak (pe_cmpR ho ha hb hm) fun σ H Q h => lift_op l h
/-- an expression that gives a truth value, as a test -/
@[simp] def tTest' (t : TE') : TT' := fun σ G Q => t σ G fun x G' => ∃ k, x = .bl k ∧ Q k G'
theorem lift_test {t : TE'} {σ H Q} (h : liftT p B (tTest' t) σ H Q) : tTest (liftE p B t) σ H Q := by
  obtain ⟨σ', G, Q', at_, q, k⟩ := h
  refine ⟨σ', G, _, at_, q, fun x G1 u H1 n1 r1 q1 => ?_⟩
  obtain ⟨b, rfl, q1⟩ := q1
  exact ⟨b, r1, k b G1 H1 n1 q1⟩
theorem dt_val {e : Expr} (h : DE p B X e ta) (he : ∀ whole, isTrue e X.env whole = (do let v ← whole; standAt e.pos; holding [v] (truthy v)) := by intro _; rfl) : DT p B X e (tTest' ta) :=
  PT.weak (pt_val h he) fun σ H Q h => lift_test h
theorem dt_cmp {op : CmpOp} {r : R2} {r' : R2'} (ho : OpR X (compareOp op) r) (l : Lft2 p r r') (ha : DE p B X a ta) (hb : DE p B X b tb) (hm : behindInMarks op b = false) : DT p B X (.Compare a [op] [b] pos) (tTest' (tOp' r' ta tb)) :=
  PT.weak (pt_cmpR ho ha hb hm) fun σ H Q h => by
    obtain ⟨σ', G, Q', at_, q, k⟩ := lift_test h
    exact lift_op l ⟨σ', G, Q', at_, q, k⟩
/-- two comparisons -/
@[simp] def tChain' (r r' : R2') (ta tb tc : TE') : TE' := fun σ G Q => ta σ G fun x G1 => tb σ G1 fun y G2 => r x y G2 fun z G3 => ∃ k, z = .bl k ∧ if k = true then tc σ G3 fun w G4 => r' y w G4 Q else Q (.bl false) G3

def rI' (C : Int → Int → Prop) (g : Int → Int → D) : R2' := fun x y G Q => ∃ i j, x = .int i ∧ y = .int j ∧ C i j ∧ Q (g i j) G
theorem lft_int {p : Pm} {G : GH} {H : Hp} {i : Int} {v : V} (r : Rep p G H (.int i) v) : v = .int i := r
theorem Lft2.int {C : Int → Int → Prop} {g : Int → Int → Int} : Lft2 p (rI C fun i j => .int (g i j)) (rI' C fun i j => .int (g i j)) := by
  rintro x y G Q' u v H Q rx ry h ⟨i, j, rfl, rfl, hc, q⟩ k
  exact ⟨i, j, rx, ry, hc, k _ G _ H (.refl h) (by exact rfl) q⟩
theorem Lft2.int0 {g : Int → Int → Int} : Lft2 p (rI0 fun i j => .int (g i j)) (rI' (fun _ _ => True) fun i j => .int (g i j)) := by
  rintro x y G Q' u v H Q rx ry h ⟨i, j, rfl, rfl, _, q⟩ k
  exact ⟨i, j, rx, ry, k _ G _ H (.refl h) (by exact rfl) q⟩
theorem Lft2.bl0 {g : Int → Int → Bool} : Lft2 p (rI0 fun i j => .bl (g i j)) (rI' (fun _ _ => True) fun i j => .bl (g i j)) := by
  rintro x y G Q' u v H Q rx ry h ⟨i, j, rfl, rfl, _, q⟩ k
  exact ⟨i, j, rx, ry, k _ G _ H (.refl h) (by exact rfl) q⟩
theorem Lft2.or {r1 r2 : R2} {r1' r2' : R2'} (h1 : Lft2 p r1 r1') (h2 : Lft2 p r2 r2') : Lft2 p (fun x y H Q => r1 x y H Q ∨ r2 x y H Q) (fun x y G Q => r1' x y G Q ∨ r2' x y G Q) :=
  fun x y G Q' u v H Q rx ry h q k => q.elim (fun q => .inl (h1 x y G Q' u v H Q rx ry h q k)) fun q => .inr (h2 x y G Q' u v H Q rx ry h q k)
theorem Lft2.imp {r1 : R2} {r1' r2' : R2'} (h1 : Lft2 p r1 r1') (h : ∀ x y G Q, r2' x y G Q → r1' x y G Q) : Lft2 p r1 r2' :=
  fun x y G Q' u v H Q rx ry hh q k => h1 x y G Q' u v H Q rx ry hh (h _ _ _ _ q) k

/-! + -/
def rAdd' (fresh : Bool) : R2' := fun x y G Q => match x, y with
  | .int i, .int j => Q (.int (i + j)) G
  | .str i, .str j => i.length + j.length ≤ sizeLine ∧ Q (.str (i ++ j)) G
  | .tup i, .tup j => i.length + j.length ≤ sizeLine ∧ Q (.tup (i ++ j)) G
  | x, y => ∃ i j, asL G x = some i ∧ asL G y = some j ∧ i.length + j.length ≤ sizeLine ∧ if fresh then ∀ a, G a = none → Q (.ref a) (gup G a (.lst (i ++ j))) else Q (.lst (i ++ j)) G
@[simp] theorem rAdd_int {f : Bool} {i j : Int} {G : GH} {Q : QE} : rAdd' f (.int i) (.int j) G Q = Q (.int (i + j)) G := rfl
@[simp] theorem rAdd_str {f : Bool} {i j : Str} {G : GH} {Q : QE} : rAdd' f (.str i) (.str j) G Q = (i.length + j.length ≤ sizeLine ∧ Q (.str (i ++ j)) G) := rfl
@[simp] theorem rAdd_tup {f : Bool} {i j : List D} {G : GH} {Q : QE} : rAdd' f (.tup i) (.tup j) G Q = (i.length + j.length ≤ sizeLine ∧ Q (.tup (i ++ j)) G) := rfl
@[simp] theorem rAdd_lst {i j : List D} {G : GH} {Q : QE} : rAdd' false (.lst i) (.lst j) G Q = (i.length + j.length ≤ sizeLine ∧ Q (.lst (i ++ j)) G) := by simp [rAdd', asL]
@[simp] theorem rAdd_lstM {i j : List D} {G : GH} {Q : QE} : rAdd' true (.lst i) (.lst j) G Q = (i.length + j.length ≤ sizeLine ∧ ∀ a, G a = none → Q (.ref a) (gup G a (.lst (i ++ j)))) := by simp [rAdd', asL]
theorem lft_catL {fresh : Bool} : Lft2 p rCat fun x y G Q => ∃ i j, asL G x = some i ∧ asL G y = some j ∧ i.length + j.length ≤ sizeLine ∧ if fresh then ∀ a, G a = none → Q (.ref a) (gup G a (.lst (i ++ j))) else Q (.lst (i ++ j)) G := by
  rintro x y G Q' u v H Q rx ry h ⟨i, j, ei, ej, hl, q⟩ k
  obtain ⟨a, vs, rfl, ha, ra⟩ := asL_rep h rx ei
  obtain ⟨b, ws, rfl, hb, rb⟩ := asL_rep h ry ej
  refine ⟨a, b, vs, ws, rfl, rfl, ha, hb, by rw [← ra.length, ← rb.length]; exact hl, fun l hn => ?_⟩
  cases fresh with
  | true => exact k _ _ _ _ (rep_newM h hn (ra.append rb)) (by exact rfl) (q l (h.free hn))
  | false => exact k _ _ _ _ (rep_newF h hn (ra.append rb)).1 (rep_newF h hn (ra.append rb)).2 q
theorem lft_addS : Lft2 p (fun x y H Q => ∃ i j, x = V.str i ∧ y = V.str j ∧ i.length + j.length ≤ sizeLine ∧ Q (.str (i ++ j)) H) fun x y G Q => ∃ i j, x = .str i ∧ y = .str j ∧ i.length + j.length ≤ sizeLine ∧ Q (.str (i ++ j)) G := by
  rintro x y G Q' u v H Q rx ry h ⟨i, j, rfl, rfl, hl, q⟩ k
  exact ⟨i, j, rx, ry, hl, k _ G _ H (.refl h) (by exact rfl) q⟩
theorem lft_catT {K : PySem.W.Frag} : Lft2 p (rCatA K) fun x y G Q => ∃ i j, x = .tup i ∧ y = .tup j ∧ i.length + j.length ≤ sizeLine ∧ Q (.tup (i ++ j)) G := by
  rintro x y G Q' u v H Q rx ry h ⟨i, j, rfl, rfl, hl, q⟩ k
  obtain ⟨a, vs, rfl, ha, ra⟩ := rx
  obtain ⟨b, ws, rfl, hb, rb⟩ := ry
  refine ⟨a, b, vs, ws, rfl, rfl, sqT_of ha, sqT_of hb, by rw [← ra.length, ← rb.length]; exact hl, fun e => ?_, fun _ e => ?_, fun _ _ l hn => ?_⟩
  · subst e
    have z : i = [] := List.eq_nil_of_length_eq_zero ra.length
    subst z
    exact k (.tup ([] ++ j)) G _ H (.refl h) ⟨b, ws, rfl, hb, rb⟩ q
  · subst e
    have z : j = [] := List.eq_nil_of_length_eq_zero rb.length
    subst z
    rw [List.append_nil] at q
    exact k (.tup i) G _ H (.refl h) ⟨a, vs, rfl, ha, ra⟩ q
  · exact k _ _ _ _ (rep_newT h hn (ra.append rb)).1 (rep_newT h hn (ra.append rb)).2 q
theorem or_add {X : Cx} : OpR X (binaryOp .Add) (fun x y H Q => (rI0 (fun i j => .int (i + j)) x y H Q ∨ (∃ i j, x = .str i ∧ y = .str j ∧ i.length + j.length ≤ sizeLine ∧ Q (.str (i ++ j)) H)) ∨ (rCatA X.K x y H Q ∨ rCat x y H Q)) :=
  (op_add.or op_add_str).or (op_catA.or op_cat)
theorem lft_add {K : PySem.W.Frag} {fresh : Bool} : Lft2 p (fun x y H Q => (rI0 (fun i j => .int (i + j)) x y H Q ∨ (∃ i j, x = .str i ∧ y = .str j ∧ i.length + j.length ≤ sizeLine ∧ Q (.str (i ++ j)) H)) ∨ (rCatA K x y H Q ∨ rCat x y H Q)) (rAdd' fresh) :=
  ((Lft2.int0.or lft_addS).or (lft_catT.or lft_catL)).imp fun x y G Q h => by
    unfold rAdd' at h
    split at h
    · exact .inl (.inl ⟨_, _, rfl, rfl, trivial, h⟩)
    · exact .inl (.inr ⟨_, _, rfl, rfl, h⟩)
    · exact .inr (.inl ⟨_, _, rfl, rfl, h⟩)
    · exact .inr (.inr h)
theorem de_add (fresh : Bool) (ha : DE p B X a ta) (hb : DE p B X b tb) : DE p B X (.BinOp a .Add b pos) (tOp' (rAdd' fresh) ta tb) := de_op or_add lft_add ha hb
theorem de_sub (ha : DE p B X a ta) (hb : DE p B X b tb) : DE p B X (.BinOp a .Sub b pos) (tOp' (rI' (fun _ _ => True) fun i j => .int (i - j)) ta tb) := de_op op_sub Lft2.int0 ha hb
/-! * -/
def rMul' (fresh : Bool) : R2' := fun x y G Q => match x, y with
  | .int i, .int j => CMul i j ∧ Q (.int (i * j)) G
  | x, .int k => ∃ i, asL G x = some i ∧ -(2 ^ 63) ≤ k ∧ k < 2 ^ 63 ∧ i.length * k.toNat ≤ sizeLine ∧ if fresh then ∀ a, G a = none → Q (.ref a) (gup G a (.lst (List.replicate k.toNat i).flatten)) else Q (.lst (List.replicate k.toNat i).flatten) G
  | _, _ => False
@[simp] theorem rMul_int {f : Bool} {i j : Int} {G : GH} {Q : QE} : rMul' f (.int i) (.int j) G Q = (CMul i j ∧ Q (.int (i * j)) G) := rfl
@[simp] theorem rMul_lst {i : List D} {k : Int} {G : GH} {Q : QE} : rMul' false (.lst i) (.int k) G Q = (-(2 ^ 63) ≤ k ∧ k < 2 ^ 63 ∧ i.length * k.toNat ≤ sizeLine ∧ Q (.lst (List.replicate k.toNat i).flatten) G) := by simp [rMul', asL]
@[simp] theorem rMul_lstM {i : List D} {k : Int} {G : GH} {Q : QE} : rMul' true (.lst i) (.int k) G Q = (-(2 ^ 63) ≤ k ∧ k < 2 ^ 63 ∧ i.length * k.toNat ≤ sizeLine ∧ ∀ a, G a = none → Q (.ref a) (gup G a (.lst (List.replicate k.toNat i).flatten))) := by simp [rMul', asL]
theorem lft_repL {fresh : Bool} : Lft2 p rRep fun x y G Q => ∃ k i, y = .int k ∧ asL G x = some i ∧ -(2 ^ 63) ≤ k ∧ k < 2 ^ 63 ∧ i.length * k.toNat ≤ sizeLine ∧ if fresh then ∀ a, G a = none → Q (.ref a) (gup G a (.lst (List.replicate k.toNat i).flatten)) else Q (.lst (List.replicate k.toNat i).flatten) G := by
  rintro x y G Q' u v H Q rx ry h ⟨n, i, rfl, ei, h1, h2, hl, q⟩ k
  obtain ⟨a, vs, rfl, ha, ra⟩ := asL_rep h rx ei
  refine ⟨a, n, vs, rfl, ry, ha, h1, h2, by rw [← ra.length]; exact hl, fun l hn => ?_⟩
  cases fresh with
  | true => exact k _ _ _ _ (rep_newM h hn (ra.rep _)) (by exact rfl) (q l (h.free hn))
  | false => exact k _ _ _ _ (rep_newF h hn (ra.rep _)).1 (rep_newF h hn (ra.rep _)).2 q
theorem de_mul (fresh : Bool) (ha : DE p B X a ta) (hb : DE p B X b tb) : DE p B X (.BinOp a .Mult b pos) (tOp' (rMul' fresh) ta tb) :=
  de_op (op_mul.or op_rep) ((Lft2.int.or (lft_repL (fresh := fresh))).imp fun x y G Q h => by
    unfold rMul' at h
    split at h
    · exact .inl ⟨_, _, rfl, rfl, h⟩
    · obtain ⟨i, h⟩ := h
      exact .inr ⟨_, i, rfl, h⟩
    · exact h.elim) ha hb
theorem de_fdiv (ha : DE p B X a ta) (hb : DE p B X b tb) : DE p B X (.BinOp a .FloorDiv b pos) (tOp' (rI' CDiv fun i j => .int (i / j)) ta tb) := de_op op_fdiv Lft2.int ha hb
theorem de_mod (ha : DE p B X a ta) (hb : DE p B X b tb) : DE p B X (.BinOp a .Mod b pos) (tOp' (rI' (fun _ j => 0 < j) fun i j => .int (i % j)) ta tb) := de_op op_mod Lft2.int ha hb
theorem de_pow (ha : DE p B X a ta) (hb : DE p B X b tb) : DE p B X (.BinOp a .Pow b pos) (tOp' (rI' CPow fun i j => .int (i ^ j.toNat)) ta tb) := de_op op_pow Lft2.int ha hb
@[simp] def tNeg' (ta : TE') : TE' := fun σ G Q => ta σ G fun x G1 => ∃ i, x = .int i ∧ Q (.int (-i)) G1
theorem de_neg (ha : DE p B X a ta) : DE p B X (.UnaryOp .USub a pos) (tNeg' ta) := PE.weak (pe_un un_neg ha) fun σ H Q h => by
  obtain ⟨σ', G, Q', at_, q, k⟩ := h
  refine ⟨σ', G, _, at_, q, fun x G1 u H1 n1 r1 q1 => ?_⟩
  obtain ⟨i, rfl, q1⟩ := q1
  exact ⟨i, r1, k _ G1 _ H1 n1 (by exact rfl) q1⟩
/-! < <= > >= -/
abbrev rCmp' (g : Int → Int → Bool) : R2' := rI' (fun _ _ => True) fun i j => .bl (g i j)
theorem dt_lt (ha : DE p B X a ta) (hb : DE p B X b tb) : DT p B X (.Compare a [.Lt] [b] pos) (tTest' (tOp' (rCmp' fun i j => decide (i < j)) ta tb)) := dt_cmp op_lt Lft2.bl0 ha hb (nomark _)
theorem dt_le (ha : DE p B X a ta) (hb : DE p B X b tb) : DT p B X (.Compare a [.LtE] [b] pos) (tTest' (tOp' (rCmp' fun i j => decide (i ≤ j)) ta tb)) := dt_cmp op_le Lft2.bl0 ha hb (nomark _)
theorem dt_gt (ha : DE p B X a ta) (hb : DE p B X b tb) : DT p B X (.Compare a [.Gt] [b] pos) (tTest' (tOp' (rCmp' fun i j => decide (j < i)) ta tb)) := dt_cmp op_gt Lft2.bl0 ha hb (nomark _)
theorem dt_ge (ha : DE p B X a ta) (hb : DE p B X b tb) : DT p B X (.Compare a [.GtE] [b] pos) (tTest' (tOp' (rCmp' fun i j => decide (j ≤ i)) ta tb)) := dt_cmp op_ge Lft2.bl0 ha hb (nomark _)
theorem de_lt (ha : DE p B X a ta) (hb : DE p B X b tb) : DE p B X (.Compare a [.Lt] [b] pos) (tOp' (rCmp' fun i j => decide (i < j)) ta tb) := de_cmp op_lt Lft2.bl0 ha hb (nomark _)
theorem de_le (ha : DE p B X a ta) (hb : DE p B X b tb) : DE p B X (.Compare a [.LtE] [b] pos) (tOp' (rCmp' fun i j => decide (i ≤ j)) ta tb) := de_cmp op_le Lft2.bl0 ha hb (nomark _)
theorem de_gt (ha : DE p B X a ta) (hb : DE p B X b tb) : DE p B X (.Compare a [.Gt] [b] pos) (tOp' (rCmp' fun i j => decide (j < i)) ta tb) := de_cmp op_gt Lft2.bl0 ha hb (nomark _)
theorem de_ge (ha : DE p B X a ta) (hb : DE p B X b tb) : DE p B X (.Compare a [.GtE] [b] pos) (tOp' (rCmp' fun i j => decide (j ≤ i)) ta tb) := de_cmp op_ge Lft2.bl0 ha hb (nomark _)
/-! a < b < c -/
theorem lift_chain {r r2 : R2} {r' r2' : R2'} (l : Lft2 p r r') (l2 : Lft2 p r2 r2') {σ H Q} (h : liftE p B (tChain' r' r2' ta tb tc) σ H Q) : tChain r r2 (liftE p B ta) (liftE p B tb) (liftE p B tc) σ H Q := by
  obtain ⟨σ', G, Q', at_, q, k⟩ := h
  refine ⟨σ', G, _, at_, q, fun x G1 u H1 n1 r1 q1 => ⟨σ', G1, _, at_.nxt n1, q1, fun y G2 v H2 n2 r2 q2 => ?_⟩⟩
  refine l x y G2 _ u v H2 _ (n2.st _ _ r1) r2 n2.rep q2 fun d G3 w H3 n3 r3 q3 => ?_
  obtain ⟨b, rfl, q3⟩ := q3
  refine ⟨b, r3, ?_⟩
  cases b with
  | true =>
    rw [if_pos rfl] at q3 ⊢
    refine ⟨σ', G3, _, at_.nxt ((n1.trans n2).trans n3), q3, fun z G4 w4 H4 n4 r4 q4 => ?_⟩
    exact l2 y z G4 Q' v w4 H4 Q (n4.st _ _ (n3.st _ _ r2)) r4 n4.rep q4 fun d G5 w5 H5 n5 r5 q5 => k d G5 w5 H5 ((((n1.trans n2).trans n3).trans n4).trans n5) r5 q5
  | false =>
    rw [if_neg Bool.false_ne_true] at q3 ⊢
    exact k _ G3 _ H3 ((n1.trans n2).trans n3) (by exact rfl) q3
end
end DL

namespace DL
open PySem PySem.Spec PyProof.Rows L2
section
variable {p : Pm} {B : Bs p} {X : Cx} {a b c e : Expr} {es : List Expr} {ta tb tc : TE'} {pos : Pos}
theorem de_chain {op op' : CmpOp} {r r2 : R2} {r' r2' : R2'} (ho : OpR X (compareOp op) r) (ho' : OpR X (compareOp op') r2) (l : Lft2 p r r') (l2 : Lft2 p r2 r2') (ha : DE p B X a ta) (hb : DE p B X b tb) (hc : DE p B X c tc)
    (hm : lastMarks [op, op'] [b, c] = false := by with_unfolding_all rfl) : DE p B X (.Compare a [op, op'] [b, c] pos) (tChain' r' r2' ta tb tc) := PE.weak (pe_chain ho ho' ha hb hc hm) fun σ H Q h => lift_chain l l2 h
theorem dt_chain {op op' : CmpOp} {r r2 : R2} {r' r2' : R2'} (ho : OpR X (compareOp op) r) (ho' : OpR X (compareOp op') r2) (l : Lft2 p r r') (l2 : Lft2 p r2 r2') (ha : DE p B X a ta) (hb : DE p B X b tb) (hc : DE p B X c tc)
    (hm : lastMarks [op, op'] [b, c] = false := by with_unfolding_all rfl) : DT p B X (.Compare a [op, op'] [b, c] pos) (tTest' (tChain' r' r2' ta tb tc)) := PT.weak (pt_chain ho ho' ha hb hc hm) fun σ H Q h => by
  obtain ⟨σ', G, Q', at_, q, k⟩ := lift_test h
  exact lift_chain l l2 ⟨σ', G, Q', at_, q, k⟩

/-! ### == -/
@[simp] def deref (G : GH) : D → D
  | .ref a => match G a with
    | some (.lst ds) => .lst ds
    | _ => .ref a
  | d => d
mutual
def toP (p : Pm) : D → PyData
  | .non => .none
  | .bl b => .bool b
  | .int i => .int i
  | .str x => .str x
  | .tup ds => .tuple (toPs p ds)
  | .lst ds => .list (toPs p ds)
  | .scr => .list (p.ns.map PyData.int)
  | .ref _ => .none
def toPs (p : Pm) : List D → List PyData
  | [] => []
  | d :: ds => toP p d :: toPs p ds
end
theorem toPs_map (p : Pm) : ∀ ds : List D, toPs p ds = ds.map (toP p)
  | [] => rfl
  | d :: ds => by rw [toPs, toPs_map p ds, List.map_cons]
/-- data: no refs, no deeper than n -/
def Dok : Nat → D → Prop
  | _, .non => True
  | _, .bl _ => True
  | _, .int _ => True
  | _, .str x => PyData.strOk x = true
  | n + 1, .tup ds => ∀ d ∈ ds, Dok n d
  | n + 1, .lst ds => ∀ d ∈ ds, Dok n d
  | n + 1, .scr => True
  | _, _ => False
theorem can_all : ∀ {ds : List PyData}, (∀ d ∈ ds, d.canLay0 = true) → PyData.canLayAll0 ds = true
  | [], _ => rfl
  | d :: ds, h => by
    show (d.canLay0 && PyData.canLayAll0 ds) = true
    rw [h d (by simp), can_all fun e he => h e (by simp [he])]; rfl
theorem dep_all {n : Nat} : ∀ {ds : List PyData}, (∀ d ∈ ds, d.depth ≤ n) → PyData.depthAll ds ≤ n
  | [], _ => Nat.zero_le _
  | d :: ds, h => by
    show max d.depth (PyData.depthAll ds) ≤ n
    exact Nat.max_le.mpr ⟨h d (by simp), dep_all fun e he => h e (by simp [he])⟩
theorem dok_can (p : Pm) : ∀ (n : Nat) (d : D), Dok n d → (toP p d).canLay0 = true ∧ (toP p d).depth ≤ n
  | _, .non, _ => ⟨rfl, Nat.zero_le _⟩
  | _, .bl _, _ => ⟨rfl, Nat.zero_le _⟩
  | _, .int _, _ => ⟨rfl, Nat.zero_le _⟩
  | 0, .str x, h => ⟨h, Nat.zero_le _⟩
  | n + 1, .str x, h => ⟨h, Nat.zero_le _⟩
  | n + 1, .tup ds, h => by
    have h : ∀ d ∈ ds, Dok n d := h
    have q : ∀ e ∈ toPs p ds, e.canLay0 = true ∧ e.depth ≤ n := by
      rw [toPs_map]; intro e he
      obtain ⟨d, hd, rfl⟩ := List.mem_map.mp he
      exact dok_can p n d (h d hd)
    exact ⟨can_all fun e he => (q e he).1, Nat.succ_le_succ (dep_all fun e he => (q e he).2)⟩
  | n + 1, .lst ds, h => by
    have h : ∀ d ∈ ds, Dok n d := h
    have q : ∀ e ∈ toPs p ds, e.canLay0 = true ∧ e.depth ≤ n := by
      rw [toPs_map]; intro e he
      obtain ⟨d, hd, rfl⟩ := List.mem_map.mp he
      exact dok_can p n d (h d hd)
    exact ⟨can_all fun e he => (q e he).1, Nat.succ_le_succ (dep_all fun e he => (q e he).2)⟩
  | n + 1, .scr, h => by
    have q : ∀ e ∈ p.ns.map PyData.int, e.canLay0 = true ∧ e.depth ≤ n := by
      intro e he
      obtain ⟨d, hd, rfl⟩ := List.mem_map.mp he
      exact ⟨rfl, Nat.zero_le _⟩
    exact ⟨can_all fun e he => (q e he).1, Nat.succ_le_succ (dep_all fun e he => (q e he).2)⟩
  | 0, .ref _, h => h.elim
  | n + 1, .ref _, h => h.elim
theorem dok_shaped (p : Pm) {n : Nat} {d : D} (h : Dok n d) (hn : n ≤ 64) : SeqAt.shaped (toP p d) = true := by
  obtain ⟨h1, h2⟩ := dok_can p n d h
  unfold SeqAt.shaped
  rw [h1, decide_eq_true (Nat.le_trans h2 hn)]; rfl
mutual
theorem rep_dp {p : Pm} {G : GH} {H : Hp} (h : RepH p G H) : ∀ (n : Nat) (d : D) (v : V), Dok n d → Rep p G H d v → Dp p.K H v (toP p d)
  | _, .non, _, _, r => by cases (show _ = _ from r); exact .non
  | _, .bl b, _, _, r => by cases (show _ = _ from r); exact .bl b
  | _, .int i, _, _, r => by cases (show _ = _ from r); exact .int i
  | _, .str x, _, _, r => by cases (show _ = _ from r); exact .str x
  | n + 1, .tup ds, _, k, ⟨a, vs, e, q, r⟩ => by
    have k : ∀ d ∈ ds, Dok n d := k
    subst e; exact .tup (sqT_of q) (repL_dp h n ds vs k r)
  | n + 1, .lst ds, _, k, ⟨a, vs, e, q, _, r⟩ => by
    have k : ∀ d ∈ ds, Dok n d := k
    subst e; exact .lst (SqL.of q) (repL_dp h n ds vs k r)
  | n + 1, .scr, _, _, r => by
    cases (show _ = _ from r)
    refine .lst (scr_sq h) ?_
    generalize p.ns = l
    induction l with
    | nil => exact .nil
    | cons x l ih => exact .cons (.int x) ih
  | 0, .ref _, _, k, _ => k.elim
  | n + 1, .ref _, _, k, _ => k.elim
theorem repL_dp {p : Pm} {G : GH} {H : Hp} (h : RepH p G H) : ∀ (n : Nat) (ds : List D) (vs : List V), (∀ d ∈ ds, Dok n d) → RepL p G H ds vs → DpAll p.K H vs (toPs p ds)
  | _, [], _, _, r => by cases (show _ = _ from r); exact .nil
  | n, d :: ds, _, k, ⟨v, vr, e, r, t⟩ => by
    subst e; exact .cons (rep_dp h n d v (k d (by simp)) r) (repL_dp h n ds vr (fun e he => k e (by simp [he])) t)
end
theorem rep_deref {p : Pm} {G : GH} {H : Hp} (h : RepH p G H) {n : Nat} {d : D} {v : V} (k : Dok n (deref G d)) (r : Rep p G H d v) : Dp p.K H v (toP p (deref G d)) := by
  cases d with
  | ref a =>
    unfold deref at k ⊢
    dsimp only at k ⊢
    split at k
    · rename_i ds e
      obtain ⟨vs, q1, q2⟩ := h.obj a _ e
      cases (show _ = _ from r)
      cases n with
      | zero => exact k.elim
      | succ n => exact .lst (SqL.of q1) (repL_dp h n ds vs k q2)
    · cases n <;> exact k.elim
  | _ => exact rep_dp h n _ v k r
def eqD (p : Pm) (x y : D) : Bool := PyData.eqv (toP p x) (toP p y)
def rEq' (p : Pm) (neg : Bool) : R2' := fun x y G Q => (∃ n, n ≤ 64 ∧ Dok n (deref G x) ∧ Dok n (deref G y)) ∧ Q (.bl (neg ^^ eqD p (deref G x) (deref G y))) G
theorem lft_eq : Lft2 p (rEqD p.K) (rEq' p false) := by
  rintro x y G Q' u v H Q rx ry h ⟨⟨n, hn, hx, hy⟩, q⟩ k
  refine ⟨_, _, rep_deref h hx rx, rep_deref h hy ry, dok_shaped p hx hn, dok_shaped p hy hn, ?_⟩
  rw [Bool.false_xor] at q
  exact k _ G _ H (.refl h) (by exact rfl) q
theorem lft_ne : Lft2 p (rNeD p.K) (rEq' p true) := by
  rintro x y G Q' u v H Q rx ry h ⟨⟨n, hn, hx, hy⟩, q⟩ k
  refine ⟨_, _, rep_deref h hx rx, rep_deref h hy ry, dok_shaped p hx hn, dok_shaped p hy hn, ?_⟩
  rw [Bool.true_xor] at q
  exact k _ G _ H (.refl h) (by exact rfl) q
theorem de_eq {k : Nat} (hr : Room k X.A) (hK : X.K = p.K) (ha : DE p B X a ta) (hb : DE p B X b tb) : DE p B X (.Compare a [.Eq] [b] pos) (tOp' (rEq' p false) ta tb) := de_cmp (op_eqD hr.units) (hK ▸ lft_eq) ha hb (nomark _)
theorem de_ne {k : Nat} (hr : Room k X.A) (hK : X.K = p.K) (ha : DE p B X a ta) (hb : DE p B X b tb) : DE p B X (.Compare a [.NotEq] [b] pos) (tOp' (rEq' p true) ta tb) := de_cmp (op_neD hr.units) (hK ▸ lft_ne) ha hb (nomark _)
theorem dt_eq {k : Nat} (hr : Room k X.A) (hK : X.K = p.K) (ha : DE p B X a ta) (hb : DE p B X b tb) : DT p B X (.Compare a [.Eq] [b] pos) (tTest' (tOp' (rEq' p false) ta tb)) := dt_cmp (op_eqD hr.units) (hK ▸ lft_eq) ha hb (nomark _)
theorem dt_ne {k : Nat} (hr : Room k X.A) (hK : X.K = p.K) (ha : DE p B X a ta) (hb : DE p B X b tb) : DT p B X (.Compare a [.NotEq] [b] pos) (tTest' (tOp' (rEq' p true) ta tb)) := dt_cmp (op_neD hr.units) (hK ▸ lft_ne) ha hb (nomark _)

/-! ### is None, is True -/
@[simp] def isNon : D → Bool
  | .non => true
  | _ => false
theorem isNon_rep {G : GH} {H : Hp} {d : D} {v : V} (r : Rep p G H d v) : decide (v = .non) = isNon d := by
  cases d with
  | non => cases (show _ = _ from r); rfl
  | tup ds => obtain ⟨a, vs, e, _⟩ := r; subst e; rfl
  | lst ds => obtain ⟨a, vs, e, _⟩ := r; subst e; rfl
  | _ => cases (show _ = _ from r); rfl
@[simp] def rIsN' (neg : Bool) : R2' := fun x y G Q => isNon y = true ∧ Q (.bl (neg ^^ isNon x)) G
theorem lft_isN : Lft2 p (fun x y H Q => y = .non ∧ Q (.bl (decide (x = .non))) H) (rIsN' false) := by
  rintro x y G Q' u v H Q rx ry h ⟨hy, q⟩ k
  have e : v = .non := of_decide_eq_true ((isNon_rep ry).trans hy)
  refine ⟨e, ?_⟩
  rw [isNon_rep rx]; rw [Bool.false_xor] at q; exact k _ G _ H (.refl h) (by exact rfl) q
theorem lft_notN : Lft2 p (fun x y H Q => y = .non ∧ Q (.bl (!decide (x = .non))) H) (rIsN' true) := by
  rintro x y G Q' u v H Q rx ry h ⟨hy, q⟩ k
  have e : v = .non := of_decide_eq_true ((isNon_rep ry).trans hy)
  refine ⟨e, ?_⟩
  rw [isNon_rep rx]; rw [Bool.true_xor] at q; exact k _ G _ H (.refl h) (by exact rfl) q
theorem dt_isN (ha : DE p B X a ta) (hb : DE p B X b tb) : DT p B X (.Compare a [.Is] [b] pos) (tTest' (tOp' (rIsN' false) ta tb)) := dt_cmp op_isN lft_isN ha hb (nomark _)
theorem dt_notN (ha : DE p B X a ta) (hb : DE p B X b tb) : DT p B X (.Compare a [.IsNot] [b] pos) (tTest' (tOp' (rIsN' true) ta tb)) := dt_cmp op_notN lft_notN ha hb (nomark _)
theorem de_isN (ha : DE p B X a ta) (hb : DE p B X b tb) : DE p B X (.Compare a [.Is] [b] pos) (tOp' (rIsN' false) ta tb) := de_cmp op_isN lft_isN ha hb (nomark _)
theorem de_notN (ha : DE p B X a ta) (hb : DE p B X b tb) : DE p B X (.Compare a [.IsNot] [b] pos) (tOp' (rIsN' true) ta tb) := de_cmp op_notN lft_notN ha hb (nomark _)
@[simp] def rIsB' (neg : Bool) : R2' := fun x y G Q => ∃ i j, x = .bl i ∧ y = .bl j ∧ Q (.bl (neg ^^ decide (i = j))) G
theorem lft_isB : Lft2 p rIsB (rIsB' false) := by
  rintro x y G Q' u v H Q rx ry h ⟨i, j, rfl, rfl, q⟩ k
  rw [Bool.false_xor] at q
  exact ⟨i, j, rx, ry, k _ G _ H (.refl h) (by exact rfl) q⟩
theorem lft_notB : Lft2 p rNotB (rIsB' true) := by
  rintro x y G Q' u v H Q rx ry h ⟨i, j, rfl, rfl, q⟩ k
  rw [Bool.true_xor] at q
  exact ⟨i, j, rx, ry, k _ G _ H (.refl h) (by exact rfl) q⟩
theorem dt_isB (ha : DE p B X a ta) (hb : DE p B X b tb) : DT p B X (.Compare a [.Is] [b] pos) (tTest' (tOp' (rIsB' false) ta tb)) := dt_cmp op_isBl lft_isB ha hb (nomark _)
theorem dt_notB (ha : DE p B X a ta) (hb : DE p B X b tb) : DT p B X (.Compare a [.IsNot] [b] pos) (tTest' (tOp' (rIsB' true) ta tb)) := dt_cmp op_notBl lft_notB ha hb (nomark _)
theorem de_isB (ha : DE p B X a ta) (hb : DE p B X b tb) : DE p B X (.Compare a [.Is] [b] pos) (tOp' (rIsB' false) ta tb) := de_cmp op_isBl lft_isB ha hb (nomark _)
theorem de_notB (ha : DE p B X a ta) (hb : DE p B X b tb) : DE p B X (.Compare a [.IsNot] [b] pos) (tOp' (rIsB' true) ta tb) := de_cmp op_notBl lft_notB ha hb (nomark _)

/-! ### and, or, not, if -/
variable {tA tB : TT'} {rest : List Expr}
theorem lift_seqT {t u : TT'} {f : Bool → Bool} {σ H Q} (h : liftT p B (fun σ G Q => t σ G fun b G1 => if b = true then u σ G1 Q else Q (f b) G1) σ H Q) :
    liftT p B t σ H fun b H1 => if b = true then liftT p B u σ H1 Q else Q (f b) H1 := by
  obtain ⟨σ', G, Q', at_, q, k⟩ := h
  refine ⟨σ', G, _, at_, q, fun b G1 H1 n1 q1 => ?_⟩
  cases b with
  | true => rw [if_pos rfl] at q1 ⊢; exact ⟨σ', G1, _, at_.nxt n1, q1, fun b G2 H2 n2 q2 => k b G2 H2 (n1.trans n2) q2⟩
  | false => rw [if_neg Bool.false_ne_true] at q1 ⊢; exact k _ G1 H1 n1 q1
@[simp] def tAnd' (t u : TT') : TT' := fun σ G Q => t σ G fun c G1 => if c = true then u σ G1 Q else Q false G1
@[simp] def tOr' (t u : TT') : TT' := fun σ G Q => t σ G fun c G1 => if c = true then Q true G1 else u σ G1 Q
@[simp] def tNot' (t : TT') : TT' := fun σ G Q => t σ G fun c G1 => Q (!c) G1
abbrev DW (p : Pm) (B : Bs p) (X : Cx) (e : Expr) (t : TT') : Prop := PW X e (liftT p B t)
theorem PW.weak {X : Cx} {e : Expr} {t t' : TT} (h : PW X e t) (k : ∀ σ H Q, t' σ H Q → t σ H Q) : PW X e t' := ⟨fun w pins s σ H Q I q => h.run w pins s σ H Q I (k _ _ _ q)⟩
theorem dw_and1 (ha : DT p B X a tA) : DW p B X (.BoolOp .And [a] pos) tA := pw_and1 ha
theorem dw_or1 (ha : DT p B X a tA) : DW p B X (.BoolOp .Or [a] pos) tA := pw_or1 ha
theorem dw_and (ha : DT p B X a tA) (hb : DW p B X (.BoolOp .And (b :: rest) pos) tB) : DW p B X (.BoolOp .And (a :: b :: rest) pos) (tAnd' tA tB) := PW.weak (pw_and ha hb) fun σ H Q h => by
  obtain ⟨σ', G, Q', at_, q, k⟩ := h
  refine ⟨σ', G, _, at_, q, fun b G1 H1 n1 q1 => ?_⟩
  cases b with
  | true => rw [if_pos rfl] at q1 ⊢; exact ⟨σ', G1, _, at_.nxt n1, q1, fun b G2 H2 n2 q2 => k b G2 H2 (n1.trans n2) q2⟩
  | false => rw [if_neg Bool.false_ne_true] at q1 ⊢; exact k _ G1 H1 n1 q1
theorem dw_or (ha : DT p B X a tA) (hb : DW p B X (.BoolOp .Or (b :: rest) pos) tB) : DW p B X (.BoolOp .Or (a :: b :: rest) pos) (tOr' tA tB) := PW.weak (pw_or ha hb) fun σ H Q h => by
  obtain ⟨σ', G, Q', at_, q, k⟩ := h
  refine ⟨σ', G, _, at_, q, fun b G1 H1 n1 q1 => ?_⟩
  cases b with
  | false => rw [if_neg Bool.false_ne_true] at q1 ⊢; exact ⟨σ', G1, _, at_.nxt n1, q1, fun b G2 H2 n2 q2 => k b G2 H2 (n1.trans n2) q2⟩
  | true => rw [if_pos rfl] at q1 ⊢; exact k _ G1 H1 n1 q1
theorem dt_not (ha : DT p B X a tA) : DT p B X (.UnaryOp .Not a pos) (tNot' tA) := PT.weak (pt_not ha) fun σ H Q h => by
  obtain ⟨σ', G, Q', at_, q, k⟩ := h
  exact ⟨σ', G, _, at_, q, fun b G1 H1 n1 q1 => k _ G1 H1 n1 q1⟩
/-! as values -/
@[simp] def tAndV' (ta tb : TE') : TE' := fun σ G Q => ta σ G fun x G1 => ∃ c, x = .bl c ∧ if c = true then tb σ G1 Q else Q (.bl false) G1
@[simp] def tOrV' (ta tb : TE') : TE' := fun σ G Q => ta σ G fun x G1 => ∃ c, x = .bl c ∧ if c = true then Q (.bl true) G1 else tb σ G1 Q
@[simp] def tNotV' (ta : TE') : TE' := fun σ G Q => ta σ G fun x G1 => ∃ c, x = .bl c ∧ Q (.bl (!c)) G1
theorem de_one {op} {t : TE'} (h : DE p B X a t) : DE p B X (.BoolOp op [a] pos) t := pe_one h
theorem de_and (ha : DE p B X a ta) (hb : DE p B X (.BoolOp .And (b :: rest) pos) tb) : DE p B X (.BoolOp .And (a :: b :: rest) pos) (tAndV' ta tb) := PE.weak (pe_and ha hb) fun σ H Q h => by
  obtain ⟨σ', G, Q', at_, q, k⟩ := h
  refine ⟨σ', G, _, at_, q, fun x G1 v H1 n1 r1 q1 => ?_⟩
  obtain ⟨c, rfl, q1⟩ := q1
  refine ⟨c, r1, ?_⟩
  cases c with
  | true => rw [if_pos rfl] at q1 ⊢; exact ⟨σ', G1, _, at_.nxt n1, q1, fun d G2 w H2 n2 r2 q2 => k d G2 w H2 (n1.trans n2) r2 q2⟩
  | false => rw [if_neg Bool.false_ne_true] at q1 ⊢; exact k _ G1 _ H1 n1 (by exact rfl) q1
theorem de_or (ha : DE p B X a ta) (hb : DE p B X (.BoolOp .Or (b :: rest) pos) tb) : DE p B X (.BoolOp .Or (a :: b :: rest) pos) (tOrV' ta tb) := PE.weak (pe_or ha hb) fun σ H Q h => by
  obtain ⟨σ', G, Q', at_, q, k⟩ := h
  refine ⟨σ', G, _, at_, q, fun x G1 v H1 n1 r1 q1 => ?_⟩
  obtain ⟨c, rfl, q1⟩ := q1
  refine ⟨c, r1, ?_⟩
  cases c with
  | false => rw [if_neg Bool.false_ne_true] at q1 ⊢; exact ⟨σ', G1, _, at_.nxt n1, q1, fun d G2 w H2 n2 r2 q2 => k d G2 w H2 (n1.trans n2) r2 q2⟩
  | true => rw [if_pos rfl] at q1 ⊢; exact k _ G1 _ H1 n1 (by exact rfl) q1
theorem de_not (ha : DE p B X a ta) : DE p B X (.UnaryOp .Not a pos) (tNotV' ta) := PE.weak (pe_not ha) fun σ H Q h => by
  obtain ⟨σ', G, Q', at_, q, k⟩ := h
  refine ⟨σ', G, _, at_, q, fun x G1 v H1 n1 r1 q1 => ?_⟩
  obtain ⟨c, rfl, q1⟩ := q1
  exact ⟨c, r1, k _ G1 _ H1 n1 (by exact rfl) q1⟩
@[simp] def tIf' (t : TT') (ta tb : TE') : TE' := fun σ G Q => t σ G fun c G1 => if c = true then ta σ G1 Q else tb σ G1 Q
theorem de_if (hc : DT p B X c tA) (ha : DE p B X a ta) (hb : DE p B X b tb) : DE p B X (.IfExp c a b pos) (tIf' tA ta tb) := PE.weak (pe_ifExp hc ha hb) fun σ H Q h => by
  obtain ⟨σ', G, Q', at_, q, k⟩ := h
  refine ⟨σ', G, _, at_, q, fun c G1 H1 n1 q1 => ?_⟩
  cases c with
  | false => rw [if_neg Bool.false_ne_true] at q1 ⊢; exact ⟨σ', G1, _, at_.nxt n1, q1, fun d G2 w H2 n2 r2 q2 => k d G2 w H2 (n1.trans n2) r2 q2⟩
  | true => rw [if_pos rfl] at q1 ⊢; exact ⟨σ', G1, _, at_.nxt n1, q1, fun d G2 w H2 n2 r2 q2 => k d G2 w H2 (n1.trans n2) r2 q2⟩

/-! ### argument lists, displays -/
@[simp] def tNil' : TA' := fun _ G Q => Q [] G
@[simp] def tCons' (t : TE') (u : TA') : TA' := fun σ G Q => t σ G fun x G1 => u σ G1 fun xs G2 => Q (x :: xs) G2
theorem da_nil : DA p B X [] tNil' := PA.weak pa_nil fun σ H Q h => by
  obtain ⟨σ', G, Q', at_, q, k⟩ := h
  exact k [] G [] H (.refl at_.h) rfl q
theorem da_cons {t : TA'} (ha : DE p B X e ta) (hr : DA p B X es t) (hs : starEach (e :: es) X.env = (false, eval e X.env) :: starEach es X.env := by rfl) : DA p B X (e :: es) (tCons' ta t) := PA.weak (pa_cons ha hr hs) fun σ H Q h => by
  obtain ⟨σ', G, Q', at_, q, k⟩ := h
  refine ⟨σ', G, _, at_, q, fun x G1 v H1 n1 r1 q1 => ⟨σ', G1, _, at_.nxt n1, q1, fun xs G2 vs H2 n2 r2 q2 => ?_⟩⟩
  exact k (x :: xs) G2 (v :: vs) H2 (n1.trans n2) ⟨_, _, rfl, n2.st _ _ r1, r2⟩ q2
@[simp] def tTup' (t : TA') : TE' := fun σ G Q => t σ G fun xs G1 => xs.length ≤ sizeLine ∧ Q (.tup xs) G1
@[simp] def tLst' (fresh : Bool) (t : TA') : TE' := fun σ G Q => t σ G fun xs G1 => xs.length ≤ sizeLine ∧ if fresh then ∀ a, G1 a = none → Q (.ref a) (gup G1 a (.lst xs)) else Q (.lst xs) G1
theorem de_tup {t : TA'} {x1} (h : DA p B X es t) : DE p B X (.Tuple es x1 pos) (tTup' t) := PE.weak (pe_tup h) fun σ H Q h => by
  obtain ⟨σ', G, Q', at_, q, k⟩ := h
  refine ⟨σ', G, _, at_, q, fun xs G1 vs H1 n1 r1 q1 => ⟨by rw [← r1.length]; exact q1.1, fun a hn => ?_⟩⟩
  have N := rep_newT n1.rep hn r1
  exact k _ G1 _ _ (n1.trans N.1) N.2 q1.2
theorem de_lst {t : TA'} (fresh : Bool) (h : DA p B X es t) : DE p B X (.List es pos) (tLst' fresh t) := PE.weak (pe_lst h) fun σ H Q h => by
  obtain ⟨σ', G, Q', at_, q, k⟩ := h
  refine ⟨σ', G, _, at_, q, fun xs G1 vs H1 n1 r1 q1 => ⟨by rw [← r1.length]; exact q1.1, fun a hn => ?_⟩⟩
  cases fresh with
  | true => exact k _ _ _ _ (n1.trans (rep_newM n1.rep hn r1)) (by exact rfl) (q1.2 a (n1.rep.free hn))
  | false =>
    have N := rep_newF n1.rep hn r1
    exact k _ G1 _ _ (n1.trans N.1) N.2 q1.2
end
end DL

namespace DLMax
open PySem PySem.Spec PyProof.Rows L2
section
variable {prog : Program} {w : World} {A : Around} {E : Value → Shared → Prop} {s : Shared} {l : Addr} {its : List Value} {ns : List Int} {Q : Value → Shared → Prop} {xs : Array (Int × Tok)}
theorem iter_tup (hl : s.heap.IsTuple l (intItems xs))
    (h : ∀ s₂ : Shared, s₂ = { s with heap := s.heap.push { cls := .type "tuple_iterator", data := .fields #[.ref l, .int 0 0] } } →
      (s₂.heap.IsTupleIter s.heap.objs.size l 0 ∧ s₂.heap.IsTuple l (intItems xs)) → (∀ b ∈ [s.heap.objs.size, l], b < s₂.heap.objs.size) → l ≠ s.heap.objs.size → Q (.ref s.heap.objs.size) s₂) :
    wpAny (model prog w) A (pyIter (.ref l)) Q E s := by
  have hlt : l < s.heap.objs.size := by obtain ⟨_, e, _⟩ := hl; exact Heap.lt_size e
  refine wpAny_pyIter_tuple hl (h _ rfl ⟨⟨_, Heap.get?_push_size _ rfl, rfl, rfl⟩, hl.push _⟩ (fun b hb => ?_) (Nat.ne_of_lt hlt))
  show b < (s.heap.push _).objs.size
  rw [Heap.size_push]
  rcases List.mem_cons.mp hb with rfl | hb
  · exact Nat.lt_succ_self _
  · rcases List.mem_cons.mp hb with rfl | hb
    · exact Nat.lt_succ_of_lt hlt
    · cases hb
theorem kept_tup {h' : Heap} (hk : ∀ b o, b ∉ [s.heap.objs.size] → (s.heap.push { cls := .type "tuple_iterator", data := .fields #[.ref l, .int 0 0] }).get? b = some o → h'.get? b = some o) :
    ∀ b o, s.heap.get? b = some o → h'.get? b = some o := fun b o e => by
  refine hk b o (fun hm => ?_) (Heap.get?_push_of_some _ e)
  have e1 : b = s.heap.objs.size := List.mem_singleton.mp hm
  subst e1
  exact Nat.lt_irrefl _ (Heap.lt_size e)
theorem sum_tup (hh : A.handled = none) (hl : s.heap.IsTuple l its.toArray) (hi : IntsAre its ns)
    (h : ∀ h' tk t', (∀ b o, s.heap.get? b = some o → h'.get? b = some o) → Q (.int ns.sum t') { s with heap := h', toks := tk }) : wpAny (model prog w) A (call (.builtin "sum") [.ref l]) Q E s := by
  obtain ⟨xs, e⟩ := hi.allInts.items
  have hn : numsOf (intItems xs).toList = ns := by rw [← e]; exact hi.numsOf
  rw [nums_intItems] at hn
  rw [e] at hl
  refine PySem.call_sum_walkG (iter_tup hl fun s₂ e st hfp hlI => ?_)
  subst e
  refine ⟨_, _, _, _, _, _, numAt xs, rfl, Walks.tuple (A := A.in1) hh _ l hlI (intItems xs), st, hfp, (fun _ _ => intItems_at), fun h' tk t' hk => ?_⟩
  have := h h' tk t' (kept_tup hk)
  rw [show (intItems xs).size = xs.size by simp [intItems], preSum_eq, List.take_of_length_le (by simp), hn]
  exact this
theorem max_tup (hh : A.handled = none) (hl : s.heap.IsTuple l its.toArray) (hi : IntsAre its ns) (hne : 0 < ns.length)
    (h : ∀ h' tk M t', (∀ b o, s.heap.get? b = some o → h'.get? b = some o) → M ∈ ns → (∀ a, a ∈ ns → a ≤ M) → Q (.int M t') { s with heap := h', toks := tk }) : wpAny (model prog w) A (call (.builtin "max") [.ref l]) Q E s := by
  obtain ⟨xs, e⟩ := hi.allInts.items
  have hn : numsOf (intItems xs).toList = ns := by rw [← e]; exact hi.numsOf
  rw [nums_intItems] at hn
  subst hn
  rw [e] at hl
  have hsz : 0 < xs.size := by simpa using hne
  refine PySem.call_max_walk (iter_tup hl fun s₂ e st hfp hlI => ?_)
  subst e
  refine ⟨_, _, _, _, _, _, _, rfl, Walks.tuple (A := A.in1) hh _ l hlI (intItems xs), st, hfp, by simpa [intItems] using hsz, CmpOf.ints_gt (numAt xs) (fun _ _ => intItems_at), fun v h' tk hP hk => ?_⟩
  have hv : (intItems xs)[argBest (fun i j => decide (numAt xs i > numAt xs j)) (xs.size - 1)]? = some v := by simpa [intItems] using hP
  obtain ⟨t, rfl⟩ := intItems_at hv
  obtain ⟨h1, h2⟩ := argBest_gt (numAt xs) (xs.size - 1)
  refine h h' tk _ t (kept_tup hk) ?_ fun a ha => ?_
  · rw [numAt_eq]; exact PySem.getD_mem (by rw [List.length_map, Array.length_toList]; omega)
  · obtain ⟨j, hj, rfl⟩ := mem_getD ha
    rw [List.length_map, Array.length_toList] at hj
    rw [← numAt_eq]; exact h2 j (by omega)
theorem min_tup (hh : A.handled = none) (hl : s.heap.IsTuple l its.toArray) (hi : IntsAre its ns) (hne : 0 < ns.length)
    (h : ∀ h' tk M t', (∀ b o, s.heap.get? b = some o → h'.get? b = some o) → M ∈ ns → (∀ a, a ∈ ns → M ≤ a) → Q (.int M t') { s with heap := h', toks := tk }) : wpAny (model prog w) A (call (.builtin "min") [.ref l]) Q E s := by
  obtain ⟨xs, e⟩ := hi.allInts.items
  have hn : numsOf (intItems xs).toList = ns := by rw [← e]; exact hi.numsOf
  rw [nums_intItems] at hn
  subst hn
  rw [e] at hl
  have hsz : 0 < xs.size := by simpa using hne
  refine PySem.call_min_walk (iter_tup hl fun s₂ e st hfp hlI => ?_)
  subst e
  refine ⟨_, _, _, _, _, _, _, rfl, Walks.tuple (A := A.in1) hh _ l hlI (intItems xs), st, hfp, by simpa [intItems] using hsz, CmpOf.ints_lt (numAt xs) (fun _ _ => intItems_at), fun v h' tk hP hk => ?_⟩
  have hv : (intItems xs)[argBest (fun i j => decide (numAt xs i < numAt xs j)) (xs.size - 1)]? = some v := by simpa [intItems] using hP
  obtain ⟨t, rfl⟩ := intItems_at hv
  obtain ⟨h1, h2⟩ := argBest_lt (numAt xs) (xs.size - 1)
  refine h h' tk _ t (kept_tup hk) ?_ fun a ha => ?_
  · rw [numAt_eq]; exact PySem.getD_mem (by rw [List.length_map, Array.length_toList]; omega)
  · obtain ⟨j, hj, rfl⟩ := mem_getD ha
    rw [List.length_map, Array.length_toList] at hj
    rw [← numAt_eq]; exact h2 j (by omega)
end
section
variable {X : Cx}
/-- of a list or a tuple of ints -/
def rSumA (K : PySem.W.Frag) : List V → Hp → VK → Prop := fun vs H Q => ∃ (a : Addr) (ns : List Int), vs = [V.ref a] ∧ (SqL K H a (ns.map V.int) ∨ SqT K H a (ns.map V.int)) ∧ Q (.int ns.sum) H
def rMaxA (K : PySem.W.Frag) : List V → Hp → VK → Prop := fun vs H Q => ∃ (a : Addr) (ns : List Int), vs = [V.ref a] ∧ (SqL K H a (ns.map V.int) ∨ SqT K H a (ns.map V.int)) ∧ 0 < ns.length ∧ ∀ m, m ∈ ns → (∀ y, y ∈ ns → y ≤ m) → Q (.int m) H
def rMinA (K : PySem.W.Frag) : List V → Hp → VK → Prop := fun vs H Q => ∃ (a : Addr) (ns : List Int), vs = [V.ref a] ∧ (SqL K H a (ns.map V.int) ∨ SqT K H a (ns.map V.int)) ∧ 0 < ns.length ∧ ∀ m, m ∈ ns → (∀ y, y ∈ ns → m ≤ y) → Q (.int m) H
theorem cr_sumA (hc : X.calm = true) : CallR X (.builtin "sum") (rSumA X.K) := by
  intro pins s σ H vs us Q I r h
  obtain ⟨a, ns, rfl, hs | hs, q⟩ := h
  · exact cr_sum hc pins s σ H _ us Q I r ⟨a, ns, rfl, hs, q⟩
  · obtain ⟨its, rv, p, _⟩ := I.tuple hs
    rw [Vals.ref1 r]
    exact sum_tup (I.ok.hd hc) p rv.ints fun h' tk t' hk => ⟨.int _, H, I.kept hk, ⟨_, rfl⟩, q⟩
theorem cr_maxA (hc : X.calm = true) : CallR X (.builtin "max") (rMaxA X.K) := by
  intro pins s σ H vs us Q I r h
  obtain ⟨a, ns, rfl, hs | hs, hne, q⟩ := h
  · exact cr_max hc pins s σ H _ us Q I r ⟨a, ns, rfl, hs, hne, q⟩
  · obtain ⟨its, rv, p, _⟩ := I.tuple hs
    rw [Vals.ref1 r]
    exact max_tup (I.ok.hd hc) p rv.ints hne fun h' tk m t' hk h1 h2 => ⟨.int _, H, I.kept hk, ⟨_, rfl⟩, q m h1 h2⟩
theorem cr_minA (hc : X.calm = true) : CallR X (.builtin "min") (rMinA X.K) := by
  intro pins s σ H vs us Q I r h
  obtain ⟨a, ns, rfl, hs | hs, hne, q⟩ := h
  · exact cr_min hc pins s σ H _ us Q I r ⟨a, ns, rfl, hs, hne, q⟩
  · obtain ⟨its, rv, p, _⟩ := I.tuple hs
    rw [Vals.ref1 r]
    exact min_tup (I.ok.hd hc) p rv.ints hne fun h' tk m t' hk h1 h2 => ⟨.int _, H, I.kept hk, ⟨_, rfl⟩, q m h1 h2⟩
end
end DLMax

namespace DL
open PySem PySem.Spec PyProof.Rows L2
section
variable {p : Pm} {B : Bs p} {X : Cx} {a b c e : Expr} {es : List Expr} {ta tb tc : TE'} {pos : Pos}
/-! ### subscripts -/
theorem atI_rep {G : GH} {H : Hp} {ds : List D} {vs : List V} {i : Int} {d : D} (r : RepL p G H ds vs) (h : atI ds i = some d) : ∃ v, atI vs i = some v ∧ Rep p G H d v := by
  unfold atI at h ⊢
  rw [← r.length]
  cases e : ixN ds.length i with
  | none => rw [e] at h; cases h
  | some j =>
    rw [e] at h
    exact r.get (show ds[j]? = some d from h)
def rIx' (p : Pm) : R2' := fun x y G Q => match x, y with
  | .str z, .int i => z.length ≤ sizeLine ∧ ∃ c, atI z.cps.toList i = some c ∧ Q (.str ⟨#[c]⟩) G
  | x, .int i => ∃ ds d, asQ p G x = some ds ∧ atI ds i = some d ∧ Q d G
  | _, _ => False
@[simp] theorem rIx_lst {xs : List D} {i : Int} {G : GH} {Q : QE} : rIx' p (.lst xs) (.int i) G Q = ∃ d, atI xs i = some d ∧ Q d G := by simp [rIx']
@[simp] theorem rIx_tup {xs : List D} {i : Int} {G : GH} {Q : QE} : rIx' p (.tup xs) (.int i) G Q = ∃ d, atI xs i = some d ∧ Q d G := by simp [rIx']
@[simp] theorem rIx_str {z : Str} {i : Int} {G : GH} {Q : QE} : rIx' p (.str z) (.int i) G Q = (z.length ≤ sizeLine ∧ ∃ c, atI z.cps.toList i = some c ∧ Q (.str ⟨#[c]⟩) G) := rfl
theorem rIx_ref {a : Addr} {xs : List D} {i : Int} {G : GH} {Q : QE} (h : G a = some (.lst xs)) : rIx' p (.ref a) (.int i) G Q = ∃ d, atI xs i = some d ∧ Q d G := by simp [rIx', asQ_ref h]
theorem atI_map {α β : Type} (f : α → β) (xs : List α) (i : Int) : atI (xs.map f) i = (atI xs i).map f := by
  unfold atI
  rw [List.length_map]
  cases ixN xs.length i with
  | none => rfl
  | some j => simp
theorem ex_map {α β : Type} {o : Option α} {f : α → β} {q : β → Prop} : (∃ d, o.map f = some d ∧ q d) = ∃ a, o = some a ∧ q (f a) := by
  cases o <;> simp
@[simp high] theorem rIx_map {α : Type} {f : α → D} {xs : List α} {i : Int} {G : GH} {Q : QE} : rIx' p (.lst (xs.map f)) (.int i) G Q = ∃ d, atI xs i = some d ∧ Q (f d) G := by
  rw [rIx_lst, atI_map, ex_map]
@[simp high] theorem rIx_mapt {α : Type} {f : α → D} {xs : List α} {i : Int} {G : GH} {Q : QE} : rIx' p (.tup (xs.map f)) (.int i) G Q = ∃ d, atI xs i = some d ∧ Q (f d) G := by
  rw [rIx_tup, atI_map, ex_map]
@[simp] theorem rIx_scr {i : Int} {G : GH} {Q : QE} : rIx' p .scr (.int i) G Q = ∃ d, atI p.ns i = some d ∧ Q (.int d) G := by
  have : rIx' p .scr (.int i) G Q = ∃ d, atI (p.ns.map D.int) i = some d ∧ Q d G := by simp [rIx']
  rw [this, atI_map, ex_map]
theorem lft_ix : Lft2 p (rIx p.K) (rIx' p) := by
  intro x y G Q' u v H Q rx ry h q k
  unfold rIx' at q
  split at q
  · obtain ⟨hz, c, hc, q⟩ := q
    exact .inr (.inr ⟨_, _, c, rx, ry, hz, hc, k _ G _ H (.refl h) (by exact rfl) q⟩)
  · obtain ⟨ds, d, e1, e2, q⟩ := q
    obtain ⟨a, vs, rfl, hs, r⟩ := asQ_rep h rx e1
    obtain ⟨w, ew, rw_⟩ := atI_rep r e2
    rcases hs with hs | hs
    · exact .inl ⟨a, vs, _, w, rfl, ry, hs, ew, k d G w H (.refl h) rw_ q⟩
    · exact .inr (.inl ⟨a, vs, _, w, rfl, ry, hs, ew, k d G w H (.refl h) rw_ q⟩)
  · exact q.elim
theorem de_ix (hK : X.K = p.K) (ha : DE p B X a ta) (hb : DE p B X b tb) (hs : PlainIx b := by exact fun _ _ => rfl) : DE p B X (.Subscript a b pos) (tOp' (rIx' p) ta tb) :=
  PE.weak (pe_ix ix_seq ha hb hs) fun σ H Q h => lift_op (hK ▸ lft_ix) h
theorem ints_inj {xs ys : List Int} (h : xs.map D.int = ys.map D.int) : xs = ys := (List.map_inj_right (fun x y h => by cases h; rfl)).mp h
theorem bls_inj {xs ys : List Bool} (h : xs.map D.bl = ys.map D.bl) : xs = ys := (List.map_inj_right (fun x y h => by cases h; rfl)).mp h
/-! ### slices -/
@[simp] def tNo' : St' → GH → (Option Int → GH → Prop) → Prop := fun _ G Q => Q none G
@[simp] def tPart' (t : TE') : St' → GH → (Option Int → GH → Prop) → Prop := fun σ G Q => t σ G fun x G1 => ∃ i, x = .int i ∧ Q (some i) G1
def liftO (p : Pm) (B : Bs p) (t : St' → GH → (Option Int → GH → Prop) → Prop) : TO := fun σ H Q => ∃ σ' G Q', At p B σ' G σ H ∧ t σ' G Q' ∧ ∀ b G' H', Nxt p G H G' H' → Q' b G' → Q b H'
abbrev DO (p : Pm) (B : Bs p) (X : Cx) (e : Option Expr) (t : St' → GH → (Option Int → GH → Prop) → Prop) : Prop := PO X e (liftO p B t)
theorem PO.weak {X : Cx} {e : Option Expr} {t t' : TO} (h : PO X e t) (k : ∀ σ H Q, t' σ H Q → t σ H Q) : PO X e t' := ⟨fun pins s σ H Q I q => h.run pins s σ H Q I (k _ _ _ q)⟩
theorem do_none : DO p B X none tNo' := PO.weak po_none fun σ H Q h => by
  obtain ⟨σ', G, Q', at_, q, k⟩ := h
  exact k none G H (.refl at_.h) q
theorem do_some (h : DE p B X e ta) : DO p B X (some e) (tPart' ta) := PO.weak (po_some h) fun σ H Q h => by
  obtain ⟨σ', G, Q', at_, q, k⟩ := h
  refine ⟨σ', G, _, at_, q, fun x G1 v H1 n1 r1 q1 => ?_⟩
  obtain ⟨i, rfl, q1⟩ := q1
  exact ⟨i, r1, k _ G1 H1 n1 q1⟩
def cutD (xs : List D) (lo hi : Option Int) : List D := (xs.drop (HT.sIx xs.length 0 lo)).take (HT.sIx xs.length xs.length hi - HT.sIx xs.length 0 lo)
theorem cut_rep {G : GH} {H : Hp} {ds : List D} {vs : List V} (r : RepL p G H ds vs) (lo hi : Option Int) : RepL p G H (cutD ds lo hi) (cutV vs lo hi) := by
  unfold cutD cutV
  rw [r.length]
  exact (r.drop _).take _
def rSl' (fresh : Bool) : D → Option Int → Option Int → GH → QE → Prop := fun x lo hi G Q => match x with
  | .tup ds => Q (.tup (cutD ds lo hi)) G
  | .str z => z.length ≤ sizeLine ∧ Q (.str (cutS z lo hi)) G
  | x => ∃ ds, asL G x = some ds ∧ if fresh then ∀ a, G a = none → Q (.ref a) (gup G a (.lst (cutD ds lo hi))) else Q (.lst (cutD ds lo hi)) G
@[simp] theorem rSl_tup {f : Bool} {ds : List D} {lo hi : Option Int} {G : GH} {Q : QE} : rSl' f (.tup ds) lo hi G Q = Q (.tup (cutD ds lo hi)) G := rfl
@[simp] theorem rSl_str {f : Bool} {z : Str} {lo hi : Option Int} {G : GH} {Q : QE} : rSl' f (.str z) lo hi G Q = (z.length ≤ sizeLine ∧ Q (.str (cutS z lo hi)) G) := rfl
@[simp] theorem rSl_lst {ds : List D} {lo hi : Option Int} {G : GH} {Q : QE} : rSl' false (.lst ds) lo hi G Q = Q (.lst (cutD ds lo hi)) G := by simp [rSl']
@[simp] theorem rSl_lstM {ds : List D} {lo hi : Option Int} {G : GH} {Q : QE} : rSl' true (.lst ds) lo hi G Q = ∀ a, G a = none → Q (.ref a) (gup G a (.lst (cutD ds lo hi))) := by simp [rSl']
theorem rSl_ref {a : Addr} {ds : List D} {lo hi : Option Int} {G : GH} {Q : QE} (h : G a = some (.lst ds)) : rSl' false (.ref a) lo hi G Q = Q (.lst (cutD ds lo hi)) G := by simp [rSl', asL_ref h]
@[simp] def tSl' (r : D → Option Int → Option Int → GH → QE → Prop) (te : TE') (tl th : St' → GH → (Option Int → GH → Prop) → Prop) : TE' := fun σ G Q => te σ G fun x G1 => tl σ G1 fun l G2 => th σ G2 fun u G3 => r x l u G3 Q
theorem cut_whole {α : Type} (xs : List α) (lo hi : Option Int) (h : HT.sIx xs.length 0 lo = 0 ∧ HT.sIx xs.length xs.length hi = xs.length) : (xs.drop (HT.sIx xs.length 0 lo)).take (HT.sIx xs.length xs.length hi - HT.sIx xs.length 0 lo) = xs := by
  rw [h.1, h.2]
  simp
theorem de_slice (fresh : Bool) {lo hi : Option Expr} {p2 : Pos} {tl th : St' → GH → (Option Int → GH → Prop) → Prop} (he : DE p B X e ta) (hl : DO p B X lo tl) (hu : DO p B X hi th) : DE p B X (.Subscript e (.Slice lo hi none p2) pos) (tSl' (rSl' fresh) ta tl th) :=
  PE.weak (pe_slice (sl_tupA.or (sl_list.or sl_str)) he hl hu) fun σ H Q h => by
    obtain ⟨σ', G, Q', at_, q, k⟩ := h
    refine ⟨σ', G, _, at_, q, fun x G1 u H1 n1 r1 q1 => ⟨σ', G1, _, at_.nxt n1, q1, fun l G2 H2 n2 q2 => ⟨σ', G2, _, (at_.nxt n1).nxt n2, q2, fun l2 G3 H3 n3 q3 => ?_⟩⟩⟩
    have N := (n1.trans n2).trans n3
    have r3 := n3.st _ _ (n2.st _ _ r1)
    have h3 := N.rep
    unfold rSl' at q3
    split at q3
    · obtain ⟨a, vs, rfl, hs, r⟩ := r3
      refine .inl ⟨a, vs, rfl, sqT_of hs, fun hw => ?_, fun hw ad hn => ?_⟩
      · refine k (.tup (cutD _ _ _)) G3 _ H3 N ⟨a, vs, rfl, hs, ?_⟩ q3
        have := cut_rep r l l2
        rwa [show cutV vs _ _ = vs from cut_whole vs _ _ hw] at this
      · have M := rep_newT h3 hn (cut_rep r l l2)
        exact k _ G3 _ _ (N.trans M.1) M.2 q3
    · exact .inr (.inr ⟨_, r3, q3.1, k _ G3 _ H3 N (by exact rfl) q3.2⟩)
    · obtain ⟨ds, e1, q3⟩ := q3
      obtain ⟨a, vs, rfl, hs, r⟩ := asL_rep h3 r3 e1
      refine .inr (.inl ⟨a, vs, rfl, SqL.of hs, fun ad hn => ?_⟩)
      cases fresh with
      | true => exact k _ _ _ _ (N.trans (rep_newM h3 hn (cut_rep r l l2))) (by exact rfl) (q3 ad (h3.free hn))
      | false =>
        have M := rep_newF h3 hn (cut_rep r l l2)
        exact k _ G3 _ _ (N.trans M.1) M.2 q3

/-! ### calls of what is built in -/
abbrev RC' := List D → GH → QE → Prop
def LftC (p : Pm) (r : List V → Hp → VK → Prop) (r' : RC') : Prop := ∀ xs G Q' vs H Q, RepL p G H xs vs → RepH p G H → r' xs G Q' → (∀ d G' w H', Nxt p G H G' H' → Rep p G' H' d w → Q' d G' → Q w H') → r vs H Q
@[simp] def tCB' (r : RC') (t : TA') : TE' := fun σ G Q => t σ G fun xs G1 => r xs G1 Q
theorem lift_cb {r : List V → Hp → VK → Prop} {r' : RC'} {t : TA'} (l : LftC p r r') {σ H Q} (h : liftE p B (tCB' r' t) σ H Q) : tCB r (liftA p B t) σ H Q := by
  obtain ⟨σ', G, Q', at_, q, k⟩ := h
  exact ⟨σ', G, _, at_, q, fun xs G1 vs H1 n1 r1 q1 => l xs G1 Q' vs H1 Q r1 n1.rep q1 fun d G2 w H2 n2 r2 q2 => k d G2 w H2 (n1.trans n2) r2 q2⟩
theorem de_callB {id : String} {x : Str} {pq : Pos} {r : List V → Hp → VK → Prop} {r' : RC'} {t : TA'} (hc : CallR X (.builtin id) r) (l : LftC p r r') (hg : Gl X x) (hm : X.mg x = none) (hv : bootBuiltins x = some (.builtin id)) (ha : DA p B X (e :: es) t) (hn : x ≠ "__name__" := by decide) (hdb : (x == ("__debug__" : Str)) = false := by decide)
    (he : starEach (e :: es) X.env = (false, eval e X.env) :: starEach es X.env := by rfl) (hpl : (backTo pos (starEach es X.env)).any (·.1) = false := by rfl) : DE p B X (.Call (.Name x pq) (e :: es) [] pos) (tCB' r' t) :=
  PE.weak (pe_callB hc hg hm hv ha hn hdb he hpl) fun σ H Q h => lift_cb l h
theorem de_callTy {T : String} {x : Str} {pq : Pos} {r : List V → Hp → VK → Prop} {r' : RC'} {t : TA'} (hc : CallR X (.type T) r) (l : LftC p r r') (hg : Gl X x) (hm : X.mg x = none) (hv : bootBuiltins x = some (.type T)) (ha : DA p B X (e :: es) t) (hn : x ≠ "__name__" := by decide) (hdb : (x == ("__debug__" : Str)) = false := by decide)
    (he : starEach (e :: es) X.env = (false, eval e X.env) :: starEach es X.env := by rfl) (hpl : (backTo pos (starEach es X.env)).any (·.1) = false := by rfl) : DE p B X (.Call (.Name x pq) (e :: es) [] pos) (tCB' r' t) :=
  PE.weak (pe_callTy hc hg hm hv ha hn hdb he hpl) fun σ H Q h => lift_cb l h
theorem rl1 {G : GH} {H : Hp} {d : D} {vs : List V} (r : RepL p G H [d] vs) : ∃ v, vs = [v] ∧ Rep p G H d v := by
  obtain ⟨v, vr, e, q, t⟩ := r
  cases (show _ = _ from t)
  exact ⟨v, e, q⟩
theorem rl2 {G : GH} {H : Hp} {d d2 : D} {vs : List V} (r : RepL p G H [d, d2] vs) : ∃ v w, vs = [v, w] ∧ Rep p G H d v ∧ Rep p G H d2 w := by
  obtain ⟨v, vr, e, q, t⟩ := r
  obtain ⟨w, e2, q2⟩ := rl1 t
  exact ⟨v, w, by rw [e, e2], q, q2⟩
/-- len -/
def rLen' (p : Pm) : RC' := fun xs G Q => match xs with
  | [.str z] => z.length ≤ sizeLine ∧ Q (.int z.length) G
  | [x] => ∃ ds, asQ p G x = some ds ∧ Q (.int ds.length) G
  | _ => False
@[simp] theorem rLen_str {z : Str} {G : GH} {Q : QE} : rLen' p [.str z] G Q = (z.length ≤ sizeLine ∧ Q (.int z.length) G) := rfl
@[simp] theorem rLen_tup {ds : List D} {G : GH} {Q : QE} : rLen' p [.tup ds] G Q = Q (.int ds.length) G := by simp [rLen']
@[simp] theorem rLen_lst {ds : List D} {G : GH} {Q : QE} : rLen' p [.lst ds] G Q = Q (.int ds.length) G := by simp [rLen']
@[simp] theorem rLen_scr {G : GH} {Q : QE} : rLen' p [.scr] G Q = Q (.int p.ns.length) G := by simp [rLen']
theorem rLen_ref {a : Addr} {ds : List D} {G : GH} {Q : QE} (h : G a = some (.lst ds)) : rLen' p [.ref a] G Q = Q (.int ds.length) G := by simp [rLen', asQ_ref h]
@[simp] theorem rLen_gup {a : Addr} {ds : List D} {G : GH} {Q : QE} : rLen' p [.ref a] (gup G a (.lst ds)) Q = Q (.int ds.length) (gup G a (.lst ds)) := rLen_ref gup_same
theorem lft_len : LftC p (fun xs H Q => ∃ x n, xs = [x] ∧ LenV p.K x H n ∧ Q (.int n) H) (rLen' p) := by
  intro xs G Q' vs H Q r h q k
  unfold rLen' at q
  split at q
  · obtain ⟨v, rfl, r1⟩ := rl1 r
    cases (show _ = _ from r1)
    exact ⟨.str _, _, rfl, ⟨q.1, rfl⟩, k _ G _ H (.refl h) (by exact rfl) q.2⟩
  · obtain ⟨ds, e1, q⟩ := q
    obtain ⟨v, rfl, r1⟩ := rl1 r
    obtain ⟨a, ws, rfl, hs, rr⟩ := asQ_rep h r1 e1
    refine ⟨_, ws.length, rfl, ?_, ?_⟩
    · rcases hs with hs | hs
      · exact .inl ⟨ws, hs, rfl⟩
      · exact .inr ⟨ws, hs, rfl⟩
    · rw [← rr.length]
      exact k _ G _ H (.refl h) (by exact rfl) q
  · exact q.elim
/-- tuple(..) -/
def rTupOf' : RC' := fun xs G Q => match xs with
  | [.tup ds] => Q (.tup ds) G
  | [x] => ∃ ds, asL G x = some ds ∧ Q (.tup ds) G
  | _ => False
@[simp] theorem rTupOf_tup {ds : List D} {G : GH} {Q : QE} : rTupOf' [.tup ds] G Q = Q (.tup ds) G := rfl
@[simp] theorem rTupOf_lst {ds : List D} {G : GH} {Q : QE} : rTupOf' [.lst ds] G Q = Q (.tup ds) G := by simp [rTupOf']
theorem rTupOf_ref {a : Addr} {ds : List D} {G : GH} {Q : QE} (h : G a = some (.lst ds)) : rTupOf' [.ref a] G Q = Q (.tup ds) G := by simp [rTupOf', asL_ref h]
@[simp] theorem rTupOf_gup {a : Addr} {ds : List D} {G : GH} {Q : QE} : rTupOf' [.ref a] (gup G a (.lst ds)) Q = Q (.tup ds) (gup G a (.lst ds)) := rTupOf_ref gup_same
theorem lft_tupOf {K : PySem.W.Frag} : LftC p (fun xs H Q => ∃ p ys, xs = [.ref p] ∧ ((SqL K H p ys ∧ ∀ l, H l = none → Q (.ref l) (upd H l (.tup ys))) ∨ (SqT K H p ys ∧ Q (.ref p) H))) rTupOf' := by
  intro xs G Q' vs H Q r h q k
  unfold rTupOf' at q
  split at q
  · obtain ⟨v, rfl, r1⟩ := rl1 r
    obtain ⟨a, ws, rfl, hs, rr⟩ := r1
    exact ⟨a, ws, rfl, .inr ⟨sqT_of hs, k (.tup _) G _ H (.refl h) ⟨a, ws, rfl, hs, rr⟩ q⟩⟩
  · obtain ⟨ds, e1, q⟩ := q
    obtain ⟨v, rfl, r1⟩ := rl1 r
    obtain ⟨a, ws, rfl, hs, rr⟩ := asL_rep h r1 e1
    refine ⟨a, ws, rfl, .inl ⟨SqL.of hs, fun l hn => ?_⟩⟩
    have M := rep_newT h hn rr
    exact k _ G _ _ M.1 M.2 q
  · exact q.elim
/-- list(..) -/
def rLstOf' (fresh : Bool) : RC' := fun xs G Q => match xs with
  | [.tup ds] => if fresh then ∀ a, G a = none → Q (.ref a) (gup G a (.lst ds)) else Q (.lst ds) G
  | [x] => ∃ ds, asL G x = some ds ∧ if fresh then ∀ a, G a = none → Q (.ref a) (gup G a (.lst ds)) else Q (.lst ds) G
  | _ => False
@[simp] theorem rLstOf_tup {ds : List D} {G : GH} {Q : QE} : rLstOf' false [.tup ds] G Q = Q (.lst ds) G := rfl
@[simp] theorem rLstOf_lst {ds : List D} {G : GH} {Q : QE} : rLstOf' false [.lst ds] G Q = Q (.lst ds) G := by simp [rLstOf']
@[simp] theorem rLstOf_tupM {ds : List D} {G : GH} {Q : QE} : rLstOf' true [.tup ds] G Q = ∀ a, G a = none → Q (.ref a) (gup G a (.lst ds)) := by simp [rLstOf']
@[simp] theorem rLstOf_lstM {ds : List D} {G : GH} {Q : QE} : rLstOf' true [.lst ds] G Q = ∀ a, G a = none → Q (.ref a) (gup G a (.lst ds)) := by simp [rLstOf']
theorem rLstOf_ref {a : Addr} {ds : List D} {G : GH} {Q : QE} (h : G a = some (.lst ds)) : rLstOf' false [.ref a] G Q = Q (.lst ds) G := by simp [rLstOf', asL_ref h]
theorem lft_lstOf {K : PySem.W.Frag} {fresh : Bool} : LftC p (fun xs H Q => ∃ p ys, xs = [.ref p] ∧ (SqL K H p ys ∨ SqT K H p ys) ∧ ∀ l, H l = none → Q (.ref l) (upd H l (.lst ys))) (rLstOf' fresh) := by
  intro xs G Q' vs H Q r h q k
  have fin : ∀ {ds : List D} {ws : List V}, RepL p G H ds ws → (if fresh then ∀ a, G a = none → Q' (.ref a) (gup G a (.lst ds)) else Q' (.lst ds) G) → ∀ l, H l = none → Q (.ref l) (upd H l (.lst ws)) := fun {ds ws} rr q l hn => by
    cases fresh with
    | true => exact k _ _ _ _ (rep_newM h hn rr) (by exact rfl) (q l (h.free hn))
    | false =>
      have M := rep_newF h hn rr
      exact k _ G _ _ M.1 M.2 q
  unfold rLstOf' at q
  split at q
  · obtain ⟨v, rfl, r1⟩ := rl1 r
    obtain ⟨a, ws, rfl, hs, rr⟩ := r1
    exact ⟨a, ws, rfl, .inr (sqT_of hs), fin rr q⟩
  · obtain ⟨ds, e1, q⟩ := q
    obtain ⟨v, rfl, r1⟩ := rl1 r
    obtain ⟨a, ws, rfl, hs, rr⟩ := asL_rep h r1 e1
    exact ⟨a, ws, rfl, .inl (SqL.of hs), fin rr q⟩
  · exact q.elim
/-- abs -/
def absI (i : Int) : Int := if i < 0 then -i else i
theorem absI_le {i n : Int} : absI i ≤ n ↔ -n ≤ i ∧ i ≤ n := by unfold absI; omega
theorem absI_nn {i : Int} : 0 ≤ absI i := by unfold absI; omega
theorem absI_comm (a b : Int) : absI (a - b) = absI (b - a) := by unfold absI; omega
@[simp] def rAbs' : RC' := fun xs G Q => ∃ i : Int, xs = [.int i] ∧ Q (.int (absI i)) G
theorem lft_abs : LftC p (fun xs H Q => ∃ i, xs = [.int i] ∧ Q (.int (if i < 0 then -i else i)) H) rAbs' := by
  rintro xs G Q' vs H Q r h ⟨i, rfl, q⟩ k
  obtain ⟨v, rfl, r1⟩ := rl1 r
  cases (show _ = _ from r1)
  exact ⟨i, rfl, k _ G _ H (.refl h) (by exact rfl) q⟩
/-- int(..) of a number, a truth value -/
def rInt' : RC' := fun xs G Q => match xs with
  | [.int i] => Q (.int i) G
  | [.bl b] => Q (.int (if b then 1 else 0)) G
  | _ => False
@[simp] theorem rInt_int {i : Int} {G : GH} {Q : QE} : rInt' [.int i] G Q = Q (.int i) G := rfl
@[simp] theorem rInt_bl {b : Bool} {G : GH} {Q : QE} : rInt' [.bl b] G Q = Q (.int (if b then 1 else 0)) G := rfl
theorem lft_int1 : LftC p (fun xs H Q => (∃ i, xs = [.int i] ∧ Q (.int i) H) ∨ ∃ k, xs = [.bl k] ∧ Q (.int (if k then 1 else 0)) H) rInt' := by
  intro xs G Q' vs H Q r h q k
  unfold rInt' at q
  split at q
  · obtain ⟨v, rfl, r1⟩ := rl1 r
    cases (show _ = _ from r1)
    exact .inl ⟨_, rfl, k _ G _ H (.refl h) (by exact rfl) q⟩
  · obtain ⟨v, rfl, r1⟩ := rl1 r
    cases (show _ = _ from r1)
    exact .inr ⟨_, rfl, k _ G _ H (.refl h) (by exact rfl) q⟩
  · exact q.elim
/-- max, min of two -/
@[simp] def rMax2' : RC' := fun xs G Q => ∃ i j : Int, xs = [.int i, .int j] ∧ Q (.int (if j > i then j else i)) G
@[simp] def rMin2' : RC' := fun xs G Q => ∃ i j : Int, xs = [.int i, .int j] ∧ Q (.int (if j < i then j else i)) G
theorem lft_max2 : LftC p (fun xs H Q => ∃ i j, xs = [.int i, .int j] ∧ Q (.int (if j > i then j else i)) H) rMax2' := by
  rintro xs G Q' vs H Q r h ⟨i, j, rfl, q⟩ k
  obtain ⟨v, w, rfl, r1, r2⟩ := rl2 r
  cases (show _ = _ from r1)
  cases (show _ = _ from r2)
  exact ⟨i, j, rfl, k _ G _ H (.refl h) (by exact rfl) q⟩
theorem lft_min2 : LftC p (fun xs H Q => ∃ i j, xs = [.int i, .int j] ∧ Q (.int (if j < i then j else i)) H) rMin2' := by
  rintro xs G Q' vs H Q r h ⟨i, j, rfl, q⟩ k
  obtain ⟨v, w, rfl, r1, r2⟩ := rl2 r
  cases (show _ = _ from r1)
  cases (show _ = _ from r2)
  exact ⟨i, j, rfl, k _ G _ H (.refl h) (by exact rfl) q⟩
/-- a list or a tuple -/
def asT (G : GH) : D → Option (List D)
  | .tup ds => some ds
  | d => asL G d
@[simp] theorem asT_tup {G : GH} {ds : List D} : asT G (.tup ds) = some ds := rfl
@[simp] theorem asT_lst {G : GH} {ds : List D} : asT G (.lst ds) = some ds := rfl
theorem asT_ref {G : GH} {a : Addr} {ds : List D} (h : G a = some (.lst ds)) : asT G (.ref a) = some ds := asL_ref h
@[simp] theorem asT_gup {G : GH} {a : Addr} {ds : List D} : asT (gup G a (.lst ds)) (.ref a) = some ds := asL_ref gup_same
/-- sum, max, min of a list of ints -/
def rSum' : RC' := fun xs G Q => ∃ (x : D) (ns : List Int), xs = [x] ∧ asT G x = some (ns.map D.int) ∧ Q (.int ns.sum) G
@[simp] theorem rSum_lst {ns : List Int} {G : GH} {Q : QE} : rSum' [.lst (ns.map D.int)] G Q = Q (.int ns.sum) G :=
  propext ⟨fun ⟨x, ms, e, e2, q⟩ => by cases e; rw [ints_inj (Option.some.inj e2)]; exact q, fun q => ⟨_, ns, rfl, rfl, q⟩⟩
@[simp] theorem rSum_tup {ns : List Int} {G : GH} {Q : QE} : rSum' [.tup (ns.map D.int)] G Q = Q (.int ns.sum) G :=
  propext ⟨fun ⟨x, ms, e, e2, q⟩ => by cases e; rw [ints_inj (Option.some.inj e2)]; exact q, fun q => ⟨_, ns, rfl, rfl, q⟩⟩
theorem rSum_i {d : D} {ns : List Int} {G : GH} {Q : QE} (h : asT G d = some (ns.map D.int)) (q : Q (.int ns.sum) G) : rSum' [d] G Q := ⟨_, ns, rfl, h, q⟩
theorem one_intsT {K : PySem.W.Frag} {G : GH} {H : Hp} {x : D} {ns : List Int} {vs : List V} (h : RepH p G H) (r : RepL p G H [x] vs) (e : asT G x = some (ns.map D.int)) : ∃ a, vs = [.ref a] ∧ (SqL K H a (ns.map V.int) ∨ SqT K H a (ns.map V.int)) := by
  obtain ⟨v, rfl, r1⟩ := rl1 r
  by_cases c : ∃ ds, x = .tup ds
  · obtain ⟨ds, rfl⟩ := c
    obtain ⟨a, ws, rfl, hs, rr⟩ := r1
    have e2 : ds = ns.map D.int := Option.some.inj e
    subst e2
    rw [rr.ints] at hs
    exact ⟨a, rfl, .inr (sqT_of hs)⟩
  · have e2 : asL G x = some (ns.map D.int) := by
      cases x with
      | tup ds => exact (c ⟨ds, rfl⟩).elim
      | _ => exact e
    obtain ⟨a, ws, rfl, hs, rr⟩ := asL_rep h r1 e2
    rw [rr.ints] at hs
    exact ⟨a, rfl, .inl (SqL.of hs)⟩
theorem one_ints {G : GH} {H : Hp} {x : D} {ns : List Int} {vs : List V} (h : RepH p G H) (r : RepL p G H [x] vs) (e : asL G x = some (ns.map D.int)) : ∃ a, vs = [.ref a] ∧ H a = some (.lst (ns.map V.int)) := by
  obtain ⟨v, rfl, r1⟩ := rl1 r
  obtain ⟨a, ws, rfl, hs, rr⟩ := asL_rep h r1 e
  rw [rr.ints] at hs
  exact ⟨a, rfl, hs⟩
theorem lft_sum {K : PySem.W.Frag} : LftC p (DLMax.rSumA K) rSum' := by
  rintro xs G Q' vs H Q r h ⟨x, ns, rfl, e, q⟩ k
  obtain ⟨a, rfl, hs⟩ := one_intsT (K := K) h r e
  exact ⟨a, ns, rfl, hs, k _ G _ H (.refl h) (by exact rfl) q⟩
def maxL : List Int → Int
  | [] => 0
  | [x] => x
  | x :: y :: r => max x (maxL (y :: r))
def minL : List Int → Int
  | [] => 0
  | [x] => x
  | x :: y :: r => min x (minL (y :: r))
theorem maxL_mem : ∀ {l : List Int}, l ≠ [] → maxL l ∈ l
  | [x], _ => by simp [maxL]
  | x :: y :: r, _ => by
    have ih := maxL_mem (l := y :: r) (by simp)
    show max x (maxL (y :: r)) ∈ _
    rcases Int.le_total x (maxL (y :: r)) with q | q
    · rw [Int.max_eq_right q]; exact List.mem_cons_of_mem _ ih
    · rw [Int.max_eq_left q]; exact List.mem_cons_self
theorem le_maxL : ∀ {l : List Int} {y : Int}, y ∈ l → y ≤ maxL l
  | [x], y, h => by
    have : y = x := by simpa using h
    subst this; exact Int.le_refl _
  | x :: z :: r, y, h => by
    show y ≤ max x (maxL (z :: r))
    rcases List.mem_cons.mp h with rfl | h
    · exact Int.le_max_left ..
    · exact Int.le_trans (le_maxL h) (Int.le_max_right ..)
theorem minL_mem : ∀ {l : List Int}, l ≠ [] → minL l ∈ l
  | [x], _ => by simp [minL]
  | x :: y :: r, _ => by
    have ih := minL_mem (l := y :: r) (by simp)
    show min x (minL (y :: r)) ∈ _
    rcases Int.le_total x (minL (y :: r)) with q | q
    · rw [Int.min_eq_left q]; exact List.mem_cons_self
    · rw [Int.min_eq_right q]; exact List.mem_cons_of_mem _ ih
theorem minL_le : ∀ {l : List Int} {y : Int}, y ∈ l → minL l ≤ y
  | [x], y, h => by
    have : y = x := by simpa using h
    subst this; exact Int.le_refl _
  | x :: z :: r, y, h => by
    show min x (minL (z :: r)) ≤ y
    rcases List.mem_cons.mp h with rfl | h
    · exact Int.min_le_left ..
    · exact Int.le_trans (Int.min_le_right ..) (minL_le h)
def rMaxL' : RC' := fun xs G Q => ∃ (x : D) (ns : List Int), xs = [x] ∧ asT G x = some (ns.map D.int) ∧ ns ≠ [] ∧ Q (.int (maxL ns)) G
@[simp] theorem rMaxL_lst {ns : List Int} {G : GH} {Q : QE} : rMaxL' [.lst (ns.map D.int)] G Q = (ns ≠ [] ∧ Q (.int (maxL ns)) G) :=
  propext ⟨fun ⟨x, ms, e, e2, h, q⟩ => by cases e; rw [ints_inj (Option.some.inj e2)]; exact ⟨h, q⟩, fun q => ⟨_, ns, rfl, rfl, q.1, q.2⟩⟩
@[simp] theorem rMaxL_tup {ns : List Int} {G : GH} {Q : QE} : rMaxL' [.tup (ns.map D.int)] G Q = (ns ≠ [] ∧ Q (.int (maxL ns)) G) :=
  propext ⟨fun ⟨x, ms, e, e2, h, q⟩ => by cases e; rw [ints_inj (Option.some.inj e2)]; exact ⟨h, q⟩, fun q => ⟨_, ns, rfl, rfl, q.1, q.2⟩⟩
theorem rMaxL_i {d : D} {ns : List Int} {G : GH} {Q : QE} (h : asT G d = some (ns.map D.int)) (h2 : ns ≠ []) (q : Q (.int (maxL ns)) G) : rMaxL' [d] G Q := ⟨_, ns, rfl, h, h2, q⟩
def rMinL' : RC' := fun xs G Q => ∃ (x : D) (ns : List Int), xs = [x] ∧ asT G x = some (ns.map D.int) ∧ ns ≠ [] ∧ Q (.int (minL ns)) G
@[simp] theorem rMinL_lst {ns : List Int} {G : GH} {Q : QE} : rMinL' [.lst (ns.map D.int)] G Q = (ns ≠ [] ∧ Q (.int (minL ns)) G) :=
  propext ⟨fun ⟨x, ms, e, e2, h, q⟩ => by cases e; rw [ints_inj (Option.some.inj e2)]; exact ⟨h, q⟩, fun q => ⟨_, ns, rfl, rfl, q.1, q.2⟩⟩
@[simp] theorem rMinL_tup {ns : List Int} {G : GH} {Q : QE} : rMinL' [.tup (ns.map D.int)] G Q = (ns ≠ [] ∧ Q (.int (minL ns)) G) :=
  propext ⟨fun ⟨x, ms, e, e2, h, q⟩ => by cases e; rw [ints_inj (Option.some.inj e2)]; exact ⟨h, q⟩, fun q => ⟨_, ns, rfl, rfl, q.1, q.2⟩⟩
theorem rMinL_i {d : D} {ns : List Int} {G : GH} {Q : QE} (h : asT G d = some (ns.map D.int)) (h2 : ns ≠ []) (q : Q (.int (minL ns)) G) : rMinL' [d] G Q := ⟨_, ns, rfl, h, h2, q⟩
theorem lft_maxL {K : PySem.W.Frag} : LftC p (DLMax.rMaxA K) rMaxL' := by
  rintro xs G Q' vs H Q r h ⟨x, ns, rfl, e, hne, q⟩ k
  obtain ⟨a, rfl, hs⟩ := one_intsT (K := K) h r e
  refine ⟨a, ns, rfl, hs, List.length_pos_iff.mpr hne, fun m hm hm2 => ?_⟩
  have : m = maxL ns := Int.le_antisymm (le_maxL hm) (hm2 _ (maxL_mem hne))
  subst this
  exact k _ G _ H (.refl h) (by exact rfl) q
theorem lft_minL {K : PySem.W.Frag} : LftC p (DLMax.rMinA K) rMinL' := by
  rintro xs G Q' vs H Q r h ⟨x, ns, rfl, e, hne, q⟩ k
  obtain ⟨a, rfl, hs⟩ := one_intsT (K := K) h r e
  refine ⟨a, ns, rfl, hs, List.length_pos_iff.mpr hne, fun m hm hm2 => ?_⟩
  have : m = minL ns := Int.le_antisymm (hm2 _ (minL_mem hne)) (minL_le hm)
  subst this
  exact k _ G _ H (.refl h) (by exact rfl) q
/-- all, any -/
def rAll' : RC' := fun xs G Q => ∃ (x : D) (bs : List Bool), xs = [x] ∧ asL G x = some (bs.map D.bl) ∧ Q (.bl (bs.all id)) G
@[simp] theorem rAll_lst {bs : List Bool} {G : GH} {Q : QE} : rAll' [.lst (bs.map D.bl)] G Q = Q (.bl (bs.all id)) G :=
  propext ⟨fun ⟨x, ms, e, e2, q⟩ => by cases e; rw [bls_inj (Option.some.inj e2)]; exact q, fun q => ⟨_, bs, rfl, rfl, q⟩⟩
theorem rAll_i {d : D} {bs : List Bool} {G : GH} {Q : QE} (h : asL G d = some (bs.map D.bl)) (q : Q (.bl (bs.all id)) G) : rAll' [d] G Q := ⟨_, bs, rfl, h, q⟩
def rAny' : RC' := fun xs G Q => ∃ (x : D) (bs : List Bool), xs = [x] ∧ asL G x = some (bs.map D.bl) ∧ Q (.bl (bs.any id)) G
@[simp] theorem rAny_lst {bs : List Bool} {G : GH} {Q : QE} : rAny' [.lst (bs.map D.bl)] G Q = Q (.bl (bs.any id)) G :=
  propext ⟨fun ⟨x, ms, e, e2, q⟩ => by cases e; rw [bls_inj (Option.some.inj e2)]; exact q, fun q => ⟨_, bs, rfl, rfl, q⟩⟩
theorem rAny_i {d : D} {bs : List Bool} {G : GH} {Q : QE} (h : asL G d = some (bs.map D.bl)) (q : Q (.bl (bs.any id)) G) : rAny' [d] G Q := ⟨_, bs, rfl, h, q⟩
theorem lft_all {K : PySem.W.Frag} : LftC p (rAll K) rAll' := by
  rintro xs G Q' vs H Q r h ⟨x, ns, rfl, e, q⟩ k
  obtain ⟨v, rfl, r1⟩ := rl1 r
  obtain ⟨a, ws, rfl, hs, rr⟩ := asL_rep h r1 e
  rw [rr.bls] at hs
  exact ⟨a, ns, rfl, SqL.of hs, k _ G _ H (.refl h) (by exact rfl) q⟩
theorem lft_any {K : PySem.W.Frag} : LftC p (rAny K) rAny' := by
  rintro xs G Q' vs H Q r h ⟨x, ns, rfl, e, q⟩ k
  obtain ⟨v, rfl, r1⟩ := rl1 r
  obtain ⟨a, ws, rfl, hs, rr⟩ := asL_rep h r1 e
  rw [rr.bls] at hs
  exact ⟨a, ns, rfl, SqL.of hs, k _ G _ H (.refl h) (by exact rfl) q⟩
end
end DL

namespace DL
open PySem PySem.Spec PyProof.Rows L2
section
variable {p : Pm} {B : Bs p} {X : Cx} {a b c e : Expr} {es : List Expr} {ta tb tc : TE'} {pos : Pos} {st : Stmt} {rest : List Stmt} {t u : TS'}
/-! ### blocks -/
@[simp] def tNext' : TS' := fun D σ G => D.nx σ G
def tSeq' (t u : TS') : TS' := fun D σ G => t { D with nx := u D } σ G
theorem dss_nil : DSs p B X [] tNext' := PSs.weak pss_nil fun D σ H ⟨σ', G, D', at_, q, k⟩ => k.nx _ _ _ _ at_ q
theorem lift_seq {σ H} {D : Ends} (h : liftS p B (tSeq' t u) D σ H) : tSeq (liftS p B t) (liftS p B u) D σ H := by
  obtain ⟨σ', G, D', at_, q, k⟩ := h
  exact ⟨σ', G, _, at_, q, ⟨fun σ1 G1 s1 H1 a1 q1 => ⟨σ1, G1, D', a1, q1, k⟩, k.bk, k.ct, k.rt⟩⟩
theorem dss_cons (h1 : DS p B X st t) (h2 : DSs p B X rest u) : DSs p B X (st :: rest) (tSeq' t u) := PSs.weak (pss_cons h1 h2) fun _ _ _ h => lift_seq h
/-- what may be let go between two statements: a list that was being made stays as it is, or is known no more -/
def FrzS (σ1 : St') (G1 : GH) (σ2 : St') (G2 : GH) : Prop := ∀ (p : Pm) (H : Hp) (s : L2.St), RepH p G1 H → RepS p G1 H σ1 s → Nxt p G1 H G2 H ∧ RepS p G2 H σ2 s
def tSeqF' (t u : TS') : TS' := fun D σ G => t { D with nx := fun σ1 G1 => ∃ σ2 G2, FrzS σ1 G1 σ2 G2 ∧ u D σ2 G2 } σ G
theorem lift_seqF {σ H} {D : Ends} (h : liftS p B (tSeqF' t u) D σ H) : tSeq (liftS p B t) (liftS p B u) D σ H := by
  obtain ⟨σ', G, D', at_, q, k⟩ := h
  refine ⟨σ', G, _, at_, q, ⟨fun σ1 G1 s1 H1 a1 q1 => ?_, k.bk, k.ct, k.rt⟩⟩
  obtain ⟨σ2, G2, f, q2⟩ := q1
  obtain ⟨n, r⟩ := f p H1 s1 a1.h a1.s
  exact ⟨σ2, G2, D', ⟨r, n.rep, B.step _ _ _ _ a1.b n.st⟩, q2, k⟩
theorem dss_consF (h1 : DS p B X st t) (h2 : DSs p B X rest u) : DSs p B X (st :: rest) (tSeqF' t u) := PSs.weak (pss_cons h1 h2) fun _ _ _ h => lift_seqF h
theorem dss_one (h1 : DS p B X st t) : DSs p B X [st] t := pss_one h1
theorem ds_pass : DS p B X (.Pass pos) tNext' := PS.weak ps_pass fun D σ H ⟨σ', G, D', at_, q, k⟩ => k.nx _ _ _ _ at_ q
@[simp] def tNever' : TS' := fun _ _ _ => False
theorem ds_never : DS p B X st tNever' := PS.weak ps_never fun D σ H ⟨σ', G, D', at_, q, k⟩ => q
@[simp] def tDrop' (te : TE') : TS' := fun D σ G => te σ G fun _ G1 => D.nx σ G1
theorem ds_expr (he : DE p B X e ta) (hs : swapsWith e none pos.line X.env = pure false := by rfl) : DS p B X (.Expr e pos) (tDrop' ta) := PS.weak (ps_expr he hs) fun D σ H ⟨σ', G, D', at_, q, k⟩ =>
  ⟨σ', G, _, at_, q, fun d G1 v H1 n1 r1 q1 => k.nx _ _ _ _ (at_.nxt n1) q1⟩
@[simp] def tRet' (te : TE') : TS' := fun D σ G => te σ G D.rt
theorem ds_ret (he : DE p B X e ta) : DS p B X (.Return (some e) pos) (tRet' ta) := PS.weak (ps_ret he) fun D σ H ⟨σ', G, D', at_, q, k⟩ =>
  ⟨σ', G, _, at_, q, fun d G1 v H1 n1 r1 q1 => k.rt _ _ _ _ n1.rep (B.step _ _ _ _ at_.b n1.st) r1 q1⟩
@[simp] def tRetN' : TS' := fun D _ G => D.rt .non G
theorem ds_retN : DS p B X (.Return none pos) tRetN' := PS.weak ps_retN fun D σ H ⟨σ', G, D', at_, q, k⟩ => k.rt _ G _ H at_.h at_.b (by exact rfl) q
@[simp] def tIfS' (c : TT') (t u : TS') : TS' := fun D σ G => c σ G fun b G1 => if b = true then t D σ G1 else u D σ G1
theorem ds_if {c : Expr} {a b : List Stmt} {tc : TT'} (hc : DT p B X c tc) (ha : DSs p B X a t) (hb : DSs p B X b u) : DS p B X (.If c a b pos) (tIfS' tc t u) := PS.weak (ps_if hc ha hb) fun D σ H h => by
  obtain ⟨σ', G, D', at_, q, k⟩ := h
  refine ⟨σ', G, _, at_, q, fun b G1 H1 n1 q1 => ?_⟩
  cases b with
  | true => rw [if_pos rfl] at q1 ⊢; exact ⟨σ', G1, D', at_.nxt n1, q1, k⟩
  | false => rw [if_neg Bool.false_ne_true] at q1 ⊢; exact ⟨σ', G1, D', at_.nxt n1, q1, k⟩
/-! ### targets -/
abbrev TG' := D → St' → GH → (St' → GH → Prop) → Prop
abbrev TGs' := List D → St' → GH → (St' → GH → Prop) → Prop
def liftG (p : Pm) (B : Bs p) (t : TG') : TG := fun v σ H Q => ∃ d σ' G Q', Rep p G H d v ∧ At p B σ' G σ H ∧ t d σ' G Q' ∧ ∀ σ1' G1 σ1 H1, At p B σ1' G1 σ1 H1 → Step p G H G1 H1 → Q' σ1' G1 → Q σ1 H1
def liftGs (p : Pm) (B : Bs p) (t : TGs') : TGs := fun vs σ H Q => ∃ ds σ' G Q', RepL p G H ds vs ∧ At p B σ' G σ H ∧ t ds σ' G Q' ∧ ∀ σ1' G1 σ1 H1, At p B σ1' G1 σ1 H1 → Step p G H G1 H1 → Q' σ1' G1 → Q σ1 H1
abbrev DG (p : Pm) (B : Bs p) (X : Cx) (e : Expr) (t : TG') : Prop := PG X e (liftG p B t)
abbrev DGs (p : Pm) (B : Bs p) (X : Cx) (e : List Expr) (t : TGs') : Prop := PGs X e (liftGs p B t)
theorem PG.weak {X : Cx} {e : Expr} {t t' : TG} (h : PG X e t) (k : ∀ v σ H Q, t' v σ H Q → t v σ H Q) : PG X e t' := ⟨fun pins s σ H v u Q I r q => h.run pins s σ H v u Q I r (k _ _ _ _ q)⟩
theorem PGs.weak {X : Cx} {e : List Expr} {t t' : TGs} (h : PGs X e t) (k : ∀ v σ H Q, t' v σ H Q → t v σ H Q) : PGs X e t' := ⟨fun pins s σ H v u Q I r q => h.run pins s σ H v u Q I r (k _ _ _ _ q)⟩
@[simp] def gName' (i : Nat) : TG' := fun d σ G Q => Q (σ.set i (some d)) G
theorem dg_name (i : Nat) {x : Str} (hN : X.N.Nodup) (hi : X.N[i]? = some x := by rfl) (hx : Loc X.env.scope x := by first | exact Or.inl rfl | exact Or.inr rfl) (hf : X.fn x = true ∨ X.env.scope.names.lookup x = some .local := by first | exact .inl rfl | exact .inr rfl | assumption) : DG p B X (.Name x pos) (gName' i) :=
  PG.weak (pg_name hN hi hx hf) fun v σ H Q ⟨d, σ', G, Q', r, at_, q, k⟩ => k _ G _ H (at_.set i r) Step.refl q
def gNil' : TGs' := fun vs σ G Q => vs = [] ∧ Q σ G
def gCons' (t : TG') (u : TGs') : TGs' := fun vs σ G Q => ∃ v r, vs = v :: r ∧ t v σ G fun σ' G' => u r σ' G' Q
theorem dgs_nil : DGs p B X [] gNil' := PGs.weak pgs_nil fun v σ H Q ⟨ds, σ', G, Q', r, at_, ⟨e, q⟩, k⟩ => by
  subst e
  exact ⟨r, k _ G _ H at_ Step.refl q⟩
theorem dgs_cons {e : Expr} {es : List Expr} {t : TG'} {u : TGs'} (h1 : DG p B X e t) (h2 : DGs p B X es u) (hs : (assignEach (e :: es) X.env).map (·.2) = assign e X.env :: (assignEach es X.env).map (·.2) := by rfl) : DGs p B X (e :: es) (gCons' t u) :=
  PGs.weak (pgs_cons h1 h2 hs) fun v σ H Q ⟨ds, σ', G, Q', r, at_, ⟨d, dr, e, q⟩, k⟩ => by
    subst e
    obtain ⟨w, wr, e, r1, r2⟩ := r
    subst e
    exact ⟨w, wr, rfl, d, σ', G, _, r1, at_, q, fun σ1' G1 σ1 H1 a1 s1 q1 => ⟨dr, σ1', G1, Q', s1.list r2, a1, q1, fun σ2' G2 σ2 H2 a2 s2 q2 => k _ _ _ _ a2 (s1.trans s2) q2⟩⟩
def gTup' (n : Nat) (t : TGs') : TG' := fun v σ G Q => ∃ xs, v = .tup xs ∧ xs.length = n ∧ t xs σ G Q
theorem dg_tup {es : List Expr} {k : Nat} {t : TGs'} {n : Nat} (hc : X.calm = true) (h : DGs p B X es t)
    (hn : (assignEach es X.env).length = n := by rfl) (hst : (assignEach es X.env).findIdx? (·.1) = none := by rfl) : DG p B X (.Tuple es k pos) (gTup' n t) :=
  PG.weak (pg_tup hc h hn hst) fun v σ H Q ⟨ds, σ', G, Q', r, at_, ⟨xs, e, hl, q⟩, k⟩ => by
    subst e
    obtain ⟨a, vs, e, ha, rr⟩ := r
    exact ⟨a, vs, e, sqT_of ha, by rw [← rr.length]; exact hl, xs, σ', G, Q', rr, at_, q, k⟩
/-- target = value -/
@[simp] def tAsg' (te : TE') (g : TG') : TS' := fun D σ G => te σ G fun x G1 => g x σ G1 D.nx
theorem lift_asg {g : TG'} {D : Ends} {σ H} (h : liftS p B (tAsg' ta g) D σ H) : tAsg (liftE p B ta) (liftG p B g) D σ H := by
  obtain ⟨σ', G, D', at_, q, k⟩ := h
  exact ⟨σ', G, _, at_, q, fun d G1 v H1 n1 r1 q1 => ⟨d, σ', G1, _, r1, at_.nxt n1, q1, fun σ1' G2 σ1 H2 a2 s2 q2 => k.nx _ _ _ _ a2 q2⟩⟩
theorem ds_asg {tg e : Expr} {g : TG'} (he : DE p B X e ta) (hg : DG p B X tg g) (hs : swapsWithSole [tg] e pos.line X.env = pure false := by rfl) (hw : swappedStores [tg] e X.env = pure none := by rfl)
    (h1 : (assignEach [tg] X.env).map (·.2) = [assign tg X.env] := by rfl) : DS p B X (.Assign [tg] e pos) (tAsg' ta g) := PS.weak (ps_asg he hg hs hw h1) fun _ _ _ h => lift_asg h
theorem ds_set (i : Nat) {x : Str} {e : Expr} {pos' : Pos} (hN : X.N.Nodup) (he : DE p B X e ta) (hi : X.N[i]? = some x := by rfl) (hx : Loc X.env.scope x := by first | exact Or.inl rfl | exact Or.inr rfl) (hs : swapsWith e (some (.Name x pos')) pos.line X.env = pure false := by rfl) (hf : X.fn x = true ∨ X.env.scope.names.lookup x = some .local := by first | exact .inl rfl | exact .inr rfl | assumption) :
    DS p B X (.Assign [.Name x pos'] e pos) (tAsg' ta (gName' i)) := PS.weak (ps_set hN hi hx he hs hf) fun D σ H ⟨σ', G, D', at_, q, k⟩ =>
  ⟨σ', G, _, at_, q, fun d G1 v H1 n1 r1 q1 => k.nx _ _ _ _ ((at_.nxt n1).set i r1) q1⟩
/-- x, y = a, b -/
@[simp] def tPar' (i j : Nat) (t : TA') : TS' := fun D σ G => t σ G fun vs G1 => ∃ v w, vs = [v, w] ∧ D.nx ((σ.set i (some v)).set j (some w)) G1
theorem ds_par (i j : Nat) {x y : Str} {a b : Expr} {t : TA'} {px py pt : Pos} {kt k2 pt2} (hc : X.calm = true) (hN : X.N.Nodup) (ha : DA p B X [a, b] t) (hi : X.N[i]? = some x := by rfl) (hj : X.N[j]? = some y := by rfl) (hij : i ≠ j := by decide)
    (hx : X.env.scope.names.lookup x = some .local := by rfl) (hy : X.env.scope.names.lookup y = some .local := by rfl)
    (hw : swappedStores [.Tuple [.Name x px, .Name y py] kt pt] (.Tuple [a, b] k2 pt2) X.env = pure (some [x, y]) := by rfl)
    (hs : swapsWithSole [.Tuple [.Name x px, .Name y py] kt pt] (.Tuple [a, b] k2 pt2) pos.line X.env = pure false := by rfl) :
    DS p B X (.Assign [.Tuple [.Name x px, .Name y py] kt pt] (.Tuple [a, b] k2 pt2) pos) (tPar' i j t) := PS.weak (ps_par hc hN hi hj hij hx hy ha hw hs) fun D σ H ⟨σ', G, D', at_, q, k⟩ =>
  ⟨σ', G, _, at_, q, fun ds G1 vs H1 n1 r1 q1 => by
    obtain ⟨d, d2, rfl, q1⟩ := q1
    obtain ⟨v, w, rfl, r, r2⟩ := rl2 r1
    exact ⟨v, w, rfl, k.nx _ _ _ _ (((at_.nxt n1).set i r).set j r2) q1⟩⟩
/-- o[i] = v -/
def gSub' (to ti : TE') : TG' := fun v σ G Q => to σ G fun o G1 => ti σ G1 fun i G2 => ∃ a ds k j, o = .ref a ∧ i = .int k ∧ G2 a = some (.lst ds) ∧ ixN ds.length k = some j ∧ Q σ (gup G2 a (.lst (ds.set j v)))
theorem dg_sub {o i : Expr} {to ti : TE'} (ho : DE p B X o to) (hi : DE p B X i ti)
    (ha : ∀ v, assign (.Subscript o i pos) X.env v = (do
      let ov ← holding [v] (eval o X.env)
      let iv ← holding [v, ov] (eval i X.env)
      standAt pos
      holding [v, ov, iv] (setItem ov iv v)
      release [v, ov, iv] []) := by intro _; rfl) : DG p B X (.Subscript o i pos) (gSub' to ti) :=
  PG.weak (pg_sub ho hi set_list ha) fun v σ H Q ⟨d, σ', G, Q', r, at_, q, k⟩ => by
    refine ⟨σ', G, _, at_, q, fun o G1 ov H1 n1 r1 q1 => ⟨σ', G1, _, at_.nxt n1, q1, fun i G2 iv H2 n2 r2 q2 => ?_⟩⟩
    obtain ⟨a, ds, m, j, rfl, rfl, hg, hj, q2⟩ := q2
    have N := n1.trans n2
    obtain ⟨vs, hv, rr⟩ := N.rep.obj a _ hg
    have e1 := n2.st _ _ r1
    refine ⟨a, vs, m, j, e1, r2, hv, by rw [← rr.length]; exact hj, ?_⟩
    have M := nxt_setL N.rep hg hv (rr.set j (N.st _ _ r))
    exact k _ _ _ _ (at_.nxt (N.trans M)) (N.trans M).st q2

/-! ### while -/
def tWhile' (c : TT') (tb : TS') : TS' := fun D σ G => ∃ W : Nat → St' → GH → Prop, (∃ m, W m σ G) ∧ ∀ m σ G, W m σ G →
  c σ G fun b G1 => if b = true then tb { D with nx := fun σ' G' => ∃ m', m' < m ∧ W m' σ' G', ct := fun σ' G' => ∃ m', m' < m ∧ W m' σ' G', bk := D.nx } σ G1 else D.nx σ G1
theorem ds_while {c : Expr} {body : List Stmt} {tc : TT'} {tb : TS'} (hp : PassesOwn (model X.prog X.w) X.A X.env X.xe) (hc : DT p B X c tc) (hb : DSs p B X body tb) : DS p B X (.While c body [] pos) (tWhile' tc tb) := PS.weak (ps_while hp hc hb) fun D σ H h => by
  obtain ⟨σ', G, D', at_, ⟨W, ⟨m0, w0⟩, turn⟩, k⟩ := h
  refine ⟨fun m s1 H1 => ∃ σ1 G1, At p B σ1 G1 s1 H1 ∧ W m σ1 G1, ⟨m0, σ', G, at_, w0⟩, fun m s1 H1 ⟨σ1, G1, a1, w1⟩ => ?_⟩
  refine ⟨σ1, G1, _, a1, turn m σ1 G1 w1, fun b G2 H2 n2 q2 => ?_⟩
  cases b with
  | true =>
    rw [if_pos rfl] at q2 ⊢
    refine ⟨fun s3 H3 => ∃ m' < m, ∃ σ3 G3, At p B σ3 G3 s3 H3 ∧ W m' σ3 G3, fun s3 H3 ⟨m', hm, w⟩ => ⟨m', hm, w⟩, σ1, G2, _, a1.nxt n2, q2, ?_⟩
    exact ⟨fun σ3 G3 s3 H3 a3 ⟨m', hm, w⟩ => ⟨m', hm, σ3, G3, a3, w⟩, k.nx, fun σ3 G3 s3 H3 a3 ⟨m', hm, w⟩ => ⟨m', hm, σ3, G3, a3, w⟩, k.rt⟩
  | false => rw [if_neg Bool.false_ne_true] at q2 ⊢; exact k.nx _ _ _ _ (a1.nxt n2) q2

/-! ### what is walked -/
abbrev TI' := St' → GH → (List D → GH → Prop) → Prop
/-- the iterator yields these, whatever has happened to the heap meanwhile -/
def ItOk (p : Pm) (J : It) (xs : List D) (G : GH) (H : Hp) : Prop :=
  ∀ G2 H2, Nxt p G H G2 H2 → ∀ i, (∀ d, xs[i]? = some d → J.go i H2 ∧ ∀ v H3, J.yld i H2 v H3 → Nxt p G2 H2 G2 H3 ∧ Rep p G2 H3 d v) ∧ (xs.length ≤ i → J.stop i H2)
def liftI (p : Pm) (B : Bs p) (t : TI') : TI := fun σ H R => ∃ σ' G R', At p B σ' G σ H ∧ t σ' G R' ∧ ∀ xs G1 J H1, Nxt p G H G1 H1 → ItOk p J xs G1 H1 → R' xs G1 → R J H1
abbrev DI (p : Pm) (B : Bs p) (X : Cx) (tg e : Expr) (t : TI') : Prop := PI X tg e (liftI p B t)
theorem PI.weak {X : Cx} {tg e : Expr} {t t' : TI} (h : PI X tg e t) (k : ∀ σ H Q, t' σ H Q → t σ H Q) : PI X tg e t' := ⟨fun pins s σ H R I q => h.run pins s σ H R I (k _ _ _ q)⟩
theorem get_none_le {α : Type} {l : List α} {i : Nat} (h : l[i]? = none) : l.length ≤ i := List.getElem?_eq_none_iff.mp h
/-- a list that stays, a tuple -/
@[simp] def iSeq' : TE' → TI' := fun t σ G R => t σ G fun x G1 => ∃ ds, (x = .tup ds ∨ x = .lst ds) ∧ R ds G1
theorem PI.or {X : Cx} {tg e : Expr} {t1 t2 : TI} (h1 : PI X tg e t1) (h2 : PI X tg e t2) : PI X tg e (fun σ H R => t1 σ H R ∨ t2 σ H R) :=
  ⟨fun pins s σ H R I q => q.elim (fun q => h1.run pins s σ H R I q) fun q => h2.run pins s σ H R I q⟩
theorem it_list {K : PySem.W.Frag} {G : GH} {H : Hp} {ds : List D} {vs : List V} {a : Addr} (ha : H a = some (.lst vs)) (hg : G a = none) (r : RepL p G H ds vs) : ItOk p (Itl K a) ds G H := by
  intro G2 H2 n i
  obtain ⟨b, ws, e, hb, _, rr⟩ : Rep p G2 H2 (.lst ds) (.ref a) := n.st (.lst ds) (.ref a) ⟨a, vs, rfl, ha, hg, r⟩
  cases e
  refine ⟨fun d hd => ?_, fun hl => ⟨ws, SqL.of hb, by rw [← rr.length]; exact hl⟩⟩
  obtain ⟨v, hv, rv⟩ := rr.get hd
  refine ⟨⟨ws, v, SqL.of hb, hv⟩, fun v' H3 y => ?_⟩
  obtain ⟨e, y⟩ := y
  subst e
  have := y ws (SqL.of hb)
  rw [hv] at this; cases this
  exact ⟨.refl n.rep, rv⟩
theorem it_tup {K : PySem.W.Frag} {G : GH} {H : Hp} {ds : List D} {vs : List V} {a : Addr} (ha : Rd H a (.tup vs)) (r : RepL p G H ds vs) : ItOk p (Itt K a) ds G H := by
  intro G2 H2 n i
  obtain ⟨b, ws, e, hb, rr⟩ : Rep p G2 H2 (.tup ds) (.ref a) := n.st (.tup ds) (.ref a) ⟨a, vs, rfl, ha, r⟩
  cases e
  refine ⟨fun d hd => ?_, fun hl => ⟨ws, sqT_of hb, by rw [← rr.length]; exact hl⟩⟩
  obtain ⟨v, hv, rv⟩ := rr.get hd
  refine ⟨⟨ws, v, sqT_of hb, hv⟩, fun v' H3 y => ?_⟩
  obtain ⟨e, y⟩ := y
  subst e
  have := y ws (sqT_of hb)
  rw [hv] at this; cases this
  exact ⟨.refl n.rep, rv⟩
theorem pi_seq {X : Cx} {tg l : Expr} {tl : TE} (hl : PE X l tl) : PI X tg l (fun σ H R => tl σ H fun x H1 => ∃ a, x = .ref a ∧ (((∃ xs, SqT X.K H1 a xs) ∧ R (Itt X.K a) H1) ∨ ((∃ xs, SqL X.K H1 a xs) ∧ R (Itl X.K a) H1))) := by
  refine ⟨fun pins s σ H R I h => ?_⟩
  refine thn (hl.run pins s σ H _ I h) fun v s1 ⟨x, H1, I1, r1, q1⟩ => ?_
  obtain ⟨a, e, q⟩ := q1
  subst e
  have e' : PE X (.Constant .none 0 ⟨0, 0, 0, 0⟩) (tC .non) := pe_non
  cases r1
  rcases q with ⟨⟨xs, hq⟩, q⟩ | ⟨⟨xs, hq⟩, q⟩
  · obtain ⟨its, rv, p, hz⟩ := I1.tuple hq
    refine wpAny_pyIter_tuple (show s1.heap.IsTuple a its.toArray from p) ?_
    refine ⟨s1.heap.objs.size, [s1.heap.objs.size], _, _, H1, rfl, I1.kept (t' := s1.toks) fun b o e => Heap.get?_push_of_some _ e, turn_tuple a _, ⟨_, Heap.get?_push_size _ rfl, rfl, rfl⟩, fun b hb => ?_, q⟩
    have e : b = s1.heap.objs.size := by simpa using hb
    subst e
    exact I1.fpOk (Nat.le_refl _) (I1.hok.fresh (Nat.le_refl _))
  · obtain ⟨its, rv, p, hz⟩ := I1.list hq
    refine wpAny_pyIter_list p.isList ?_
    refine ⟨s1.heap.objs.size, [s1.heap.objs.size], _, _, H1, rfl, I1.kept (t' := s1.toks) fun b o e => Heap.get?_push_of_some _ e, turn_list a _, ⟨_, Heap.get?_push_size _ rfl, rfl, rfl⟩, fun b hb => ?_, q⟩
    have e : b = s1.heap.objs.size := by simpa using hb
    subst e
    exact I1.fpOk (Nat.le_refl _) (I1.hok.fresh (Nat.le_refl _))
theorem di_seq {tg : Expr} (he : DE p B X e ta) : DI p B X tg e (iSeq' ta) := PI.weak (pi_seq he) fun σ H R h => by
  obtain ⟨σ', G, R', at_, q, k⟩ := h
  refine ⟨σ', G, _, at_, q, fun x G1 v H1 n1 r1 q1 => ?_⟩
  obtain ⟨ds, rfl | rfl, q1⟩ := q1
  · obtain ⟨a, vs, e, ha, rr⟩ := r1
    exact ⟨a, e, .inl ⟨⟨vs, sqT_of ha⟩, k ds G1 _ H1 n1 (it_tup ha rr) q1⟩⟩
  · obtain ⟨a, vs, e, ha, hg, rr⟩ := r1
    exact ⟨a, e, .inr ⟨⟨vs, SqL.of ha⟩, k ds G1 _ H1 n1 (it_list ha hg rr) q1⟩⟩
/-- range -/
def rangeD (lo : Int) (n : Nat) : List D := (List.range n).map fun (i : Nat) => D.int (lo + i)
theorem it_range {G : GH} {H : Hp} {lo : Int} {n : Nat} : ItOk p (Itr lo n) (rangeD lo n) G H := by
  intro G2 H2 nx i
  unfold rangeD
  refine ⟨fun d hd => ?_, fun hl => by rw [List.length_map, List.length_range] at hl; exact hl⟩
  rw [List.getElem?_map] at hd
  cases e : (List.range n)[i]? with
  | none => rw [e] at hd; cases hd
  | some j =>
    rw [e] at hd
    have hj : j = i ∧ i < n := by
      rw [List.getElem?_eq_some_iff] at e
      obtain ⟨h1, h2⟩ := e
      rw [List.getElem_range] at h2
      rw [List.length_range] at h1
      exact ⟨h2.symm, h1⟩
    obtain ⟨rfl, hlt⟩ := hj
    cases (show some (D.int (lo + j)) = some d from hd)
    refine ⟨hlt, fun v H3 y => ?_⟩
    obtain ⟨rfl, rfl⟩ := y
    exact ⟨.refl nx.rep, rfl⟩
@[simp] def iRng1' (t : TA') : TI' := fun σ G R => t σ G fun xs G1 => ∃ j : Int, xs = [.int j] ∧ -(2 ^ 62) ≤ j ∧ j < 2 ^ 62 ∧ R (rangeD 0 j.toNat) G1
@[simp] def iRng2' (t : TA') : TI' := fun σ G R => t σ G fun xs G1 => ∃ i j : Int, xs = [.int i, .int j] ∧ (-(2 ^ 62) ≤ i ∧ i < 2 ^ 62 ∧ -(2 ^ 62) ≤ j ∧ j < 2 ^ 62) ∧ R (rangeD i (j - i).toNat) G1
theorem di_range1 {tg : Expr} {t : TA'} {pq : Pos} (hm : X.mg "range" = none) (ha : DA p B X [a] t) (hg : Gl X "range" := by rfl) (hs : starEach [a] X.env = [(false, eval a X.env)] := by rfl) : DI p B X tg (.Call (.Name "range" pq) [a] [] pos) (iRng1' t) :=
  PI.weak (pi_range1 hg hm ha hs) fun σ H R h => by
    obtain ⟨σ', G, R', at_, q, k⟩ := h
    refine ⟨σ', G, _, at_, q, fun xs G1 vs H1 n1 r1 q1 => ?_⟩
    obtain ⟨j, rfl, h1, h2, q1⟩ := q1
    obtain ⟨v, rfl, r⟩ := rl1 r1
    cases (show _ = _ from r)
    exact ⟨j, rfl, h1, h2, k _ G1 _ H1 n1 it_range q1⟩
theorem di_range2 {tg : Expr} {t : TA'} {pq : Pos} (hm : X.mg "range" = none) (ha : DA p B X [a, b] t) (hg : Gl X "range" := by rfl) (hs : starEach [a, b] X.env = [(false, eval a X.env), (false, eval b X.env)] := by rfl) (hs2 : starEach [b] X.env = [(false, eval b X.env)] := by rfl) : DI p B X tg (.Call (.Name "range" pq) [a, b] [] pos) (iRng2' t) :=
  PI.weak (pi_range2 hg hm ha hs hs2) fun σ H R h => by
    obtain ⟨σ', G, R', at_, q, k⟩ := h
    refine ⟨σ', G, _, at_, q, fun xs G1 vs H1 n1 r1 q1 => ?_⟩
    obtain ⟨i, j, rfl, h1, q1⟩ := q1
    obtain ⟨v, w, rfl, r, r2⟩ := rl2 r1
    cases (show _ = _ from r)
    cases (show _ = _ from r2)
    exact ⟨i, j, rfl, h1, k _ G1 _ H1 n1 it_range q1⟩
/-- zip -/
def zipD (xs ys : List D) : List D := (xs.zip ys).map fun q => D.tup [q.1, q.2]
theorem zip_get {xs ys : List D} {i : Nat} {d : D} (h : (zipD xs ys)[i]? = some d) : ∃ x y, xs[i]? = some x ∧ ys[i]? = some y ∧ d = .tup [x, y] := by
  unfold zipD at h
  rw [List.getElem?_map] at h
  cases e : (xs.zip ys)[i]? with
  | none => rw [e] at h; cases h
  | some q =>
    rw [e] at h
    have e2 := List.getElem?_zip_eq_some.mp e
    exact ⟨q.1, q.2, e2.1, e2.2, (Option.some.inj h).symm⟩
theorem rep_two {G : GH} {H : Hp} {x y : D} {v w : V} {T : Addr} (h : RepH p G H) (hn : H T = none) (rx : Rep p G H x v) (ry : Rep p G H y w) : Nxt p G H G (upd H T (.tup [v, w])) ∧ Rep p G (upd H T (.tup [v, w])) (.tup [x, y]) (.ref T) :=
  rep_newT h hn ⟨v, [w], rfl, rx, w, [], rfl, ry, rfl⟩
theorem it_zipT {K : PySem.W.Frag} {G : GH} {H : Hp} {xs ys : List D} {vs ws : List V} {a b : Addr} (ha : Rd H a (.tup vs)) (r : RepL p G H xs vs) (hb : Rd H b (.tup ws)) (r2 : RepL p G H ys ws) : ItOk p (RZ.ItzT K a b) (zipD xs ys) G H := by
  intro G2 H2 n i
  obtain ⟨_, vs1, e, ha1, ra⟩ : Rep p G2 H2 (.tup xs) (.ref a) := n.st (.tup xs) (.ref a) ⟨a, vs, rfl, ha, r⟩
  cases e
  obtain ⟨_, ws1, e, hb1, rb⟩ : Rep p G2 H2 (.tup ys) (.ref b) := n.st (.tup ys) (.ref b) ⟨b, ws, rfl, hb, r2⟩
  cases e
  refine ⟨fun d hd => ?_, fun hl => ⟨vs1, ws1, sqT_of ha1, sqT_of hb1, ?_⟩⟩
  · obtain ⟨x, y, hx, hy, rfl⟩ := zip_get hd
    obtain ⟨v, hv, rv⟩ := ra.get hx
    obtain ⟨w, hw, rw_⟩ := rb.get hy
    refine ⟨⟨vs1, ws1, v, w, sqT_of ha1, sqT_of hb1, hv, hw⟩, fun v' H3 yl => ?_⟩
    obtain ⟨T, v1, w1, rfl, hn, rfl, y1, y2⟩ := yl
    have e1 := y1 _ (sqT_of ha1)
    have e2 := y2 _ (sqT_of hb1)
    rw [hv] at e1; cases e1
    rw [hw] at e2; cases e2
    exact rep_two n.rep hn rv rw_
  · unfold zipD at hl
    rw [List.length_map, List.length_zip] at hl
    rw [← ra.length, ← rb.length]
    omega
theorem it_zipL {K : PySem.W.Frag} {G : GH} {H : Hp} {xs ys : List D} {vs ws : List V} {a b : Addr} (ha : H a = some (.lst vs)) (ga : G a = none) (r : RepL p G H xs vs) (hb : H b = some (.lst ws)) (gb : G b = none) (r2 : RepL p G H ys ws) : ItOk p (Itz K a b) (zipD xs ys) G H := by
  intro G2 H2 n i
  obtain ⟨_, vs1, e, ha1, _, ra⟩ : Rep p G2 H2 (.lst xs) (.ref a) := n.st (.lst xs) (.ref a) ⟨a, vs, rfl, ha, ga, r⟩
  cases e
  obtain ⟨_, ws1, e, hb1, _, rb⟩ : Rep p G2 H2 (.lst ys) (.ref b) := n.st (.lst ys) (.ref b) ⟨b, ws, rfl, hb, gb, r2⟩
  cases e
  refine ⟨fun d hd => ?_, fun hl => ⟨vs1, ws1, SqL.of ha1, SqL.of hb1, ?_⟩⟩
  · obtain ⟨x, y, hx, hy, rfl⟩ := zip_get hd
    obtain ⟨v, hv, rv⟩ := ra.get hx
    obtain ⟨w, hw, rw_⟩ := rb.get hy
    refine ⟨⟨vs1, ws1, v, w, SqL.of ha1, SqL.of hb1, hv, hw⟩, fun v' H3 yl => ?_⟩
    obtain ⟨T, v1, w1, rfl, hn, rfl, y1, y2⟩ := yl
    have e1 := y1 _ (SqL.of ha1)
    have e2 := y2 _ (SqL.of hb1)
    rw [hv] at e1; cases e1
    rw [hw] at e2; cases e2
    exact rep_two n.rep hn rv rw_
  · unfold zipD at hl
    rw [List.length_map, List.length_zip] at hl
    rw [← ra.length, ← rb.length]
    omega
@[simp] def iZip' (t : TA') : TI' := fun σ G R => t σ G fun xs G1 => ∃ x y, ((xs = [.tup x, .tup y]) ∨ (xs = [.lst x, .lst y])) ∧ R (zipD x y) G1
theorem di_zip {elts : List Expr} {kk : Nat} {tpos : Pos} {t : TA'} {pq : Pos} (hm : X.mg "zip" = none) (ha : DA p B X [a, b] t) (hg : Gl X "zip" := by rfl)
    (he : starEach [a, b] X.env = (false, eval a X.env) :: starEach [b] X.env := by rfl) (hpl : (backTo pos (starEach [b] X.env)).any (·.1) = false := by rfl) : DI p B X (.Tuple elts kk tpos) (.Call (.Name "zip" pq) [a, b] [] pos) (iZip' t) :=
  PI.weak (RZ.pi_zipA hg hm ha he hpl) fun σ H R h => by
    obtain ⟨σ', G, R', at_, q, k⟩ := h
    refine ⟨σ', G, _, at_, q, fun xs G1 vs H1 n1 r1 q1 => ?_⟩
    obtain ⟨x, y, rfl | rfl, q1⟩ := q1
    · obtain ⟨v, w, rfl, r, r2⟩ := rl2 r1
      obtain ⟨a, vs, rfl, ha, ra⟩ := r
      obtain ⟨b, ws, rfl, hb, rb⟩ := r2
      exact ⟨a, b, vs, ws, rfl, .inr ⟨sqT_of ha, sqT_of hb, k _ G1 _ H1 n1 (it_zipT ha ra hb rb) q1⟩⟩
    · obtain ⟨v, w, rfl, r, r2⟩ := rl2 r1
      obtain ⟨a, vs, rfl, ha, ga, ra⟩ := r
      obtain ⟨b, ws, rfl, hb, gb, rb⟩ := r2
      exact ⟨a, b, vs, ws, rfl, .inl ⟨SqL.of ha, SqL.of hb, k _ G1 _ H1 n1 (it_zipL ha ga ra hb gb rb) q1⟩⟩

/-! ### for -/
def tFor' (ti : TI') (g : TG') (tb : TS') : TS' := fun D σ G => ti σ G fun xs G1 => ∃ W : Nat → St' → GH → Prop, W 0 σ G1 ∧
  (∀ i x σ G, xs[i]? = some x → W i σ G → g x σ G fun σ2 G2 => tb { D with nx := W (i + 1), ct := W (i + 1), bk := D.nx } σ2 G2) ∧ ∀ σ G, W xs.length σ G → D.nx σ G
/-- a body's reading, run from whatever base that is no weaker -/
def liftS0 (p : Pm) (B : Bs p) (t : TS') : TS := fun D σ H => ∃ C, Bs.Le C B ∧ liftS p C t D σ H
def liftG0 (p : Pm) (t : TG') : TG := fun v σ H Q => ∃ B, liftG p B t v σ H Q
theorem pss_any {body : List Stmt} {tb : TS'} (hb : ∀ C, Bs.Le C B → DSs p C X body tb) : PSs X body (liftS0 p B tb) := ⟨fun pins s σ H D I ⟨C, hC, h⟩ => (hb C hC).run pins s σ H D I h⟩
theorem pg_any {tg : Expr} {g : TG'} (hg : ∀ B, DG p B X tg g) : PG X tg (liftG0 p g) := ⟨fun pins s σ H v u Q I r ⟨B, h⟩ => (hg B).run pins s σ H v u Q I r h⟩
theorem ds_for {tg iter : Expr} {body : List Stmt} {ti : TI'} {g : TG'} {tb : TS'} (hp : PassesOwn (model X.prog X.w) X.A X.env X.xe) (hc : X.calm = true) (hi : DI p B X tg iter ti) (hg : ∀ B, DG p B X tg g) (hb : ∀ C, Bs.Le C B → DSs p C X body tb)
    (hs : ∀ x, foldedSetIterable iter X.env x = pure x := by intro _; rfl) : DS p B X (.For tg iter body [] pos) (tFor' ti g tb) := PS.weak (ps_for hp hc hi (pg_any hg) (pss_any hb) hs) fun D σ H h => by
  obtain ⟨σ', G, D', at_, q, k⟩ := h
  refine ⟨σ', G, _, at_, q, fun xs G1 J H1 n1 it q1 => ?_⟩
  obtain ⟨W, w0, turn, fin⟩ := q1
  -- the turns run from a base that knows where the loop began
  have le : Bs.Le (B.and (Bs.from p G1 H1)) B := fun _ _ h => h.1
  have back : ∀ {σ2 G2 s2 H2}, At p (B.and (Bs.from p G1 H1)) σ2 G2 s2 H2 → At p B σ2 G2 s2 H2 := fun a => ⟨a.s, a.h, a.b.1⟩
  refine ⟨fun i m s H2 => m = xs.length - i ∧ i ≤ xs.length ∧ ∃ σ2 G2, At p (B.and (Bs.from p G1 H1)) σ2 G2 s H2 ∧ W i σ2 G2, ⟨xs.length, by simp, Nat.zero_le _, σ', G1, ⟨at_.s.step n1.st, n1.rep, B.step _ _ _ _ at_.b n1.st, Step.refl⟩, w0⟩, ?_⟩
  rintro i m s H2 ⟨rfl, hi, σ2, G2, a2, w2⟩
  obtain ⟨go, stop⟩ := it G2 H2 ⟨a2.h, a2.b.2⟩ i
  by_cases hlt : i < xs.length
  · have hx : xs[i]? = some xs[i] := by simp [hlt]
    obtain ⟨hgo, hy⟩ := go _ hx
    refine .inr ⟨hgo, fun s H3 => i + 1 ≤ xs.length ∧ ∃ σ3 G3, At p (B.and (Bs.from p G1 H1)) σ3 G3 s H3 ∧ W (i + 1) σ3 G3, fun s H3 ⟨h1, h2⟩ => ⟨xs.length - (i + 1), by omega, rfl, h1, h2⟩, fun v H3 yl => ?_⟩
    obtain ⟨n3, r3⟩ := hy v H3 yl
    refine ⟨_, xs[i], σ2, G2, _, r3, a2.nxt n3, turn i _ σ2 G2 hx w2, fun σ4 G4 s4 H4 a4 s4' q4 => ?_⟩
    refine ⟨_, le, σ4, G4, _, a4, q4, ⟨fun σ5 G5 s5 H5 a5 q5 => ⟨hlt, σ5, G5, a5, q5⟩, fun σ5 G5 s5 H5 a5 q5 => k.nx _ _ _ _ (back a5) q5, fun σ5 G5 s5 H5 a5 q5 => ⟨hlt, σ5, G5, a5, q5⟩, fun d G5 v5 H5 h5 b5 r5 q5 => k.rt _ _ _ _ h5 b5.1 r5 q5⟩⟩
  · have e : i = xs.length := by omega
    subst e
    exact .inl ⟨stop (Nat.le_refl _), k.nx _ _ _ _ (back a2) (fin _ _ w2)⟩

/-! ### comprehensions -/
@[simp] def wipe' (σ : St') : List Nat → St'
  | [] => σ
  | v :: vs => (wipe' σ vs).set v none
theorem RepS.wipe {G : GH} {H : Hp} {σ' : St'} {σ : L2.St} (r : RepS p G H σ' σ) : ∀ vs : List Nat, RepS p G H (wipe' σ' vs) (wipe σ vs)
  | [] => r
  | v :: vs => (RepS.wipe r vs).unset v
theorem wipe_set (σ : L2.St) (v : V) : ∀ (vs : List Nat) (i : Nat), i ∈ vs → wipe (σ.set i (some v)) vs = wipe σ vs
  | [], i, h => by simp at h
  | w :: vs, i, h => by
    unfold wipe
    by_cases e : i = w
    · subst e
      by_cases h2 : i ∈ vs
      · rw [wipe_set σ v vs i h2]
      · have : ∀ (us : List Nat), i ∉ us → (wipe (σ.set i (some v)) us).set i none = (wipe σ us).set i none := by
          intro us
          induction us with
          | nil => intro _; show (σ.set i (some v)).set i none = _; rw [List.set_set]; rfl
          | cons u us ih =>
            intro hu
            have hu' : i ≠ u ∧ i ∉ us := by simpa using hu
            unfold wipe
            rw [List.set_comm _ _ (Ne.symm hu'.1), ih hu'.2, List.set_comm _ _ (Ne.symm hu'.1)]
        exact this vs h2
    · rw [wipe_set σ v vs i (by simpa [e] using h)]
theorem wipe_idem (σ : L2.St) : ∀ (vs ws : List Nat), (∀ i ∈ ws, i ∈ vs) → wipe (wipe σ vs) ws = wipe σ vs
  | vs, [], _ => rfl
  | vs, w :: ws, h => by
    show (wipe (wipe σ vs) ws).set w none = _
    rw [wipe_idem σ vs ws fun i hi => h i (by simp [hi])]
    have hw : w ∈ vs := h w (by simp)
    clear h
    induction vs with
    | nil => simp at hw
    | cons u us ih =>
      show ((wipe σ us).set u none).set w none = (wipe σ us).set u none
      by_cases e : w = u
      · subst e; rw [List.set_set]
      · rw [List.set_comm _ _ (Ne.symm e), ih (by simpa [e] using hw)]
end
end DL

namespace DL
open PySem PySem.Spec PyProof.Rows L2
section
variable {p : Pm} {G G' : GH} {H H' : Hp}
/-- an object of G is known no more: what it held stands as it is -/
theorem step_drop {a : Addr} (hs : ∀ b, b ≠ a → G' b = G b) (ha : G' a = none) : Step p G H G' H :=
  rep_keep (fun b vs e => e) fun b vs e n => ⟨e, by
    by_cases hb : b = a
    · rw [hb]; exact ha
    · rw [hs b hb]; exact n⟩
theorem nxt_drop {a : Addr} (h : RepH p G H) (hs : ∀ b, b ≠ a → G' b = G b) (ha : G' a = none) : Nxt p G H G' H :=
  ⟨⟨fun b g e => by
      have nb : b ≠ a := fun z => by rw [z, ha] at e; cases e
      rw [hs b nb] at e
      exact repO_step (step_drop hs ha) rfl (h.obj b g e),
    by
      rcases h.scr with ⟨r, n⟩ | k
      · refine .inl ⟨r, ?_⟩
        by_cases hb : p.sa = a
        · rw [hb]; exact ha
        · rw [hs _ hb]; exact n
      · exact .inr k,
    h.tab⟩, step_drop hs ha⟩
theorem nxt_drop1 {a : Addr} {g : GO} (h : RepH p (gup G a g) H) (ha : G a = none) : Nxt p (gup G a g) H G H :=
  nxt_drop h (fun b hb => (gup_ne hb).symm) ha
theorem nxt_freeze {a : Addr} {ds : List D} (h : RepH p (gup G a (.lst ds)) H) (ha : G a = none) : Nxt p (gup G a (.lst ds)) H G H ∧ Rep p G H (.lst ds) (.ref a) := by
  have n := nxt_drop1 h ha
  obtain ⟨vs, q, r⟩ := h.obj a _ gup_same
  exact ⟨n, a, vs, rfl, q, ha, n.st.list r⟩
end
section
variable {p : Pm} {B : Bs p} {X : Cx} {a b c e : Expr} {es : List Expr} {ta tb tc : TE'} {pos : Pos}
def TgOk (p : Pm) (vs : List Nat) (g : TG) (g' : TG') : Prop := ∀ B d v σ' G σ H Q', Rep p G H d v → At p B σ' G σ H → g' d σ' G Q' → g v σ H fun σ2 H2 => H2 = H ∧ wipe σ2 vs = wipe σ vs ∧ ∃ σ2' : St', At p B σ2' G σ2 H ∧ Q' σ2' G
def TgsOk (p : Pm) (vs : List Nat) (g : TGs) (g' : TGs') : Prop := ∀ B d v σ' G σ H Q', RepL p G H d v → At p B σ' G σ H → g' d σ' G Q' → g v σ H fun σ2 H2 => H2 = H ∧ wipe σ2 vs = wipe σ vs ∧ ∃ σ2' : St', At p B σ2' G σ2 H ∧ Q' σ2' G
theorem tg_name {vs : List Nat} (i : Nat) (hi : i ∈ vs := by decide) : TgOk p vs (gName i) (gName' i) := fun B d v σ' G σ H Q' r at_ q =>
  ⟨rfl, wipe_set σ v vs i hi, σ'.set i (some d), at_.set i r, q⟩
theorem tgs_nil {vs : List Nat} : TgsOk p vs gNil gNil' := fun B d v σ' G σ H Q' r at_ ⟨e, q⟩ => by
  subst e
  exact ⟨r, rfl, rfl, σ', at_, q⟩
theorem TgOk.mono' {vs : List Nat} {g : TG} (hm : ∀ v σ H Q Q', (∀ σ2 H2, Q σ2 H2 → Q' σ2 H2) → g v σ H Q → g v σ H Q') : True := trivial
/-- a raw target's wish may be weakened -/
def MonoG (g : TG) : Prop := ∀ v σ H Q Q', (∀ σ2 H2, Q σ2 H2 → Q' σ2 H2) → g v σ H Q → g v σ H Q'
def MonoGs (g : TGs) : Prop := ∀ v σ H Q Q', (∀ σ2 H2, Q σ2 H2 → Q' σ2 H2) → g v σ H Q → g v σ H Q'
theorem mono_name (i : Nat) : MonoG (gName i) := fun v σ H Q Q' k q => k _ _ q
theorem mono_nil : MonoGs gNil := fun v σ H Q Q' k q => ⟨q.1, k _ _ q.2⟩
theorem mono_cons {g : TG} {gs : TGs} (h1 : MonoG g) (h2 : MonoGs gs) : MonoGs (gCons g gs) := fun v σ H Q Q' k ⟨x, r, e, q⟩ => ⟨x, r, e, h1 _ _ _ _ _ (fun σ2 H2 q2 => h2 _ _ _ _ _ k q2) q⟩
theorem tgs_cons {vs : List Nat} {g : TG} {gs : TGs} {g' : TG'} {gs' : TGs'} (m : MonoG g) (ms : MonoGs gs) (h1 : TgOk p vs g g') (h2 : TgsOk p vs gs gs') : TgsOk p vs (gCons g gs) (gCons' g' gs') := fun B d v σ' G σ H Q' r at_ ⟨x, xr, e, q⟩ => by
  subst e
  obtain ⟨w, wr, rfl, r1, r2⟩ := r
  refine ⟨w, wr, rfl, m _ _ _ _ _ (fun σ2 H2 h => ?_) (h1 B x w σ' G σ H _ r1 at_ q)⟩
  obtain ⟨rfl, hw, σ2', a2, q2⟩ := h
  refine ms _ _ _ _ _ (fun σ3 H3 h => ?_) (h2 B xr wr σ2' G σ2 H2 _ r2 a2 q2)
  obtain ⟨rfl, hw2, σ3', a3, q3⟩ := h
  exact ⟨rfl, hw2.trans hw, σ3', a3, q3⟩
theorem tg_tup {K : PySem.W.Frag} {vs : List Nat} {n : Nat} {gs : TGs} {gs' : TGs'} (h : TgsOk p vs gs gs') : TgOk p vs (gTup K n gs) (gTup' n gs') := fun B d v σ' G σ H Q' r at_ ⟨xs, e, hl, q⟩ => by
  subst e
  obtain ⟨a, ws, rfl, ha, rr⟩ := r
  exact ⟨a, ws, rfl, sqT_of ha, by rw [← rr.length]; exact hl, h B xs ws σ' G σ H Q' rr at_ q⟩
theorem mono_tup {K : PySem.W.Frag} {n : Nat} {gs : TGs} (h : MonoGs gs) : MonoG (gTup K n gs) := fun v σ H Q Q' k ⟨a, xs, e, h1, h2, q⟩ => ⟨a, xs, e, h1, h2, h _ _ _ _ _ k q⟩

def tLc' (fresh : Bool) (ti : TI') (g : TG') (tt : TT') (te : TE') (vs : List Nat) : TE' := fun σ G Q => ti σ G fun xs G1 => xs.length ≤ sizeLine ∧ ∃ F : D → Option D,
  (∀ x ∈ xs, ∀ Gx, (∀ a g, G1 a = some g → Gx a = some g) → g x (wipe' σ vs) Gx fun σ2 G2 => tt σ2 G2 fun b G3 => if b = true then te σ2 G3 fun y G4 => G4 = Gx ∧ F x = some y else G3 = Gx ∧ F x = none) ∧
  (if fresh then ∀ a, G1 a = none → Q (.ref a) (gup G1 a (.lst (xs.filterMap F))) else Q (.lst (xs.filterMap F)) G1)
def liftE0 (p : Pm) (t : TE') : TE := fun σ H Q => ∃ B, liftE p B t σ H Q
def liftT0 (p : Pm) (t : TT') : TT := fun σ H Q => ∃ B, liftT p B t σ H Q
theorem take_succ_filter {xs : List D} {i : Nat} {x : D} (h : xs[i]? = some x) (F : D → Option D) : (xs.take (i + 1)).filterMap F = (xs.take i).filterMap F ++ (match F x with | some y => [y] | none => []) := by
  rw [List.take_add_one, h, Option.toList_some, List.filterMap_append]
  cases e : F x with
  | some y => simp [e]
  | none => simp [e]
theorem de_lc (fresh : Bool) {elt tg iter : Expr} {ifs : List Expr} {scope : Scope} {own : List (Str × Nat)} {ti : TI'} {g : TG} {g' : TG'} {tt : TT'} {te : TE'} (hc : X.calm = true) (hN : X.N.Nodup) (hi : DI p B X tg iter ti) (ok : BlkOk X.N X.env.scope scope own)
    (hg : ∀ (s : Shared) (H : Hp) (C : Addr) (cl : List (Str × Addr)) (fp : List Addr), PG (X.blk s H scope (compEnvC scope cl C X.env) fp) tg g) (mg : MonoG g) (lg : TgOk p (own.map (·.2)) g g')
    (ht : ∀ (s : Shared) (H : Hp) (C : Addr) (cl : List (Str × Addr)) (fp : List Addr), PTs (X.blk s H scope (compEnvC scope cl C X.env) fp) ifs (liftT0 p tt))
    (he : ∀ (s : Shared) (H : Hp) (C : Addr) (cl : List (Str × Addr)) (fp : List Addr), PE (X.blk s H scope (compEnvC scope cl C X.env) fp) elt (liftE0 p te)) (hs : ∀ x, foldedSetIterable iter X.env x = pure x := by intro _; rfl) :
    DE p B X (.ListComp elt [⟨tg, iter, ifs, 0⟩] scope pos) (tLc' fresh ti g' tt te (own.map (·.2))) := PE.weak (pe_lc hc hN hi ok hg ht he hs) fun σ H Q h => by
  obtain ⟨σ', G, Q', at_, q, k⟩ := h
  refine ⟨σ', G, _, at_, q, fun xs G1 J H1 n1 it q1 => fun D hD => ?_⟩
  obtain ⟨hlen, F, turn, fin⟩ := q1
  have hGD : G1 D = none := n1.rep.free hD
  have n0 := rep_newM (ds := []) (vs := []) n1.rep hD (by exact rfl)
  refine ⟨fun i m H2 => m = xs.length - i ∧ i ≤ xs.length ∧ Nxt p G1 H1 (gup G1 D (.lst ((xs.take i).filterMap F))) H2, ⟨xs.length, by simp, Nat.zero_le _, n0⟩, ?_⟩
  rintro i m H2 ⟨rfl, hi, n2⟩
  obtain ⟨go, stop⟩ := it _ H2 n2 i
  by_cases hlt : i < xs.length
  · have hx : xs[i]? = some xs[i] := by simp [hlt]
    obtain ⟨hgo, hy⟩ := go _ hx
    refine .inr ⟨hgo, fun H3 => i + 1 ≤ xs.length ∧ Nxt p G1 H1 (gup G1 D (.lst ((xs.take (i + 1)).filterMap F))) H3, fun H3 ⟨h1, h2⟩ => ⟨xs.length - (i + 1), by omega, rfl, h1, h2⟩, fun v H3 yl => ?_⟩
    obtain ⟨n3, r3⟩ := hy v H3 yl
    have n23 := n2.trans n3
    have T := turn xs[i] (List.getElem_mem hlt) (gup G1 D (.lst ((xs.take i).filterMap F))) fun a g e => by
      have : a ≠ D := fun z => by rw [z, hGD] at e; cases e
      rw [gup_ne this]; exact e
    have aW : At p (Bs.from p G1 H1) (wipe' σ' (own.map (·.2))) (gup G1 D (.lst ((xs.take i).filterMap F))) (wipe σ (own.map (·.2))) H3 := ⟨(at_.s.step (n1.trans n23).st).wipe _, n23.rep, n23.st⟩
    refine mg _ _ _ _ _ (fun σ2 H4 h4 => ?_) (lg (Bs.from p G1 H1) xs[i] v _ _ _ H3 _ r3 aW T)
    obtain ⟨rfl, hw, σ2', a2, q2⟩ := h4
    refine ⟨hw.trans (wipe_idem σ _ _ fun _ h => h), Bs.from p G1 H1, σ2', _, _, a2, q2, fun b G5 H5 n5 q5 => ?_⟩
    cases hb : b with
    | true =>
      rw [hb, if_pos rfl] at q5
      rw [if_pos rfl]
      refine ⟨Bs.from p G1 H1, σ2', G5, _, a2.nxt n5, q5, fun y G6 w H6 n6 r6 q6 => ?_⟩
      obtain ⟨rfl, hF⟩ := q6
      obtain ⟨acc, hacc, racc⟩ := n6.rep.obj D _ gup_same
      refine ⟨acc, hacc, ?_, hlt, ?_⟩
      · rw [← racc.length]
        have h1 : ((xs.take i).filterMap F).length ≤ (xs.take i).length := List.length_filterMap_le _ _
        rw [List.length_take] at h1
        omega
      · have M := nxt_setL n6.rep gup_same hacc (racc.append (RepL.cons (ds := []) (vs := []) r6 (by exact rfl)))
        rw [gup_gup] at M
        rw [take_succ_filter hx, hF]
        exact ((n23.trans n5).trans n6).trans M
    | false =>
      rw [hb, if_neg Bool.false_ne_true] at q5
      rw [if_neg Bool.false_ne_true]
      obtain ⟨rfl, hF⟩ := q5
      refine ⟨hlt, ?_⟩
      rw [take_succ_filter hx, hF, List.append_nil]
      exact n23.trans n5
  · have e : i = xs.length := by omega
    subst e
    rw [List.take_length] at n2
    refine .inl ⟨stop (Nat.le_refl _), ?_⟩
    cases fresh with
    | true => exact k _ _ _ _ (n1.trans n2) (by exact rfl) (fin D hGD)
    | false =>
      have Z := nxt_freeze n2.rep hGD
      exact k _ _ _ _ ((n1.trans n2).trans Z.1) Z.2 fin
/-- no test; one test -/
@[simp] def tYes' : TT' := fun _ G Q => Q true G
theorem dts_nil : PTs X [] (liftT0 p tYes') := ⟨fun pins s σ H Q I ⟨B, σ', G, Q', at_, q, k⟩ => pts_nil.run pins s σ H Q I (k true G H (.refl at_.h) q)⟩
theorem dts_one {c : Expr} {t : TT'} (h : ∀ B, DT p B X c t) : PTs X [c] (liftT0 p t) := ⟨fun pins s σ H Q I ⟨B, q⟩ => (pts_one (h B)).run pins s σ H Q I q⟩
theorem de_any {e : Expr} {t : TE'} (h : ∀ B, DE p B X e t) : PE X e (liftE0 p t) := ⟨fun pins s σ H Q I ⟨B, q⟩ => (h B).run pins s σ H Q I q⟩
end
end DL

namespace DL
open PySem PySem.Spec PyProof.Rows L2
/-! ### what a def promises -/
abbrev EK' := Ex → GH → Prop
abbrev Sp' := List D → GH → QE → EK' → Prop
def liftSp (p : Pm) (n : Nat) (sp : Sp') : Sp := fun vs H Q E => ∃ ds G Q' E', ds.length = n ∧ RepL p G H ds vs ∧ RepH p G H ∧ sp ds G Q' E' ∧
  (∀ d G' v H', Nxt p G H G' H' → Rep p G' H' d v → Q' d G' → Q v H') ∧ ∀ x G' H', Nxt p G H G' H' → E' x G' → E (.ref (p.xa x)) none H'
/-- a wish about the program's refusals -/
abbrev WX' := Ex → St' → GH → Prop
def liftW (p : Pm) (B : Bs p) (W : WX') : WX := fun cls d σ H => ∃ x σ' G, cls = .ref (p.xa x) ∧ d = none ∧ At p B σ' G σ H ∧ W x σ' G
theorem takesLe {p : Pm} {B C : Bs p} {X : Cx} {W : WX'} (h : Bs.Le C B) (tk : L2N.Takes X (liftW p B W)) : L2N.Takes X (liftW p C W) :=
  tk.imp fun c d σ H ⟨x, σ', G, e1, e2, a, w⟩ => ⟨x, σ', G, e1, e2, ⟨a.s, a.h, h _ _ a.b⟩, w⟩
abbrev Wno : WX' := fun _ _ _ => False
theorem takesNo {p : Pm} {B : Bs p} {X : Cx} : L2N.Takes X (liftW p B Wno) := fun _ _ x => by
  obtain ⟨_, _, _, _, _, _, _, _, _, _, _, _, _, _, _, _, _, _, _, _, _, _, z⟩ := x
  exact z.elim
/-- a def that can be called by its name -/
structure Cal (P : Program) (w : World) (K : PySem.W.Frag) (mg : Str → Option Value) (base : Heap) (p : Pm) (x : Str) (k n : Nat) (sp : Sp') : Prop where
  ex : ∃ f fd ps, ps.length = n ∧ FnOk P w K mg base (L2N.CX P w) k f fd ps (liftSp p n sp) ∧ mg x = some (.ref f) ∧ PySem.W.keepIn K (.ref f) = true ∧ Binds K fd ps []
section
variable {p : Pm} {B : Bs p} {X : Cx} {a b c e : Expr} {es : List Expr} {ta tb tc : TE'} {pos : Pos}
@[simp] def tCall' (n : Nat) (sp : Sp') (W : WX') (t : TA') : TE' := fun σ G Q => t σ G fun ds G1 => ds.length = n ∧ sp ds G1 Q (fun x G2 => W x σ G2)
theorem lift_call {n : Nat} {sp : Sp'} {W : WX'} {t : TA'} {σ H Q} (h : liftE p B (tCall' n sp W t) σ H Q) : tCallS (liftSp p n sp) (WE (liftW p B W)) (liftA p B t) σ H Q := by
  obtain ⟨σ', G, Q', at_, q, k⟩ := h
  refine ⟨σ', G, _, at_, q, fun ds G1 vs H1 n1 r1 q1 => ⟨ds, G1, Q', _, q1.1, r1, n1.rep, q1.2, fun d G2 v H2 n2 r2 q2 => k d G2 v H2 (n1.trans n2) r2 q2, fun x G2 H2 n2 q2 => ?_⟩⟩
  exact ⟨x, σ', G2, rfl, rfl, at_.nxt (n1.trans n2), q2⟩
theorem de_call {x : Str} {q : Pos} {j k n : Nat} {sp : Sp'} {W : WX'} {t : TA'} (C : Cal X.prog X.w X.K X.mg X.base p x k n sp) (hr : Room j X.A) (tk : L2N.Takes X (liftW p B W)) (ha : DA p B X (e :: es) t) (hk : k ≤ j := by decide) (hg : Gl X x := by rfl) (hdb : (x == ("__debug__" : Str)) = false := by decide)
    (he : starEach (e :: es) X.env = (false, eval e X.env) :: starEach es X.env := by rfl) (hpl : (backTo pos (starEach es X.env)).any (·.1) = false := by rfl) : DE p B X (.Call (.Name x q) (e :: es) [] pos) (tCall' n sp W t) := by
  obtain ⟨f, fd, ps, hn, F, hm, hkp, hb⟩ := C.ex
  exact PE.weak (pe_callS F (hr.mono hk) hg hm hkp hb (fun σ => L2N.passAt tk σ) ha hdb he hpl) fun σ H Q h => lift_call h
/-! ### raise -/
structure ExcF (K : PySem.W.Frag) (mg : Str → Option Value) (p : Pm) (x : Str) (c : Ex) : Prop where
  exc : PySem.W.excIn K (p.xa c) [.type "ValueError", .type "Exception", .type "BaseException", .type "object"] "ValueError.__new__" = true
  gl : mg x = some (.ref (p.xa c))
  kp : PySem.W.keepIn K (.ref (p.xa c)) = true
  sub : PySem.W.subIn K (.ref (p.xa c)) (.type "BaseException") = some true
  ty : PySem.W.typeIn K (.ref (p.xa c)) = some (.type "type")
@[simp] def tRaise' (x : Ex) (W : WX') : TS' := fun _ σ G => W x σ G
theorem ds_raise {x m : Str} {c : Ex} {j : Nat} {pn p2 pc pos : Pos} {W : WX'} (E : ExcF X.K X.mg p x c) (hc : X.calm = true) (tk : L2N.Takes X (liftW p B W)) (hg : Gl X x := by rfl) (hdb : (x == ("__debug__" : Str)) = false := by decide) :
    DS p B X (.Raise (some (.Call (.Name x pn) [.Constant (.str m) j p2] [] pc)) none pos) (tRaise' c W) :=
  PS.weak (L2N.ps_raise hc tk (L2N.pmk_own PySem.F.excBase_ValueError E.exc E.gl E.kp (raises_own E.sub E.ty) hg hdb)) fun D σ H ⟨σ', G, D', at_, q, k⟩ => ⟨c, σ', G, rfl, rfl, at_, q⟩
end
/-! ### letting go: what a caller need not know -/
def FrzD (G' : GH) (d : D) (G0 : GH) (d0 : D) : Prop := ∀ (p : Pm) (H : Hp) (v : V), RepH p G' H → Rep p G' H d v → Nxt p G' H G0 H ∧ Rep p G0 H d0 v
def FrzG (G' G0 : GH) : Prop := ∀ (p : Pm) (H : Hp), RepH p G' H → Nxt p G' H G0 H
def Fz (Q : QE) : QE := fun d G' => ∃ d0 G0, FrzD G' d G0 d0 ∧ Q d0 G0
def FzE (E : EK') : WX' := fun x _ G' => ∃ G0, FrzG G' G0 ∧ E x G0
theorem FrzD.refl {G : GH} {d : D} : FrzD G d G d := fun p H v h r => ⟨.refl h, r⟩
theorem FrzD.trans {G1 G2 G3 : GH} {d1 d2 d3 : D} (a : FrzD G1 d1 G2 d2) (b : FrzD G2 d2 G3 d3) : FrzD G1 d1 G3 d3 := fun p H v h r => by
  obtain ⟨n1, r1⟩ := a p H v h r
  obtain ⟨n2, r2⟩ := b p H v n1.rep r1
  exact ⟨n1.trans n2, r2⟩
theorem FrzD.drop {G : GH} {a : Addr} {g : GO} {d : D} (ha : G a = none) : FrzD (gup G a g) d G d := fun p H v h r => by
  have n := nxt_drop1 h ha
  exact ⟨n, n.st _ _ r⟩
theorem FrzD.lst {G : GH} {a : Addr} {ds : List D} (ha : G a = none) : FrzD (gup G a (.lst ds)) (.ref a) G (.lst ds) := fun p H v h r => by
  have n := nxt_freeze h ha
  rw [show v = _ from r]
  exact n
theorem FrzG.refl {G : GH} : FrzG G G := fun p H h => .refl h
theorem FrzG.drop {G : GH} {a : Addr} {g : GO} (ha : G a = none) : FrzG (gup G a g) G := fun p H h => nxt_drop1 h ha
theorem fz {Q : QE} {d : D} {G : GH} (q : Q d G) : Fz Q d G := ⟨d, G, .refl, q⟩
theorem fzE {E : EK'} {x : Ex} {σ : St'} {G : GH} (q : E x G) : FzE E x σ G := ⟨G, .refl, q⟩
theorem fz_lst {Q : QE} {G : GH} {a : Addr} {ds : List D} (ha : G a = none) (q : Q (.lst ds) G) : Fz Q (.ref a) (gup G a (.lst ds)) := ⟨_, _, .lst ha, q⟩
theorem fz_drop {Q : QE} {G : GH} {a : Addr} {g : GO} {d : D} (ha : G a = none) (q : Fz Q d G) : Fz Q d (gup G a g) := by
  obtain ⟨d0, G0, f, q⟩ := q
  exact ⟨d0, G0, (FrzD.drop ha).trans f, q⟩
/-! ### a def's body -/
def start' (N : Nat) (ds : List D) : St' := ds.map some ++ List.replicate (N - ds.length) none
theorem start_rep {p : Pm} {G : GH} {H : Hp} {N : List Str} {ds : List D} {vs : List V} (r : RepL p G H ds vs) : RepS p G H (start' N.length ds) (L2.start N vs) := by
  have hl := r.length
  refine ⟨?_, fun i d e => ?_⟩
  · unfold start' L2.start
    rw [List.length_append, List.length_append, List.length_map, List.length_map, List.length_replicate, List.length_replicate, hl]
  · unfold start' at e
    unfold L2.start
    by_cases hi : i < ds.length
    · rw [List.getElem?_append_left (by simpa using hi), List.getElem?_map] at e
      rw [List.getElem?_append_left (by rw [List.length_map, ← hl]; exact hi), List.getElem?_map]
      cases q : ds[i]? with
      | none => rw [q] at e; cases e
      | some x =>
        rw [q] at e
        obtain ⟨v, hv, rv⟩ := r.get q
        cases (show some (some x) = some (some d) from e)
        exact ⟨v, by rw [hv]; rfl, rv⟩
    · rw [List.getElem?_append_right (by simpa using hi), List.getElem?_replicate] at e
      split at e <;> cases e
section
variable {P : Program} {w : World} {K : PySem.W.Frag} {mg : Str → Option Value} {base : Heap} {p : Pm}
abbrev bodyX (P : Program) (w : World) (K : PySem.W.Frag) (mg : Str → Option Value) (base : Heap) (N : List Str) (qual : Str) (st : Stmt) (f : Addr) (cdv : Value) (A : Around) (outer : List Env) (s : Shared) (H : Hp) (E : XK) : Cx :=
  cxOf (L2N.CX P w) P w K mg base N qual (defScope st) f cdv A outer s H E
theorem fn_ok {x qual : Str} {st : Stmt} {f : Addr} {fd : FuncData} {N ps : List Str} {k : Nat} {sp : Sp'} {t : WX' → TS'} (F : Fun K x qual st f fd) (S : FnScope N ps (defScope st))
    (hbody : ∀ (cdv : Value) (A : Around) (outer : List Env) (s : Shared) (H : Hp) (E : XK) (B : Bs p) (W : WX'), Room k (bodyX P w K mg base N qual st f cdv A outer s H E).A → L2N.Takes (bodyX P w K mg base N qual st f cdv A outer s H E) (liftW p B W) →
      PassesOwn (model P w) (bodyX P w K mg base N qual st f cdv A outer s H E).A (bodyX P w K mg base N qual st f cdv A outer s H E).env (bodyX P w K mg base N qual st f cdv A outer s H E).xe →
      DSs p B (bodyX P w K mg base N qual st f cdv A outer s H E) (defBody st) (t W))
    (pure : ∀ ds G Q E, ds.length = ps.length → sp ds G Q E → t (FzE E) { nx := fun _ G => Fz Q .non G, rt := Fz Q } (start' N.length ds) G) : FnOk P w K mg base (L2N.CX P w) (k + 1) f fd ps (liftSp p ps.length sp) := by
  obtain ⟨oc, od, kV, doc, pm, an, cdv, ct, osl, rfl, lk, hcd⟩ := F.ex
  refine fn_of lk hcd S (fun vs H Q E h => ?_) fun A outer s H vs Q E hr hsp => ?_
  · obtain ⟨ds, G, Q', E', hl, r, _⟩ := h
    rw [← r.length]; exact hl
  · obtain ⟨ds, G, Q', E', hl, r, h, q, kq, ke⟩ := hsp
    refine ⟨liftS p (Bs.from p G H) (t (FzE E')), hbody cdv A outer s H E (Bs.from p G H) (FzE E') hr ?_ PassesOwn.leaving, ?_⟩
    · have tk : L2N.Takes (bodyX P w K mg base N qual st f cdv A outer s H E) (fun cls d _ H => E cls d H) := L2N.takes_of rfl rfl rfl rfl
      refine tk.imp fun c d σ H2 hw => ?_
      obtain ⟨x, σ', G2, rfl, rfl, a2, G0, fz, q0⟩ := hw
      exact ke x G0 H2 ⟨(fz p H2 a2.h).rep, Step.trans a2.b (fz p H2 a2.h).st⟩ q0
    · refine ⟨start' N.length ds, G, _, ⟨start_rep r, h, Step.refl⟩, pure ds G Q' E' hl q, ⟨fun σ1 G1 s1 H1 a1 q1 => ?_, fun _ _ _ _ _ z => z.elim, fun _ _ _ _ _ z => z.elim, fun d G1 v H1 h1 b1 r1 q1 => ?_⟩⟩
      · obtain ⟨d0, G0, f0, q0⟩ := q1
        obtain ⟨n0, r0⟩ := f0 p H1 .non a1.h rfl
        exact kq d0 G0 .non H1 ⟨n0.rep, Step.trans a1.b n0.st⟩ r0 q0
      · obtain ⟨d0, G0, f0, q0⟩ := q1
        obtain ⟨n0, r0⟩ := f0 p H1 v h1 r1
        exact kq d0 G0 v H1 ⟨n0.rep, Step.trans b1 n0.st⟩ r0 q0
theorem cal_mk {x : Str} {f : Addr} {fd : FuncData} {ps : List Str} {k n : Nat} {sp : Sp'} (F : FnOk P w K mg base (L2N.CX P w) k f fd ps (liftSp p ps.length sp)) (hn : ps.length = n) (hm : mg x = some (.ref f)) (hk : PySem.W.keepIn K (.ref f) = true) (hb : Binds K fd ps []) : Cal P w K mg base p x k n sp := by
  subst hn
  exact ⟨f, fd, ps, rfl, F, hm, hk, hb⟩
/-- a weaker promise -/
theorem Cal.imp {x : Str} {k n : Nat} {sp sp2 : Sp'} (C : Cal P w K mg base p x k n sp) (h : ∀ ds G Q E, sp2 ds G Q E → sp ds G Q E) : Cal P w K mg base p x k n sp2 := by
  obtain ⟨f, fd, ps, hn, F, hm, hk, hb⟩ := C.ex
  exact ⟨f, fd, ps, hn, F.imp fun vs H Q E ⟨ds, G, Q', E', a1, a2, a3, a4, a5⟩ => ⟨ds, G, Q', E', a1, a2, a3, h _ _ _ _ a4, a5⟩, hm, hk, hb⟩
end
/-! ### a def that is a function of data -/
inductive Res where
  | ok (d : D) | exc (x : Ex)
/-- the promise of a function: f tells what it gives, or refuses with; none: nothing is promised -/
def spF (f : List D → Option Res) : Sp' := fun ds G Q E => match f ds with
  | some (.ok d) => Q d G
  | some (.exc x) => E x G
  | none => False
theorem spF_ok {f : List D → Option Res} {ds : List D} {d : D} {G : GH} {Q : QE} {E : EK'} (h : f ds = some (.ok d)) (q : Q d G) : spF f ds G Q E := by unfold spF; rw [h]; exact q
end DL

namespace DLSet
open PySem PySem.Spec PyProof.Rows L2
section
variable {P : Program} {w : World} {A : Around} {E : Value → Shared → Prop} {s : Shared}
abbrev mt0 (w : World) : Obj := { cls := .type "set", dict := none, data := .set #[] 0 (.fresh 0 0 (!w.params.followText "set-order")) }
set_option maxHeartbeats 3200000 in
/-- set(a list of ints) -/
theorem set_of_list {l : Addr} {items : Array Value} (ns : List Int) {Q : Value → Shared → Prop} (hh : A.handled = none) (hl : s.heap.IsList l items) (hit : IntsAre items.toList ns) (hb : ns.length + 1 < scanBound)
    (h : ∀ (h' : Heap) (tk c : Nat), SetR w h' s.heap.objs.size (fun j => decide (j ∈ ns)) c → c ≤ ns.length → (∀ b o, s.heap.get? b = some o → h'.get? b = some o) → Q (.ref s.heap.objs.size) { s with heap := h', toks := tk }) :
    wpAny (model P w) A (call (.type "set") [.ref l]) Q E s := by
  have size_eq : items.size = ns.length := by simpa using IntsAre.length hit
  obtain ⟨c0, t0, hmro⟩ := F.called_set.mro
  have q1 := F.called_set.made
  have q2 := F.called_set.sub
  have q3 := F.called_set.notType
  have q4 := F.called_set.canCreate
  have q5 := F.typeCall_set_1 (.ref l)
  refine wpAny_call (codeAny_of_tree ?_)
  show wpAny _ _ (callAny (.type "set") _) _ _ _
  refine wpAny_pure ⟨Code.quiet_builtin _ (by decide +kernel), codeAny_builtin F.entry_type_call ?_⟩
  rw [Around.under_plain (weight_type_call_type "set" [.ref l] []) rfl]
  repeat (any_goals (first | assumption | wp_step))
  refine codeAny_mono (code_set_led1 (E := E) (Q₁ := fun o s1 => o = .ref s.heap.objs.size ∧ s1 = { s with heap := s.heap.push (mt0 w) }) (.ref l) ⟨rfl, rfl⟩) fun r s1 hr => ?_
  rcases r with e | (v | _ | _ | _) <;> first | exact hr | exact hr.elim | skip
  obtain ⟨rfl, rfl⟩ := hr
  have atS : (s.heap.push (mt0 w)).get? s.heap.objs.size = some (mt0 w) := Heap.get?_push_size _ rfl
  have tyS : Shared.TypeIs { s with heap := s.heap.push (mt0 w) } (.ref s.heap.objs.size) "set" := ⟨_, atS, rfl⟩
  have q6 := F.called_set.init.lookup
  have q7 := F.called_set.init.bind (.ref s.heap.objs.size)
  repeat (any_goals (first | assumption | wp_step))
  refine codeAny_mono (codeAny_call_builtin (R := wants (fun r s2 => r = .none ∧ ∃ h' tk c, s2 = { s with heap := h', toks := tk } ∧ SetR w h' s.heap.objs.size (fun j => decide (j ∈ ns)) c ∧ c ≤ ns.length ∧ ∀ b o, s.heap.get? b = some o → h'.get? b = some o) E)
    F.called_set.init.plain F.entry_set_init (check_set_init_1 tyS ?upd)) fun r2 s2 hr2 => ?_
  case upd =>
    have inL : (s.heap.push (mt0 w)).IsList l items := hl.push _
    have lS : l < s.heap.objs.size := by obtain ⟨o, e, _⟩ := hl; exact Heap.lt_size e
    have topS : (s.heap.push (mt0 w)).objs.size = s.heap.objs.size + 1 := Heap.size_push ..
    have itL : l ≠ (s.heap.push (mt0 w)).objs.size := by rw [topS]; exact Nat.ne_of_lt (Nat.lt_succ_of_lt lS)
    have foot : s.heap.objs.size ∉ [(s.heap.push (mt0 w)).objs.size, l] := by
      rw [topS]
      simp only [List.mem_cons, List.not_mem_nil, or_false, not_or]
      exact ⟨Nat.ne_of_lt (Nat.lt_succ_self _), Nat.ne_of_gt lS⟩
    have calm : A.in1.in1.in1.handled = none := by simp [hh]
    have vals : ∀ (i : Nat) (v : Value), items[i]? = some v → ∃ k t, ns[i]? = some k ∧ v = .int k t := fun i v hv => by
      have hi : i < ns.length := by rw [← size_eq]; exact (Array.getElem?_eq_some_iff.mp hv).1
      obtain ⟨t, e⟩ := IntsAre.int_at hit i v (by rw [Array.getElem?_toList]; exact hv)
      exact ⟨ns[i], t, List.getElem?_eq_getElem hi, by rw [e, List.getD_eq_getElem?_getD, List.getElem?_eq_getElem hi] <;> rfl⟩
    obtain ⟨⟨oc, od, odt, osl⟩, eo, ec, nl, ed⟩ := id hl
    simp only at ec ed
    subst ec; subst ed
    have eo1 := Heap.get?_push_of_some (mt0 w) eo
    have g1 := F.sub_list_set
    have g2 := F.sub_list_frozenset
    have g3 : (Value.type "list" == Value.type "dict") = false := by decide
    unfold Builtin.«set.__init__» noKeywords Builtin.Frozenset.updateFrom
    generalize hI : pyIter = PI
    wp_walk
    subst hI
    refine wpAny_pyIter_list inL (wpAny_bind (wpAny_runValue ?_))
    refine set_update_ints ((Walks.list calm _ l itL items).toS) s.heap.objs.size foot ns size_eq hb vals (items.size - 0) 0 _ (by omega) (Nat.zero_le _) ⟨⟨_, Heap.get?_push_size _ rfl, rfl, rfl⟩, inL.push _⟩ ?begin ?done
    case begin => exact ⟨0, Nat.le_refl 0, setR_new_at (Heap.get?_push_of_some _ atS)⟩
    case done =>
      intro s3 c3 mv hc3 hS3
      obtain ⟨h3, gn, dr, tk3, os3⟩ := s3
      obtain rfl : gn = s.gens := mv.gens
      obtain rfl : dr = s.drawn := mv.drawn
      obtain rfl : os3 = s.os := mv.os
      rw [size_eq] at hc3
      show wpAny _ _ _ _ _ _
      refine wpAny_pure ?_
      show wpAny _ _ (ret Value.none) _ _ _
      refine wpAny_pure ⟨rfl, h3, tk3, c3, rfl, hS3, hc3, fun b o e => ?_⟩
      have hb0 := Heap.lt_size e
      refine mv.heap b o ?_ (Heap.get?_push_of_some _ (Heap.get?_push_of_some _ e))
      simp only [List.mem_cons, List.not_mem_nil, or_false, not_or]
      exact ⟨Nat.ne_of_lt hb0, by rw [topS]; exact Nat.ne_of_lt (Nat.lt_succ_of_lt hb0)⟩
  rcases r2 with e | (v | _ | _ | _) <;> first | exact hr2 | exact hr2.elim | skip
  obtain ⟨rfl, h', tk, c, rfl, a1, a2, a3⟩ := hr2
  repeat (any_goals (first | assumption | wp_step))
  exact h _ _ _ a1 a2 a3
/-- sorted(a set of ints), of any size -/
theorem sorted_setA {a : Addr} {S : Int → Bool} {n : Nat} {Q : Value → Shared → Prop} (R : SetR w s.heap a S n) (hh : A.handled = none) (hz0 : n ≤ sizeLine)
    (hQ : ∀ s' p (out : Array Value) (c : Nat) (ns : List Int), (∀ b o, s.heap.get? b = some o → s'.heap.get? b = some o) → s'.gens = s.gens → s'.os = s.os → s.heap.objs.size ≤ p →
      s'.heap.get? p = some (seqObj "list" out c) → IntsAre out.toList ns → ns.Pairwise (· < ·) → (∀ k, k ∈ ns ↔ S k = true) → ns.length = n → Q (.ref p) s') :
    wpAny (model P w) A (call (.builtin "sorted") [.ref a]) Q E s := by
  obtain ⟨o, es, ep, t, ho, hex, hd, good, nodup, memb, hb, hf, hn, hr, hled⟩ := R
  refine Calls.call_function_entry kind_sorted plain_sorted entry_sorted (args_sorted1 _) ?_
  unfold Builtin.«sorted»
  refine wpAny_bind (m := checkCount "sorted" 1 1 _) (wpAny_pure ?_)
  refine wpAny_bind (collect_set (A := A.in1) hh ⟨o, ho, hex.1, hd⟩ hf hb hr hled fun s1 vs k1 hz g1 o1 pm => ?_)
  have vlen : vs.length = n := by rw [pm.length_eq, List.length_map, Array.length_toList]; exact hn
  have hInts : IntsAre vs (vs.map Builtin.Re.reRawOf) := ints_of vs fun v hv => by
    obtain ⟨e, he, q⟩ := List.mem_map.mp (pm.mem_iff.mp hv)
    obtain ⟨k, tk, h1, _⟩ := good e he
    exact ⟨k, tk, q ▸ h1⟩
  have perm : (vs.map Builtin.Re.reRawOf).Perm (es.toList.map keyOf) := by
    have q := pm.map Builtin.Re.reRawOf
    rw [List.map_map] at q
    exact q
  refine wpAny_bind (wpAny_newList ?_ (by rw [vlen]; exact hz0))
  have atL : (s1.heap.push (seqObj "list" vs.toArray 0)).get? s1.heap.objs.size = some (seqObj "list" vs.toArray 0) := Heap.get?_push_size _ rfl
  refine wpAny_bind (wpAny_holding (wpAny_call_entry slot_list_sort ⟨_, atL, rfl⟩ entry_list_sort
    (SrtO.list_sort_ord SrtO.swo_int atL (by rw [vlen]; exact hz0) (fun h2 => SrtO.ints_sortable hInts h2) fun out h1 h2 => ⟨_, rfl, ?_⟩) (args_list_sort _)))
  obtain ⟨a1, a2, a3⟩ := SrtO.ints_out hInts h1 h2
  obtain ⟨c, hc⟩ := sortedHeap_at (vs := vs) (out := out.toArray) atL
  have pn := a2.trans perm
  refine wpAny_pure ⟨_, rfl, hQ _ s1.heap.objs.size out.toArray c (out.map SrtO.iv) (fun b u e => ?_) g1 o1 hz hc a1 (lt_of_le_nodup _ a3 (pn.nodup_iff.mpr nodup)) (fun k => by rw [pn.mem_iff, ← memb k]) ?_⟩
  · have q := k1 b u e
    have lt1 := Heap.lt_size q
    show (sortedHeap (s1.heap.push (seqObj "list" vs.toArray 0)) s1.heap.objs.size vs out.toArray).get? b = some u
    rw [sortedHeap_old (Nat.ne_of_lt lt1) (by rw [size_push']; exact Nat.lt_succ_of_lt lt1)]
    exact Heap.get?_push_of_some _ q
  · rw [pn.length_eq, List.length_map, Array.length_toList]; exact hn
end
section
variable {X : Cx}
def rSetOf (K : PySem.W.Frag) (w : World) : List V → Hp → VK → Prop := fun xs H Q => ∃ (q : Addr) (ns : List Int), xs = [.ref q] ∧ (SqL K H q (ns.map V.int) ∨ SqT K H q (ns.map V.int)) ∧ ns.length ≤ 4000 ∧
  ∀ l c, H l = none → c ≤ ns.length → Q (.ref l) (upd H l (SetO w l (fun j => decide (j ∈ ns)) c))
theorem cr_setOf (hc : X.calm = true) : CallR X (.type "set") (rSetOf X.K X.w) := by
  intro pins s σ H xs us Q I r h
  obtain ⟨q, ns, rfl, hs, hl, k⟩ := h
  rw [Vals.ref1 r]
  have fin : ∀ (h' : Heap) (tk c : Nat), SetR X.w h' s.heap.objs.size (fun j => decide (j ∈ ns)) c → c ≤ ns.length → (∀ b o, s.heap.get? b = some o → h'.get? b = some o) → EP X pins σ Q (.ref s.heap.objs.size) { s with heap := h', toks := tk } := fun h' tk c R hcl kk =>
    ⟨.ref _, _, I.laid (t' := tk) kk (Nat.le_refl _) (setO_new R), rfl, k _ c (I.hok.fresh (Nat.le_refl _)) hcl⟩
  rcases hs with hs | hs
  · obtain ⟨its, rv, pl, hz⟩ := I.list hs
    exact set_of_list ns (I.ok.hd hc) pl.isList rv.«ints» (by unfold scanBound; omega) fin
  · obtain ⟨its, rv, pl, hz⟩ := I.tuple hs
    exact call_set_tupI ns (I.ok.hd hc) (show s.heap.IsTuple q its.toArray from pl) rv.«ints» (by unfold scanBound; omega) fin
def rSortedSetA (w : World) : List V → Hp → VK → Prop := fun vs H Q => ∃ (a : Addr) (S : Int → Bool) (n : Nat), vs = [V.ref a] ∧ H a = some (SetO w a S n) ∧ n ≤ 4000 ∧
  ∀ (ns : List Int) (p : Addr), ns.Pairwise (· < ·) → (∀ k : Int, k ∈ ns ↔ S k = true) → H p = none → Q (.ref p) (upd H p (.lst (ns.map V.int)))
theorem cr_sortedSetA (hc : X.calm = true) : CallR X (.builtin "sorted") (rSortedSetA X.w) := by
  intro pins s σ H vs us Q I r h
  obtain ⟨a, S, n, rfl, ha, hn, q⟩ := h
  have R := setO_get I ha
  rw [Vals.ref1 r]
  refine sorted_setA R (I.ok.hd hc) (by rw [sizeLine_eq]; omega) fun s' p out c ns k g o hp hg hi hs hm hl => ?_
  have fresh : H p = none := I.hok.fresh hp
  have len : (ns.map V.int).length ≤ sizeLine := by rw [List.length_map, hl, sizeLine_eq]; omega
  have J : Inv X pins σ (upd H p (.lst (ns.map V.int))) { s with heap := s'.heap, gens := s'.gens, drawn := s'.drawn, toks := s'.toks } :=
    I.call (ch := []) (Un.laid k hp fresh) (I.hok.laid k hp ⟨len, out.toList, c, vals_of_ints hi, hg⟩) (by rw [g]; exact I.bare) (fun _ z => nomatch z)
  obtain ⟨h1, h2, h3, h4, h5⟩ := s'
  obtain rfl : h5 = s.os := o
  exact ⟨.ref p, _, J, rfl, q ns p hs hm fresh⟩
end
end DLSet

namespace DL
open PySem PySem.Spec PyProof.Rows L2
section
variable {p : Pm} {B : Bs p} {X : Cx} {a b c e o : Expr} {es : List Expr} {ta tb tc : TE'} {t : TA'} {pos apos cpos : Pos}
/-! ### sorted(set(..)) -/
/-- k put into a rising list -/
def putD (k : Int) : List Int → List Int
  | [] => [k]
  | x :: r => if k < x then k :: x :: r else if k = x then x :: r else x :: putD k r
def sortD (ns : List Int) : List Int := ns.foldr putD []
theorem putD_mem {k j : Int} : ∀ {l : List Int}, j ∈ putD k l ↔ j = k ∨ j ∈ l
  | [] => by simp [putD]
  | x :: r => by
    unfold putD
    split
    · simp
    · split
      · rename_i h; subst h; simp
      · simp only [List.mem_cons, putD_mem (l := r)]
        constructor
        · rintro (h | h | h)
          · exact .inr (.inl h)
          · exact .inl h
          · exact .inr (.inr h)
        · rintro (h | h | h)
          · exact .inr (.inl h)
          · exact .inl h
          · exact .inr (.inr h)
theorem putD_up {k : Int} : ∀ {l : List Int}, l.Pairwise (· < ·) → (putD k l).Pairwise (· < ·)
  | [], _ => by simp [putD]
  | x :: r, h => by
    have h1 := List.pairwise_cons.mp h
    unfold putD
    split
    · rename_i hk
      refine List.pairwise_cons.mpr ⟨fun y hy => ?_, h⟩
      rcases List.mem_cons.mp hy with rfl | hy
      · exact hk
      · exact Int.lt_trans hk (h1.1 y hy)
    · split
      · exact h
      · rename_i h2 h3
        refine List.pairwise_cons.mpr ⟨fun y hy => ?_, putD_up h1.2⟩
        rcases putD_mem.mp hy with rfl | hy
        · omega
        · exact h1.1 y hy
theorem sortD_mem {j : Int} : ∀ {ns : List Int}, j ∈ sortD ns ↔ j ∈ ns
  | [] => by simp [sortD]
  | x :: r => by
    show j ∈ putD x (sortD r) ↔ _
    rw [putD_mem, sortD_mem (ns := r), List.mem_cons]
theorem sortD_up : ∀ {ns : List Int}, (sortD ns).Pairwise (· < ·)
  | [] => by simp [sortD]
  | x :: r => putD_up (sortD_up (ns := r))
/-- two rising lists with the same members are one -/
theorem up_ext : ∀ {l m : List Int}, l.Pairwise (· < ·) → m.Pairwise (· < ·) → (∀ k, k ∈ l ↔ k ∈ m) → l = m
  | [], [], _, _, _ => rfl
  | [], y :: m, _, _, h => absurd ((h y).mpr (by simp)) (by simp)
  | x :: l, [], _, _, h => absurd ((h x).mp (by simp)) (by simp)
  | x :: l, y :: m, hl, hm, h => by
    have h1 := List.pairwise_cons.mp hl
    have h2 := List.pairwise_cons.mp hm
    have exy : x = y := by
      rcases List.mem_cons.mp ((h x).mp (by simp)) with e | e
      · exact e
      · rcases List.mem_cons.mp ((h y).mpr (by simp)) with e2 | e2
        · exact e2.symm
        · have := h1.1 y e2
          have := h2.1 x e
          omega
    subst exy
    refine congrArg (x :: ·) (up_ext h1.2 h2.2 fun k => ⟨fun hk => ?_, fun hk => ?_⟩)
    · rcases List.mem_cons.mp ((h k).mp (by simp [hk])) with e | e
      · have := h1.1 k hk
        omega
      · exact e
    · rcases List.mem_cons.mp ((h k).mpr (by simp [hk])) with e | e
      · have := h2.1 k hk
        omega
      · exact e
theorem sortD_eq {l ns : List Int} (h : l.Pairwise (· < ·)) (hm : ∀ k, k ∈ l ↔ k ∈ ns) : sortD ns = l := up_ext sortD_up h fun k => by rw [sortD_mem, hm]
theorem sortD_self {l : List Int} (h : l.Pairwise (· < ·)) : sortD l = l := sortD_eq h fun _ => Iff.rfl
def tSortSet' (t : TA') : TE' := fun σ G Q => t σ G fun xs G1 => ∃ (x : D) (ns : List Int), xs = [x] ∧ asQ p G1 x = some (ns.map D.int) ∧ ns.length ≤ 4000 ∧ Q (.lst ((sortD ns).map D.int)) G1
theorem de_sortset {p1 p2 : Pos} (hK : X.K = p.K) (hc : X.calm = true) (m1 : X.mg "sorted" = none) (m2 : X.mg "set" = none) (ha : DA p B X [e] t) (g1 : Gl X "sorted" := by rfl) (g2 : Gl X "set" := by rfl)
    (he : starEach (e :: []) X.env = (false, eval e X.env) :: starEach [] X.env := by rfl) (hpl : (backTo pos (starEach [] X.env)).any (·.1) = false := by rfl)
    (he2 : starEach ([.Call (.Name "set" p2) [e] [] pos] : List Expr) X.env = (false, eval (.Call (.Name "set" p2) [e] [] pos) X.env) :: starEach [] X.env := by rfl) (hpl2 : (backTo cpos (starEach [] X.env)).any (·.1) = false := by rfl) :
    DE p B X (.Call (.Name "sorted" p1) [.Call (.Name "set" p2) [e] [] pos] [] cpos) (tSortSet' (p := p) t) :=
  PE.weak (pe_callB (DLSet.cr_sortedSetA hc) g1 m1 (by decide +kernel) (pa_cons (pe_callTy (DLSet.cr_setOf hc) g2 m2 (by decide +kernel) ha (by decide) (by decide) he hpl) pa_nil he2) (by decide) (by decide) he2 hpl2) fun σ H Q h => by
    obtain ⟨σ', G, Q', at_, q, k⟩ := h
    refine ⟨σ', G, _, at_, q, fun xs G1 vs H1 n1 r1 q1 => ?_⟩
    obtain ⟨x, ns, rfl, ex, hl, q1⟩ := q1
    obtain ⟨v, rfl, rv⟩ := rl1 r1
    obtain ⟨q, ws, rfl, hs, rr⟩ := asQ_rep n1.rep rv ex
    rw [rr.«ints»] at hs
    rw [← hK] at hs
    refine ⟨q, ns, rfl, hs, hl, fun l c hn hcl => ⟨l, _, c, rfl, upd_same, Nat.le_trans hcl hl, fun ms pl up mem hp => ?_⟩⟩
    have e1 : sortD ns = ms := sortD_eq up fun k => by rw [mem k, decide_eq_true_eq]
    subst e1
    have n2 : Nxt p G1 H1 G1 (upd H1 l (SetO X.w l (fun j => decide (j ∈ ns)) c)) := nxt_new n1.rep hn
    have M := rep_newF n2.rep hp (RepL.ofInts (sortD ns))
    exact k _ G1 _ _ ((n1.trans n2).trans M.1) M.2 q1
/-! ### methods of lists -/
/-- a method of a list that may change it -/
@[simp] def tMut' (r : Addr → List D → List D → GH → QE → Prop) (to : TE') (t : TA') : TE' := fun σ G Q => to σ G fun x G1 => ∃ a, x = .ref a ∧ (∃ ds, G1 a = some (.lst ds)) ∧ t σ G1 fun xs G2 => ∃ ds, G2 a = some (.lst ds) ∧ r a ds xs G2 Q
abbrev RM' := Addr → List D → List D → GH → QE → Prop
def LftM (p : Pm) (r : V → List V → Hp → VK → Prop) (r' : RM') : Prop := ∀ a ds xs G Q' ws vs H Q, G a = some (.lst ds) → H a = some (.lst ws) → RepL p G H ds ws → RepL p G H xs vs → RepH p G H → r' a ds xs G Q' → (∀ d G' w H', Nxt p G H G' H' → Rep p G' H' d w → Q' d G' → Q w H') → r (.ref a) vs H Q
theorem lift_mut {K : PySem.W.Frag} {r : V → List V → Hp → VK → Prop} {r' : RM'} {to : TE'} (l : LftM p r r') {σ H Q} (h : liftE p B (tMut' r' to t) σ H Q) : tBM K "list" r (liftE p B to) (liftA p B t) σ H Q := by
  obtain ⟨σ', G, Q', at_, q, k⟩ := h
  refine ⟨σ', G, _, at_, q, fun x G1 v H1 n1 r1 q1 => ?_⟩
  obtain ⟨a, rfl, ⟨ds, hg⟩, q1⟩ := q1
  cases (show _ = _ from r1)
  obtain ⟨ws, hw, _⟩ := n1.rep.obj a _ hg
  refine ⟨.inl ⟨rfl, _, SqL.of hw⟩, σ', G1, _, at_.nxt n1, q1, fun xs G2 vs H2 n2 r2 q2 => ?_⟩
  obtain ⟨es, hg2, q2⟩ := q2
  obtain ⟨us, hu, ru⟩ := n2.rep.obj a _ hg2
  exact l a es xs G2 Q' us vs H2 Q hg2 hu ru r2 n2.rep q2 fun d G3 w H3 n3 r3 q3 => k d G3 w H3 ((n1.trans n2).trans n3) r3 q3
theorem lift_mut0 {K : PySem.W.Frag} {r : V → List V → Hp → VK → Prop} {r' : RM'} {to : TE'} (l : LftM p r r') {σ H Q} (h : liftE p B (tMut' r' to tNil') σ H Q) : tBM0 K "list" r (liftE p B to) σ H Q := by
  obtain ⟨σ', G, Q', at_, q, k⟩ := h
  refine ⟨σ', G, _, at_, q, fun x G1 v H1 n1 r1 q1 => ?_⟩
  obtain ⟨a, rfl, ⟨ds, hg⟩, q1⟩ := q1
  cases (show _ = _ from r1)
  obtain ⟨es, hg2, q2⟩ := q1
  obtain ⟨us, hu, ru⟩ := n1.rep.obj a _ hg2
  exact ⟨.inl ⟨rfl, _, SqL.of hu⟩, l a es [] G1 Q' us [] H1 Q hg2 hu ru (by exact rfl) n1.rep q2 fun d G3 w H3 n3 r3 q3 => k d G3 w H3 (n1.trans n3) r3 q3⟩
@[simp] def rAppend' : RM' := fun a ds xs G Q => ∃ y, xs = [y] ∧ ds.length < sizeLine ∧ Q .non (gup G a (.lst (ds ++ [y])))
theorem lft_append : LftM p rAppend rAppend' := by
  rintro a ds xs G Q' ws vs H Q hg hw rw_ rx h ⟨y, rfl, hl, q⟩ k
  obtain ⟨v, rfl, rv⟩ := rl1 rx
  refine ⟨a, ws, v, rfl, rfl, hw, by rw [← rw_.length]; exact hl, ?_⟩
  exact k _ _ _ _ (nxt_setL h hg hw (rw_.append (RepL.cons (ds := []) (vs := []) rv (by exact rfl)))) (by exact rfl) q
@[simp] def rExtend' : RM' := fun a ds xs G Q => ∃ y es, xs = [y] ∧ asL G y = some es ∧ ds.length + es.length ≤ sizeLine ∧ Q .non (gup G a (.lst (ds ++ es)))
theorem lft_extend : LftM p rExtend rExtend' := by
  rintro a ds xs G Q' ws vs H Q hg hw rw_ rx h ⟨y, es, rfl, ey, hl, q⟩ k
  obtain ⟨v, rfl, rv⟩ := rl1 rx
  obtain ⟨b, us, rfl, hb, rb⟩ := asL_rep h rv ey
  refine ⟨a, b, ws, us, rfl, rfl, hw, hb, by rw [← rw_.length, ← rb.length]; exact hl, ?_⟩
  exact k _ _ _ _ (nxt_setL h hg hw (rw_.append rb)) (by exact rfl) q
@[simp] def rPop' : RM' := fun a ds xs G Q => ∃ y, xs = [] ∧ ds[ds.length - 1]? = some y ∧ Q y (gup G a (.lst ds.dropLast))
theorem repL_dropLast {G : GH} {H : Hp} {ds : List D} {vs : List V} (r : RepL p G H ds vs) : RepL p G H ds.dropLast vs.dropLast := by
  rw [List.dropLast_eq_take, List.dropLast_eq_take, r.length]
  exact r.take _
theorem lft_pop : LftM p rPop rPop' := by
  rintro a ds xs G Q' ws vs H Q hg hw rw_ rx h ⟨y, rfl, ey, q⟩ k
  obtain ⟨v, hv, rv⟩ := rw_.get ey
  have e : vs = [] := rx
  have N := nxt_setL h hg hw (repL_dropLast rw_)
  refine ⟨a, ws, v, rfl, e, hw, by rw [← rw_.length]; exact hv, ?_⟩
  exact k _ _ _ _ N (N.st _ _ rv) q
def rReverse' : RM' := fun a ds xs G Q => xs = [] ∧ Q .non (gup G a (.lst ds.reverse))
theorem lft_reverse : LftM p rReverse rReverse' := by
  rintro a ds xs G Q' ws vs H Q hg hw rw_ rx h ⟨rfl, q⟩ k
  exact ⟨a, ws, rfl, rx, hw, k _ _ _ _ (nxt_setL h hg hw rw_.reverse) (by exact rfl) q⟩
def rRemove' : RM' := fun a ds xs G Q => ∃ (ns : List Int) (k : Int) (j : Nat), xs = [.int k] ∧ ds = ns.map D.int ∧ ns[j]? = some k ∧ (∀ m : Nat, m < j → ns[m]? ≠ some k) ∧ Q .non (gup G a (.lst ((ns.eraseIdx j).map D.int)))
theorem lft_remove : LftM p rRemI rRemove' := by
  rintro a ds xs G Q' ws vs H Q hg hw rw_ rx h ⟨ns, m, j, rfl, rfl, h1, h2, q⟩ k
  obtain ⟨v, rfl, rv⟩ := rl1 rx
  cases (show _ = _ from rv)
  rw [rw_.«ints»] at hw
  exact ⟨a, ns, m, j, rfl, rfl, hw, h1, h2, k _ _ _ _ (nxt_setL h hg hw (RepL.ofInts _)) (by exact rfl) q⟩
theorem de_append {to : TE'} (ho : DE p B X o to) (ha : DA p B X [e] t) (hb : attributeBase o "append" X.env (eval o X.env) = eval o X.env := by rfl) (h1 : ((backTo cpos (starEach (e :: []) X.env)).all (fun x => !x.1) && (backToKw cpos (keywordEach [] X.env)).all (fun x => x.1.isSome)
      && decide ((e :: []).length + ([] : List Keyword).length + (if ([] : List Keyword).isEmpty then 0 else 1) < 30)) = true := by rfl) (h2 : (apos.endLine == cpos.line) = true := by rfl) (hs : starEach (e :: []) X.env = (false, eval e X.env) :: starEach [] X.env := by rfl) (h3 : (backTo cpos (starEach [] X.env)).any (·.1) = false := by rfl) :
    DE p B X (.Call (.Attribute o "append" apos) [e] [] cpos) (tMut' rAppend' to t) :=
  PE.weak (pe_bm PySem.F.plainAttrs_list PySem.F.slot_list_append PySem.F.type_list_append mt_append ho ha hb h1 h2 hs h3) fun σ H Q h => lift_mut lft_append h
theorem de_extend {to : TE'} (ho : DE p B X o to) (ha : DA p B X [e] t) (hb : attributeBase o "extend" X.env (eval o X.env) = eval o X.env := by rfl) (h1 : ((backTo cpos (starEach (e :: []) X.env)).all (fun x => !x.1) && (backToKw cpos (keywordEach [] X.env)).all (fun x => x.1.isSome)
      && decide ((e :: []).length + ([] : List Keyword).length + (if ([] : List Keyword).isEmpty then 0 else 1) < 30)) = true := by rfl) (h2 : (apos.endLine == cpos.line) = true := by rfl) (hs : starEach (e :: []) X.env = (false, eval e X.env) :: starEach [] X.env := by rfl) (h3 : (backTo cpos (starEach [] X.env)).any (·.1) = false := by rfl) :
    DE p B X (.Call (.Attribute o "extend" apos) [e] [] cpos) (tMut' rExtend' to t) :=
  PE.weak (pe_bm PySem.F.plainAttrs_list PySem.F.slot_list_extend PySem.F.type_list_extend mt_extend ho ha hb h1 h2 hs h3) fun σ H Q h => lift_mut lft_extend h
theorem de_remove {to : TE'} (ho : DE p B X o to) (ha : DA p B X [e] t) (hb : attributeBase o "remove" X.env (eval o X.env) = eval o X.env := by rfl) (h1 : ((backTo cpos (starEach (e :: []) X.env)).all (fun x => !x.1) && (backToKw cpos (keywordEach [] X.env)).all (fun x => x.1.isSome)
      && decide ((e :: []).length + ([] : List Keyword).length + (if ([] : List Keyword).isEmpty then 0 else 1) < 30)) = true := by rfl) (h2 : (apos.endLine == cpos.line) = true := by rfl) (hs : starEach (e :: []) X.env = (false, eval e X.env) :: starEach [] X.env := by rfl) (h3 : (backTo cpos (starEach [] X.env)).any (·.1) = false := by rfl) :
    DE p B X (.Call (.Attribute o "remove" apos) [e] [] cpos) (tMut' rRemove' to t) :=
  PE.weak (pe_bm PySem.F.plainAttrs_list PySem.F.slot_list_remove PySem.F.type_list_remove mt_remove ho ha hb h1 h2 hs h3) fun σ H Q h => lift_mut lft_remove h
theorem de_pop {to : TE'} (ho : DE p B X o to) (hb : attributeBase o "pop" X.env (eval o X.env) = eval o X.env := by rfl) (h2 : (apos.endLine == cpos.line) = true := by rfl) : DE p B X (.Call (.Attribute o "pop" apos) [] [] cpos) (tMut' rPop' to tNil') :=
  PE.weak (pe_bm0 PySem.F.plainAttrs_list PySem.F.slot_list_pop PySem.F.type_list_pop mt_pop ho hb h2) fun σ H Q h => lift_mut0 lft_pop h
theorem de_reverse {to : TE'} (ho : DE p B X o to) (hb : attributeBase o "reverse" X.env (eval o X.env) = eval o X.env := by rfl) (h2 : (apos.endLine == cpos.line) = true := by rfl) : DE p B X (.Call (.Attribute o "reverse" apos) [] [] cpos) (tMut' rReverse' to tNil') :=
  PE.weak (pe_bm0 PySem.F.plainAttrs_list PySem.F.slot_list_reverse PySem.F.type_list_reverse mt_reverse ho hb h2) fun σ H Q h => lift_mut0 lft_reverse h
/-! ### in, not in: ints -/
def rIn' (p : Pm) (neg : Bool) : R2' := fun x y G Q => ∃ (k : Int) (ns : List Int), x = .int k ∧ asQ p G y = some (ns.map D.int) ∧ Q (.bl (neg ^^ decide (k ∈ ns))) G
theorem inV_ints (k : Int) : ∀ ns : List Int, inV (.int k) (ns.map V.int) = decide (k ∈ ns)
  | [] => rfl
  | n :: ns => by
    show (eqV (.int n) (.int k) || inV (.int k) (ns.map V.int)) = _
    rw [inV_ints k ns]
    have : eqV (.int n) (.int k) = decide (k = n) := by
      rw [Bool.eq_iff_iff]
      simp [eqV]
      exact eq_comm
    rw [this]
    simp [Bool.decide_or]
theorem flat_ints (ns : List Int) : (ns.map V.int).all flatV = true := by
  rw [List.all_eq_true]
  intro x hx
  obtain ⟨n, _, rfl⟩ := List.mem_map.mp hx
  rfl
theorem lft_in (neg : Bool) : Lft2 p (rIn p.K neg) (rIn' p neg) := by
  rintro x y G Q' u v H Q rx ry h ⟨k, ns, rfl, ey, q⟩ kk
  cases (show _ = _ from rx)
  obtain ⟨a, vs, rfl, hs, rr⟩ := asQ_rep h ry ey
  rw [rr.«ints»] at hs
  refine ⟨a, _, rfl, hs, rfl, flat_ints ns, ?_⟩
  rw [inV_ints]
  cases neg with
  | true => rw [Bool.true_xor] at q; exact kk _ G _ H (.refl h) (by exact rfl) q
  | false => rw [Bool.false_xor] at q; exact kk _ G _ H (.refl h) (by exact rfl) q
theorem dt_in (hK : X.K = p.K) (ha : DE p B X a ta) (hb : DE p B X b tb) (hm : behindInMarks .In b = false := by rfl) : DT p B X (.Compare a [.In] [b] pos) (tTest' (tOp' (rIn' p false) ta tb)) := dt_cmp op_in_seq (hK ▸ lft_in false) ha hb hm
theorem dt_nin (hK : X.K = p.K) (ha : DE p B X a ta) (hb : DE p B X b tb) (hm : behindInMarks .NotIn b = false := by rfl) : DT p B X (.Compare a [.NotIn] [b] pos) (tTest' (tOp' (rIn' p true) ta tb)) := dt_cmp op_notIn_seq (hK ▸ lft_in true) ha hb hm
/-! ### isinstance of a built-in class -/
@[simp] def tyD (G : GH) : D → Option String
  | .non => some "NoneType"
  | .bl _ => some "bool"
  | .int _ => some "int"
  | .str _ => some "str"
  | .tup _ => some "tuple"
  | .lst _ => some "list"
  | .ref a => match G a with
    | some (.lst _) => some "list"
    | _ => none
  | .scr => none
theorem tyD_rep {G : GH} {H : Hp} {d : D} {v : V} {T : String} (h : RepH p G H) (r : Rep p G H d v) (e : tyD G d = some T) : TyX p.K H v (.type T) := by
  cases d with
  | non => cases e; cases (show _ = _ from r); exact .base .non
  | bl b => cases e; cases (show _ = _ from r); exact .base (.bl b)
  | int i => cases e; cases (show _ = _ from r); exact .base (.int i)
  | str x => cases e; cases (show _ = _ from r); exact .base (.str x)
  | tup ds =>
    cases e; obtain ⟨a, vs, rfl, ha, _⟩ := r
    rcases ha with ha | ⟨o, ha⟩
    · exact .base (.tup ha)
    · exact .fTuple ha
  | lst ds => cases e; obtain ⟨a, vs, rfl, ha, _⟩ := r; exact .base (.lst ha)
  | ref a =>
    unfold tyD at e
    dsimp only at e
    split at e
    · rename_i ds hg
      cases e
      obtain ⟨vs, hv, _⟩ := h.obj a _ hg
      cases (show _ = _ from r)
      exact .base (.lst hv)
    · cases e
  | scr => cases e
@[simp] def rIsi' (T : String) (ta : TE') : TE' := fun σ G Q => ta σ G fun x G1 => ∃ t b, tyD G1 x = some t ∧ kitB t T = some b ∧ Q (.bl b) G1
theorem de_isi {T : String} {x : Str} {p1 p2 : Pos} (hK : X.K = p.K) (m1 : X.mg "isinstance" = none) (m2 : X.mg x = none) (hv : bootBuiltins x = some (.type T)) (ha : DE p B X a ta) (g1 : Gl X "isinstance" := by rfl) (g2 : Gl X x := by rfl) (hn : x ≠ "__name__" := by decide) (hdb : (x == ("__debug__" : Str)) = false := by decide)
    (he : starEach [a, .Name x p2] X.env = (false, eval a X.env) :: starEach [.Name x p2] X.env := by rfl) (he2 : starEach [.Name x p2] X.env = (false, eval (.Name x p2) X.env) :: starEach [] X.env := by rfl) (hpl : (backTo pos (starEach [.Name x p2] X.env)).any (·.1) = false := by rfl) :
    DE p B X (.Call (.Name "isinstance" p1) [a, .Name x p2] [] pos) (rIsi' T ta) :=
  PE.weak (pe_callB call_isi g1 m1 (by decide +kernel) (pa_cons ha (pa_cons (pe_bltn (v := .ty T) g2 m2 hv (by rfl) hn hdb) pa_nil he2) he) (by decide) (by decide) he hpl) fun σ H Q h => by
    obtain ⟨σ', G, Q', at_, q, k⟩ := h
    refine ⟨σ', G, _, at_, q, fun d G1 v H1 n1 r1 q1 => ?_⟩
    obtain ⟨t, b, e1, e2, q1⟩ := q1
    exact ⟨v, .ty T, .type t, .type T, b, rfl, .ty T, hK ▸ tyD_rep n1.rep r1 e1, kit_ty e2, k _ G1 _ H1 n1 (by exact rfl) q1⟩
end
end DL

namespace DL
open PySem PySem.Spec PyProof.Rows L2
open HT PySem.SeqAt PySem.MeetsSeq PySem.MeetsSeq2 PySem.MeetsSeq3
/-- each c-th from the first on -/
def stepL {α : Type} (xs : List α) (c : Nat) : List α := (List.range xs.length).filterMap fun m => xs[m * c]?
theorem stepL_map {α β : Type} (f : α → β) (xs : List α) (c : Nat) : stepL (xs.map f) c = (stepL xs c).map f := by
  unfold stepL
  rw [List.length_map, List.map_filterMap]
  congr 1
  funext m
  rw [List.getElem?_map]
theorem fm_range_cut {α : Type} (f : Nat → Option α) {k n : Nat} (h : k ≤ n) (hn : ∀ m, k ≤ m → f m = none) : (List.range n).filterMap f = (List.range k).filterMap f := by
  obtain ⟨d, rfl⟩ := Nat.le.dest h
  rw [List.range_add, List.filterMap_append]
  have : ((List.range d).map (k + ·)).filterMap f = [] := by
    rw [List.filterMap_map, List.filterMap_eq_nil_iff]
    intro m _
    exact hn _ (Nat.le_add_right _ _)
  rw [this, List.append_nil]
theorem step_places (n c : Nat) (hc : 0 < c) : Builtin.Slice.slicePlaces 0 (n : Int) (c : Int) = (n + c - 1) / c := by
  unfold Builtin.Slice.slicePlaces
  have h1 : (c : Int) > 0 := by omega
  simp only [h1, if_true]
  by_cases h : 0 < n
  · rw [if_pos (by omega)]
    have e : ((n : Int) - 0 - 1) / (c : Int) + 1 = (((n - 1) / c + 1 : Nat) : Int) := by
      have : ((n : Int) - 0 - 1) = ((n - 1 : Nat) : Int) := by omega
      rw [this]; simp
    rw [e, Int.toNat_natCast]
    have : n + c - 1 = (n - 1) + c := by omega
    rw [this, Nat.add_div_right _ hc]
  · have : n = 0 := by omega
    subst this
    rw [if_neg (by omega)]
    simp
    rw [Nat.div_eq_of_lt (by omega)]
theorem step_pick (xs : Array Value) (c : Nat) (hc : 0 < c) : ((List.range ((xs.size + c - 1) / c)).filterMap fun (m : Nat) => xs[((0 : Int) + (m : Int) * (c : Int)).toNat]?) = stepL xs.toList c := by
  unfold stepL
  rw [fm_range_cut (k := (xs.size + c - 1) / c) (n := xs.toList.length)]
  · congr 1
    funext m
    have : ((0 : Int) + (m : Int) * (c : Int)).toNat = m * c := by
      rw [Int.zero_add, ← Int.natCast_mul, Int.toNat_natCast]
    rw [this, Array.getElem?_toList]
  · rw [Array.length_toList]
    have h2 : xs.size * 1 ≤ xs.size * c := Nat.mul_le_mul_left _ hc
    have h3 : (xs.size + c - 1) / c < xs.size + 1 := by
      rw [Nat.div_lt_iff_lt_mul hc, Nat.succ_mul]
      omega
    omega
  · intro m hm
    rw [List.getElem?_eq_none]
    rw [Array.length_toList]
    have h2 : xs.size + c - 1 < (m + 1) * c := by
      rw [← Nat.div_lt_iff_lt_mul hc]; omega
    rw [Nat.succ_mul] at h2
    omega
theorem stepL_len {α : Type} (xs : List α) (c : Nat) : (stepL xs c).length ≤ xs.length := by
  unfold stepL
  refine Nat.le_trans (List.length_filterMap_le _ _) ?_
  simp
theorem stepL_one {α : Type} (xs : List α) : stepL xs 1 = xs := by
  unfold stepL
  simp only [Nat.mul_one]
  induction xs with
  | nil => rfl
  | cons x r ih =>
    rw [List.length_cons, List.range_succ_eq_map, List.filterMap_cons, List.filterMap_map]
    simp only [List.getElem?_cons_zero]
    congr 1
section
variable {prog : Program} {w : World} {A : Around} {E : Value → Shared → Prop} {s : Shared}
theorem applied_step {sl : Addr} {vl vu vs : Value} {c n : Nat} {Q : Int × Int × Nat → Shared → Prop} (hs : s.heap.IsSliceOf sl vl vu vs) (pl : IsPart vl none) (pu : IsPart vu none) (ps : IsPart vs (some (c : Int))) (hc : 0 < c)
    (h : Q (0, (c : Int), (n + c - 1) / c) s) : wpAny (model prog w) A (Builtin.Slice.sliceApplied (.ref sl) (pure (n : Int))) Q E s := by
  obtain ⟨os, hos, hcs, hds⟩ := id hs
  unfold Builtin.Slice.sliceApplied Builtin.Slice.sliceFields
  refine wpAny_bind (wpAny_bind (wpAny_field hos hds (x := vl) rfl (wpAny_bind (wpAny_field hos hds (x := vu) rfl (wpAny_bind (wpAny_field hos hds (x := vs) rfl (wpAny_pure ?_)))))))
  refine wpAny_bind (slicePart_ ps ?_)
  have hz : ¬ (((c : Int) == 0) = true) := by
    intro z
    have : (c : Int) = 0 := by simpa using z
    omega
  show wpAny _ _ (if ((c : Int) == 0) = true then _ else _) _ _ s
  rw [if_neg hz]
  refine wpAny_bind (slicePart_ pl (wpAny_bind (slicePart_ pu (wpAny_bind (wpAny_pure ?_)))))
  show wpAny _ _ (match Builtin.Slice.sliceAdjust none none (c : Int) (n : Int) with | (lo, hi) => pure (lo, (c : Int), Builtin.Slice.slicePlaces lo hi (c : Int))) _ _ s
  have hadj : Builtin.Slice.sliceAdjust none none (c : Int) (n : Int) = (0, (n : Int)) := by
    unfold Builtin.Slice.sliceAdjust
    have : ¬ ((c : Int) < 0) := by omega
    simp only [this, if_false]
  rw [hadj]
  show wpAny _ _ (pure ((0 : Int), (c : Int), Builtin.Slice.slicePlaces 0 (n : Int) (c : Int))) _ _ s
  rw [step_places n c hc]
  exact wpAny_pure h
theorem getItem_tuple_step {t sl : Addr} {items : Array Value} {vl vu vs : Value} {c : Nat} {Q : Value → Shared → Prop} (ht : IsTup s.heap t items) (hs : s.heap.IsSliceOf sl vl vu vs) (pl : IsPart vl none) (pu : IsPart vu none) (ps : IsPart vs (some (c : Int))) (hc : 0 < c)
    (h1 : c = 1 → Q (.ref t) s) (h : c ≠ 1 → Q (.ref s.heap.objs.size) { s with heap := s.heap.push { cls := .type "tuple", data := .seq (stepL items.toList c).toArray } })
    (hsz : items.size ≤ sizeLine) : wpAny (model prog w) A (getItem (.ref t) (.ref sl)) Q E s := by
  have hsize : sizeOk (.seq (stepL items.toList c).toArray) := by
    show (stepL items.toList c).toArray.size ≤ sizeLine
    rw [List.size_toArray]
    exact Nat.le_trans (stepL_len _ _) (by rw [Array.length_toList]; exact hsz)
  obtain ⟨os, hos, hcs, hds⟩ := id hs
  have hTs : s.TypeIs (.ref sl) "slice" := ⟨os, hos, hcs⟩
  unfold getItem
  try with_reducible refine wpAny_holding ?_
  first | refine wpAny_bind (wpAny_pure ?_) | skip
  refine wpAny_bind (wpAny_sequenceKey ht.typeIs (by decide) ?_)
  refine wpAny_bind (wpAny_callSpecial?_slot (name := Str.ofString "__getitem__") ht.typeIs PyProof.Rows.slot_tuple_getitem
    (wpAny_call_entry PyProof.Rows.slot_tuple_getitem ht.typeIs entry_tuple_getitem ?_ (args_tuple_getitem _ _)))
  show wpAny _ _ (Builtin.Tuple.tupleItemsOf (.ref t) >>= _) _ _ s
  refine wpAny_bind (tupleItemsOf_ ht ?_)
  refine wpAny_bind (wpAny_typeOf hTs ?_)
  rw [if_pos (by decide)]
  refine wpAny_bind (applied_step (n := items.size) hs pl pu ps hc ?_)
  by_cases c1 : c = 1
  · subst c1
    have hyes : (((0 : Int)) == 0 && (((1 : Nat) : Int)) == 1 && ((items.size + 1 - 1) / 1) == items.size) = true := by simp
    show wpAny _ _ (if (((0 : Int)) == 0 && (((1 : Nat) : Int)) == 1 && ((items.size + 1 - 1) / 1) == items.size) = true then _ else _) _ _ s
    rw [if_pos hyes]
    refine wpAny_bind ?_
    show wpAny _ _ (typeOf (.ref t) >>= fun T => pure (T == .type "tuple")) _ _ s
    refine wpAny_bind (wpAny_typeOf ht.typeIs (wpAny_pure ?_))
    first
      | rw [if_pos (by decide)]
      | simp only [beq_self_eq_true, if_true]
    first
      | exact wpAny_bind (wpAny_rule (wpAny_pure ⟨_, rfl, wpAny_pure (h1 rfl)⟩))
      | exact wpAny_bind (wpAny_rule (wpAny_bind (wpAny_pure (wpAny_pure ⟨_, rfl, wpAny_pure (h1 rfl)⟩))))
  · have hno : ¬ ((((0 : Int)) == 0 && ((c : Int)) == 1 && ((items.size + c - 1) / c) == items.size) = true) := by
      intro q
      rw [Bool.and_eq_true, Bool.and_eq_true] at q
      have q2 : (c : Int) = 1 := eq_of_beq q.1.2
      omega
    show wpAny _ _ (if (((0 : Int)) == 0 && ((c : Int)) == 1 && ((items.size + c - 1) / c) == items.size) = true then _ else _) _ _ s
    rw [if_neg hno, step_pick items c hc]
    have h := h c1
    first
      | exact wpAny_bind (m := Builtin.Tuple.tupleExact _) (wpAny_newObj_type (wpAny_pure ⟨_, rfl, wpAny_pure h⟩) hsize)
      | exact wpAny_bind (m := Builtin.Tuple.tupleExact _) (wpAny_newObj_type (wpAny_bind (wpAny_pure (wpAny_pure ⟨_, rfl, wpAny_pure h⟩))) hsize)
end
/-! ### t[::k] -/
def tStepH (K : PySem.W.Frag) (te : TE) (ts : TO) : TE := fun σ H Q => te σ H fun x H1 => ts σ H1 fun o H2 => ∃ (a : Addr) (xs : List V) (c : Nat), x = .ref a ∧ o = some (c : Int) ∧ SqT K H2 a xs ∧ 0 < c ∧ (c = 1 → Q (.ref a) H2) ∧ (c ≠ 1 → ∀ p, H2 p = none → Q (.ref p) (upd H2 p (.tup (stepL xs c))))
theorem vals_step {xs : List V} {us : List Value} (r : Vals xs us) (c : Nat) : Vals (stepL xs c) (stepL us c) := by
  unfold stepL
  rw [r.length]
  have : ∀ l : List Nat, Vals (l.filterMap fun m => xs[m * c]?) (l.filterMap fun m => us[m * c]?) := by
    intro l
    induction l with
    | nil => exact .nil
    | cons m l ih =>
      rw [List.filterMap_cons, List.filterMap_cons]
      cases e : xs[m * c]? with
      | none =>
        have : us[m * c]? = none := by
          rw [List.getElem?_eq_none_iff] at e ⊢
          rw [← r.length]; exact e
        rw [this]; exact ih
      | some x =>
        obtain ⟨u, hu, ru⟩ := r.get e
        rw [hu]
        exact .cons ru ih
  exact this _
theorem pe_step {X : Cx} {e st : Expr} {te : TE} {ts : TO} {p3 pos : Pos} (he : PE X e te) (hst : PO X (some st) ts) : PE X (.Subscript e (.Slice none none (some st) p3) pos) (tStepH X.K te ts) := by
  refine ⟨fun pins s σ H Q I h => ?_⟩
  refine Subscript_ (thn (he.run pins s σ H _ I h) fun v s1 ⟨x, H1, I1, r1, q1⟩ => ?_)
  refine wpAny_Slice (thn (po_none.run pins s1 σ H1 (fun o H2 => o = none ∧ H2 = H1) I1 ⟨rfl, rfl⟩) fun vl s2 ⟨l, H2, I2, pl, el, e2⟩ => ?_)
  subst el e2
  refine thn (po_none.run pins s2 σ H2 (fun o H3 => o = none ∧ H3 = H2) I2 ⟨rfl, rfl⟩) fun vu s3 ⟨u, H3, I3, pu, eu, e3⟩ => ?_
  subst eu e3
  refine thn (hst.run pins s3 σ H3 _ I3 q1) fun vs s4 ⟨o, H4, I4, ps, q⟩ => ?_
  obtain ⟨a, xs, c, ex, eo, hx, hc, k1, k2⟩ := q
  subst ex eo
  cases r1
  have I5 : Inv X pins σ H4 { s4 with heap := s4.heap.push { cls := .type "slice", data := .fields #[vl, vu, vs] } } := I4.kept (t' := s4.toks) fun b ob q => Heap.get?_push_of_some _ q
  obtain ⟨its, r, ht, hz⟩ := I5.tuple hx
  have hlen := r.length
  show wpAny (model X.prog X.w) X.A (subscriptTail e (.Slice none none (some st) p3) (.ref a) (.ref s4.heap.objs.size)) (EP X pins σ Q) X.xe { s4 with heap := s4.heap.push { cls := .type "slice", data := .fields #[vl, vu, vs] } }
  refine tail_any (ops := [.ref a, .ref s4.heap.objs.size]) ht.typeIs PyProof.Rows.slot_tuple_getitem.lookup ?_ (by with_unfolding_all rfl)
  refine getItem_tuple_step ht (Heap.IsSliceOf.new _ vl vu vs) pl pu ps hc (fun z => ⟨.ref a, H4, I5, rfl, k1 z⟩) (fun z => ?_) (by rw [List.size_toArray]; omega)
  refine ⟨.ref _, _, I5.laid (t' := s4.toks) (o := .tup (stepL xs c)) (fun b ob q => Heap.get?_push_of_some _ q) (Nat.le_refl _) ?_, rfl, k2 z _ (I5.hok.fresh (Nat.le_refl _))⟩
  exact ⟨Nat.le_trans (stepL_len _ _) hz, _, vals_step r c, IsTup.new _ _⟩
section
variable {p : Pm} {B : Bs p} {X : Cx} {a b c e o : Expr} {ta tb tc : TE'} {pos : Pos}
theorem RepL.step (c : Nat) {G : GH} {H : Hp} {ds : List D} {vs : List V} (r : RepL p G H ds vs) : RepL p G H (stepL ds c) (stepL vs c) := by
  unfold stepL
  rw [r.length]
  have : ∀ l : List Nat, RepL p G H (l.filterMap fun m => ds[m * c]?) (l.filterMap fun m => vs[m * c]?) := by
    intro l
    induction l with
    | nil => exact rfl
    | cons m l ih =>
      rw [List.filterMap_cons, List.filterMap_cons]
      cases e : ds[m * c]? with
      | none =>
        have : vs[m * c]? = none := by
          rw [List.getElem?_eq_none_iff] at e ⊢
          rw [← r.length]; exact e
        rw [this]; exact ih
      | some x =>
        obtain ⟨u, hu, ru⟩ := r.get e
        rw [hu]
        exact RepL.cons ru ih
  exact this _
@[simp] def tStep' (te ts : TE') : TE' := fun σ G Q => te σ G fun x G1 => ts σ G1 fun y G2 => ∃ ds c, x = .tup ds ∧ y = .int c ∧ 0 < c ∧ Q (.tup (stepL ds c.toNat)) G2
theorem de_step {p3 : Pos} (ha : DE p B X a ta) (hb : DE p B X b tb) : DE p B X (.Subscript a (.Slice none none (some b) p3) pos) (tStep' ta tb) :=
  PE.weak (pe_step ha (po_some hb)) fun σ H Q ⟨σ', G, Q', at_, q, k⟩ => by
    refine ⟨σ', G, _, at_, q, fun x G1 v H1 n1 r1 q1 => ?_⟩
    refine ⟨σ', G1, _, at_.nxt n1, q1, fun y G2 u H2 n2 r2 q2 => ?_⟩
    obtain ⟨ds, c, rfl, rfl, hc, q2⟩ := q2
    obtain ⟨a, vs, rfl, ha, rr⟩ := n2.st (.tup ds) _ r1
    cases (show u = _ from r2)
    refine ⟨c, rfl, a, vs, c.toNat, rfl, by rw [Int.toNat_of_nonneg (by omega)], sqT_of ha, by omega, fun z => ?_, fun z pp hp => ?_⟩
    · rw [z, stepL_one] at q2
      exact k (.tup ds) G2 _ H2 (n1.trans n2) ⟨a, vs, rfl, ha, rr⟩ q2
    · have n3 := nxt_new (o := .tup (stepL vs c.toNat)) n2.rep hp
      exact k (.tup (stepL ds c.toNat)) G2 _ _ ((n1.trans n2).trans n3) ⟨pp, _, rfl, .inl upd_same, n3.st.list (rr.step c.toNat)⟩ q2
/-! ### xs[::-1] of a list that stays -/
@[simp] def tRev' (fresh : Bool) (te : TE') : TE' := fun σ G Q => te σ G fun x G1 => ∃ ds, asL G1 x = some ds ∧ if fresh then ∀ a, G1 a = none → Q (.ref a) (gup G1 a (.lst ds.reverse)) else Q (.lst ds.reverse) G1
end
end DL

namespace DL
open PySem PySem.Spec PyProof.Rows L2
open Sem (wp)
/-! ### enumerate of a tuple -/
set_option maxHeartbeats 1000000 in
theorem meets_enum1 {v : Value} {o : Obj} {H : Heap → Prop} (B : Begins v o H) :
    Meets (Builtin.«enumerate.__new__» ⟨[.type "enumerate", v], []⟩) (fun _ R s => H s.heap ∧
      R (.ok (.ret (.ref (s.heap.push o).objs.size))) { s with heap := (s.heap.push o).push { cls := .type "enumerate", data := .fields #[.none, .bool false, .ref s.heap.objs.size, rawInt 0, .none, .none] } }) :=
  .of_wp fun prog w A R s h => by
    obtain ⟨hp, g, d, tk, os⟩ := s; obtain ⟨h1, h⟩ := h
    have hsub := sub_enumerate
    have q1 : ∀ {A' : Around} {E : Value → Shared → Prop} {Q : Value → Shared → Prop}, Q (.ref hp.objs.size) ⟨hp.push o, g, d, tk, os⟩ → wpAny (model prog w) A' (pyIter v) Q E ⟨hp, g, d, tk, os⟩ :=
      fun q => B.iter prog w _ _ ⟨hp, g, d, tk, os⟩ _ h1 q
    wp_walk using q1
    refine wpAny_stack_any fun st => wpAny_pure ?_
    split
    · rename_i c _ _ _ _ _
      cases (c == Value.type "enumerate")
      · wp_walk using q1
        exact ⟨_, rfl, h⟩
      · wp_walk using q1
        exact ⟨_, rfl, h⟩
    · wp_walk using q1
      exact ⟨_, rfl, h⟩
section
variable {prog : Program} {w : World} {A : Around} {E : Value → Shared → Prop} {s : Shared}
theorem enum1_begins {v : Value} {o : Obj} {H : Heap → Prop} {Q : Value → Shared → Prop} (B : Begins v o H) (h1 : H s.heap)
    (h : ∀ h', IsEnum h' (s.heap.objs.size + 1) s.heap.objs.size 0 .none → h'.get? s.heap.objs.size = some o →
      (∀ b o, s.heap.get? b = some o → h'.get? b = some o) → Q (.ref (s.heap.objs.size + 1)) { s with heap := h' }) :
    wpAny (model prog w) A (call (.type "enumerate") [v]) Q E s := by
  refine callType_new F.called_enumerate (by decide) (F.typeCall_enumerate_1 _) (F.newCall_enumerate_1 _) (fun obj => F.args_object_init_2 obj _) F.entry_enumerate_new (meets_enum1 B) ⟨h1, ?_⟩
  have hz : (s.heap.push o).objs.size = s.heap.objs.size + 1 := Heap.size_push ..
  show _ ∧ _
  rw [hz]
  have he : IsEnum ((s.heap.push o).push { cls := .type "enumerate", data := .fields #[.none, .bool false, .ref s.heap.objs.size, rawInt 0, .none, .none] }) (s.heap.objs.size + 1) s.heap.objs.size 0 .none := by
    have := Heap.get?_push_size (s.heap.push o) (o := { cls := .type "enumerate", data := .fields #[.none, .bool false, .ref s.heap.objs.size, rawInt 0, .none, .none] }) rfl
    rw [hz] at this; exact this
  exact ⟨⟨_, he, rfl⟩, h _ he (Heap.get?_push_of_some _ (Heap.get?_push_size _ B.free)) fun b o x => Heap.get?_push_of_some _ (Heap.get?_push_of_some _ x)⟩
end
theorem enumT_end {prog : Program} {w : World} {A : Around} {E : Value → Shared → Prop} {s : Shared} {e it a : Addr} {i : Int} {j : Nat} {items : Array Value} {old : Value} {Q : Option Value → Shared → Prop} (hh : A.handled = none)
    (he : IsEnum s.heap e it i old) (hit : s.heap.IsTupleIter it a j) (ht : s.heap.IsTuple a items) (hn : items[j]? = none)
    (hQ : ∀ h', Heap.ExtBut it s.heap h' → Q none { s with heap := h' }) : wpAny (model prog w) A (pyNext (.ref e)) Q E s := by
  have hT : s.TypeIs (.ref e) "enumerate" := ⟨_, he, rfl⟩
  unfold pyNext
  refine wpAny_bind (wpAny_attempt (wpAny_callSpecial?_slot (name := Str.ofString "__next__") hT F.slot_enumerate_next
    (wpAny_call_entry F.slot_enumerate_next hT F.entry_enumerate_next ?_ (F.args_enumerate_next_1 _))))
  show wpAny _ _ (field (.ref e) 2 >>= _) _ _ _
  refine wpAny_bind (wpAny_field he rfl (x := .ref it) rfl ?_)
  refine wpAny_bind (wpAny_nextOf_tuple_end hh hit ht hn fun h' x he' hx' => ?_)
  obtain ⟨o, ho, hc⟩ := hx'
  refine wpAny_bind (wpAny_isInstance (T := "StopIteration") (b := true) ⟨o, ho, hc⟩ isSubtype_stop ?_)
  exact wpAny_pure (hQ _ he')
/-- the tuple at a: each item in a new pair -/
def IteT (K : PySem.W.Frag) (a : Addr) : It :=
  ⟨fun i H => ∃ (xs : List V) (x : V), SqT K H a xs ∧ xs[i]? = some x, fun i H v H' => ∃ T x, v = .ref T ∧ H T = none ∧ H' = upd H T (.tup [.int (i : Nat), x]) ∧ ∀ xs, SqT K H a xs → xs[i]? = some x, fun i H => ∃ xs : List V, SqT K H a xs ∧ xs.length ≤ i⟩
theorem turn_enumT {P : Program} {w : World} {K : PySem.W.Frag} {elts : List Expr} {kk : Nat} {tpos : Pos} (a e it : Addr) (hai : a ≠ it) (hea : e ≠ a) :
    Turn P w K (.Tuple elts kk tpos) (IteT K a) [e, it] e (fun i h => (∃ old, IsEnum h e it ((i : Nat) : Int) old) ∧ h.IsTupleIter it a i ∧ e ≠ it) where
  mem := by simp
  obj := fun i h st b hb => by
    obtain ⟨⟨old, he⟩, ⟨o, ho, hc, hd⟩, _⟩ := st
    have e' : b = e ∨ b = it := by simpa using hb
    rcases e' with z | z
    · rw [z]; exact ⟨_, he, fun v q => nomatch q⟩
    · rw [z]; exact ⟨o, ho, fun v q => by rw [hd] at q; cases q⟩
  keep := fun i h h' st k => let ⟨⟨old, he⟩, hi, hne⟩ := st; ⟨⟨old, k e (by simp) _ he⟩, hi.at fun o q => k it (by simp) o q, hne⟩
  item := by
    intro X hP hw hK hc i pins s σ H E I hf st hg
    subst hP hw hK
    obtain ⟨⟨old, he⟩, hit, hne⟩ := st
    obtain ⟨xs, x, hq, hx⟩ := hg
    obtain ⟨its, rv, p, hz⟩ := I.tuple hq
    obtain ⟨u, hu, ru⟩ := rv.get hx
    have hel : e < s.heap.objs.size := Heap.lt_size he
    have hil : it < s.heap.objs.size := by obtain ⟨_, q, _⟩ := hit; exact Heap.lt_size q
    have D : Draws X.prog X.w X.A.in1 it [it, a] its.toArray.size (fun i v => its.toArray[i]? = some v) (fun i h => h.IsTupleIter it a i ∧ h.IsTuple a its.toArray) := Draws.tuple (A := X.A.in1) (I.ok.hd hc) it a hai its.toArray
    have hlt : i < its.toArray.size := by
      have := (List.getElem?_eq_some_iff.mp hu).1
      simpa using this
    refine wpAny_pyNext_enum_itemD D he ⟨hit, p⟩ hlt hne (by simp [hne, hea]) fun v h' tk hv ho st' hT hsz hk => ?_
    have ev : v = u := by
      have : its.toArray[i]? = some u := by simpa using hu
      rw [this] at hv
      exact (Option.some.inj hv).symm
    subst ev
    refine ⟨_, rfl, wpAny_letOwnedTupleGo_enum (s := { s with heap := h', toks := tk + 1 }) ho fun h'' he' sb => ?_⟩
    have hT2 : h''.get? s.heap.objs.size = some { cls := .type "tuple", data := .seq #[.int i tk, v] } := (sb.2 _ (Nat.ne_of_gt hel)).trans hT
    have new : ObjOk X.prog X.w (upd H s.heap.objs.size (.tup [.int (i : Nat), x])) h'' s.heap.objs.size (.tup [.int (i : Nat), x]) :=
      ⟨by show 2 ≤ sizeLine; decide, [.int i tk, v], .cons ⟨_, rfl⟩ (.cons ru .nil), ⟨_, hT2, rfl, _, rfl⟩⟩
    have I1 : Inv X pins σ (upd H s.heap.objs.size (.tup [.int (i : Nat), x])) { s with heap := h'', toks := tk + 1 } :=
      I.turnedNew (ch := [e, it]) (fun b ob hb q => (sb.2 b (fun z => hb (by simp [z]))).trans (hk b ob (fun z => hb (by simp [z])) (fun z => hb (by simp [z])) q)) hf (Nat.le_refl _) new
    refine ⟨.ref s.heap.objs.size, _, I1, rfl, ⟨_, x, rfl, I.hok.fresh (Nat.le_refl _), rfl, fun ys hy => by rw [I.tuple_inj hy hq]; exact hx⟩, ⟨⟨v, ?_⟩, st'.1.at fun o q => (sb.2 it (Ne.symm hne)).trans q, hne⟩, fun b hb => ?_⟩
    · have e1 : ((i + 1 : Nat) : Int) = (i : Int) + 1 := by omega
      rw [e1]; exact he'
    · have hb' : b < s.heap.objs.size := by
        have e' : b = e ∨ b = it := by simpa using hb
        rcases e' with z | z
        · rw [z]; exact hel
        · rw [z]; exact hil
      rw [upd_ne (Nat.ne_of_lt hb')]
      exact (hf b hb).1
  done := by
    intro X hP hw hK hc i pins s σ H E I hf st hg
    subst hP hw hK
    obtain ⟨⟨old, he⟩, hit, hne⟩ := st
    obtain ⟨xs, hq, hx⟩ := hg
    obtain ⟨its, rv, p, hz⟩ := I.tuple hq
    obtain ⟨f0, f1, f2, f3, f4, f5⟩ := hf it (by simp)
    have hl := rv.length
    refine enumT_end (I.ok.hd hc) he hit p (by simp; omega) fun h' eb => ⟨rfl, I.turned (t' := s.toks) (fun b o hb q => eb b o hb q) f0 f1 f3 f4 f5⟩
  self := fun A i s Q E st h => let ⟨⟨_, he⟩, _⟩ := st; wpAny_pyIter_enum he h
def iEnumT (K : PySem.W.Frag) (ta : TA) : TI := fun σ H R => ta σ H fun vs H1 => ∃ a xs, vs = [.ref a] ∧ SqT K H1 a xs ∧ R (IteT K a) H1
theorem pi_enumT {X : Cx} {e : Expr} {ta : TA} {p pos tpos : Pos} {elts : List Expr} {kk : Nat} (hg : Gl X "enumerate") (hm : X.mg "enumerate" = none) (ha : PA X [e] ta) (hs : starEach [e] X.env = [(false, eval e X.env)] := by rfl) :
    PI X (.Tuple elts kk tpos) (.Call (.Name "enumerate" p) [e] [] pos) (iEnumT X.K ta) := by
  refine ⟨fun pins s σ H R I h => ?_⟩
  refine Call_ (ld_blt I hg hm boot_enumerate (PyProof.Rows.callWith_type1 (thn (ha.run pos pins s σ H _ I h) fun us s1 ⟨vs, H1, I1, r1, q1⟩ => ?_) hs rfl))
  obtain ⟨a, xs, ex, hq, q⟩ := q1
  subst ex
  cases r1 with
  | cons r rr =>
    cases rr
    cases r
    obtain ⟨its, rv, p', hz⟩ := I1.tuple hq
    have hal : a < s1.heap.objs.size := by obtain ⟨_, q, _⟩ := p'; exact Heap.lt_size q
    refine enum1_begins (begins_tuple a its.toArray) p' fun h' he hit hk => wpAny_pyIter_enum he ?_
    have I2 : Inv X pins σ H1 { s1 with heap := h' } := I1.kept (t' := s1.toks) hk
    refine ⟨s1.heap.objs.size + 1, [s1.heap.objs.size + 1, s1.heap.objs.size], _, _, H1, rfl, I2, turn_enumT a (s1.heap.objs.size + 1) s1.heap.objs.size (Nat.ne_of_lt hal) (fun z => Nat.lt_irrefl _ (Nat.lt_trans (Nat.lt_succ_self _) (z ▸ hal))), ⟨⟨.none, he⟩, ⟨_, hit, rfl, rfl⟩, Nat.succ_ne_self _⟩, fun b hb => ?_, q⟩
    have e' : b = s1.heap.objs.size + 1 ∨ b = s1.heap.objs.size := by simpa using hb
    have hle : s1.heap.objs.size ≤ b := by
      rcases e' with z | z
      · rw [z]; exact Nat.le_add_right _ _
      · rw [z]; exact Nat.le_refl _
    exact I1.fpOk hle (I1.hok.fresh hle)
end DL

namespace DL
open PySem PySem.Spec PyProof.Rows L2
/-! ### zip of a tuple and a list -/
def ItzM (K : PySem.W.Frag) (a b : Addr) (n1 n2 : Nat) : It :=
  ⟨fun i H => ∃ (xs ys : List V) (x y : V), SqT K H a xs ∧ SqL K H b ys ∧ xs.length = n1 ∧ ys.length = n2 ∧ xs[i]? = some x ∧ ys[i]? = some y,
    fun i H v H' => ∃ T x y, v = .ref T ∧ H T = none ∧ H' = upd H T (.tup [x, y]) ∧ (∀ xs, SqT K H a xs → xs[i]? = some x) ∧ ∀ ys, SqL K H b ys → ys[i]? = some y,
    fun i H => ∃ xs ys : List V, SqT K H a xs ∧ SqL K H b ys ∧ xs.length = n1 ∧ ys.length = n2 ∧ (n1 ≤ i ∨ n2 ≤ i)⟩
theorem turn_zipM {P : Program} {w : World} {K : PySem.W.Frag} {elts : List Expr} {kk : Nat} {tpos : Pos} {a b z TI TO i1 i2 : Addr} {n1 n2 : Nat} (D : ZipSep2 z TI TO i1 i2 [i1, a] [i2, b]) :
    Turn P w K (.Tuple elts kk tpos) (ItzM K a b n1 n2) [z, TI, TO, i1, i2] z (fun i h => IsZip h z TI TO .none ∧ IsTupOf2 h TI (.ref i1) (.ref i2) ∧ (∃ x y, IsTupOf2 h TO x y) ∧ h.IsTupleIter i1 a i ∧ h.IsListIter i2 b i ∧ i ≤ n1 ∧ i ≤ n2) where
  mem := by simp
  obj := fun i h st c hc => by
    obtain ⟨hz, hTI, ⟨x, y, hTO⟩, ⟨o1, e1, _, d1⟩, ⟨o2, e2, _, d2⟩, _⟩ := st
    have e' : c = z ∨ c = TI ∨ c = TO ∨ c = i1 ∨ c = i2 := by simpa using hc
    rcases e' with q | q | q | q | q
    · rw [q]; exact ⟨_, hz, fun v q => nomatch q⟩
    · rw [q]; exact ⟨_, hTI, fun v q => nomatch q⟩
    · rw [q]; exact ⟨_, hTO, fun v q => nomatch q⟩
    · rw [q]; exact ⟨o1, e1, fun v q => by rw [d1] at q; cases q⟩
    · rw [q]; exact ⟨o2, e2, fun v q => by rw [d2] at q; cases q⟩
  keep := fun i h h' st k => by
    obtain ⟨hz, hTI, ⟨x, y, hTO⟩, h1, h2, h3⟩ := st
    exact ⟨k z (by simp) _ hz, k TI (by simp) _ hTI, ⟨x, y, k TO (by simp) _ hTO⟩, h1.at fun o q => k i1 (by simp) o q, h2.at fun o q => k i2 (by simp) o q, h3⟩
  item := by
    intro X hP hw hK hc i pins s σ H E I hf st hg
    subst hP hw hK
    obtain ⟨hz, hTI, ⟨x0, y0, hTO⟩, h1, h2, hi1, hi2⟩ := st
    obtain ⟨xs, ys, x, y, hqx, hqy, ln1, ln2, hx, hy⟩ := hg
    obtain ⟨its, rv, p, _⟩ := I.tuple hqx
    obtain ⟨its2, rv2, p2, _⟩ := I.list hqy
    obtain ⟨u, hu, ru⟩ := rv.get hx
    obtain ⟨u2, hu2, ru2⟩ := rv2.get hy
    have hzl : z < s.heap.objs.size := Heap.lt_size hz
    have nai : a ≠ i1 := fun e => by
      obtain ⟨_, ht, hc', _⟩ := p
      obtain ⟨_, ht2, hc2, _⟩ := h1
      rw [e, ht2] at ht
      cases ht
      rw [hc2] at hc'
      injection hc' with e3
      exact absurd e3 (by decide)
    have nbi : b ≠ i2 := fun e => by
      obtain ⟨_, ht, hc', _⟩ := p2.isList
      obtain ⟨_, ht2, hc2, _⟩ := h2
      rw [e, ht2] at ht
      cases ht
      rw [hc2] at hc'
      injection hc' with e3
      exact absurd e3 (by decide)
    have D1 : Draws X.prog X.w X.A.in1 i1 [i1, a] its.toArray.size (fun i v => its.toArray[i]? = some v) (fun i h => h.IsTupleIter i1 a i ∧ h.IsTuple a its.toArray) := Draws.tuple (A := X.A.in1) (I.ok.hd hc) i1 a nai its.toArray
    have D2 : Draws X.prog X.w X.A.in1 i2 [i2, b] its2.toArray.size (fun i v => its2.toArray[i]? = some v) (fun i h => h.IsListIter i2 b i ∧ h.IsList b its2.toArray) := Draws.list (A := X.A.in1) (I.ok.hd hc) i2 b nbi its2.toArray
    have q1 : i < its.toArray.size := by simpa using (List.getElem?_eq_some_iff.mp hu).1
    have q2 : i < its2.toArray.size := by simpa using (List.getElem?_eq_some_iff.mp hu2).1
    refine wpAny_pyNext_zipD2_item D D1 D2 hz hTI hTO ⟨h1, p⟩ ⟨h2, p2.isList⟩ q1 q2 fun v v2 h' tk hv hv2 z' TO' st1' st2' hT hsz hk => ?_
    have ev : v = u := by
      have : its.toArray[i]? = some u := by simpa using hu
      rw [this] at hv; exact (Option.some.inj hv).symm
    have ev2 : v2 = u2 := by
      have : its2.toArray[i]? = some u2 := by simpa using hu2
      rw [this] at hv2; exact (Option.some.inj hv2).symm
    subst ev ev2
    refine ⟨_, rfl, wpAny_letOwnedTupleGo_zip (s := { s with heap := h', toks := tk }) z' fun h'' z'' sb => ?_⟩
    have hT2 : h''.get? s.heap.objs.size = some { cls := .type "tuple", data := .seq #[v, v2] } := (sb.2 _ (Nat.ne_of_gt hzl)).trans hT
    have new : ObjOk X.prog X.w (upd H s.heap.objs.size (.tup [x, y])) h'' s.heap.objs.size (.tup [x, y]) :=
      ⟨by show 2 ≤ sizeLine; decide, [v, v2], .cons ru (.cons ru2 .nil), ⟨_, hT2, rfl, _, rfl⟩⟩
    have I1 : Inv X pins σ (upd H s.heap.objs.size (.tup [x, y])) { s with heap := h'', toks := tk } :=
      I.turnedNew (ch := [z, TI, TO, i1, i2]) (fun c o hb q => (sb.2 c (fun q' => hb (by simp [q']))).trans (hk c o (fun q' => hb (by simp [q'])) (fun q' => hb (by simp [q'])) (fun q' => hb (by simp [q'])) (fun q' => hb (by simp [q'])) q)) hf (Nat.le_refl _) new
    have i1z : i1 ≠ z := fun e => D.zf1 (by rw [← e]; simp)
    have i2z : i2 ≠ z := fun e => D.zf2 (by rw [← e]; simp)
    have TIi1 := D.TIi1
    have TIi2 := D.TIi2
    refine ⟨.ref s.heap.objs.size, _, I1, rfl, ⟨_, x, y, rfl, I.hok.fresh (Nat.le_refl _), rfl, fun l hl => by rw [I.tuple_inj hl hqx]; exact hx, fun l hl => by rw [I.list_inj hl hqy]; exact hy⟩, ⟨z'', ?_, ⟨v, v2, ?_⟩, ?_, ?_, ?_, ?_⟩, fun c hcm => ?_⟩
    · exact (sb.2 _ D.TIz).trans (hk _ _ D.TIz D.TITO D.TIi1 D.TIi2 hTI)
    · exact (sb.2 _ D.TOz).trans TO'
    · exact st1'.1.at fun o q => (sb.2 _ i1z).trans q
    · exact st2'.1.at fun o q => (sb.2 _ i2z).trans q
    · have := (List.getElem?_eq_some_iff.mp hx).1; omega
    · have := (List.getElem?_eq_some_iff.mp hy).1; omega
    · have hlt : c < s.heap.objs.size := by
        have e' : c = z ∨ c = TI ∨ c = TO ∨ c = i1 ∨ c = i2 := by simpa using hcm
        rcases e' with q | q | q | q | q
        · rw [q]; exact hzl
        · rw [q]; exact Heap.lt_size hTI
        · rw [q]; exact Heap.lt_size hTO
        · rw [q]; obtain ⟨_, e1, _⟩ := h1; exact Heap.lt_size e1
        · rw [q]; obtain ⟨_, e2, _⟩ := h2; exact Heap.lt_size e2
      rw [upd_ne (Nat.ne_of_lt hlt)]
      exact (hf c hcm).1
  done := by
    intro X hP hw hK hc i pins s σ H E I hf st hg
    subst hP hw hK
    obtain ⟨hz, hTI, ⟨x0, y0, hTO⟩, h1, h2, hi1, hi2⟩ := st
    obtain ⟨xs, ys, hqx, hqy, ln1, ln2, hend⟩ := hg
    obtain ⟨its, rv, p, _⟩ := I.tuple hqx
    obtain ⟨its2, rv2, p2, _⟩ := I.list hqy
    have l1 := rv.length
    have l2 := rv2.length
    have nai : a ≠ i1 := fun e => by
      obtain ⟨_, ht, hc', _⟩ := p
      obtain ⟨_, ht2, hc2, _⟩ := h1
      rw [e, ht2] at ht
      cases ht
      rw [hc2] at hc'
      injection hc' with e3
      exact absurd e3 (by decide)
    have nbi : b ≠ i2 := fun e => by
      obtain ⟨_, ht, hc', _⟩ := p2.isList
      obtain ⟨_, ht2, hc2, _⟩ := h2
      rw [e, ht2] at ht
      cases ht
      rw [hc2] at hc'
      injection hc' with e3
      exact absurd e3 (by decide)
    have D1 : Draws X.prog X.w X.A.in1 i1 [i1, a] its.toArray.size (fun i v => its.toArray[i]? = some v) (fun i h => h.IsTupleIter i1 a i ∧ h.IsTuple a its.toArray) := Draws.tuple (A := X.A.in1) (I.ok.hd hc) i1 a nai its.toArray
    have D2 : Draws X.prog X.w X.A.in1 i2 [i2, b] its2.toArray.size (fun i v => its2.toArray[i]? = some v) (fun i h => h.IsListIter i2 b i ∧ h.IsList b its2.toArray) := Draws.list (A := X.A.in1) (I.ok.hd hc) i2 b nbi its2.toArray
    refine wpAny_pyNext_zipD2_end (i := i) D D1 D2 hz hTI hTO ⟨h1, p⟩ ⟨h2, p2.isList⟩ (by simp; omega) (by simp; omega) (by simp; omega) fun h' tk hk => ⟨rfl, I.turnedL (ch := [z, TI, TO, i1, i2]) (fun c o hb q =>
      hk c o (fun q' => hb (by simp [q'])) (fun q' => hb (by simp [q'])) (fun q' => hb (by simp [q'])) (fun q' => hb (by simp [q'])) q) hf⟩
  self := fun A i s Q E st h => wpAny_pyIter_zip st.1 h
theorem zip_sep (I a b : Nat) (h1 : a < I) (h2 : b < I) : ZipSep2 (I + 4) (I + 2) (I + 3) I (I + 1) [I, a] [I + 1, b] := by
  constructor
  all_goals first
    | (intro e; have e2 : (_ : Nat) = _ := e; omega)
    | (intro e; rcases List.mem_cons.mp e with e | e <;> first | (have e2 : (_ : Nat) = _ := e; omega) | (have e2 : (_ : Nat) = _ := List.mem_singleton.mp e; omega))
    | simp
def iZipM (K : PySem.W.Frag) (ta : TA) : TI := fun σ H R => ta σ H fun vs H1 => ∃ a b xs ys, vs = [.ref a, .ref b] ∧ SqT K H1 a xs ∧ SqL K H1 b ys ∧ R (ItzM K a b xs.length ys.length) H1
theorem pi_zipM {X : Cx} {e e2 : Expr} {ta : TA} {p pos tpos : Pos} {elts : List Expr} {kk : Nat} (hg : Gl X "zip") (hm : X.mg "zip" = none) (ha : PA X [e, e2] ta)
    (hs : starEach [e, e2] X.env = (false, eval e X.env) :: starEach [e2] X.env := by rfl) (hpl : (backTo pos (starEach [e2] X.env)).any (·.1) = false := by rfl) :
    PI X (.Tuple elts kk tpos) (.Call (.Name "zip" p) [e, e2] [] pos) (iZipM X.K ta) := by
  refine ⟨fun pins s σ H R I h => ?_⟩
  refine Call_ (ld_blt I hg hm PyProof.Rows.boot_zip (PyProof.Rows.callWith_type1 (thn (ha.run pos pins s σ H _ I h) fun us s1 ⟨vs, H1, I1, r1, q1⟩ => ?_) hs hpl))
  obtain ⟨a, b, xs, ys, ex, hqx, hqy, q⟩ := q1
  subst ex
  cases r1 with
  | cons r rr =>
    cases rr with
    | cons r' rr =>
      cases rr
      cases r
      cases r'
      have fresh5 : ∀ c, c ∈ [s1.heap.objs.size + 4, s1.heap.objs.size + 2, s1.heap.objs.size + 3, s1.heap.objs.size, s1.heap.objs.size + 1] → FpOk X pins H1 c := fun c hcm => by
        have e' : c = s1.heap.objs.size + 4 ∨ c = s1.heap.objs.size + 2 ∨ c = s1.heap.objs.size + 3 ∨ c = s1.heap.objs.size ∨ c = s1.heap.objs.size + 1 := by simpa using hcm
        have hle : s1.heap.objs.size ≤ c := by
          rcases e' with z | z | z | z | z
          · rw [z]; exact Nat.le_add_right _ _
          · rw [z]; exact Nat.le_add_right _ _
          · rw [z]; exact Nat.le_add_right _ _
          · rw [z]; exact Nat.le_refl _
          · rw [z]; exact Nat.le_add_right _ _
        exact I1.fpOk hle (I1.hok.fresh hle)
      obtain ⟨its, rv, p1, _⟩ := I1.tuple hqx
      obtain ⟨its2, rv2, p2, _⟩ := I1.list hqy
      obtain ⟨o1, ho1, _⟩ := id p1
      have la : a < s1.heap.objs.size := Heap.lt_size ho1
      have lb : b < s1.heap.objs.size := p2.lt
      refine zip_begins2 (begins_tuple a its.toArray) (begins_list b its2.toArray) p1 p2.isList fun h' hz hTI hTO h1 h2 hsz hk => wpAny_pyIter_zip hz ?_
      have I2 : Inv X pins σ H1 { s1 with heap := h' } := I1.kept (t' := s1.toks) hk
      have sep := zip_sep s1.heap.objs.size a b la lb
      exact ⟨s1.heap.objs.size + 4, [s1.heap.objs.size + 4, s1.heap.objs.size + 2, s1.heap.objs.size + 3, s1.heap.objs.size, s1.heap.objs.size + 1], _, _, H1, rfl, I2, turn_zipM sep, ⟨hz, hTI, ⟨_, _, hTO⟩, ⟨_, h1, rfl, rfl⟩, ⟨_, h2, rfl, rfl⟩, Nat.zero_le _, Nat.zero_le _⟩, fresh5, q⟩
end DL

namespace DL
open PySem PySem.Spec PyProof.Rows L2
section
variable {p : Pm} {B : Bs p} {X : Cx} {a b c e o : Expr} {es : List Expr} {ta tb tc : TE'} {t : TA'} {pos apos cpos : Pos}
/-- the lifted reading of a comprehension, whatever holds behind it -/
theorem lift_lc {fresh : Bool} {ti : TI'} {g : TG} {g' : TG'} {tt : TT'} {te : TE'} {vs : List Nat} (mg : MonoG g) (lg : TgOk p vs g g') {σ H Q} (h : liftE p B (tLc' fresh ti g' tt te vs) σ H Q) : tLc (liftI p B ti) g (liftT0 p tt) (liftE0 p te) vs σ H Q := by
  obtain ⟨σ', G, Q', at_, q, k⟩ := h
  refine ⟨σ', G, _, at_, q, fun xs G1 J H1 n1 it q1 => fun D hD => ?_⟩
  obtain ⟨hlen, F, turn, fin⟩ := q1
  have hGD : G1 D = none := n1.rep.free hD
  have n0 := rep_newM (ds := []) (vs := []) n1.rep hD (by exact rfl)
  refine ⟨fun i m H2 => m = xs.length - i ∧ i ≤ xs.length ∧ Nxt p G1 H1 (gup G1 D (.lst ((xs.take i).filterMap F))) H2, ⟨xs.length, by simp, Nat.zero_le _, n0⟩, ?_⟩
  rintro i m H2 ⟨rfl, hi, n2⟩
  obtain ⟨go, stop⟩ := it _ H2 n2 i
  by_cases hlt : i < xs.length
  · have hx : xs[i]? = some xs[i] := by simp [hlt]
    obtain ⟨hgo, hy⟩ := go _ hx
    refine .inr ⟨hgo, fun H3 => i + 1 ≤ xs.length ∧ Nxt p G1 H1 (gup G1 D (.lst ((xs.take (i + 1)).filterMap F))) H3, fun H3 ⟨h1, h2⟩ => ⟨xs.length - (i + 1), by omega, rfl, h1, h2⟩, fun v H3 yl => ?_⟩
    obtain ⟨n3, r3⟩ := hy v H3 yl
    have n23 := n2.trans n3
    have T := turn xs[i] (List.getElem_mem hlt) (gup G1 D (.lst ((xs.take i).filterMap F))) fun a g e => by
      have : a ≠ D := fun z => by rw [z, hGD] at e; cases e
      rw [gup_ne this]; exact e
    have aW : At p (Bs.from p G1 H1) (wipe' σ' vs) (gup G1 D (.lst ((xs.take i).filterMap F))) (wipe σ vs) H3 := ⟨(at_.s.step (n1.trans n23).st).wipe _, n23.rep, n23.st⟩
    refine mg _ _ _ _ _ (fun σ2 H4 h4 => ?_) (lg (Bs.from p G1 H1) xs[i] v _ _ _ H3 _ r3 aW T)
    obtain ⟨rfl, hw, σ2', a2, q2⟩ := h4
    refine ⟨hw.trans (wipe_idem σ _ _ fun _ h => h), Bs.from p G1 H1, σ2', _, _, a2, q2, fun b G5 H5 n5 q5 => ?_⟩
    cases hb : b with
    | true =>
      rw [hb, if_pos rfl] at q5
      rw [if_pos rfl]
      refine ⟨Bs.from p G1 H1, σ2', G5, _, a2.nxt n5, q5, fun y G6 w H6 n6 r6 q6 => ?_⟩
      obtain ⟨rfl, hF⟩ := q6
      obtain ⟨acc, hacc, racc⟩ := n6.rep.obj D _ gup_same
      refine ⟨acc, hacc, ?_, hlt, ?_⟩
      · rw [← racc.length]
        have h1 : ((xs.take i).filterMap F).length ≤ (xs.take i).length := List.length_filterMap_le _ _
        rw [List.length_take] at h1
        omega
      · have M := nxt_setL n6.rep gup_same hacc (racc.append (RepL.cons (ds := []) (vs := []) r6 (by exact rfl)))
        rw [gup_gup] at M
        rw [take_succ_filter hx, hF]
        exact ((n23.trans n5).trans n6).trans M
    | false =>
      rw [hb, if_neg Bool.false_ne_true] at q5
      rw [if_neg Bool.false_ne_true]
      obtain ⟨rfl, hF⟩ := q5
      refine ⟨hlt, ?_⟩
      rw [take_succ_filter hx, hF, List.append_nil]
      exact n23.trans n5
  · have e : i = xs.length := by omega
    subst e
    rw [List.take_length] at n2
    refine .inl ⟨stop (Nat.le_refl _), ?_⟩
    cases fresh with
    | true => exact k _ _ _ _ (n1.trans n2) (by exact rfl) (fin D hGD)
    | false =>
      have Z := nxt_freeze n2.rep hGD
      exact k _ _ _ _ ((n1.trans n2).trans Z.1) Z.2 fin
/-- name = [..] on one line -/
theorem ds_setLc (fresh : Bool) (i : Nat) {y : Str} {py : Pos} {elt tg iter : Expr} {ifs : List Expr} {scope : Scope} {own : List (Str × Nat)} {spos : Pos} {ti : TI'} {g : TG} {g' : TG'} {tt : TT'} {te : TE'} (hc : X.calm = true) (hN : X.N.Nodup)
    (hi : DI p B X tg iter ti) (ok : BlkOk X.N X.env.scope scope own)
    (hg : ∀ (s : Shared) (H : Hp) (C : Addr) (cl : List (Str × Addr)) (fp : List Addr), PG (X.blk s H scope (compEnvC scope cl C X.env) fp) tg g) (mg : MonoG g) (lg : TgOk p (own.map (·.2)) g g')
    (ht : ∀ (s : Shared) (H : Hp) (C : Addr) (cl : List (Str × Addr)) (fp : List Addr), PTs (X.blk s H scope (compEnvC scope cl C X.env) fp) ifs (liftT0 p tt))
    (he : ∀ (s : Shared) (H : Hp) (C : Addr) (cl : List (Str × Addr)) (fp : List Addr), PE (X.blk s H scope (compEnvC scope cl C X.env) fp) elt (liftE0 p te))
    (hy : X.N[i]? = some y := by rfl) (hyl : X.env.scope.names.lookup y = some .local := by rfl)
    (hsw : swapsWith (.ListComp elt [⟨tg, iter, ifs, 0⟩] scope pos) (some (.Name y py)) spos.line X.env = pure true := by exact sw_true rfl rfl rfl (by decide +kernel)) (hs : ∀ x, foldedSetIterable iter X.env x = pure x := by intro _; rfl) :
    DS p B X (.Assign [.Name y py] (.ListComp elt [⟨tg, iter, ifs, 0⟩] scope pos) spos) (tAsg' (tLc' fresh ti g' tt te (own.map (·.2))) (gName' i)) :=
  PS.weak (ps_setLc hc hN hy hyl hsw hi ok hg ht he hs) fun D σ H ⟨σ', G, D', at_, q, k⟩ =>
    lift_lc mg lg ⟨σ', G, _, at_, q, fun d G1 v H1 n1 r1 q1 => k.nx _ _ _ _ ((at_.nxt n1).set i r1) q1⟩
/-- x, y, z = a, b, c -/
@[simp] def tPar3' (i j l : Nat) (t : TA') : TS' := fun D σ G => t σ G fun vs G1 => ∃ u v w, vs = [u, v, w] ∧ D.nx (((σ.set i (some u)).set j (some v)).set l (some w)) G1
theorem rl3 {G : GH} {H : Hp} {d d2 d3 : D} {vs : List V} (r : RepL p G H [d, d2, d3] vs) : ∃ v w u, vs = [v, w, u] ∧ Rep p G H d v ∧ Rep p G H d2 w ∧ Rep p G H d3 u := by
  obtain ⟨v, vr, e, q, t⟩ := r
  obtain ⟨w, u, e2, q2, q3⟩ := rl2 t
  exact ⟨v, w, u, by rw [e, e2], q, q2, q3⟩
theorem ds_par3 (i j l : Nat) {x y z : Str} {a b c : Expr} {t : TA'} {px py pz pt : Pos} {kt k2 pt2} (hc : X.calm = true) (hN : X.N.Nodup) (ha : DA p B X [a, b, c] t) (hi : X.N[i]? = some x := by rfl) (hj : X.N[j]? = some y := by rfl) (hl : X.N[l]? = some z := by rfl) (hij : i ≠ j := by decide) (hil : i ≠ l := by decide) (hjl : j ≠ l := by decide)
    (hx : X.env.scope.names.lookup x = some .local := by rfl) (hy : X.env.scope.names.lookup y = some .local := by rfl) (hz : X.env.scope.names.lookup z = some .local := by rfl)
    (hw : swappedStores [.Tuple [.Name x px, .Name y py, .Name z pz] kt pt] (.Tuple [a, b, c] k2 pt2) X.env = pure (some [x, y, z]) := by rfl)
    (hs : swapsWithSole [.Tuple [.Name x px, .Name y py, .Name z pz] kt pt] (.Tuple [a, b, c] k2 pt2) pos.line X.env = pure false := by rfl) :
    DS p B X (.Assign [.Tuple [.Name x px, .Name y py, .Name z pz] kt pt] (.Tuple [a, b, c] k2 pt2) pos) (tPar3' i j l t) := PS.weak (ps_par3 hc hN hi hj hl hij hil hjl hx hy hz ha hw hs) fun D σ H ⟨σ', G, D', at_, q, k⟩ =>
  ⟨σ', G, _, at_, q, fun ds G1 vs H1 n1 r1 q1 => by
    obtain ⟨d, d2, d3, rfl, q1⟩ := q1
    obtain ⟨v, w, u, rfl, r, r2, r3⟩ := rl3 r1
    exact ⟨v, w, u, rfl, k.nx _ _ _ _ ((((at_.nxt n1).set i r).set j r2).set l r3) q1⟩⟩
end
@[simp] theorem rI_int {C : Int → Int → Prop} {g : Int → Int → D} {i j : Int} {G : GH} {Q : QE} : rI' C g (.int i) (.int j) G Q = (C i j ∧ Q (g i j) G) := by
  simp [rI']
@[simp] theorem gNil_nil {σ : St'} {G : GH} {Q : St' → GH → Prop} : gNil' [] σ G Q = Q σ G := by simp [gNil']
@[simp] theorem gCons_cons {t : TG'} {u : TGs'} {x : D} {xs : List D} {σ : St'} {G : GH} {Q : St' → GH → Prop} : gCons' t u (x :: xs) σ G Q = t x σ G fun σ' G' => u xs σ' G' Q := by simp [gCons', and_assoc]
@[simp] theorem gTup_tup {n : Nat} {t : TGs'} {xs : List D} {σ : St'} {G : GH} {Q : St' → GH → Prop} : gTup' n t (.tup xs) σ G Q = (xs.length = n ∧ t xs σ G Q) := by simp [gTup']
/-! ### the law's own promise, the end -/
def spLaw : Sp' := fun ds G Q _ => ds = [.scr] ∧ (∀ a, G a = none) ∧ ∀ G', Q (.bl true) G'
/-- the law's parameters at the script -/
def pmOf (K : PySem.W.Frag) (T : List (Addr × Str)) (ca : Str → Addr) (xa : Ex → Addr) (a : Addr) (ns : List Int) (hl : ns.length ≤ 63) : Pm := ⟨K, a, ns, T, ca, xa, hl⟩
def spTop (K : PySem.W.Frag) (T : List (Addr × Str)) (ca : Str → Addr) (xa : Ex → Addr) : Sp := fun vs H Q E => ∃ a ns, ∃ hl : ns.length ≤ 63, liftSp (pmOf K T ca xa a ns hl) 1 spLaw vs H Q E
theorem top_ok {P : Program} {w : World} {K : PySem.W.Frag} {mg : Str → Option Value} {base : Heap} {k : Nat} {f : Addr} {fd : FuncData} {x : Str} {T : List (Addr × Str)} {ca : Str → Addr} {xa : Ex → Addr}
    (F : ∀ a ns (hl : ns.length ≤ 63), FnOk P w K mg base (L2N.CX P w) k f fd [x] (liftSp (pmOf K T ca xa a ns hl) 1 spLaw)) : FnOk P w K mg base (L2N.CX P w) k f fd [x] (spTop K T ca xa) where
  len := fun vs H Q E h => by
    obtain ⟨a, ns, hl, h⟩ := h
    exact (F a ns hl).len vs H Q E h
  run := fun A outer s H args us vs Q E hr he hb hv h => by
    obtain ⟨a, ns, hl, h⟩ := h
    exact (F a ns hl).run A outer s H args us vs Q E hr he hb hv h
theorem top_start {K : PySem.W.Frag} {ca : Str → Addr} {xa : Ex → Addr} {H : Hp} {a : Addr} {ns : List Int} {T : List (Addr × Str)} (hl : ns.length ≤ 63) (hO : ScrOk (pmOf K T ca xa a ns hl) (fun _ => none) H) (hT : LamX.Tabs T H) :
    spTop K T ca xa [.ref a] H (fun v _ => v = .bl true) fun _ _ _ => False :=
  by
  have rh : RepH (pmOf K T ca xa a ns hl) (fun _ => none) H := ⟨fun _ _ e => (by cases e), hO, hT⟩
  have rl : RepL (pmOf K T ca xa a ns hl) (fun _ => none) H [.scr] [.ref a] := ⟨V.ref a, [], rfl, rfl, rfl⟩
  refine ⟨a, ns, hl, [.scr], fun _ => none, fun d _ => d = .bl true, fun _ _ => False, rfl, rl, rh, ⟨rfl, fun _ => rfl, fun _ => rfl⟩, fun d G' v H' _ r e => ?_, fun x G' H' _ z => z⟩
  subst e
  exact r
end DL

namespace DL
open PySem PySem.Spec PyProof.Rows L2
section
variable {p : Pm} {B : Bs p} {X : Cx} {a b c e o : Expr} {ta tb tc : TE'} {pos : Pos}
/-! ### enumerate -/
def enumD (xs : List D) : List D := xs.mapIdx fun i d => .tup [.int i, d]
theorem enum_get {xs : List D} {i : Nat} {d : D} (h : (enumD xs)[i]? = some d) : ∃ x, xs[i]? = some x ∧ d = .tup [.int i, x] := by
  unfold enumD at h
  rw [List.getElem?_mapIdx] at h
  cases e : xs[i]? with
  | none => rw [e] at h; cases h
  | some x => rw [e] at h; exact ⟨x, rfl, (Option.some.inj h).symm⟩
theorem it_enumT {K : PySem.W.Frag} {G : GH} {H : Hp} {xs : List D} {vs : List V} {a : Addr} (ha : Rd H a (.tup vs)) (r : RepL p G H xs vs) : ItOk p (IteT K a) (enumD xs) G H := by
  intro G2 H2 n i
  obtain ⟨_, vs1, e, ha1, ra⟩ : Rep p G2 H2 (.tup xs) (.ref a) := n.st (.tup xs) (.ref a) ⟨a, vs, rfl, ha, r⟩
  cases e
  refine ⟨fun d hd => ?_, fun hl => ⟨vs1, sqT_of ha1, ?_⟩⟩
  · obtain ⟨x, hx, rfl⟩ := enum_get hd
    obtain ⟨v, hv, rv⟩ := ra.get hx
    refine ⟨⟨vs1, v, sqT_of ha1, hv⟩, fun v' H3 yl => ?_⟩
    obtain ⟨T, v1, rfl, hn, rfl, y1⟩ := yl
    have e1 := y1 _ (sqT_of ha1)
    rw [hv] at e1; cases e1
    exact rep_two n.rep hn (by exact rfl) rv
  · unfold enumD at hl
    rw [List.length_mapIdx] at hl
    rw [← ra.length]; exact hl
theorem it_enumL {K : PySem.W.Frag} {G : GH} {H : Hp} {xs : List D} {vs : List V} {a : Addr} (ha : H a = some (.lst vs)) (ga : G a = none) (r : RepL p G H xs vs) : ItOk p (Ite K a) (enumD xs) G H := by
  intro G2 H2 n i
  obtain ⟨_, vs1, e, ha1, _, ra⟩ : Rep p G2 H2 (.lst xs) (.ref a) := n.st (.lst xs) (.ref a) ⟨a, vs, rfl, ha, ga, r⟩
  cases e
  refine ⟨fun d hd => ?_, fun hl => ⟨vs1, SqL.of ha1, ?_⟩⟩
  · obtain ⟨x, hx, rfl⟩ := enum_get hd
    obtain ⟨v, hv, rv⟩ := ra.get hx
    refine ⟨⟨vs1, v, SqL.of ha1, hv⟩, fun v' H3 yl => ?_⟩
    obtain ⟨T, v1, rfl, hn, rfl, y1⟩ := yl
    have e1 := y1 _ (SqL.of ha1)
    rw [hv] at e1; cases e1
    exact rep_two n.rep hn (by exact rfl) rv
  · unfold enumD at hl
    rw [List.length_mapIdx] at hl
    rw [← ra.length]; exact hl
@[simp] def iEnum' (t : TA') : TI' := fun σ G R => t σ G fun xs G1 => ∃ x, (xs = [.tup x] ∨ xs = [.lst x]) ∧ R (enumD x) G1
theorem PI.or2 {X : Cx} {tg e : Expr} {t1 t2 : TI} (h1 : PI X tg e t1) (h2 : PI X tg e t2) : PI X tg e (fun σ H R => t1 σ H R ∨ t2 σ H R) := PI.or h1 h2
/-- enumerate of a tuple or a list: which of both is seen as the walk comes there -/
def iEnumA (K : PySem.W.Frag) (ta : TA) : TI := fun σ H R => ta σ H fun vs H1 => ∃ a xs, vs = [.ref a] ∧ ((SqL K H1 a xs ∧ R (Ite K a) H1) ∨ (SqT K H1 a xs ∧ R (IteT K a) H1))
theorem pi_enumA {X : Cx} {e : Expr} {ta : TA} {p pos tpos : Pos} {elts : List Expr} {kk : Nat} (hg : Gl X "enumerate") (hm : X.mg "enumerate" = none) (ha : PA X [e] ta) (hs : starEach [e] X.env = [(false, eval e X.env)] := by rfl) :
    PI X (.Tuple elts kk tpos) (.Call (.Name "enumerate" p) [e] [] pos) (iEnumA X.K ta) := by
  refine ⟨fun pins s σ H R I h => ?_⟩
  refine Call_ (ld_blt I hg hm boot_enumerate (PyProof.Rows.callWith_type1 (thn (ha.run pos pins s σ H _ I h) fun us s1 ⟨vs, H1, I1, r1, q1⟩ => ?_) hs rfl))
  obtain ⟨a, xs, ex, q1⟩ := q1
  subst ex
  cases r1 with
  | cons r rr =>
    cases rr
    cases r
    have fr : ∀ b, b ∈ [s1.heap.objs.size + 1, s1.heap.objs.size] → FpOk X pins H1 b := fun b hb => by
      have e' : b = s1.heap.objs.size + 1 ∨ b = s1.heap.objs.size := by simpa using hb
      have hle : s1.heap.objs.size ≤ b := by
        rcases e' with z | z
        · rw [z]; exact Nat.le_add_right _ _
        · rw [z]; exact Nat.le_refl _
      exact I1.fpOk hle (I1.hok.fresh hle)
    rcases q1 with ⟨hq, q⟩ | ⟨hq, q⟩
    · obtain ⟨its, rv, p', hz⟩ := I1.list hq
      refine call_enumerate_list p'.isList fun h' he hit hsz hk => wpAny_pyIter_enum he ?_
      exact ⟨s1.heap.objs.size + 1, [s1.heap.objs.size + 1, s1.heap.objs.size], _, _, H1, rfl, I1.kept (t' := s1.toks) hk, turn_enum a (s1.heap.objs.size + 1) s1.heap.objs.size, ⟨⟨.none, he⟩, hit, Nat.succ_ne_self _⟩, fr, q⟩
    · obtain ⟨its, rv, p', hz⟩ := I1.tuple hq
      have hal : a < s1.heap.objs.size := by obtain ⟨_, q, _⟩ := p'; exact Heap.lt_size q
      refine enum1_begins (begins_tuple a its.toArray) p' fun h' he hit hk => wpAny_pyIter_enum he ?_
      exact ⟨s1.heap.objs.size + 1, [s1.heap.objs.size + 1, s1.heap.objs.size], _, _, H1, rfl, I1.kept (t' := s1.toks) hk, turn_enumT a (s1.heap.objs.size + 1) s1.heap.objs.size (Nat.ne_of_lt hal) (fun z => Nat.lt_irrefl _ (Nat.lt_trans (Nat.lt_succ_self _) (z ▸ hal))), ⟨⟨.none, he⟩, ⟨_, hit, rfl, rfl⟩, Nat.succ_ne_self _⟩, fr, q⟩
theorem di_enum {elts : List Expr} {kk : Nat} {tpos : Pos} {t : TA'} {pq : Pos} (hm : X.mg "enumerate" = none) (ha : DA p B X [a] t) (hg : Gl X "enumerate" := by rfl) (hs : starEach [a] X.env = [(false, eval a X.env)] := by rfl) :
    DI p B X (.Tuple elts kk tpos) (.Call (.Name "enumerate" pq) [a] [] pos) (iEnum' t) :=
  PI.weak (pi_enumA hg hm ha hs) fun σ H R h => by
    obtain ⟨σ', G, R', at_, q, k⟩ := h
    refine ⟨σ', G, _, at_, q, fun xs G1 vs H1 n1 r1 q1 => ?_⟩
    obtain ⟨x, rfl | rfl, q1⟩ := q1
    · obtain ⟨v, rfl, r⟩ := rl1 r1
      obtain ⟨a, vs, rfl, ha, ra⟩ := r
      exact ⟨a, vs, rfl, .inr ⟨sqT_of ha, k _ G1 _ H1 n1 (it_enumT ha ra) q1⟩⟩
    · obtain ⟨v, rfl, r⟩ := rl1 r1
      obtain ⟨a, vs, rfl, ha, ga, ra⟩ := r
      exact ⟨a, vs, rfl, .inl ⟨SqL.of ha, k _ G1 _ H1 n1 (it_enumL ha ga ra) q1⟩⟩
/-! ### zip of a tuple and a list -/
theorem it_zipM {K : PySem.W.Frag} {G : GH} {H : Hp} {xs ys : List D} {vs ws : List V} {a b : Addr} (ha : Rd H a (.tup vs)) (r : RepL p G H xs vs) (hb : H b = some (.lst ws)) (gb : G b = none) (r2 : RepL p G H ys ws) : ItOk p (ItzM K a b vs.length ws.length) (zipD xs ys) G H := by
  intro G2 H2 n i
  obtain ⟨_, vs1, e, ha1, ra⟩ : Rep p G2 H2 (.tup xs) (.ref a) := n.st (.tup xs) (.ref a) ⟨a, vs, rfl, ha, r⟩
  cases e
  obtain ⟨_, ws1, e, hb1, _, rb⟩ : Rep p G2 H2 (.lst ys) (.ref b) := n.st (.lst ys) (.ref b) ⟨b, ws, rfl, hb, gb, r2⟩
  cases e
  have k1 : vs1.length = vs.length := ra.length.symm.trans r.length
  have k2 : ws1.length = ws.length := rb.length.symm.trans r2.length
  refine ⟨fun d hd => ?_, fun hl => ⟨vs1, ws1, sqT_of ha1, SqL.of hb1, k1, k2, ?_⟩⟩
  · obtain ⟨x, y, hx, hy, rfl⟩ := zip_get hd
    obtain ⟨v, hv, rv⟩ := ra.get hx
    obtain ⟨w, hw, rw_⟩ := rb.get hy
    refine ⟨⟨vs1, ws1, v, w, sqT_of ha1, SqL.of hb1, k1, k2, hv, hw⟩, fun v' H3 yl => ?_⟩
    obtain ⟨T, v1, w1, rfl, hn, rfl, y1, y2⟩ := yl
    have e1 := y1 _ (sqT_of ha1)
    have e2 := y2 _ (SqL.of hb1)
    rw [hv] at e1; cases e1
    rw [hw] at e2; cases e2
    exact rep_two n.rep hn rv rw_
  · unfold zipD at hl
    rw [List.length_map, List.length_zip] at hl
    rw [← r.length, ← r2.length]
    omega
@[simp] def iZipM' (t : TA') : TI' := fun σ G R => t σ G fun xs G1 => ∃ x y, xs = [.tup x, .lst y] ∧ R (zipD x y) G1
theorem di_zipM {elts : List Expr} {kk : Nat} {tpos : Pos} {t : TA'} {pq : Pos} (hm : X.mg "zip" = none) (ha : DA p B X [a, b] t) (hg : Gl X "zip" := by rfl)
    (he : starEach [a, b] X.env = (false, eval a X.env) :: starEach [b] X.env := by rfl) (hpl : (backTo pos (starEach [b] X.env)).any (·.1) = false := by rfl) : DI p B X (.Tuple elts kk tpos) (.Call (.Name "zip" pq) [a, b] [] pos) (iZipM' t) :=
  PI.weak (pi_zipM hg hm ha he hpl) fun σ H R h => by
    obtain ⟨σ', G, R', at_, q, k⟩ := h
    refine ⟨σ', G, _, at_, q, fun xs G1 vs H1 n1 r1 q1 => ?_⟩
    obtain ⟨x, y, rfl, q1⟩ := q1
    obtain ⟨v, w, rfl, r, r2⟩ := rl2 r1
    obtain ⟨a, vs, rfl, ha, ra⟩ := r
    obtain ⟨b, ws, rfl, hb, gb, rb⟩ := r2
    exact ⟨a, b, vs, ws, rfl, sqT_of ha, SqL.of hb, k _ G1 _ H1 n1 (it_zipM ha ra hb gb rb) q1⟩
/-! ### sorted(list of ints) -/
def insI (x : Int) : List Int → List Int
  | [] => [x]
  | y :: r => if x ≤ y then x :: y :: r else y :: insI x r
def sortI (ns : List Int) : List Int := ns.foldr insI []
theorem insI_perm (x : Int) : ∀ l : List Int, (insI x l).Perm (x :: l)
  | [] => .refl _
  | y :: r => by
    unfold insI
    split
    · exact .refl _
    · exact ((insI_perm x r).cons y).trans (.swap x y r)
theorem sortI_perm : ∀ ns : List Int, (sortI ns).Perm ns
  | [] => .refl _
  | x :: r => (insI_perm x _).trans ((sortI_perm r).cons x)
theorem insI_up (x : Int) : ∀ {l : List Int}, l.Pairwise (· ≤ ·) → (insI x l).Pairwise (· ≤ ·)
  | [], _ => by simp [insI]
  | y :: r, h => by
    have h1 := List.pairwise_cons.mp h
    unfold insI
    split
    · rename_i hx
      refine List.pairwise_cons.mpr ⟨fun z hz => ?_, h⟩
      rcases List.mem_cons.mp hz with rfl | hz
      · exact hx
      · exact Int.le_trans hx (h1.1 z hz)
    · rename_i hx
      refine List.pairwise_cons.mpr ⟨fun z hz => ?_, insI_up x h1.2⟩
      rcases List.mem_cons.mp ((insI_perm x r).mem_iff.mp hz) with rfl | hz
      · omega
      · exact h1.1 z hz
theorem sortI_up : ∀ ns : List Int, (sortI ns).Pairwise (· ≤ ·)
  | [] => by simp [sortI]
  | x :: r => insI_up x (sortI_up r)
theorem up_perm : ∀ {l m : List Int}, l.Pairwise (· ≤ ·) → m.Pairwise (· ≤ ·) → l.Perm m → l = m
  | [], m, _, _, h => by rw [h.symm.eq_nil]
  | x :: l, [], _, _, h => by cases h.eq_nil
  | x :: l, y :: m, h1, h2, h => by
    have a1 := List.pairwise_cons.mp h1
    have a2 := List.pairwise_cons.mp h2
    have e : x = y := by
      have m1 : x ∈ y :: m := h.mem_iff.mp (by simp)
      have m2 : y ∈ x :: l := h.mem_iff.mpr (by simp)
      rcases List.mem_cons.mp m1 with e | m1
      · exact e
      · rcases List.mem_cons.mp m2 with e | m2
        · exact e.symm
        · have := a2.1 x m1
          have := a1.1 y m2
          omega
    subst e
    rw [up_perm a1.2 a2.2 (List.perm_cons x |>.mp h)]
theorem sortI_eq {ns l : List Int} (h : l.Pairwise (· ≤ ·)) (hp : l.Perm ns) : sortI ns = l := up_perm (sortI_up _) h ((sortI_perm _).trans hp.symm)
theorem sortI_len (ns : List Int) : (sortI ns).length = ns.length := (sortI_perm ns).length_eq
def rSortI' (fresh : Bool) : RC' := fun xs G Q => ∃ (x : D) (ns : List Int), xs = [x] ∧ asL G x = some (ns.map D.int) ∧ if fresh then ∀ a, G a = none → Q (.ref a) (gup G a (.lst ((sortI ns).map D.int))) else Q (.lst ((sortI ns).map D.int)) G
theorem rSortI_i {d : D} {ns : List Int} {G : GH} {Q : QE} (h : asL G d = some (ns.map D.int)) (q : Q (.lst ((sortI ns).map D.int)) G) : rSortI' false [d] G Q := ⟨_, ns, rfl, h, q⟩
@[simp] theorem rSortI_lst {ns : List Int} {G : GH} {Q : QE} : rSortI' false [.lst (ns.map D.int)] G Q = Q (.lst ((sortI ns).map D.int)) G :=
  propext ⟨fun ⟨x, ms, e, e2, q⟩ => by cases e; rw [ints_inj (Option.some.inj e2)]; exact q, fun q => rSortI_i rfl q⟩
theorem lft_sortI {K : PySem.W.Frag} {fresh : Bool} : LftC p (rSortedI K) (rSortI' fresh) := by
  rintro xs G Q' vs H Q r h ⟨x, ns, rfl, e, q⟩ k
  obtain ⟨a, rfl, hs⟩ := one_ints h r e
  refine ⟨a, ns, rfl, SqL.of hs, fun ns' l hp hu hn => ?_⟩
  have e2 : ns' = sortI ns := (sortI_eq hu hp).symm
  subst e2
  cases fresh with
  | true => exact k _ _ _ _ (rep_newM h hn (RepL.ofInts _)) (by exact rfl) (q l (h.free hn))
  | false => exact k _ _ _ _ (rep_newF h hn (RepL.ofInts _)).1 (rep_newF h hn (RepL.ofInts _)).2 q
/-! ### range(i, j, k), k above nought -/
def rangeC (lo c : Int) (n : Nat) : List D := (List.range n).map fun (i : Nat) => D.int (lo + i * c)
end
end DL

namespace DL
open PySem PySem.Spec PyProof.Rows L2
section
variable {p : Pm} {B : Bs p} {X : Cx} {a b c e o : Expr} {ta tb tc : TE'} {pos : Pos}
/-! ### isinstance(x, (T, U)) -/
theorem kit_two {K : PySem.W.Frag} {t T U : String} {b c : Bool} (h : kitB t T = some b) (h2 : kitB t U = some c) : PySem.W.kitAny K (.type t) [.type T, .type U] = some (b || c) := by
  show (match PySem.W.kitOne K (.type t) (.type T) with | some true => some true | some false => (match PySem.W.kitOne K (.type t) (.type U) with | some true => some true | some false => some false | none => none) | none => none) = _
  rw [kit_ty h, kit_ty h2]
  cases b <;> cases c <;> rfl
@[simp] def rIsi2' (T U : String) (ta : TE') : TE' := fun σ G Q => ta σ G fun x G1 => ∃ t b c, tyD G1 x = some t ∧ kitB t T = some b ∧ kitB t U = some c ∧ Q (.bl (b || c)) G1
theorem de_isi2 {T U : String} {x y : Str} {p1 p2 p3 pt : Pos} {x1} (hK : X.K = p.K) (m1 : X.mg "isinstance" = none) (m2 : X.mg x = none) (m3 : X.mg y = none) (hv : bootBuiltins x = some (.type T)) (hv3 : bootBuiltins y = some (.type U)) (ha : DE p B X a ta) (g1 : Gl X "isinstance" := by rfl) (g2 : Gl X x := by rfl) (g3 : Gl X y := by rfl)
    (hn : x ≠ ("__name__" : Str) := by decide) (hdb : (x == ("__debug__" : Str)) = false := by decide) (hn3 : y ≠ ("__name__" : Str) := by decide) (hdb3 : (y == ("__debug__" : Str)) = false := by decide)
    (he : starEach [a, .Tuple [.Name x p2, .Name y p3] x1 pt] X.env = (false, eval a X.env) :: starEach [.Tuple [.Name x p2, .Name y p3] x1 pt] X.env := by rfl) (he2 : starEach [.Tuple [.Name x p2, .Name y p3] x1 pt] X.env = (false, eval (.Tuple [.Name x p2, .Name y p3] x1 pt) X.env) :: starEach [] X.env := by rfl) (hpl : (backTo pos (starEach [.Tuple [.Name x p2, .Name y p3] x1 pt] X.env)).any (·.1) = false := by rfl)
    (he3 : starEach [.Name x p2, .Name y p3] X.env = (false, eval (.Name x p2) X.env) :: starEach [.Name y p3] X.env := by rfl) (he4 : starEach [.Name y p3] X.env = (false, eval (.Name y p3) X.env) :: starEach [] X.env := by rfl) :
    DE p B X (.Call (.Name "isinstance" p1) [a, .Tuple [.Name x p2, .Name y p3] x1 pt] [] pos) (rIsi2' T U ta) :=
  PE.weak (pe_callB call_isiT g1 m1 (by decide +kernel) (pa_cons ha (pa_cons (pe_tup (pa_cons (pe_bltn (v := .ty T) g2 m2 hv (by rfl) hn hdb) (pa_cons (pe_bltn (v := .ty U) g3 m3 hv3 (by rfl) hn3 hdb3) pa_nil he4) he3)) pa_nil he2) he) (by decide) (by decide) he hpl) fun σ H Q h => by
    obtain ⟨σ', G, Q', at_, q, k⟩ := h
    refine ⟨σ', G, _, at_, q, fun d G1 v H1 n1 r1 q1 => ?_⟩
    obtain ⟨t, b, c, e1, e2, e3, q1⟩ := q1
    refine ⟨by show 2 ≤ sizeLine; rw [sizeLine_eq]; omega, fun l hl => ?_⟩
    have n2 := nxt_new (o := .tup [.ty T, .ty U]) n1.rep hl
    exact ⟨v, l, [.ty T, .ty U], .type t, [.type T, .type U], b || c, rfl, upd_same, .cons (.ty T) (.cons (.ty U) .nil), hK ▸ tyD_rep n2.rep (n2.st _ _ r1) e1, kit_two e2 e3, k _ G1 _ _ (n1.trans n2) (by exact rfl) q1⟩
/-! ### xs[::-1], a list -/
theorem de_rev {fresh : Bool} {k : Nat} {p1 p2 p3 : Pos} (ha : DE p B X a ta) : DE p B X (.Subscript a (.Slice none none (some (.UnaryOp .USub (.Constant (.int 1) k p1) p2)) p3) pos) (tRev' fresh ta) :=
  PE.weak (pe_revL ha) fun σ H Q h => by
    obtain ⟨σ', G, Q', at_, q, k⟩ := h
    refine ⟨σ', G, _, at_, q, fun d G1 v H1 n1 r1 q1 => ?_⟩
    obtain ⟨ds, e, q1⟩ := q1
    obtain ⟨l, vs, rfl, hH, rr⟩ := asL_rep n1.rep r1 e
    refine ⟨l, vs, rfl, SqL.of hH, fun r hr => ?_⟩
    cases fresh with
    | true => exact k _ _ _ _ (n1.trans (rep_newM n1.rep hr rr.reverse)) (by exact rfl) (q1 r (n1.rep.free hr))
    | false => exact k _ _ _ _ (n1.trans (rep_newF n1.rep hr rr.reverse).1) (rep_newF n1.rep hr rr.reverse).2 q1
end
end DL

namespace DL
open PySem PySem.Spec PyProof.Rows L2
open PySem.W
/-! ### min of a list of things that are alike -/
section
variable {prog : Program} {w : World} {A : Around} {E : Value → Shared → Prop} {s : Shared}
theorem min_list_at {l : Addr} {vs : Array Value} {x : PyData} {xs : List PyData} {as : List Addr} {Q : Value → Shared → Prop} (hh : A.handled = none) (hl : s.heap.IsList l vs) (hr : ReadsAll s.heap vs.toList (x :: xs) as) (ha : AlikeAll (x :: xs)) (hu : A.units + 1 + PyData.depthAll (x :: xs) < cLine)
    (h : ∀ (i : Nat) v h' tk, vs[i]? = some v → (x :: xs).getD i .none = minD x xs → (∀ b o, s.heap.get? b = some o → h'.get? b = some o) → Q v { s with heap := h', toks := tk }) :
    wpAny (model prog w) A (call (.builtin "min") [.ref l]) Q E s := by
  have hn : vs.size = xs.length + 1 := readsAll_len hr
  refine call_min_walkH (iter_listW (A := A.in1) hh hl fun s₂ e W st hfp hw hk => ?_)
  refine ⟨_, _, _, _, _, _, _, s.heap, _, rfl, W, st, hfp, by omega, hw, hk, cmpIn_lt (A := A.in1) hr ha (by show A.units + 1 + _ < _; exact hu), fun v s' hP m => ?_⟩
  obtain ⟨h', tk, rfl, hk'⟩ := moved_old e rfl m
  have e1 : vs.size - 1 = xs.length := by omega
  have e2 := (argBest_fold dataLt PyData.none x xs xs.length (Nat.le_refl _)).2
  rw [List.take_length] at e2
  rw [e1] at hP
  exact h _ v h' tk hP e2 hk'
end
def rMinDat (K : PySem.W.Frag) : List V → Hp → VK → Prop := fun us H Q => ∃ (a : Addr) (vs : List V) (x : PyData) (xs : List PyData), us = [V.ref a] ∧ SqL K H a vs ∧ DpAll K H vs (x :: xs) ∧ AlikeAll (x :: xs) ∧ PyData.depthAll (x :: xs) ≤ 60 ∧ ∀ i v, vs[i]? = some v → (x :: xs).getD i .none = minD x xs → Q v H
theorem cr_minDat {X : Cx} (hc : X.calm = true) (hu : X.A.units + 64 < cLine) : CallR X (.builtin "min") (rMinDat X.K) := by
  intro pins s σ H vs us Q I r h
  obtain ⟨a, xs, y, ys, rfl, hs, hd, ha, hdep, q⟩ := h
  obtain ⟨its, rv, hl, _⟩ := I.list hs
  rw [Vals.ref1 r]
  obtain ⟨as, hr⟩ := Dp.readsAll I (y :: ys) xs its hd rv
  refine min_list_at (I.ok.hd hc) hl.isList hr ha (by omega) fun i v h' tk hv hm hk => ?_
  have hv2 : its[i]? = some v := by simpa using hv
  have hil : i < xs.length := by rw [rv.length]; exact (List.getElem?_eq_some_iff.mp hv2).1
  obtain ⟨u, hu2, ru⟩ := rv.get (List.getElem?_eq_getElem hil)
  rw [hv2] at hu2
  cases hu2
  exact ⟨xs[i], H, I.kept hk, ru, q i _ (List.getElem?_eq_getElem hil) hm⟩
/-- three numbers -/
def triD (t : Int × Int × Int) : D := .tup [.int t.1, .int t.2.1, .int t.2.2]
def triLt (s t : Int × Int × Int) : Bool := decide (s.1 < t.1) || (decide (s.1 = t.1) && (decide (s.2.1 < t.2.1) || (decide (s.2.1 = t.2.1) && decide (s.2.2 < t.2.2))))
def triP (t : Int × Int × Int) : PyData := .tuple [.int t.1, .int t.2.1, .int t.2.2]
theorem toP_tri (p : Pm) (t : Int × Int × Int) : toP p (triD t) = triP t := rfl
theorem lt_tri (s t : Int × Int × Int) : dataLt (triP s) (triP t) = triLt s t := by
  obtain ⟨a, b, c⟩ := s
  obtain ⟨x, y, z⟩ := t
  have hb : ∀ u v : Int, itemLt (.inl u) (.inl v) = decide (u < v) := fun _ _ => rfl
  show PyProof.Rows.lexLt itemOrd [.inl 1, .inl a, .inl 1, .inl b, .inl 1, .inl c, .inl 0] [.inl 1, .inl x, .inl 1, .inl y, .inl 1, .inl z, .inl 0] = _
  simp only [PyProof.Rows.lexLt, triLt]
  by_cases h1 : a < x
  · simp [hb, h1]
  · by_cases h2 : x < a
    · have : ¬ a = x := by omega
      simp [hb, h1, h2, this]
    · have e : a = x := by omega
      subst e
      by_cases h3 : b < y
      · simp [hb, h3]
      · by_cases h4 : y < b
        · have : ¬ b = y := by omega
          simp [hb, h3, h4, this]
        · have e : b = y := by omega
          subst e
          by_cases h5 : c < z <;> simp [hb, h5]
/-- the least of them -/
def minT : List (Int × Int × Int) → Int × Int × Int
  | [] => (0, 0, 0)
  | x :: xs => xs.foldl (fun a y => if triLt y a then y else a) x
theorem minD_tri (x : Int × Int × Int) : ∀ xs : List (Int × Int × Int), minD (triP x) (xs.map triP) = triP (xs.foldl (fun a y => if triLt y a then y else a) x) := by
  intro xs
  unfold minD
  induction xs generalizing x with
  | nil => rfl
  | cons y r ih =>
    rw [List.map_cons, List.foldl_cons, List.foldl_cons, lt_tri]
    by_cases h : triLt y x = true
    · rw [if_pos h, if_pos h]; exact ih y
    · rw [if_neg h, if_neg h]; exact ih x
theorem tri_inj {s t : Int × Int × Int} (h : triP s = triP t) : s = t := by
  obtain ⟨a, b, c⟩ := s
  obtain ⟨x, y, z⟩ := t
  unfold triP at h
  injection h with h
  simp at h
  simp [h]
theorem triD_inj : ∀ s t : Int × Int × Int, triD s = triD t → s = t := fun ⟨a, b, c⟩ ⟨x, y, z⟩ h => by
  unfold triD at h
  injection h with h
  simp at h
  simp [h]
theorem alike_tri (xs : List (Int × Int × Int)) : AlikeAll (xs.map triP) := by
  refine ⟨fun x hx y hy => ?_, fun x hx e => ?_⟩
  · obtain ⟨s, _, rfl⟩ := List.mem_map.mp hx
    obtain ⟨t, _, rfl⟩ := List.mem_map.mp hy
    rfl
  · obtain ⟨s, _, rfl⟩ := List.mem_map.mp hx
    cases e
theorem depth_tri : ∀ xs : List (Int × Int × Int), PyData.depthAll (xs.map triP) ≤ 5
  | [] => by simp [PyData.depthAll]
  | x :: xs => by
    have := depth_tri xs
    show max (PyData.depth (triP x)) (PyData.depthAll (xs.map triP)) ≤ 5
    have h2 : PyData.depth (triP x) ≤ 5 := by
      unfold triP
      simp [PyData.depth, PyData.depthAll]
    omega
section
variable {p : Pm} {B : Bs p} {X : Cx} {a b c e o : Expr} {ta tb tc : TE'} {pos : Pos}
def rMinT' : RC' := fun xs G Q => ∃ (x : D) (ts : List (Int × Int × Int)), xs = [x] ∧ asL G x = some (ts.map triD) ∧ ts ≠ [] ∧ Q (triD (minT ts)) G
theorem rMinT_i {d : D} {ts : List (Int × Int × Int)} {G : GH} {Q : QE} (h : asL G d = some (ts.map triD)) (h2 : ts ≠ []) (q : Q (triD (minT ts)) G) : rMinT' [d] G Q := ⟨_, ts, rfl, h, h2, q⟩
theorem dok_tri {t : Int × Int × Int} : Dok 3 (triD t) := fun d hd => by
  simp at hd
  rcases hd with rfl | rfl | rfl <;> exact trivial
theorem lft_minT {K : PySem.W.Frag} (hK : K = p.K) : LftC p (rMinDat K) rMinT' := by
  subst hK
  rintro xs G Q' vs H Q r h ⟨x, ts, rfl, e, hne, q⟩ k
  obtain ⟨v, rfl, r1⟩ := rl1 r
  obtain ⟨a, ws, rfl, hs, rr⟩ := asL_rep h r1 e
  cases ts with
  | nil => exact (hne rfl).elim
  | cons t ts =>
    have hd : DpAll p.K H ws (triP t :: ts.map triP) := by
      have := repL_dp h 3 ((t :: ts).map triD) ws (fun d hd => by
        obtain ⟨u, _, rfl⟩ := List.mem_map.mp hd
        exact dok_tri) rr
      rw [toPs_map, List.map_map] at this
      exact this
    refine ⟨a, ws, triP t, ts.map triP, rfl, SqL.of hs, hd, alike_tri (t :: ts), Nat.le_trans (depth_tri (t :: ts)) (by omega), fun i v hv hm => ?_⟩
    rw [minD_tri] at hm
    have hil : i < ((t :: ts).map triD).length := by rw [rr.length]; exact (List.getElem?_eq_some_iff.mp hv).1
    rw [List.length_map] at hil
    have hg : (t :: ts)[i]? = some (t :: ts)[i] := List.getElem?_eq_getElem hil
    have e2 : (t :: ts)[i] = minT (t :: ts) := by
      apply tri_inj
      have : (triP t :: ts.map triP).getD i .none = triP (t :: ts)[i] := by
        show ((t :: ts).map triP).getD i .none = _
        rw [List.getD_eq_getElem?_getD, List.getElem?_map, hg]
        rfl
      rw [← this, hm]; rfl
    obtain ⟨w, hw, rw_⟩ := rr.get (i := i) (d := triD (t :: ts)[i]) (by rw [List.getElem?_map, hg]; rfl)
    rw [hv] at hw; cases hw
    rw [e2] at rw_
    exact k _ G _ H (.refl h) rw_ q
end
end DL

namespace DL
open PySem PySem.Spec PyProof.Rows L2
/-! ### promises by the arguments -/
@[simp] def sp0 (f : GH → QE → EK' → Prop) : Sp' := fun ds G Q E => match ds with
  | [] => f G Q E
  | _ => False
@[simp] def sp1 (f : D → GH → QE → EK' → Prop) : Sp' := fun ds G Q E => match ds with
  | [a] => f a G Q E
  | _ => False
@[simp] def sp2 (f : D → D → GH → QE → EK' → Prop) : Sp' := fun ds G Q E => match ds with
  | [a, b] => f a b G Q E
  | _ => False
@[simp] def sp3 (f : D → D → D → GH → QE → EK' → Prop) : Sp' := fun ds G Q E => match ds with
  | [a, b, c] => f a b c G Q E
  | _ => False
@[simp] def sp4 (f : D → D → D → D → GH → QE → EK' → Prop) : Sp' := fun ds G Q E => match ds with
  | [a, b, c, d] => f a b c d G Q E
  | _ => False
@[simp] def sp5 (f : D → D → D → D → D → GH → QE → EK' → Prop) : Sp' := fun ds G Q E => match ds with
  | [a, b, c, d, e] => f a b c d e G Q E
  | _ => False
/-- a def's reading keeps its promise -/
def Pure (t : WX' → TS') (sp : Sp') (N : Nat) (ds : List D) : Prop := ∀ G Q E, sp ds G Q E → t (FzE E) { nx := fun _ G => Fz Q .non G, rt := Fz Q } (start' N ds) G
/-! ### what a comprehension makes of ints, of pairs -/
def fI (f : Int → Option D) : D → Option D
  | .int a => f a
  | _ => none
@[simp] theorem fI_int {f : Int → Option D} {a : Int} : fI f (.int a) = f a := rfl
@[simp] theorem fI_comp {f : Int → Option D} : fI f ∘ D.int = f := rfl
def fII (f : Int → Int → Option D) : D → Option D
  | .tup [.int a, .int b] => f a b
  | _ => none
@[simp] theorem fII_pair {f : Int → Int → Option D} {a b : Int} : fII f (.tup [.int a, .int b]) = f a b := rfl
@[simp] theorem fm_some {α β : Type} (f : α → β) (l : List α) : l.filterMap (fun x => some (f x)) = l.map f := by
  induction l with
  | nil => rfl
  | cons x r ih => simp [ih]
theorem fm_ite {α β : Type} (c : α → Bool) (f : α → β) (l : List α) : l.filterMap (fun x => if c x = true then some (f x) else none) = (l.filter c).map f := by
  induction l with
  | nil => rfl
  | cons x r ih =>
    by_cases h : c x = true <;> simp [h, ih]
/-! ### slices -/
theorem sIx_one (n : Nat) : HT.sIx n 0 (some 1) = min 1 n := HT.sIx_nat n 0 1
@[simp] theorem cut_tail (xs : List D) : cutD xs (some 1) none = xs.tail := by
  unfold cutD
  rw [sIx_one, HT.sIx_none]
  cases xs with
  | nil => rfl
  | cons x r => simp
theorem cut_from (xs : List D) (i : Nat) : cutD xs (some (i : Int)) none = xs.drop i := by
  unfold cutD
  rw [HT.sIx_nat, HT.sIx_none]
  by_cases h : i ≤ xs.length
  · rw [Nat.min_eq_left h, List.take_of_length_le (by rw [List.length_drop]; exact Nat.le_refl _)]
  · rw [Nat.min_eq_right (by omega), List.drop_of_length_le (by omega), List.drop_of_length_le (by omega)]
    simp
theorem cut_to (xs : List D) (j : Nat) : cutD xs none (some (j : Int)) = xs.take j := by
  unfold cutD
  rw [HT.sIx_nat, HT.sIx_none, List.drop_zero, Nat.sub_zero]
  by_cases h : j ≤ xs.length
  · rw [Nat.min_eq_left h]
  · rw [Nat.min_eq_right (by omega), List.take_of_length_le (Nat.le_refl _), List.take_of_length_le (by omega)]
theorem cut_mid (xs : List D) (i j : Nat) (h : i ≤ xs.length) : cutD xs (some (i : Int)) (some (j : Int)) = (xs.drop i).take (j - i) := by
  unfold cutD
  rw [HT.sIx_nat, HT.sIx_nat, Nat.min_eq_left h]
  by_cases h2 : j ≤ xs.length
  · rw [Nat.min_eq_left h2]
  · rw [Nat.min_eq_right (by omega), List.take_of_length_le (by rw [List.length_drop]; exact Nat.le_refl _), List.take_of_length_le (by rw [List.length_drop]; omega)]
theorem tailI {α β : Type} (f : α → β) (l : List α) : (l.map f).tail = l.tail.map f := by cases l <;> rfl
/-! ### zip of ints -/
@[simp] theorem zip_ints (xs ys : List Int) : zipD (xs.map D.int) (ys.map D.int) = (xs.zip ys).map fun q => D.tup [.int q.1, .int q.2] := by
  unfold zipD
  rw [List.zip_map, List.map_map]
  rfl
@[simp] theorem zip_tail (xs : List Int) : zipD (xs.map D.int) (xs.map D.int).tail = (xs.zip xs.tail).map fun q => D.tup [.int q.1, .int q.2] := by
  rw [tailI, zip_ints]
/-! ### an item -/
@[simp] theorem atI_ints (ns : List Int) (i : Int) : atI (ns.map D.int) i = (atI ns i).map D.int := by
  unfold atI
  rw [List.length_map]
  cases ixN ns.length i with
  | none => rfl
  | some j => simp
theorem atI_nn {α : Type} (xs : List α) (i : Int) (h : 0 ≤ i) (h2 : i < xs.length) : atI xs i = xs[i.toNat]? := by
  unfold atI ixN
  rw [if_pos h, if_pos h2]
  rfl
theorem line_of {n : Nat} (h : n ≤ 100000) : n ≤ sizeLine := by rw [sizeLine_eq]; omega
theorem line_big : 100000 ≤ sizeLine := by rw [sizeLine_eq]; omega
theorem line_lt {n : Nat} (h : n ≤ 100000) : n < sizeLine := by rw [sizeLine_eq]; omega
/-! ### == -/
@[simp] theorem dok_int {n : Nat} {i : Int} : Dok n (.int i) = True := by cases n <;> rfl
@[simp] theorem dok_bl {n : Nat} {i : Bool} : Dok n (.bl i) = True := by cases n <;> rfl
@[simp] theorem dok_non {n : Nat} : Dok n .non = True := by cases n <;> rfl
@[simp] theorem dok_str {n : Nat} {x : Str} : Dok n (.str x) = (PyData.strOk x = true) := by cases n <;> rfl
@[simp] theorem dok_tup {n : Nat} {ds : List D} : Dok (n + 1) (.tup ds) = ∀ d ∈ ds, Dok n d := rfl
@[simp] theorem dok_lst {n : Nat} {ds : List D} : Dok (n + 1) (.lst ds) = ∀ d ∈ ds, Dok n d := rfl
@[simp] theorem dok_scr {n : Nat} : Dok (n + 1) .scr = True := rfl
theorem eqvAll_ints : ∀ xs ys : List Int, PyData.eqvAll (xs.map PyData.int) (ys.map PyData.int) = decide (xs = ys)
  | [], [] => rfl
  | [], y :: ys => rfl
  | x :: xs, [] => rfl
  | x :: xs, y :: ys => by
    show ((x == y) && PyData.eqvAll (xs.map PyData.int) (ys.map PyData.int)) = _
    rw [eqvAll_ints xs ys, Bool.eq_iff_iff]
    simp
theorem toPs_ints (p : Pm) (xs : List Int) : toPs p (xs.map D.int) = xs.map PyData.int := by
  rw [toPs_map, List.map_map]; rfl
@[simp] theorem eqD_int {p : Pm} {i j : Int} : eqD p (.int i) (.int j) = decide (i = j) := by
  show (i == j) = _
  rw [Bool.eq_iff_iff]; simp
@[simp] theorem eqD_str {p : Pm} {i j : Str} : eqD p (.str i) (.str j) = decide (i = j) := by
  show (i == j) = _
  rw [Bool.eq_iff_iff]; simp
@[simp] theorem eqD_bl {p : Pm} {i j : Bool} : eqD p (.bl i) (.bl j) = decide (i = j) := by
  show (i == j) = _
  rw [Bool.eq_iff_iff]; simp
@[simp] theorem eqD_tups {p : Pm} {xs ys : List Int} : eqD p (.tup (xs.map D.int)) (.tup (ys.map D.int)) = decide (xs = ys) := by
  show PyData.eqvAll (toPs p _) (toPs p _) = _
  rw [toPs_ints, toPs_ints, eqvAll_ints]
@[simp] theorem eqD_lsts {p : Pm} {xs ys : List Int} : eqD p (.lst (xs.map D.int)) (.lst (ys.map D.int)) = decide (xs = ys) := by
  show PyData.eqvAll (toPs p _) (toPs p _) = _
  rw [toPs_ints, toPs_ints, eqvAll_ints]
theorem eqvAll_map {α : Type} (f : α → PyData) (hf : ∀ a b, PyData.eqv (f a) (f b) = true ↔ a = b) : ∀ xs ys : List α, PyData.eqvAll (xs.map f) (ys.map f) = true ↔ xs = ys
  | [], [] => by simp [PyData.eqvAll]
  | [], y :: ys => by simp [PyData.eqvAll]
  | x :: xs, [] => by simp [PyData.eqvAll]
  | x :: xs, y :: ys => by
    show (PyData.eqv (f x) (f y) && PyData.eqvAll (xs.map f) (ys.map f)) = true ↔ _
    rw [Bool.and_eq_true, hf, eqvAll_map f hf xs ys, List.cons.injEq]
/-- two lists of like data -/
theorem eqD_map {p : Pm} {α : Type} [DecidableEq α] (f : α → D) (hf : ∀ a b, eqD p (f a) (f b) = true ↔ a = b) (xs ys : List α) : eqD p (.lst (xs.map f)) (.lst (ys.map f)) = decide (xs = ys) := by
  show PyData.eqvAll (toPs p _) (toPs p _) = _
  rw [toPs_map, toPs_map, List.map_map, List.map_map, Bool.eq_iff_iff, decide_eq_true_eq]
  exact eqvAll_map (toP p ∘ f) hf xs ys
end DL

namespace DL
open PySem PySem.Spec PyProof.Rows L2
/-! ### steps of a reading -/
@[simp] theorem and_asc {a b c : Prop} : ((a ∧ b) ∧ c) = (a ∧ b ∧ c) := propext and_assoc
theorem seq_ {t u : TS'} {D : Ends'} {σ : St'} {G : GH} (h : t { D with nx := u D } σ G) : tSeq' t u D σ G := h
/-- the same, with the rest out of sight -/
theorem seqN {t u : TS'} {D : Ends'} {σ : St'} {G : GH} (h : ∀ N : St' → GH → Prop, (∀ σ G, u D σ G → N σ G) → t { D with nx := N } σ G) : tSeq' t u D σ G := h _ fun _ _ q => q
theorem FrzS.refl {σ : St'} {G : GH} : FrzS σ G σ G := fun p H s h r => ⟨.refl h, r⟩
theorem FrzS.trans {σ1 σ2 σ3 : St'} {G1 G2 G3 : GH} (a : FrzS σ1 G1 σ2 G2) (b : FrzS σ2 G2 σ3 G3) : FrzS σ1 G1 σ3 G3 := fun p H s h r => by
  obtain ⟨n1, r1⟩ := a p H s h r
  obtain ⟨n2, r2⟩ := b p H s n1.rep r1
  exact ⟨n1.trans n2, r2⟩
theorem FrzS.drop {σ : St'} {G : GH} {a : Addr} {g : GO} (ha : G a = none) : FrzS σ (gup G a g) σ G := fun p H s h r => by
  have n := nxt_drop1 h ha
  exact ⟨n, r.step n.st⟩
/-- the list in slot i stays as it is -/
theorem FrzS.lst (i : Nat) {σ : St'} {G : GH} {a : Addr} {ds : List D} (ha : G a = none) (hi : σ[i]? = some (some (.ref a))) : FrzS σ (gup G a (.lst ds)) (σ.set i (some (.lst ds))) G := fun p H s h r => by
  have n := nxt_freeze h ha
  refine ⟨n.1, ?_⟩
  obtain ⟨v, hv, rv⟩ := r.at_ i _ hi
  have : s = s.set i (some v) := by
    apply List.ext_getElem?
    intro j
    by_cases hj : i = j
    · subst hj
      have hl : i < s.length := by
        have := List.getElem?_eq_some_iff.mp hv
        exact this.1
      rw [List.getElem?_set_self hl, hv]
    · rw [List.getElem?_set_ne hj]
  rw [this]
  refine (r.step n.1.st).set i ?_
  rw [show v = _ from rv]
  exact n.2
theorem seqF {t u : TS'} {D : Ends'} {σ : St'} {G : GH} (h : ∀ N : St' → GH → Prop, (∀ σ G, u D σ G → N σ G) → (∀ σ G σ2 G2, FrzS σ G σ2 G2 → u D σ2 G2 → N σ G) → t { D with nx := N } σ G) : tSeqF' t u D σ G :=
  h _ (fun σ G q => ⟨σ, G, .refl, q⟩) fun σ G σ2 G2 f q => ⟨σ2, G2, f, q⟩
theorem gup_comm {G : GH} {a b : Addr} {o u : GO} (h : a ≠ b) : gup (gup G a o) b u = gup (gup G b u) a o := by
  funext c
  unfold gup
  by_cases h1 : c = a <;> by_cases h2 : c = b <;> simp_all
@[simp] theorem asL_gup {G : GH} {b : Addr} {ds : List D} : asL (gup G b (.lst ds)) (.ref b) = some ds := asL_ref gup_same
@[simp] theorem asQ_gup {p : Pm} {G : GH} {b : Addr} {ds : List D} : asQ p (gup G b (.lst ds)) (.ref b) = some ds := asQ_ref gup_same
@[simp] theorem gup_same' {G : GH} {a : Addr} {o : GO} : gup G a o a = some o := gup_same
@[simp] theorem gup_gup' {G : GH} {a : Addr} {o u : GO} : gup (gup G a o) a u = gup G a u := gup_gup
/-- a comprehension over things that are made of l -/
theorem lc_at {α : Type} {f : α → D} (hf : ∀ x y, f x = f y → x = y) (l : List α) (o : α → Option D) {fresh : Bool} {ti : TI'} {g : TG'} {tt : TT'} {te : TE'} {vs : List Nat} {σ : St'} {G G1 : GH} {Q : QE}
    (hi : ∀ R : List D → GH → Prop, R (l.map f) G1 → ti σ G R) (hl : l.length ≤ sizeLine)
    (hb : ∀ x ∈ l, ∀ Gx, (∀ a g, G1 a = some g → Gx a = some g) → g (f x) (wipe' σ vs) Gx fun σ2 G2 => tt σ2 G2 fun b G3 => if b = true then te σ2 G3 fun y G4 => G4 = Gx ∧ o x = some y else G3 = Gx ∧ o x = none)
    (hq : if fresh then ∀ a, G1 a = none → Q (.ref a) (gup G1 a (.lst (l.filterMap o))) else Q (.lst (l.filterMap o)) G1) : tLc' fresh ti g tt te vs σ G Q := by
  refine hi _ ⟨by rw [List.length_map]; exact hl, ?_⟩
  have key : ∃ F : D → Option D, ∀ x, F (f x) = o x := by
    refine ⟨fun d => Classical.epsilon fun z => ∃ x, f x = d ∧ o x = z, fun x => ?_⟩
    have : ∃ z, ∃ y, f y = f x ∧ o y = z := ⟨o x, x, rfl, rfl⟩
    obtain ⟨y, h1, h2⟩ := Classical.epsilon_spec this
    show Classical.epsilon (fun z => ∃ y, f y = f x ∧ o y = z) = o x
    rw [← h2, hf _ _ h1]
  obtain ⟨F, hF⟩ := key
  have hm : (l.map f).filterMap F = l.filterMap o := by
    rw [List.filterMap_map]
    exact congrFun (congrArg _ (funext hF)) l
  refine ⟨F, fun d hd => ?_, ?_⟩
  · obtain ⟨x, hx, rfl⟩ := List.mem_map.mp hd
    rw [hF]
    exact hb x hx
  · rw [hm]; exact hq
theorem lc_map {α : Type} {f : α → D} (hf : ∀ x y, f x = f y → x = y) (l : List α) (h : α → D) {ti : TI'} {g : TG'} {te : TE'} {vs : List Nat} {σ : St'} {G G1 : GH} {Q : QE}
    (hi : ∀ R : List D → GH → Prop, R (l.map f) G1 → ti σ G R) (hl : l.length ≤ sizeLine)
    (hb : ∀ x ∈ l, ∀ Gx, (∀ a g, G1 a = some g → Gx a = some g) → g (f x) (wipe' σ vs) Gx fun σ2 G2 => te σ2 G2 fun y G4 => G4 = Gx ∧ h x = y)
    (hq : Q (.lst (l.map h)) G1) : tLc' false ti g tYes' te vs σ G Q := by
  refine lc_at hf l (fun x => some (h x)) hi hl (fun x hx Gx e => ?_) ?_
  · simpa using hb x hx Gx e
  · simpa using hq
theorem lc_mapM {α : Type} {f : α → D} (hf : ∀ x y, f x = f y → x = y) (l : List α) (h : α → D) {ti : TI'} {g : TG'} {te : TE'} {vs : List Nat} {σ : St'} {G G1 : GH} {Q : QE}
    (hi : ∀ R : List D → GH → Prop, R (l.map f) G1 → ti σ G R) (hl : l.length ≤ sizeLine)
    (hb : ∀ x ∈ l, ∀ Gx, (∀ a g, G1 a = some g → Gx a = some g) → g (f x) (wipe' σ vs) Gx fun σ2 G2 => te σ2 G2 fun y G4 => G4 = Gx ∧ h x = y)
    (hq : ∀ a, G1 a = none → Q (.ref a) (gup G1 a (.lst (l.map h)))) : tLc' true ti g tYes' te vs σ G Q := by
  refine lc_at hf l (fun x => some (h x)) hi hl (fun x hx Gx e => ?_) ?_
  · simpa using hb x hx Gx e
  · simpa using hq
theorem lc_filter {α : Type} {f : α → D} (hf : ∀ x y, f x = f y → x = y) (l : List α) (c : α → Bool) (h : α → D) {ti : TI'} {g : TG'} {tt : TT'} {te : TE'} {vs : List Nat} {σ : St'} {G G1 : GH} {Q : QE}
    (hi : ∀ R : List D → GH → Prop, R (l.map f) G1 → ti σ G R) (hl : l.length ≤ sizeLine)
    (hb : ∀ x ∈ l, ∀ Gx, (∀ a g, G1 a = some g → Gx a = some g) → g (f x) (wipe' σ vs) Gx fun σ2 G2 => tt σ2 G2 fun b G3 => if b = true then te σ2 G3 fun y G4 => G4 = Gx ∧ (if c x = true then some (h x) else none) = some y else G3 = Gx ∧ (if c x = true then some (h x) else none) = none)
    (hq : Q (.lst ((l.filter c).map h)) G1) : tLc' false ti g tt te vs σ G Q := by
  refine lc_at hf l (fun x => if c x = true then some (h x) else none) hi hl hb ?_
  rw [fm_ite]
  simpa using hq
/-- a comprehension whose list is told by something that may refuse -/
def lcBody (fresh : Bool) (xs : List D) (g : TG') (tt : TT') (te : TE') (vs : List Nat) (σ : St') (G1 : GH) (Q : QE) : Prop := tLc' fresh (fun _ _ R => R xs G1) g tt te vs σ G1 Q
theorem lc_body {fresh : Bool} {ti : TI'} {g : TG'} {tt : TT'} {te : TE'} {vs : List Nat} {σ : St'} {G : GH} {Q : QE} (h : ti σ G fun xs G1 => lcBody fresh xs g tt te vs σ G1 Q) : tLc' fresh ti g tt te vs σ G Q := h
theorem lcb_at {α : Type} {f : α → D} (hf : ∀ x y, f x = f y → x = y) (l : List α) (o : α → Option D) {fresh : Bool} {g : TG'} {tt : TT'} {te : TE'} {vs : List Nat} {σ : St'} {G1 : GH} {Q : QE} (hl : l.length ≤ sizeLine)
    (hb : ∀ x ∈ l, ∀ Gx, (∀ a g, G1 a = some g → Gx a = some g) → g (f x) (wipe' σ vs) Gx fun σ2 G2 => tt σ2 G2 fun b G3 => if b = true then te σ2 G3 fun y G4 => G4 = Gx ∧ o x = some y else G3 = Gx ∧ o x = none)
    (hq : if fresh then ∀ a, G1 a = none → Q (.ref a) (gup G1 a (.lst (l.filterMap o))) else Q (.lst (l.filterMap o)) G1) : lcBody fresh (l.map f) g tt te vs σ G1 Q :=
  lc_at hf l o (fun R r => r) hl hb hq
theorem lcb_map {α : Type} {f : α → D} (hf : ∀ x y, f x = f y → x = y) (l : List α) (h : α → D) {g : TG'} {te : TE'} {vs : List Nat} {σ : St'} {G1 : GH} {Q : QE} (hl : l.length ≤ sizeLine)
    (hb : ∀ x ∈ l, ∀ Gx, (∀ a g, G1 a = some g → Gx a = some g) → g (f x) (wipe' σ vs) Gx fun σ2 G2 => te σ2 G2 fun y G4 => G4 = Gx ∧ h x = y)
    (hq : Q (.lst (l.map h)) G1) : lcBody false (l.map f) g tYes' te vs σ G1 Q := lc_map hf l h (fun R r => r) hl hb hq
theorem lcb_filter {α : Type} {f : α → D} (hf : ∀ x y, f x = f y → x = y) (l : List α) (c : α → Bool) (h : α → D) {g : TG'} {tt : TT'} {te : TE'} {vs : List Nat} {σ : St'} {G1 : GH} {Q : QE} (hl : l.length ≤ sizeLine)
    (hb : ∀ x ∈ l, ∀ Gx, (∀ a g, G1 a = some g → Gx a = some g) → g (f x) (wipe' σ vs) Gx fun σ2 G2 => tt σ2 G2 fun b G3 => if b = true then te σ2 G3 fun y G4 => G4 = Gx ∧ (if c x = true then some (h x) else none) = some y else G3 = Gx ∧ (if c x = true then some (h x) else none) = none)
    (hq : Q (.lst ((l.filter c).map h)) G1) : lcBody false (l.map f) g tt te vs σ G1 Q := lc_filter hf l c h (fun R r => r) hl hb hq
/-- a loop over things that are made of l -/
theorem for_at {α : Type} {f : α → D} (l : List α) (W : Nat → St' → GH → Prop) {ti : TI'} {g : TG'} {tb : TS'} {E : Ends'} {σ : St'} {G G1 : GH}
    (hi : ∀ R : List D → GH → Prop, R (l.map f) G1 → ti σ G R) (w0 : W 0 σ G1)
    (turn : ∀ i x σ G, l[i]? = some x → W i σ G → g (f x) σ G fun σ2 G2 => tb { E with nx := W (i + 1), ct := W (i + 1), bk := E.nx } σ2 G2)
    (fin : ∀ σ G, W l.length σ G → E.nx σ G) : tFor' ti g tb E σ G := by
  refine hi _ ⟨W, w0, fun i x σ G e w => ?_, fun σ G w => fin σ G (by rw [List.length_map] at w; exact w)⟩
  rw [List.getElem?_map] at e
  cases q : l[i]? with
  | none => rw [q] at e; cases e
  | some y =>
    rw [q] at e
    cases (show some (f y) = some x from e)
    exact turn i y σ G q w
/-! ### == -/
theorem rEq_i {p : Pm} {neg : Bool} {x y : D} {G : GH} {Q : QE} (h1 : Dok 8 (deref G x)) (h2 : Dok 8 (deref G y)) (q : Q (.bl (neg ^^ eqD p (deref G x) (deref G y))) G) : rEq' p neg x y G Q := ⟨⟨8, by omega, h1, h2⟩, q⟩
theorem rEq_iff {p : Pm} {neg : Bool} {x y : D} {G : GH} {Q : QE} (h1 : Dok 8 (deref G x)) (h2 : Dok 8 (deref G y)) : rEq' p neg x y G Q = Q (.bl (neg ^^ eqD p (deref G x) (deref G y))) G :=
  propext ⟨fun h => h.2, rEq_i h1 h2⟩
@[simp] theorem dok_ints {n : Nat} {xs : List Int} : Dok (n + 1) (.lst (xs.map D.int)) := by simp
@[simp] theorem dok_intst {n : Nat} {xs : List Int} : Dok (n + 1) (.tup (xs.map D.int)) := by simp
@[simp] theorem rEq_int {p : Pm} {neg : Bool} {i j : Int} {G : GH} {Q : QE} : rEq' p neg (.int i) (.int j) G Q = Q (.bl (neg ^^ decide (i = j))) G := by
  rw [rEq_iff (by simp [deref]) (by simp [deref])]; simp [deref]
@[simp] theorem rEq_bl {p : Pm} {neg : Bool} {i j : Bool} {G : GH} {Q : QE} : rEq' p neg (.bl i) (.bl j) G Q = Q (.bl (neg ^^ decide (i = j))) G := by
  rw [rEq_iff (by simp [deref]) (by simp [deref])]; simp [deref]
@[simp] theorem rEq_tups {p : Pm} {neg : Bool} {i j : List Int} {G : GH} {Q : QE} : rEq' p neg (.tup (i.map D.int)) (.tup (j.map D.int)) G Q = Q (.bl (neg ^^ decide (i = j))) G := by
  rw [rEq_iff dok_intst dok_intst]; simp [deref]
@[simp] theorem rEq_lsts {p : Pm} {neg : Bool} {i j : List Int} {G : GH} {Q : QE} : rEq' p neg (.lst (i.map D.int)) (.lst (j.map D.int)) G Q = Q (.bl (neg ^^ decide (i = j))) G := by
  rw [rEq_iff dok_ints dok_ints]; simp [deref]
theorem eqD_nil_l {p : Pm} {xs : List D} : eqD p (.lst xs) (.lst []) = xs.isEmpty := by cases xs <;> rfl
theorem eqD_nil_t {p : Pm} {xs : List D} : eqD p (.tup xs) (.tup []) = xs.isEmpty := by cases xs <;> rfl
@[simp] theorem dok_nil {n : Nat} : Dok (n + 1) (.lst []) := by simp
@[simp] theorem dok_nilt {n : Nat} : Dok (n + 1) (.tup []) := by simp
@[simp] theorem rEq_tup0 {p : Pm} {neg : Bool} {i : List Int} {G : GH} {Q : QE} : rEq' p neg (.tup (i.map D.int)) (.tup []) G Q = Q (.bl (neg ^^ i.isEmpty)) G := by
  rw [rEq_iff dok_intst dok_nilt]; simp [deref, eqD_nil_t]
@[simp] theorem rEq_lst0 {p : Pm} {neg : Bool} {i : List Int} {G : GH} {Q : QE} : rEq' p neg (.lst (i.map D.int)) (.lst []) G Q = Q (.bl (neg ^^ i.isEmpty)) G := by
  rw [rEq_iff dok_ints dok_nil]; simp [deref, eqD_nil_l]
/-- the script is [] -/
@[simp] theorem rEq_scr0 {p : Pm} {neg : Bool} {G : GH} {Q : QE} : rEq' p neg .scr (.lst []) G Q = Q (.bl (neg ^^ p.ns.isEmpty)) G := by
  rw [rEq_iff (by simp [deref]) (by simp [deref])]
  have : eqD p .scr (.lst []) = p.ns.isEmpty := by
    unfold eqD
    show PyData.eqvAll _ _ = _
    cases p.ns <;> rfl
  simp only [deref, this]
/-! ### in, sum -/
@[simp] theorem rIn_tup {p : Pm} {neg : Bool} {k : Int} {ns : List Int} {G : GH} {Q : QE} : rIn' p neg (.int k) (.tup (ns.map D.int)) G Q = Q (.bl (neg ^^ decide (k ∈ ns))) G := by
  refine propext ⟨fun ⟨j, ms, e, e2, q⟩ => ?_, fun q => ⟨k, ns, rfl, rfl, q⟩⟩
  cases e
  rw [ints_inj (Option.some.inj e2)]; exact q
@[simp] theorem rIn_lst {p : Pm} {neg : Bool} {k : Int} {ns : List Int} {G : GH} {Q : QE} : rIn' p neg (.int k) (.lst (ns.map D.int)) G Q = Q (.bl (neg ^^ decide (k ∈ ns))) G := by
  refine propext ⟨fun ⟨j, ms, e, e2, q⟩ => ?_, fun q => ⟨k, ns, rfl, rfl, q⟩⟩
  cases e
  rw [ints_inj (Option.some.inj e2)]; exact q
@[simp] theorem rIx_gup {α : Type} {p : Pm} {f : α → D} {a : Addr} {xs : List α} {i : Int} {G : GH} {Q : QE} : rIx' p (.ref a) (.int i) (gup G a (.lst (xs.map f))) Q = ∃ d, atI xs i = some d ∧ Q (f d) (gup G a (.lst (xs.map f))) := by
  rw [rIx_ref gup_same, atI_map, ex_map]
theorem ixN_nn {n : Nat} {i : Int} (h : 0 ≤ i) (h2 : i < n) : ixN n i = some i.toNat := by
  unfold ixN
  rw [if_pos h, if_pos h2]
theorem atI_last {α : Type} (xs : List α) (h : xs ≠ []) : atI xs (-1) = some (xs.getLast h) := by
  have hl := List.length_pos_iff.mpr h
  unfold atI ixN
  rw [if_neg (by omega), if_pos (by omega)]
  have : ((-1 : Int) + (xs.length : Int)).toNat = xs.length - 1 := by omega
  have h2 : xs[xs.length - 1]? = some (xs.getLast h) := by
    rw [List.getLast_eq_getElem]
    exact List.getElem?_eq_getElem _
  first
    | (show xs[((-1 : Int) + (xs.length : Int)).toNat]? = _; rw [this]; exact h2)
    | (show xs[((xs.length : Int) + (-1 : Int)).toNat]? = _; rw [Int.add_comm, this]; exact h2)
theorem atI_head {α : Type} (x : α) (xs : List α) : atI (x :: xs) 0 = some x := by rw [atI_nn _ _ (by omega) (by simp only [List.length_cons]; omega)]; rfl
/-! ### pairs -/
def pairD (q : Int × Int) : D := .tup [.int q.1, .int q.2]
theorem int_inj : ∀ x y : Int, D.int x = D.int y → x = y := fun _ _ h => by cases h; rfl
@[simp] theorem ix_pair0 {p : Pm} {q : Int × Int} {G : GH} {Q : QE} : rIx' p (pairD q) (.int 0) G Q = Q (.int q.1) G := by
  unfold pairD; rw [rIx_tup, show atI [D.int q.1, .int q.2] 0 = some (.int q.1) from rfl]; simp
@[simp] theorem ix_pair1 {p : Pm} {q : Int × Int} {G : GH} {Q : QE} : rIx' p (pairD q) (.int 1) G Q = Q (.int q.2) G := by
  unfold pairD; rw [rIx_tup, show atI [D.int q.1, .int q.2] 1 = some (.int q.2) from rfl]; simp
theorem pair_inj : ∀ x y : Int × Int, pairD x = pairD y → x = y := fun ⟨_, _⟩ ⟨_, _⟩ h => by cases h; rfl
theorem eqD_pair {p : Pm} (x y : Int × Int) : eqD p (pairD x) (pairD y) = true ↔ x = y := by
  obtain ⟨a, b⟩ := x
  obtain ⟨c, d⟩ := y
  have : eqD p (pairD (a, b)) (pairD (c, d)) = decide ([a, b] = [c, d]) := eqD_tups (xs := [a, b]) (ys := [c, d])
  rw [this, decide_eq_true_eq]
  simp
@[simp] theorem dok_pair {n : Nat} {x : Int × Int} : Dok (n + 1) (pairD x) := by simp [pairD]
@[simp] theorem dok_pairs {n : Nat} {xs : List (Int × Int)} : Dok (n + 1 + 1) (.lst (xs.map pairD)) := fun d hd => by
  obtain ⟨x, _, rfl⟩ := List.mem_map.mp hd
  exact dok_pair
@[simp] theorem rEq_pairs {p : Pm} {neg : Bool} {i j : List (Int × Int)} {G : GH} {Q : QE} : rEq' p neg (.lst (i.map pairD)) (.lst (j.map pairD)) G Q = Q (.bl (neg ^^ decide (i = j))) G := by
  rw [rEq_iff dok_pairs dok_pairs]
  simp only [deref]
  rw [eqD_map pairD eqD_pair]
@[simp] theorem rEq_pairs0 {p : Pm} {neg : Bool} {i : List (Int × Int)} {G : GH} {Q : QE} : rEq' p neg (.lst (i.map pairD)) (.lst []) G Q = Q (.bl (neg ^^ i.isEmpty)) G := by
  rw [rEq_iff dok_pairs dok_nil]; simp [deref, eqD_nil_l]
/-- the law tells True -/
def sp_law (p : Pm) : Sp' := spLaw
end DL

set_option maxHeartbeats 2000000
/-! DLLam: a lambda handed to a def that calls it within a try; the suite calls a def on the exception. -/
namespace DL
open PySem PySem.Spec PyProof.Rows L2
/-! ### the lambda's body where exceptions have no context -/
abbrev xeN (X : Cx) (A : Around) (outer : List Env) (s : Shared) (H : Hp) (E : XK) (scope : Scope) (f c' : Addr) : Value → Shared → Prop :=
  fun e s' => wpAny (model X.prog X.w) (A.deeper (LamX.lamEnv X scope s.heap.objs.size f c')) (leaving (LamX.lamEnv X scope s.heap.objs.size f c') e) (fun _ s2 => L2N.CX X.prog X.w outer H s E e s2) (fun e2 s2 => L2N.CX X.prog X.w outer H s E e2 s2) s'
abbrev lamN (X : Cx) (A : Around) (outer : List Env) (s : Shared) (H : Hp) (E : XK) (scope : Scope) (f c' : Addr) : Cx := (LamX.lamCx X A outer s H E scope f c').tr [] (xeN X A outer s H E scope f c')
theorem takes_lamN {X : Cx} {A : Around} {outer : List Env} {s : Shared} {H : Hp} {E : XK} {scope : Scope} {f c' : Addr} : L2N.Takes (lamN X A outer s H E scope f c') (fun cls d _ H => E cls d H) := L2N.takes_of (X := lamN X A outer s H E scope f c') rfl rfl rfl rfl
abbrev lamObj (X : Cx) (params : Arguments) (body : Expr) (scope : Scope) (pm ctv : Value) (c' : Addr) : Obj := PySem.W.kla_obj "<lambda>" (X.env.qual ++ "<lambda>") params body scope (cloFrom X.env.cells scope.names []) pm c' ctv
/-- the slots' number is known of what is in the air -/
theorem takes_len {Z : Cx} {W : WX} (tk : L2N.Takes Z W) : L2N.Takes Z (fun cls d σ H => σ.length = Z.N.length → W cls d σ H) := fun u s' ⟨a, B, sI, pins, σ, H, cls, d, e1, I, e2, e3, e4, e5, e6, e7, w⟩ => tk u s' ⟨a, B, sI, pins, σ, H, cls, d, e1, I, e2, e3, e4, e5, e6, e7, w I.len⟩
section
variable {X : Cx} {pins : List (Addr × Obj)} {σ : L2.St} {H HZ : Hp} {s s1 : Shared}
/-- a() in the def Z that got the lambda -/
theorem actN {CXg : CXT} {Eg : XK} {Ng : List Str} {qg : Str} {sg : Scope} {g f c' : Addr} {cdg pm ctv : Value} {params : Arguments} {body : Expr} {scope : Scope} {k i : Nat} {a : Str} {pn : List (Addr × Obj)} {xe : Value → Shared → Prop} {W : WX} {E : XK} {tb : TE} {p1 p2 : Pos} {Z : Cx}
    (hZ : Z = (cxOf CXg X.prog X.w X.K X.mg X.base Ng qg sg g cdg X.A X.stack s H Eg).tr pn xe) (I : Inv X pins σ H s) (L : LamX.LamS X.env.scope scope) (hf : s.heap.get? f = some (lamObj X params body scope pm ctv c')) (hfn : H f = none) (hfr : f ∉ frs X.stack)
    (bd : bindArgs (PySem.W.kla_fn "<lambda>" (X.env.qual ++ "<lambda>") params body scope (cloFrom X.env.cells scope.names []) pm (.ref c') ctv) ⟨[], []⟩ = pure []) (tk : L2N.Takes Z W) (hW : ∀ cls d (σ' : L2.St) H', σ'.length = Ng.length → E cls d H' → W cls d σ' H') (room : Room (k + 1) (X.A.deeper (envOfC qg sg s.heap.objs.size g cdg)))
    (hbody : ∀ (A : Around) (outer : List Env) (s : Shared) (H : Hp), Room k (A.deeper (LamX.lamEnv X scope s.heap.objs.size f c')) → PE (lamN X A outer s H E scope f c') body tb)
    (hN : Ng[i]? = some a) (hv : Vis sg a) (hd : (a == ("__debug__" : Str)) = false) (hcd : (a == ("__classdict__" : Str)) = false) :
    PE Z (.Call (.Name a p1) [] [] p2) (fun σZ HZ Q => σZ[i]? = some (some (.ref f)) ∧ HZ c' = some (LamX.CodeO c' (X.env.qual ++ "<lambda>")) ∧ tb σ HZ Q) := ⟨fun pinsZ sZ σZ HZ Q IZ ⟨hs, hc, ht⟩ => by
  subst hZ
  refine wpAny_Call_Name_kw (thn ((pe_var (pos := p1) (i := i) hN hv hd hcd).run pinsZ sZ σZ HZ (fun v H1 => v = .ref f ∧ H1 = HZ) IZ ⟨.ref f, hs, rfl, rfl⟩) fun u s1 ⟨v, H1, J, rv, ev, eH⟩ => ?_)
  subst ev
  rw [eH] at J
  cases (show u = Value.ref f from rv)
  have of1 : s1.heap.get? f = some (lamObj X params body scope pm ctv c') := J.base.keep f _ hf hfn hfr (fun z => nomatch (show f ∈ ([] : List Addr) from z))
  have un : Un (frs X.stack) [] H HZ s.heap s1.heap := J.base
  obtain ⟨⟨oc, vs, t, hoc, hdc, hvc⟩, _⟩ := J.hok c' _ hc
  refine PySem.W.callWith_F0 ⟨_, _, _, _, of1⟩ ?_
  have run : codeAny (model X.prog X.w) (X.A.deeper (envOfC qg sg s.heap.objs.size g cdg)) (.call (.ref f) ⟨[], []⟩) (CR (L2N.CX X.prog X.w) (envOfC qg sg s.heap.objs.size g cdg :: X.stack) X.prog X.w HZ s1 Q E) s1 := by
    refine PySem.W.kla_callFunE room.depth of1 rfl L.co L.gen rfl ⟨c', oc, vs, t, rfl, hoc, hdc, hvc⟩ ?_
    rw [bd]
    refine wpAny_pure (wpAny_newFunctionEnv (fun y hy => (L.own y hy).2) (fun y hy => absurd hy (by simp)) (fun h₁ hns hsb => ⟨J.nolimit.fresh _ hsb, ?_⟩) L.kind)
    have kp : ∀ b o, s1.heap.get? b = some o → h₁.get? b = some o := fun b o e => hsb.extBut b o (Nat.ne_of_lt (Heap.lt_size e)) (Heap.get?_push_of_some _ e)
    have J2 := (LamX.lam_start2 (E := E) (f := f) (c' := c') (tk := s1.toks + ([] : List (Str × Value)).length) I L J.env0 room.hd un hns kp).toTry (xeN X (X.A.deeper (envOfC qg sg s.heap.objs.size g cdg)) (envOfC qg sg s.heap.objs.size g cdg :: X.stack) s1 HZ E scope f c')
    refine PySem.W.kla_codeExpr (wpAny_mono ((hbody _ _ s1 HZ (room.deeper _)).run [] _ _ HZ Q J2 ht) (fun v s' hq => ?_) fun e s' hq => hq)
    obtain ⟨w', H', J', rv, q⟩ := hq
    exact ⟨w', H', J'.os, J'.bare, J'.base, J'.hok, rv, q⟩
  refine wpAny_call (codeAny_mono run fun r s' hq => ?_)
  match r, hq with
  | .error e, hq => exact L2N.passes_call (E := E) (takes_len tk) (fun cls d σ H h hl => hW cls d σ H hl h) pinsZ σZ HZ s1 e s' J hq
  | .ok (.ret u), hq => exact J.after hq
  | .ok .next, hq => exact (show False from hq).elim
  | .ok .brk, hq => exact (show False from hq).elim
  | .ok .cont, hq => exact (show False from hq).elim⟩
end
/-! ### a def called on the exception that the suite holds: its class told -/
structure FnZ (P : Program) (w : World) (K : PySem.W.Frag) (mg : Str → Option Value) (base : Heap) (k : Nat) (f : Addr) (fd : FuncData) (ps : List Str) (Z : Addr → Obj → Prop) (sp : Sp) : Prop where
  len : ∀ vs H Q E, sp vs H Q E → vs.length = ps.length
  run : ∀ (A : Around) (outer : List Env) (s : Shared) (H : Hp) (args : Args) (us : List Value) (vs : List V) (Q : VK) (E : XK) (q : Addr × Obj), L2H.RoomH k A → L2H.Hot1 A q → Z q.1 q.2 → L2H.PinOk outer H s q → Env0 P w K mg base A outer s H → BindsTo s fd args (ps.zip us) → Vals vs us → sp vs H Q E →
    codeAny (model P w) A (.call (.ref f) args) (CR C8.CX0 outer P w H s Q E) s
theorem fnZ_of {P : Program} {w : World} {K : PySem.W.Frag} {mg : Str → Option Value} {base : Heap} {k : Nat} {x qual : Str} {st : Stmt} {f : Addr} {fd : FuncData} {N ps : List Str} {Z : Addr → Obj → Prop} {sp : Sp} (F : Fun K x qual st f fd) (S : FnScope N ps (defScope st)) (len : ∀ vs H Q E, sp vs H Q E → vs.length = ps.length)
    (hbody : ∀ (cdv : Value) (A : Around) (outer : List Env) (s : Shared) (H : Hp) (vs : List V) (Q : VK) (E : XK) (q : Addr × Obj), L2H.Hot1 A q → Z q.1 q.2 → L2H.RoomH k (A.deeper (envOfC qual (defScope st) s.heap.objs.size f cdv)) → sp vs H Q E →
      ∃ t, PSs (L2H.cxH C8.CX0 P w K mg base N qual (defScope st) f cdv A outer s H E q) (defBody st) t ∧ t { nx := fun _ H' => Q .non H', rt := Q } (L2.start N vs) H) : FnZ P w K mg base (k + 1) f fd ps Z sp := by
  obtain ⟨oc, od, kV, doc, pm, an, cdv, ct, osl, rfl, lk, hcd⟩ := F.ex
  refine ⟨len, fun A outer s H args us vs Q E q room hot hz pin e0 bd rv hsp => ?_⟩
  have hl := len _ _ _ _ hsp
  have KX : K.In s.heap := e0.mod.kin.keeps fun b o e => (e0.bs b o e).1
  have kinds : ∀ y ∈ ps.zip us, (defScope st).names.lookup y.1 = some .local ∨ ((defScope st).names.lookup y.1 = some .cell ∧ ((cellsFrom (s.heap.objs.size + 1) (defScope st).names []).lookup y.1).isSome = true) := fun y hy =>
    (S.par y.1 (List.of_mem_zip (a := y.1) (b := y.2) hy).1).elim .inl fun z => .inr ⟨z, PySem.W.cellsFrom_some _ _ _ (.inl z)⟩
  refine codeAny_call_function room.depth (KX _ _ lk) rfl S.co S.gen rfl (PySem.W.codeRec_of KX hcd) (bd _ _ _ _ ?_)
  refine wpAny_newFunctionEnv_cells S.kind kinds fun env he s1 xx => ?_
  subst he
  obtain ⟨t, ht, hq⟩ := hbody cdv A outer s H vs Q E q hot hz (room.deeper _) hsp
  refine ⟨(e0.mod.nolimit.keeps fun b o e => (e0.bs b o e).1).keeps xx.toInCall.keep, codeAny_func (wpAny_mono (ht.run [] s1 (L2.start N vs) H _ (L2H.inv_startH S pin e0 hl rv xx) hq) (fun fl s' hs => ?_) fun e s' hs => hs)⟩
  match fl, hs with
  | .ret u, ⟨v, σ', H', J, r1, q1⟩ => exact ⟨v, H', J.os, J.bare, J.base, J.hok, r1, q1⟩
  | .next, ⟨σ', H', J, q1⟩ => exact ⟨V.non, H', J.os, J.bare, J.base, J.hok, rfl, q1⟩
  | .brk, ⟨_, _, _, q1⟩ => exact (show False from q1).elim
  | .cont, ⟨_, _, _, q1⟩ => exact (show False from q1).elim
section
variable {X : Cx} {k : Nat} {f : Addr} {fd : FuncData} {ps : List Str} {sp : Sp} {Z : Addr → Obj → Prop} {x : Str} {pp pos : Pos} {e : Expr} {es : List Expr} {t : TA}
theorem pe_callZ (F : FnZ X.prog X.w X.K X.mg X.base k f fd ps Z sp) (room : L2H.RoomH k X.A) {q : Addr × Obj} (hot : L2H.Hot1 X.A q) (hq : q ∈ X.pn) (hz : Z q.1 q.2) (hg : Gl X x) (hm : X.mg x = some (.ref f)) (hk : PySem.W.keepIn X.K (.ref f) = true) (hb : Binds X.K fd ps []) (ha : PA X (e :: es) t) (hdb : (x == ("__debug__" : Str)) = false := by decide)
    (h1 : starEach (e :: es) X.env = (false, eval e X.env) :: starEach es X.env := by rfl) (h2 : (backTo pos (starEach es X.env)).any (·.1) = false := by rfl) :
    PE X (.Call (.Name x pp) (e :: es) [] pos) (tCallS sp (fun _ _ _ _ => False) t) := ⟨fun pins s σ H Q I h =>
  wpAny_Call_Name_kw (ld_glob I hg hm (PySem.W.callWith_K (h₀ := X.base) I.ok.mod.kin hk (thn (ha.run pos pins s σ H _ I h) fun us s1 ⟨vs, H1, J, rv, q1⟩ => ⟨J.kIn, by
    have hl : us.length = ps.length := by rw [← rv.length]; exact F.len _ _ _ _ q1
    have b := hb s1 us J.kIn (by rw [List.append_nil]; exact hl)
    rw [List.append_nil] at b
    have P1 := J.pin q (List.mem_append_left _ hq)
    have pin : L2H.PinOk X.stack H1 s1 q := ⟨P1.1, P1.2.1, fun hm => (List.mem_cons.mp (J.stkSub q.1 hm)).elim P1.2.2.1 P1.2.2.2.1, P1.2.2.2.2⟩
    refine wpAny_call (codeAny_mono (F.run X.A X.stack s1 H1 ⟨us, []⟩ us vs Q _ q room hot hz pin J.env0 b rv q1) fun r s' hr => ?_)
    match r, hr with
    | .error e, hr => exact (show False from hr).elim
    | .ok (.ret u), hr => exact J.after hr
    | .ok .next, hr => exact (show False from hr).elim
    | .ok .brk, hr => exact (show False from hr).elim
    | .ok .cont, hr => exact (show False from hr).elim⟩) h1 h2) hdb)⟩
end
/-! ### isinstance(e, c) of an exception that is pinned -/
theorem call_isP {X : Cx} {a D : Addr} {oe : Obj} (C : ExcC X.K D) (hz : Zc (.ref D) none oe) (hf : ∃ vs, oe.data = .fields vs) (hp : (a, oe) ∈ X.pn) : CallR X (.builtin "isinstance") (rIsE X.K D a) := fun pins s σ H xs us Q I r ⟨c, cv, b, hx, hcv, e, q⟩ => by
  subst hx
  match us, r with
  | _ :: _ :: _, .cons rx (.cons rt .nil) =>
    cases (show _ = Value.ref a from rx)
    cases hcv _ rt
    obtain ⟨hget, _⟩ := I.pin (a, oe) (List.mem_append_left _ hp)
    obtain ⟨vs, hv⟩ := hf
    have J : PySem.W.InstAt s.heap a oe D none := by
      cases oe with
      | mk oc od oda osl =>
        cases (show oc = _ from hz.1)
        cases (show od = _ from hz.2)
        cases (show oda = _ from hv)
        exact ⟨hget, rfl, rfl, trivial⟩
    exact PySem.W.kia_one (PySem.W.handS_kitx_exc C.hg C.hk C.hs C.hd C.ha C.hn C.ht C.hm) I.kIn J e (fun z => nomatch z) fun tk => ⟨.bl b, H, I.kept (t' := tk) fun _ _ z => z, rfl, q⟩
/-! ### x(lambda: body), x: try: return a() / except Y as n: return nm(n) -/
theorem gives_told {X : Cx} {Ng : List Str} {x a y n nm q : Str} {sg : Scope} {g CS : Addr} {cdg : Value} {k : Nat} {fn : Addr} {fdn : FuncData} {psn : List Str} {spn : Addr → Value → Sp} {p1 p2 p3 p4 p5 p6 p7 p8 p9 p10 : Pos} (hN2 : Ng.Nodup) (hNa : Ng[0]? = some a) (hNn : Ng[1]? = some n) (hva : Vis sg a) (hvn : sg.names.lookup n = some .local) (hl : Ng.length = 2)
    (hge : sg.names.lookup y = some .globalImplicit) (hme : X.mg y = some (.ref CS)) (hde : (y == ("__debug__" : Str)) = false) (hgn : sg.names.lookup nm = some .globalImplicit) (hmn : X.mg nm = some (.ref fn)) (hdn : (nm == ("__debug__" : Str)) = false) (hdn1 : (n == ("__debug__" : Str)) = false) (hdn2 : (n == ("__classdict__" : Str)) = false)
    (hkn : PySem.W.keepIn X.K (.ref fn) = true) (hbn : Binds X.K fdn psn []) (F : ∀ (a : Addr) (cls : Value), FnZ X.prog X.w X.K X.mg X.base k fn fdn psn (fun b o => b = a ∧ Zc cls none o ∧ ∃ vs, o.data = .fields vs) (spn a cls))
    (f c' : Addr) (s : Shared) (H : Hp) (Q : VK) (tl : XK → Hp → VK → Prop) (room : L2H.RoomH k ((X.A.deeper (envOfC x sg s.heap.objs.size g cdg))))
    (act : ∀ (W : WX) (pn : List (Addr × Obj)) (xe : Value → Shared → Prop) (E : XK) (p1 p2 : Pos), L2N.Takes ((cxOf C8.CX0 X.prog X.w X.K X.mg X.base Ng x sg g cdg X.A X.stack s H C8.E0).nox.tr pn xe) W → (∀ cls d (σ' : L2.St) H', σ'.length = Ng.length → E cls d H' → W cls d σ' H') →
      PE ((cxOf C8.CX0 X.prog X.w X.K X.mg X.base Ng x sg g cdg X.A X.stack s H C8.E0).nox.tr pn xe) (.Call (.Name a p1) [] [] p2) (fun σZ HZ Q => σZ[0]? = some (some (.ref f)) ∧ HZ c' = some (LamX.CodeO c' q) ∧ tl E HZ Q))
    (hc : H c' = some (LamX.CodeO c' q))
    (h : tl (fun cls d H' => d = none ∧ PySem.W.exmOne X.K cls (.ref CS) = some true ∧ ∀ b, H' b = none → spn b cls [.ref b] H' Q (fun _ _ _ => False)) H Q) :
    ∃ t, PSs (cxOf C8.CX0 X.prog X.w X.K X.mg X.base Ng x sg g cdg X.A X.stack s H C8.E0).nox [.Try [.Return (some (.Call (.Name a p1) [] [] p2)) p3] [.ExceptHandler (some (.Name y p4)) (some n) [.Return (some (.Call (.Name nm p5) [.Name n p6] [] p7)) p8] p9] [] [] p10] t ∧ t { nx := fun _ H' => Q .non H', rt := Q } (L2.start Ng [.ref f]) H := by
  generalize hZ : (cxOf C8.CX0 X.prog X.w X.K X.mg X.base Ng x sg g cdg X.A X.stack s H C8.E0).nox = Z at act
  have hgl : Gl Z y := by subst hZ; exact hge
  have eK : Z.K = X.K := by subst hZ; rfl
  refine ⟨_, pss_one (L2N.ps_try_as (X := Z) (c := .ref CS) (i := 1)
      (tb := fun W D σ H => ∃ Ech : XK, (∀ cls d (σ' : L2.St) H', σ'.length = Ng.length → Ech cls d H' → W cls d σ' H') ∧ σ[0]? = some (some (.ref f)) ∧ H c' = some (LamX.CodeO c' q) ∧ tl Ech H D.rt)
      (ts := fun b cls d D σ H => d = none ∧ σ[1]? = some (some (.ref b)) ∧ spn b cls [.ref b] H D.rt (fun _ _ _ => False))
      (by subst hZ; rfl) (by subst hZ; rfl) (by subst hZ; exact hN2) (by subst hZ; exact hNn) (by subst hZ; exact hvn) ⟨hgl, hde, .inl (by subst hZ; exact hme)⟩ (Wout := fun _ _ _ _ => False) (fun _ _ z => by
        obtain ⟨_, _, _, _, _, _, _, _, _, _, _, _, _, _, _, _, z⟩ := z
        exact z.elim) (fun W pn xe tk _ => ?_) fun b oe cls d pn hz hf => ?_), ?_⟩
  · exact ⟨fun pins s' σ H' D I ⟨Ech, hW, h1, h2, h3⟩ => (pss_one (ps_ret (pos := p3) (act W pn xe Ech p1 p2 tk hW))).run pins s' σ H' D I ⟨h1, h2, h3⟩⟩
  · refine ⟨fun pins s' σ H' D I ⟨hd, h1, h2⟩ => ?_⟩
    subst hd
    obtain ⟨vs, hv⟩ := hf
    have FF : FnZ (Z.suite b ((b, oe) :: pn)).prog (Z.suite b ((b, oe) :: pn)).w (Z.suite b ((b, oe) :: pn)).K (Z.suite b ((b, oe) :: pn)).mg (Z.suite b ((b, oe) :: pn)).base k fn fdn psn (fun b' o => b' = b ∧ Zc cls none o ∧ ∃ vs, o.data = .fields vs) (spn b cls) := by subst hZ; exact F b cls
    have cal := pe_callZ (X := Z.suite b ((b, oe) :: pn)) (pp := p5) (pos := p7) (es := []) FF (by subst hZ; exact ⟨room.dp, room.un⟩) (q := (b, oe)) ⟨rfl, vs, hv, hz.2.2 vs hv⟩ List.mem_cons_self ⟨rfl, hz.zc, vs, hv⟩ (by subst hZ; exact hgn) (by subst hZ; exact hmn) (by subst hZ; exact hkn) (by subst hZ; exact hbn)
      (pa_cons (pe_var (pos := p6) (i := 1) (by subst hZ; exact hNn) (by subst hZ; exact .inl hvn) hdn1 hdn2) pa_nil) hdn
    exact (pss_one (ps_ret (pos := p8) cal)).run pins s' σ H' D I ⟨.ref b, h1, h2⟩
  · refine ⟨_, fun cls d σ' H' hs z => ?_, by unfold L2.start; rfl, hc, h⟩
    obtain ⟨rfl, z1, z2⟩ := z
    exact ⟨true, by rw [eK]; exact z1, fun _ b hb => ⟨rfl, by rw [List.getElem?_set_self (by omega)], z2 b hb⟩, fun z => nomatch z⟩
end DL

/-! DLTold: what a deed tells, or how it is refused: told(lambda: ..). -/
namespace DL
open PySem PySem.Spec PyProof.Rows L2
/-! ### list.count of truth values -/
def rCntB (K : PySem.W.Frag) : V → List V → Hp → VK → Prop := fun x xs H Q => ∃ (q : Addr) (bs : List Bool) (b : Bool), x = .ref q ∧ xs = [.bl b] ∧ SqL K H q (bs.map V.bl) ∧ Q (.int (bs.countP fun y => decide (y = b) : Nat)) H
theorem reads_bools {h : Heap} : ∀ {bs : List Bool} {its : List Value}, Vals (bs.map V.bl) its → ∃ as, ReadsAll h its (bs.map PyData.bool) as
  | [], _, r => by cases r; exact ⟨_, .nil⟩
  | b :: bs, u :: us, r => by
    cases r with
    | cons r rr =>
      cases (show u = Value.bool b from r)
      obtain ⟨as, z⟩ := reads_bools (h := h) rr
      exact ⟨_, .cons (.bool b) z⟩
theorem plain_bools : ∀ bs : List Bool, PyData.plainAll (bs.map PyData.bool) = true
  | [] => rfl
  | b :: bs => plain_bools bs
theorem depth_bools : ∀ bs : List Bool, PyData.depthAll (bs.map PyData.bool) = 0
  | [] => rfl
  | b :: bs => by
    show max 0 (PyData.depthAll (bs.map PyData.bool)) = 0
    rw [depth_bools bs]; rfl
theorem mt_countB {X : Cx} (hu : X.A.units + 1 < cLine) : MtR X "list.count" (rCntB X.K) := fun pins s σ H x xs v us Q I rx rxs ⟨q, bs, b, e1, e2, hs, hq⟩ => by
  subst e1 e2
  cases (show v = Value.ref q from rx)
  obtain ⟨u, rfl, ru⟩ := rxs.one
  cases (show u = Value.bool b from ru)
  obtain ⟨its, rv, pl, hlen⟩ := I.list hs
  obtain ⟨as, rs⟩ := reads_bools (h := s.heap) rv
  refine SeqAt.count_list_data pl.isList (by simpa using rs) (.bool b) (plain_bools bs) rfl (by rw [depth_bools]; simpa using hu) ⟨.int _, H, I.tok _, ⟨s.toks, ?_⟩, hq⟩
  rw [List.countP_map]
  have : ((fun y => PyData.eqv y (PyData.bool b)) ∘ PyData.bool) = fun y => decide (y = b) := by
    funext y
    cases y <;> cases b <;> rfl
  rw [this]
/-! ### the refusals' classes -/
def exName : Ex → Str
  | .row => "no row"
  | .gate => "no gate"
  | .period => "no period"
  | .text => "no text"
  | .back => "no back"
def exCls : Ex → Str
  | .row => "NoRow"
  | .gate => "NoGate"
  | .period => "NoPeriod"
  | .text => "NoText"
  | .back => "NoBack"
structure ExcsF (K : PySem.W.Frag) (mg : Str → Option Value) (p : Pm) (CS : Addr) : Prop where
  gl : ∀ x, mg (exCls x) = some (.ref (p.xa x))
  isc : ∀ x, ExcC K (p.xa x)
  kit : ∀ x y, PySem.W.kitOne K (.ref (p.xa x)) (.ref (p.xa y)) = some (decide (x = y))
  ve : ∀ x, PySem.W.kitOne K (.ref (p.xa x)) (.type "ValueError") = some true
  base : mg "BeatError" = some (.ref CS)
  exm : ∀ x, PySem.W.exmOne K (.ref (p.xa x)) (.ref CS) = some true
/-- isinstance(kept, class of y) -/
def tIsx (K : PySem.W.Frag) (p : Pm) (D a : Addr) (y : Ex) : TE := tCB (rIsE K D a) (tCons (tVar 0) (tCons (tC (.ref (p.xa y))) tNil))
theorem pe_isx {X : Cx} {p : Pm} {CS a : Addr} {x : Ex} {oe : Obj} {y : Ex} {kept : Str} {p1 p2 p3 pos : Pos} (E : ExcsF X.K X.mg p CS) (hz : Zc (.ref (p.xa x)) none oe) (hf : ∃ vs, oe.data = .fields vs) (hp : (a, oe) ∈ X.pn) (mi : X.mg "isinstance" = none) (gi : Gl X "isinstance") (hk : PE X (.Name kept p1) (tVar 0)) (gc : Gl X (exCls y)) (hdb : (exCls y == ("__debug__" : Str)) = false)
    (h1 : starEach [.Name kept p1, .Name (exCls y) p2] X.env = (false, eval (.Name kept p1) X.env) :: starEach [.Name (exCls y) p2] X.env := by rfl) (h2 : starEach [.Name (exCls y) p2] X.env = (false, eval (.Name (exCls y) p2) X.env) :: starEach [] X.env := by rfl)
    (h3 : (backTo pos (starEach [.Name (exCls y) p2] X.env)).any (·.1) = false := by rfl) :
    PE X (.Call (.Name "isinstance" p3) [.Name kept p1, .Name (exCls y) p2] [] pos) (tIsx X.K p (p.xa x) a y) :=
  pe_callB (call_isP (E.isc x) hz hf hp) gi mi (by decide +kernel) (pa_cons hk (pa_cons (pe_glob (v := .ref (p.xa y)) gc (E.gl y) rfl hdb) pa_nil h2) h1) (by decide) (by decide) h1 h3
/-- what _law_name's body asks -/
def tNameBody (K : PySem.W.Frag) (p : Pm) (D a : Addr) : TS :=
  tSeq (tAsg (tLst (tCons (tIsx K p D a .back) (tCons (tIsx K p D a .gate) (tCons (tIsx K p D a .period) (tCons (tIsx K p D a .row) tNil))))) (gName 1))
  (tSeq (tAsg (tOp rCat (tVar 1) (tLst (tCons (tIsx K p D a .text) tNil))) (gName 1))
  (tSeq (tIfS (tOr (tTest (tOp rNe (tBM K "list" (rCntB K) (tVar 1) (tCons (tC (.bl true)) tNil)) (tC (.int 1)))) (tNot (tTest (tCB (rIsE K D a) (tCons (tVar 0) (tCons (tC (.ty "ValueError")) tNil)))))) (tRet (tC (.str "wrong"))) tNext)
  (tRet (tOp (rIx K) (tLst (tCons (tC (.str "no back")) (tCons (tC (.str "no gate")) (tCons (tC (.str "no period")) (tCons (tC (.str "no row")) (tCons (tC (.str "no text")) tNil)))))) (tBM K "list" (rIndex K) (tVar 1) (tCons (tC (.bl true)) tNil))))))
def kindsOf (x : Ex) : List Bool := [decide (x = .back), decide (x = .gate), decide (x = .period), decide (x = .row)]
theorem isx_go {K : PySem.W.Frag} {mg : Str → Option Value} {p : Pm} {CS a : Addr} {x y : Ex} {σ : L2.St} {H : Hp} {Q : VK} (E : ExcsF K mg p CS) (h0 : σ[0]? = some (some (.ref a))) (q : Q (.bl (decide (x = y))) H) : tIsx K p (p.xa x) a y σ H Q :=
  ⟨.ref a, h0, .ref (p.xa y), .ref (p.xa y), decide (x = y), rfl, fun u r => r, E.kit x y, q⟩
theorem name_body {K : PySem.W.Frag} {mg : Str → Option Value} {p : Pm} {CS a : Addr} {x : Ex} {H : Hp} {D : Ends} (E : ExcsF K mg p CS) (q : ∀ H', (∀ b o, H b = some o → H' b = some o) → D.rt (.str (exName x)) H') : tNameBody K p (p.xa x) a D [some (.ref a), none] H := by
  have h0 : ∀ z : Option V, ([some (.ref a), z] : L2.St)[0]? = some (some (.ref a)) := fun z => rfl
  refine isx_go E (h0 _) (isx_go E (h0 _) (isx_go E (h0 _) (isx_go E (h0 _) ⟨by show 4 ≤ sizeLine; decide, fun l hl => ?_⟩)))
  have al : upd H l (.lst ((kindsOf x).map V.bl)) l = some (.lst ((kindsOf x).map V.bl)) := upd_same
  have k1 : ∀ b o, H b = some o → upd H l (.lst ((kindsOf x).map V.bl)) b = some o := fun b o e => (upd_ne (ne_of_none e hl)).trans e
  show (gName 1) (.ref l) _ (upd H l (.lst ((kindsOf x).map V.bl))) _
  generalize upd H l (.lst ((kindsOf x).map V.bl)) = H1 at al k1
  refine ⟨.ref l, rfl, isx_go E rfl ⟨by show 1 ≤ sizeLine; decide, fun l2 hl2 => ?_⟩⟩
  have al1 : upd H1 l2 (.lst [V.bl (decide (x = .text))]) l = some (.lst ((kindsOf x).map V.bl)) := (upd_ne (ne_of_none al hl2)).trans al
  have al2 : upd H1 l2 (.lst [V.bl (decide (x = .text))]) l2 = some (.lst [V.bl (decide (x = .text))]) := upd_same
  have k2 : ∀ b o, H b = some o → upd H1 l2 (.lst [V.bl (decide (x = .text))]) b = some o := fun b o e => (upd_ne (ne_of_none (k1 b o e) hl2)).trans (k1 b o e)
  generalize upd H1 l2 (.lst [V.bl (decide (x = .text))]) = H2 at al1 al2 k2
  refine ⟨l, l2, (kindsOf x).map V.bl, [V.bl (decide (x = .text))], rfl, rfl, al1, al2, by show 5 ≤ sizeLine; decide, fun l3 hl3 => ?_⟩
  have hz : (((kindsOf x).map V.bl) ++ [V.bl (decide (x = .text))]) = ((kindsOf x ++ [decide (x = .text)]).map V.bl) := by simp
  rw [hz]
  have st : SqL K (upd H2 l3 (.lst ((kindsOf x ++ [decide (x = .text)]).map V.bl))) l3 ((kindsOf x ++ [decide (x = .text)]).map V.bl) := SqL.of upd_same
  have ext : ∀ b o, H b = some o → upd H2 l3 (.lst ((kindsOf x ++ [decide (x = .text)]).map V.bl)) b = some o := fun b o e => (upd_ne (ne_of_none (k2 b o e) hl3)).trans (k2 b o e)
  generalize upd H2 l3 (.lst ((kindsOf x ++ [decide (x = .text)]).map V.bl)) = H3 at st ext
  have cn : ((kindsOf x ++ [decide (x = .text)]).countP fun y => decide (y = true)) = 1 := by cases x <;> rfl
  refine ⟨.ref l3, rfl, .inl ⟨rfl, _, st⟩, l3, _, true, rfl, rfl, st, rfl, ?_⟩
  rw [cn]
  refine ⟨false, rfl, ⟨.ref a, rfl, .ty "ValueError", .type "ValueError", true, rfl, fun u r => r, E.ve x, true, rfl, ?_⟩⟩
  refine ⟨by show 5 ≤ sizeLine; decide, fun l4 hl4 => ?_⟩
  have st4 := st
  have n4 : l3 ≠ l4 ∨ True := .inr trivial
  have sq4 : SqL K (upd H3 l4 (.lst [.str "no back", .str "no gate", .str "no period", .str "no row", .str "no text"])) l3 ((kindsOf x ++ [decide (x = .text)]).map V.bl) := by
    rcases st with (z | ⟨w, z⟩) | z
    · exact .inl (.inl (by rw [upd_ne (ne_of_none z hl4)]; exact z))
    · exact .inl (.inr ⟨w, by rw [upd_ne (ne_of_none z hl4)]; exact z⟩)
    · exact .inr z
  refine ⟨.ref l3, rfl, .inl ⟨rfl, _, sq4⟩, ?_⟩
  have fin : ∀ j : Nat, ([.str "no back", .str "no gate", .str "no period", .str "no row", .str "no text"] : List V)[j]? = some (.str (exName x)) → j < 5 →
      (rIx K) (.ref l4) (.int (j : Nat)) (upd H3 l4 (.lst [.str "no back", .str "no gate", .str "no period", .str "no row", .str "no text"])) D.rt := fun j hj h5 =>
    .inl ⟨l4, _, _, .str (exName x), rfl, rfl, SqL.of upd_same, by rw [atI_nat]; exact hj, q _ fun b o e => (upd_ne (ne_of_none (ext b o e) hl4)).trans (ext b o e)⟩
  cases x with
  | back => exact ⟨l3, _, .bl true, 0, .bl true, rfl, rfl, sq4, rfl, rfl, rfl, rfl, fun m z' hm => by omega, fin 0 rfl (by omega)⟩
  | gate => exact ⟨l3, _, .bl true, 1, .bl true, rfl, rfl, sq4, rfl, rfl, rfl, rfl, fun m z' hm e => by
      have : m = 0 := by omega
      subst this; cases e; rfl, fin 1 rfl (by omega)⟩
  | period => exact ⟨l3, _, .bl true, 2, .bl true, rfl, rfl, sq4, rfl, rfl, rfl, rfl, fun m z' hm e => by
      have : m = 0 ∨ m = 1 := by omega
      rcases this with rfl | rfl <;> (cases e; rfl), fin 2 rfl (by omega)⟩
  | row => exact ⟨l3, _, .bl true, 3, .bl true, rfl, rfl, sq4, rfl, rfl, rfl, rfl, fun m z' hm e => by
      have : m = 0 ∨ m = 1 ∨ m = 2 := by omega
      rcases this with rfl | rfl | rfl <;> (cases e; rfl), fin 3 rfl (by omega)⟩
  | text => exact ⟨l3, _, .bl true, 4, .bl true, rfl, rfl, sq4, rfl, rfl, rfl, rfl, fun m z' hm e => by
      have : m = 0 ∨ m = 1 ∨ m = 2 ∨ m = 3 := by omega
      rcases this with rfl | rfl | rfl | rfl <;> (cases e; rfl), fin 4 rfl (by omega)⟩
end DL

namespace DL
open PySem PySem.Spec PyProof.Rows L2
/-! ### the end of a law without tables -/
def spTop0 (K : PySem.W.Frag) : Sp := fun vs H Q E => ∀ ca xa, spTop K [] ca xa vs H Q E
theorem top_ok0 {P : Program} {w : World} {K : PySem.W.Frag} {mg : Str → Option Value} {base : Heap} {k : Nat} {f : Addr} {fd : FuncData} {x : Str} {ca : Str → Addr} {xa : Ex → Addr}
    (F : ∀ a ns (hl : ns.length ≤ 63), FnOk P w K mg base (L2N.CX P w) k f fd [x] (liftSp (pmOf K [] ca xa a ns hl) 1 spLaw)) : FnOk P w K mg base (L2N.CX P w) k f fd [x] (spTop0 K) :=
  (top_ok F).imp fun vs H Q E h => h ca xa
theorem top_start0 {K : PySem.W.Frag} {H : Hp} {a : Addr} {ns : List Int} (hl : ns.length ≤ 63) (hO : Only H) (hS : SqL K H a (ns.map V.int)) : spTop0 K [.ref a] H (fun v _ => v = .bl true) fun _ _ _ => False := fun ca xa => by
  refine top_start hl ?_ ?_
  · rcases hS with h | h
    · exact .inl ⟨h, rfl⟩
    · exact .inr fun H' => .inr h
  · intro q hq
    cases hq
theorem cx_none {P : Program} {w : World} {H : Hp} {s : Shared} {e : Value} {s' : Shared} (h : L2N.CX P w [] H s (fun _ _ _ => False) e s') : False := by
  obtain ⟨_, _, _, _, _, _, _, _, _, _, _, _, z⟩ := h
  exact z
theorem walk0 {l : PySem.W.OpenLaw} {q : Program} {loose : List Str} {XP : (Str → Option Value) → Heap → Prop} {YP : World → Heap → Prop} {d : DefRec} {K : Params → PySem.W.Frag} (k : Nat) (hr : Room k callerA) (hn : l.most = some 63) (hdf : d.params.defaults = [])
    (hY : ∀ (w : World) (h : Heap), YP w h → (K w.params).In h)
    (F : ∀ (w : World) (mg : Str → Option Value) (fa : Addr) (h : Heap), (K w.params).In h → h.Ns mainGlobals mg → mg d.name = some (.ref fa) →
      ∃ fd : FuncData, (∀ (s : Shared) (u : Value), BindsTo s fd ⟨[u], []⟩ [("_law_script", u)]) ∧ ∀ base : Heap, (K w.params).In base → base.Ns mainGlobals mg → FnOk l.prog w (K w.params) mg base (L2N.CX l.prog w) k fa fd ["_law_script"] (spTop0 (K w.params))) :
    PySem.W.WalkO q loose XP YP l.row.toRowW d [] (fun f vs => PySem.call f vs) :=
  L2.walk_of (n := 63) (k := k) (CX := fun w => L2N.CX l.prog w) (sp := fun w => spTop0 (K w.params)) hn (by rw [sizeLine_eq]; omega) hdf hr hY F (fun _ _ _ _ hl hO hS => top_start0 hl hO hS) fun _ _ _ _ _ z => cx_none z
/-- an address that no class has -/
theorem excf {K : PySem.W.Frag} {mg : Str → Option Value} {p : Pm} {x : Str} {c : Ex} {C : Addr} (e : p.xa c = C) (h1 : PySem.W.excIn K C [.type "ValueError", .type "Exception", .type "BaseException", .type "object"] "ValueError.__new__" = true) (h2 : mg x = some (.ref C)) (h3 : PySem.W.keepIn K (.ref C) = true)
    (h4 : PySem.W.subIn K (.ref C) (.type "BaseException") = some true) (h5 : PySem.W.typeIn K (.ref C) = some (.type "type")) : ExcF K mg p x c := by
  subst e
  exact ⟨h1, h2, h3, h4, h5⟩
end DL

/-! DL12: more words: tuple(range(n)). -/
namespace DL
open PySem PySem.Spec PyProof.Rows L2
section
variable {p : Pm} {B : Bs p} {X : Cx} {a b c e o : Expr} {es : List Expr} {ta tb tc : TE'} {t : TA'} {pos apos cpos : Pos}
theorem repL_rg {G : GH} {H : Hp} : ∀ n : Nat, RepL p G H (rangeD 0 n) (rgV 0 (n : Int)) := fun n => by
  have e : rgV 0 (n : Int) = ((List.range n).map fun (i : Nat) => ((0 : Int) + i)).map V.int := by
    unfold rgV
    rw [List.map_map]
    simp [Function.comp_def]
  have e2 : rangeD 0 n = ((List.range n).map fun (i : Nat) => ((0 : Int) + i)).map D.int := by
    unfold rangeD
    rw [List.map_map]
    simp [Function.comp_def]
  rw [e, e2]
  exact RepL.ofInts _
/-- tuple(range(n)) -/
@[simp] def tTupRng' (ta : TE') : TE' := fun σ G Q => ta σ G fun x G1 => ∃ n : Int, x = .int n ∧ 0 ≤ n ∧ n ≤ 16777216 ∧ Q (.tup (rangeD 0 n.toNat)) G1
theorem de_tuprng {p1 p2 : Pos} (hc : X.calm = true) (m1 : X.mg "tuple" = none) (m2 : X.mg "range" = none) (ha : DE p B X a ta) (g1 : Gl X "tuple" := by rfl) (g2 : Gl X "range" := by rfl) (na : starEach [a] X.env = (false, eval a X.env) :: starEach [] X.env := by rfl)
    (nb : starEach [.Call (.Name "range" p2) [a] [] pos] X.env = (false, eval (.Call (.Name "range" p2) [a] [] pos) X.env) :: starEach [] X.env := by rfl) : DE p B X (.Call (.Name "tuple" p1) [.Call (.Name "range" p2) [a] [] pos] [] cpos) (tTupRng' ta) :=
  PE.weak (pe_tupRg hc g1 m1 (prg_1 g2 m2 ha na) nb) fun σ H Q h => by
    obtain ⟨σ', G, Q', at_, q, k⟩ := h
    refine ⟨σ', G, _, at_, q, fun x G1 v H1 n1 r1 q1 => ?_⟩
    obtain ⟨n, rfl, h1, h2, q1⟩ := q1
    refine ⟨n, r1, RgOk.of_le (by omega) h2 (by omega) h1, fun l hn => ?_⟩
    have en : ((n.toNat : Nat) : Int) = n := by omega
    have r := repL_rg (p := p) (G := G1) (H := H1) n.toNat
    rw [en] at r
    have M := rep_newT n1.rep hn r
    exact k _ G1 _ _ (n1.trans M.1) M.2 q1
end
end DL

set_option maxHeartbeats 2000000
/-! DLTold2: told(lambda: ..) over data. -/
namespace DL
open PySem PySem.Spec PyProof.Rows L2
/-- the def that tells: try: return a() / except BeatError as n: return nm(n) -/
def toldBody (a n nm : Str) (p1 p2 p3 p4 p5 p6 p7 p8 p9 p10 : Pos) : List Stmt := [.Try [.Return (some (.Call (.Name a p1) [] [] p2)) p3] [.ExceptHandler (some (.Name "BeatError" p4)) (some n) [.Return (some (.Call (.Name nm p5) [.Name n p6] [] p7)) p8] p9] [] [] p10]
def zExc (b : Addr) (cls : Value) : Addr → Obj → Prop := fun b' o => b' = b ∧ Zc cls none o ∧ ∃ vs, o.data = .fields vs
def spName (p : Pm) (b : Addr) (cls : Value) : Sp := fun vs H Q _ => ∃ x, vs = [.ref b] ∧ cls = .ref (p.xa x) ∧ ∀ H', (∀ b o, H b = some o → H' b = some o) → Q (.str (exName x)) H'
structure ToldF (P : Program) (w : World) (K : PySem.W.Frag) (mg : Str → Option Value) (base : Heap) (p : Pm) (x : Str) (CS : Addr) : Prop where
  ex : ∃ (a n nm : Str) (g : Addr) (fd : FuncData) (st : Stmt) (p1 p2 p3 p4 p5 p6 p7 p8 p9 p10 : Pos) (fn : Addr) (fdn : FuncData) (psn : List Str), Fun K x x st g fd ∧ defBody st = toldBody a n nm p1 p2 p3 p4 p5 p6 p7 p8 p9 p10 ∧ FnScope [a, n] [a] (defScope st) ∧ mg x = some (.ref g) ∧ L2.Binds K fd [a] [] ∧
    Vis (defScope st) a ∧ (defScope st).names.lookup n = some .local ∧ (defScope st).names.lookup ("BeatError" : Str) = some .globalImplicit ∧ (defScope st).names.lookup nm = some .globalImplicit ∧ mg nm = some (.ref fn) ∧ PySem.W.keepIn K (.ref fn) = true ∧ L2.Binds K fdn psn [] ∧
    ((a == ("__debug__" : Str)) = false ∧ (a == ("__classdict__" : Str)) = false ∧ (n == ("__debug__" : Str)) = false ∧ (n == ("__classdict__" : Str)) = false ∧ (nm == ("__debug__" : Str)) = false ∧ (x == ("__debug__" : Str)) = false) ∧
    (∀ b cls, FnZ P w K mg base 1 fn fdn psn (zExc b cls) (spName p b cls))
  exc : ExcsF K mg p CS
def tToldR (T : List (Addr × Str)) (K : PySem.W.Frag) (CS : Addr) (p : Pm) (t : XK → TE) : TE := fun σ H Q => LamX.Tabs T H ∧ ∀ H1, LamX.ExtN H H1 → LamX.Tabs T H1 →
  t (fun cls d H' => d = none ∧ PySem.W.exmOne K cls (.ref CS) = some true ∧ ∀ b, H' b = none → spName p b cls [.ref b] H' Q (fun _ _ _ => False)) σ H1 Q
section
variable {X : Cx}
theorem pe_toldR {T : List (Addr × Str)} {p : Pm} {x : Str} {CS c P : Addr} {k : Nat} {params : Arguments} {body : Expr} {scope : Scope} {t : XK → TE} {pp lpos pos : Pos} (TD : ToldF X.prog X.w X.K X.mg X.base p x CS) (hg : Gl X x) (TB : LamX.TabB X.base X.mg c P) (hcode : X.env.code = .ref c) (hmT : (P, X.env.qual ++ "<lambda>") ∈ T) (hu : ∀ p ∈ T, p.1 = P → p.2 = X.env.qual ++ "<lambda>")
    (room : Room (k + 1 + 2) X.A) (L : LamX.LamS X.env.scope scope) (hdef : defaultsOf params X.env = ([], [])) (bd : ∀ (q : Str) (cl : List (Str × Addr)) (pm cv ctv : Value), bindArgs (PySem.W.kla_fn "<lambda>" q params body scope cl pm cv ctv) ⟨[], []⟩ = pure [])
    (hbody : ∀ (A : Around) (outer : List Env) (s : Shared) (H : Hp) (E : XK) (f c' : Addr), Room (k + 1) (A.deeper (LamX.lamEnv X scope s.heap.objs.size f c')) → PE (lamN X A outer s H E scope f c') body (t E)) :
    PE X (.Call (.Name x pp) [.Lambda params body scope lpos] [] pos) (tToldR T X.K CS p t) := by
  obtain ⟨a, n, nm, g, fd, st, p1, p2, p3, p4, p5, p6, p7, p8, p9, p10, fn, fdn, psn, F, eb, S, hm, hb, hva, hln, hlb, hlnm, hmn, hkn, hbn, ⟨d1, d2, d3, d4, d5, d6⟩, FZ⟩ := TD.ex
  have hk := F.kp
  obtain ⟨oc, od, kV, doc, pm, an, cdv, ct, osl, rfl, lk, hcd⟩ := F.ex
  have h0 : ([a, n] : List Str)[0]? = some a := rfl
  refine ⟨fun pins s σ H Q I ⟨hT, h⟩ => wpAny_Call_Name_kw (ld_glob I hg hm (PySem.W.callWith_K (h₀ := X.base) I.ok.mod.kin hk ?_ (by rfl) (by rfl)) d6)⟩
  show wpAny (model X.prog X.w) X.A (spliced ((false, eval (.Lambda params body scope lpos) X.env) :: backTo pos (starEach [] X.env))) _ _ s
  refine Calls.spliced_cons (LamX.lam_make2 I TB hcode hmT hu hT hdef (L.has I.ok) fun f c' pm' ctv H1 s' J eN T1 hf hfn hfr hco => Calls.spliced_nil ⟨J.kIn, ?_⟩)
  have run : codeAny (model X.prog X.w) X.A (.call (.ref g) ⟨[.ref f], []⟩) (CR C8.CX0 X.stack X.prog X.w H1 s' Q C8.E0) s' := by
    refine LamX.run_ofS (N := [a, n]) (ps := [a]) (us := [.ref f]) (vs := [.ref f]) lk hcd S room J.env0 (hb s' [.ref f] J.kIn rfl) (.cons rfl .nil) rfl fun room' => ?_
    rw [eb]
    obtain ⟨t', ht', hq'⟩ := gives_told (CS := CS) (x := x) (g := g) (cdg := cdv) (k := 1) (q := X.env.qual ++ "<lambda>") (tl := fun E H' Q' => t E σ H' Q') (Q := Q) (s := s') (H := H1) (f := f) (c' := c') (p1 := p1) (p2 := p2) (p3 := p3) (p4 := p4) (p5 := p5) (p6 := p6) (p7 := p7) (p8 := p8) (p9 := p9) (p10 := p10) (spn := spName p) S.nd rfl rfl hva hln rfl hlb TD.exc.base (by decide) hlnm hmn d5 d3 d4 hkn hbn FZ
      (L2H.roomH_of (room'.mono (by omega))) (fun W pn xe E q1 q2 tk hW => actN (CXg := C8.CX0) (Eg := C8.E0) (i := 0) rfl J L hf hfn hfr (bd _ _ _ _ _) tk hW room' (fun A outer s H r2 => hbody A outer s H E f c' r2) h0 hva d1 d2) hco (h H1 eN T1)
    exact ⟨t', ht'.nox, hq'⟩
  refine wpAny_call (codeAny_mono run fun r s2 hq => ?_)
  match r, hq with
  | .error e, hq => exact (show False from hq).elim
  | .ok (.ret u), hq => exact J.after hq
  | .ok .next, hq => exact (show False from hq).elim
  | .ok .brk, hq => exact (show False from hq).elim
  | .ok .cont, hq => exact (show False from hq).elim
end
/-! ### lifted -/
@[simp] def tTold' (te : WX' → TE') : TE' := fun σ G Q => te (fun x _ G' => Q (.str (exName x)) G') σ G Q
def TabQ (p : Pm) (X : Cx) : Prop := ∃ c P, X.env.code = .ref c ∧ LamX.TabB X.base X.mg c P ∧ (P, X.env.qual ++ "<lambda>") ∈ p.T ∧ ∀ t ∈ p.T, t.1 = P → t.2 = X.env.qual ++ "<lambda>"
theorem nxt_ext {p : Pm} {G : GH} {H H1 : Hp} (h : RepH p G H) (e : LamX.ExtN H H1) (t : LamX.Tabs p.T H1) : Nxt p G H G H1 := by
  have st : Step p G H G H1 := rep_keep (fun a vs z => rd_keep (fun b o y z => e b o z y) (fun ps y => by cases y) z) fun a vs z n => ⟨e a _ z fun ps y => (by cases y), n⟩
  refine ⟨⟨fun a g hg => ?_, ?_, t⟩, st⟩
  · have r := h.obj a g hg
    cases g with
    | lst ds => obtain ⟨vs, q, r⟩ := r; exact ⟨vs, e a _ q fun ps y => (by cases y), st.list r⟩
    | ins c fs => obtain ⟨dx, fv, q, r⟩ := r; exact ⟨dx, fv, e a _ q fun ps y => (by cases y), st.flds r⟩
    | exc x => exact e a _ r fun ps y => by cases y
    | code x => exact e a _ r fun ps y => by cases y
    | tz ds => obtain ⟨o, vs, q, c, d, r⟩ := r; exact ⟨o, vs, e a _ q fun ps y => (by cases y), c, d, st.list r⟩
  · rcases h.scr with ⟨r, n⟩ | k
    · refine .inl ⟨?_, n⟩
      rcases r with r | ⟨w, r⟩
      · exact .inl (e _ _ r fun ps y => by cases y)
      · exact .inr ⟨w, e _ _ r fun ps y => by cases y⟩
    · exact .inr k
/-- the lambda's body, its refusals wished for by E -/
def tLam' (p : Pm) (te : WX' → TE') : XK → TE := fun E σ H Q => ∃ (W : WX') (G0 : GH) (H0 : Hp), (∀ x σ' G' s H', At p (Bs.from p G0 H0) σ' G' s H' → W x σ' G' → E (.ref (p.xa x)) none H') ∧ liftE p (Bs.from p G0 H0) (te W) σ H Q
theorem de_told {p : Pm} {B : Bs p} {X : Cx} {x : Str} {CS : Addr} {j k : Nat} {params : Arguments} {body : Expr} {scope : Scope} {te : WX' → TE'} {pp lpos pos : Pos} (TD : ToldF X.prog X.w X.K X.mg X.base p x CS) (tq : TabQ p X) (hr : Room j X.A)
    (hbody : ∀ (A : Around) (outer : List Env) (s : Shared) (H : Hp) (E : XK) (f c' : Addr) (B : Bs p) (W : WX'), Room (k + 1) (A.deeper (LamX.lamEnv X scope s.heap.objs.size f c')) → L2N.Takes (lamN X A outer s H E scope f c') (liftW p B W) → DE p B (lamN X A outer s H E scope f c') body (te W))
    (hk : k + 1 + 2 ≤ j := by decide) (hg : Gl X x := by rfl) (L : LamX.LamS X.env.scope scope := by exact LamX.lamS_by (by decide +kernel)) (hdef : defaultsOf params X.env = ([], []) := by rfl)
    (bd : ∀ (q : Str) (cl : List (Str × Addr)) (pm cv ctv : Value), bindArgs (PySem.W.kla_fn "<lambda>" q params body scope cl pm cv ctv) ⟨[], []⟩ = pure [] := by exact fun _ _ _ _ _ => rfl) :
    DE p B X (.Call (.Name x pp) [.Lambda params body scope lpos] [] pos) (tTold' te) := by
  obtain ⟨c, P, hcode, TB, hmT, hu⟩ := tq
  refine PE.weak (pe_toldR (t := tLam' p te) (k := k) TD hg TB hcode hmT hu (hr.mono hk) L hdef bd fun A outer s H E f c' r => ⟨fun pins s' σ H' Q I ⟨W, G0, H0, hE, h⟩ => ?_⟩) fun σ H Q h => ?_
  · refine (hbody A outer s H E f c' (Bs.from p G0 H0) W r (takes_lamN.imp fun cls d σ2 H2 hw => ?_)).run pins s' σ H' Q I h
    obtain ⟨x, σ', G', rfl, rfl, a2, w⟩ := hw
    exact hE x σ' G' σ2 H2 a2 w
  · obtain ⟨σ', G, Q', at_, q, kk⟩ := h
    refine ⟨at_.h.tab, fun H1 eN T1 => ?_⟩
    have n1 := nxt_ext at_.h eN T1
    refine ⟨_, G, H1, fun x σ2 G' s2 H2 a2 w => ⟨rfl, TD.exc.exm x, fun b hb => ⟨x, rfl, rfl, fun H3 hx => ?_⟩⟩, σ', G, Q', ⟨(at_.nxt n1).s, n1.rep, Step.refl⟩, q, fun d G' v H2 n2 r2 q2 => kk d G' v H2 (n1.trans n2) r2 q2⟩
    have n3 : Nxt p G' H2 G' H3 := by
      have st : Step p G' H2 G' H3 := rep_keep (fun a vs z => rd_keep (fun b o _ z => hx b o z) (fun ps y => by cases y) z) fun a vs z n => ⟨hx _ _ z, n⟩
      refine ⟨⟨fun a g hg => ?_, ?_, a2.h.tab.ext hx⟩, st⟩
      · have r := a2.h.obj a g hg
        cases g with
        | lst ds => obtain ⟨vs, q, r⟩ := r; exact ⟨vs, hx _ _ q, st.list r⟩
        | ins c fs => obtain ⟨dx, fv, q, r⟩ := r; exact ⟨dx, fv, hx _ _ q, st.flds r⟩
        | exc x => exact hx _ _ r
        | code x => exact hx _ _ r
        | tz ds => obtain ⟨o, vs, q, c, d, r⟩ := r; exact ⟨o, vs, hx _ _ q, c, d, st.list r⟩
      · rcases a2.h.scr with ⟨r, n⟩ | k
        · refine .inl ⟨?_, n⟩
          rcases r with r | ⟨w, r⟩
          · exact .inl (hx _ _ r)
          · exact .inr ⟨w, hx _ _ r⟩
        · exact .inr k
    exact kk _ G' _ H3 (n1.trans (Nxt.trans ⟨a2.h, a2.b⟩ n3)) (by exact rfl) w
/-! ### a def with lambdas in it -/
def HTab (base : Heap) (mg : Str → Option Value) (p : Pm) (fd : FuncData) (qual : Str) (st : Stmt) : Prop := ∃ c P, fd.code = .ref c ∧ LamX.TabB base mg c P ∧ (P, (envOfC qual (defScope st) 0 0 .none).qual ++ "<lambda>") ∈ p.T ∧ ∀ t ∈ p.T, t.1 = P → t.2 = (envOfC qual (defScope st) 0 0 .none).qual ++ "<lambda>"
theorem fn_okC {P : Program} {w : World} {K : PySem.W.Frag} {mg : Str → Option Value} {base : Heap} {p : Pm} {x qual : Str} {st : Stmt} {f : Addr} {fd : FuncData} {N ps : List Str} {k : Nat} {sp : Sp'} {t : WX' → TS'} (F : Fun K x qual st f fd) (S : FnScope N ps (defScope st))
    (htab : HTab base mg p fd qual st)
    (hbody : ∀ (cdv : Value) (A : Around) (outer : List Env) (s : Shared) (H : Hp) (E : XK) (B : Bs p) (W : WX'), TabQ p (bodyX P w K mg base N qual st f cdv A outer s H E) → Room k (bodyX P w K mg base N qual st f cdv A outer s H E).A → L2N.Takes (bodyX P w K mg base N qual st f cdv A outer s H E) (liftW p B W) →
      PassesOwn (model P w) (bodyX P w K mg base N qual st f cdv A outer s H E).A (bodyX P w K mg base N qual st f cdv A outer s H E).env (bodyX P w K mg base N qual st f cdv A outer s H E).xe →
      DSs p B (bodyX P w K mg base N qual st f cdv A outer s H E) (defBody st) (t W))
    (pure : ∀ ds G Q E, ds.length = ps.length → sp ds G Q E → t (FzE E) { nx := fun _ G => Fz Q .non G, rt := Fz Q } (start' N.length ds) G) : FnOk P w K mg base (L2N.CX P w) (k + 1) f fd ps (liftSp p ps.length sp) := by
  obtain ⟨c, PT, hcd, TB, hm, hu⟩ := htab
  obtain ⟨oc, od, kV, doc, pm, an, cdv, ct, osl, rfl, lk, hcdi⟩ := F.ex
  refine fn_of lk hcdi S (fun vs H Q E h => ?_) fun A outer s H vs Q E hr hsp => ?_
  · obtain ⟨ds, G, Q', E', hl, r, _⟩ := h
    rw [← r.length]; exact hl
  · obtain ⟨ds, G, Q', E', hl, r, h, q, kq, ke⟩ := hsp
    refine ⟨liftS p (Bs.from p G H) (t (FzE E')), hbody cdv A outer s H E (Bs.from p G H) (FzE E') ⟨c, PT, hcd, TB, hm, hu⟩ hr ?_ PassesOwn.leaving, ?_⟩
    · have tk : L2N.Takes (bodyX P w K mg base N qual st f cdv A outer s H E) (fun cls d _ H => E cls d H) := L2N.takes_of rfl rfl rfl rfl
      refine tk.imp fun c d σ H2 hw => ?_
      obtain ⟨x, σ', G2, rfl, rfl, a2, G0, fz, q0⟩ := hw
      exact ke x G0 H2 ⟨(fz p H2 a2.h).rep, Step.trans a2.b (fz p H2 a2.h).st⟩ q0
    · refine ⟨start' N.length ds, G, _, ⟨start_rep r, h, Step.refl⟩, pure ds G Q' E' hl q, ⟨fun σ1 G1 s1 H1 a1 q1 => ?_, fun _ _ _ _ _ z => z.elim, fun _ _ _ _ _ z => z.elim, fun d G1 v H1 h1 b1 r1 q1 => ?_⟩⟩
      · obtain ⟨d0, G0, f0, q0⟩ := q1
        obtain ⟨n0, r0⟩ := f0 p H1 .non a1.h rfl
        exact kq d0 G0 .non H1 ⟨n0.rep, Step.trans a1.b n0.st⟩ r0 q0
      · obtain ⟨d0, G0, f0, q0⟩ := q1
        obtain ⟨n0, r0⟩ := f0 p H1 v h1 r1
        exact kq d0 G0 v H1 ⟨n0.rep, Step.trans b1 n0.st⟩ r0 q0
/-! ### the def on the exception -/
theorem fnZ_name {P : Program} {w : World} {K : PySem.W.Frag} {mg : Str → Option Value} {base : Heap} {p : Pm} {CS : Addr} {x qual kept kinds : Str} {st : Stmt} {f : Addr} {fd : FuncData} (F : Fun K x qual st f fd) (S : FnScope [kept, kinds] [kept] (defScope st)) (E : ExcsF K mg p CS)
    (hbody : ∀ (cdv : Value) (A : Around) (outer : List Env) (s : Shared) (H : Hp) (XE : XK) (a : Addr) (x : Ex) (oe : Obj), Zc (.ref (p.xa x)) none oe → (∃ vs, oe.data = .fields vs) → L2H.RoomH 0 (A.deeper (envOfC qual (defScope st) s.heap.objs.size f cdv)) →
      PSs (L2H.cxH C8.CX0 P w K mg base [kept, kinds] qual (defScope st) f cdv A outer s H XE (a, oe)) (defBody st) (tNameBody K p (p.xa x) a)) :
    ∀ b cls, FnZ P w K mg base 1 f fd [kept] (zExc b cls) (spName p b cls) := fun b cls => by
  refine fnZ_of F S (fun vs H Q E h => ?_) fun cdv A outer s H vs Q XE q hot hz room h => ?_
  · obtain ⟨x, rfl, _⟩ := h
    rfl
  · obtain ⟨x, rfl, rfl, hq⟩ := h
    obtain ⟨a, oe⟩ := q
    obtain ⟨rfl, hz1, hz2⟩ := hz
    exact ⟨_, hbody cdv A outer s H XE a x oe hz1 hz2 room, name_body E fun H' hx => hq H' hx⟩
end DL

set_option maxHeartbeats 2000000
/-! DLTry: try: .. except X as n: k = n. What was caught stays known behind the suite. -/
namespace DL
open PySem PySem.Spec PyProof.Rows L2
section
variable {X : Cx} {pins : List (Addr × Obj)} {σ : L2.St} {H : Hp} {s : Shared}
/-- what is known of an object that nobody tracked may be noted -/
theorem note_ext {J : Inv X pins σ H s} {a C : Addr} {oe : Obj} {vs : Array Value} (na : H a = none) (e1 : s.heap.get? a = some oe) (e2 : oe.data = .fields vs) (e3 : oe.cls = .ref C) (e4 : oe.dict = none)
    (new0 : X.s_0.heap.get? a = none) (np : ∀ q ∈ X.pn ++ pins, q.1 ≠ a) (nl : a ≠ X.env.locals) : Inv X pins σ (upd H a (.ext (ExcAt C a))) s := by
  have apart : ∀ b, H b ≠ none → b ≠ a := fun b hb z => hb (z ▸ na)
  have other : ∀ b g, H b = some g → upd H a (.ext (ExcAt C a)) b = some g := fun b g hb => (upd_ne (ne_of_none hb na)).trans hb
  constructor
  · exact J.ok
  · exact J.os
  · exact J.bare
  · refine ⟨J.base.keep, J.base.slot, ?_, J.base.there, ?_, ?_, ?_⟩
    · intro b o hb hb2 hb3
      have ba : b ≠ a := fun z => by rw [z, new0] at hb; cases hb
      rw [upd_ne ba]
      exact J.base.free b o hb hb2 hb3
    · exact fun b xs hb => other _ _ (J.base.tups b xs hb)
    · exact fun b o u hb => other _ _ (J.base.frzs b o u hb)
    · intro b ps hb
      obtain ⟨m, hm⟩ := J.base.tbls b ps hb
      exact ⟨m, other _ _ hm⟩
  · exact J.loc
  · exact J.cell
  · rw [upd_ne (Ne.symm nl)]
    exact J.free
  · intro x c hc
    have ca : c ≠ a := fun z => by
      obtain ⟨v, o, ho, hv⟩ := J.cell x c hc
      rw [z, e1] at ho
      cases ho
      rw [e2] at hv
      cases hv
    rw [upd_ne ca]
    exact J.freeC x c hc
  · intro q hq
    obtain ⟨q1, q2, q3⟩ := J.pin q hq
    exact ⟨q1, by rw [upd_ne (np q hq)]; exact q2, q3⟩
  · refine HOk.laidN J.hok (fun _ _ z => z) na ⟨⟨oe, vs, e1, e3, e4, e2⟩, ⟨oe, e1⟩, ?_⟩
    rintro g1 g2 ⟨o, v, z1, z2⟩ k
    exact ⟨o, v, k o z1, z2⟩
  · exact J.len
/-- what the clause wishes of an exception of the body: i is the clause's own name, j the one that keeps it -/
def wKept (K : PySem.W.Frag) (c : Value) (i j : Nat) (D : Ends) : WX := fun cls d τ H2 => ∃ C : Addr, cls = .ref C ∧ d = none ∧ PySem.W.exmOne K cls c = some true ∧
  ∀ a, H2 a = none → D.nx (((τ.set i (some (.ref a))).set j (some (.ref a))).set i none) (upd H2 a (.ext (ExcAt C a)))
theorem ps_try_kept {x n : Str} {c : Value} {i j : Nat} {body : List Stmt} {b0 : Stmt} {np pc pos : Pos} {tb : WX → TS} (h1 : X.stack = X.env :: X.outer) (h2 : X.env.frame = some X.env.locals) (hex : X.ex = []) (nd : X.N.Nodup) (hi : X.N[i]? = some n) (loc : X.env.kindOf n = some .local) (nm : Names X x c)
    (tries : ∀ (W : WX) (pn : List (Addr × Obj)) (xe : Value → Shared → Prop), L2N.Takes (X.tr pn xe) W → PassesOwn (model X.prog X.w) X.A X.env xe → PSs (X.tr pn xe) body (tb W))
    (keeps : ∀ (a : Addr) (oe : Obj) (pn : List (Addr × Obj)), PSs (X.suite a ((a, oe) :: pn)) [b0] (tAsg (tVar i) (gName j))) :
    PS X (.Try body [.ExceptHandler (some (.Name x np)) (some n) [b0] pc] [] [] pos) (fun D τ H2 => tb (wKept X.K c i j D) D τ H2) := by
  constructor
  intro pins s σ H D I h
  have good := I.ok
  have frames : X.A.frames = some (X.env :: X.outer) := by rw [good.frames, h1]
  refine wpAny_Try_except ?_
  have ran := (tries (wKept X.K c i j D) (X.pn ++ pins) (fun e s1 => wpAny (model X.prog X.w) X.A (noteFrame e X.env) (fun _ s2 => wpAny (model X.prog X.w) X.A (setFlight e none)
    (fun _ s3 => wpAny (model X.prog X.w) X.A (handleBy e X.env [.ExceptHandler (some (.Name x np)) (some n) [b0] pc]) (SP X pins D) X.xe s3) X.xe s2) X.xe s1) ?_ PassesOwn.looking).run [] s σ H D (I.toTry _) h
  · refine wpAny_mono ran (fun f s1 done => ?_) fun e s1 z => z
    match f, done with
    | .next, ⟨τ, H2, J, q⟩ => exact wpAny_execs_nil ⟨τ, H2, J.ofTry good, q⟩
    | .brk, ⟨τ, H2, J, q⟩ => exact ⟨τ, H2, J.ofTry good, q⟩
    | .cont, ⟨τ, H2, J, q⟩ => exact ⟨τ, H2, J.ofTry good, q⟩
    | .ret u, ⟨v, τ, H2, J, r, q⟩ => exact ⟨v, τ, H2, J.ofTry good, r, q⟩
  · rintro u s' ⟨a, B, sI, pins2, τ, H2, cls, d, rfl, J0, ground, upto, sky, na, os, gens, C, rfl, rfl, match_, wish⟩
    have J := J0.ofTry good
    have sky : Sky B (X.env :: X.outer) a (L2N.Zn (.ref C) none) X.env.locals s'.heap := h1 ▸ sky
    refine L2N.Sky.land L2N.Zn.steady frames h2 sky fun g3 fl3 up3 => ?_
    have J3 : Inv X pins τ H2 { s' with heap := g3 } := J.landed ground fl3.1 (upto.trans up3) os gens
    obtain ⟨o3, v3, a3, z3, d3⟩ := fl3.there
    have notFrame : a ∉ frs (X.env :: X.outer) := fun hm => by
      obtain ⟨_, o, ho, no⟩ := fl3.2.2.1.mem hm
      rw [a3] at ho
      cases ho
      exact no _ d3
    have nl : a ≠ X.env.locals := fun z => notFrame (List.mem_filterMap.mpr ⟨X.env, List.mem_cons_self, by rw [h2, z]⟩)
    have nf : a ∉ X.fs := fun hm => by
      obtain ⟨e, he, q⟩ := List.mem_filterMap.mp hm
      exact notFrame (List.mem_filterMap.mpr ⟨e, List.mem_cons_of_mem _ he, q⟩)
    have fresh : ∀ o, sI.heap.get? a ≠ some o := fun o ho => by
      have := ground a o ho (by rw [h1]; exact notFrame)
      rw [fl3.2.1] at this
      cases this
    have new0 : X.s_0.heap.get? a = none := by
      cases e : X.s_0.heap.get? a with
      | none => rfl
      | some o =>
        obtain ⟨o2, q⟩ := J.base.there a o e (by rw [hex]; exact List.not_mem_nil)
        exact absurd q (fresh o2)
    have others : ∀ q ∈ X.pn ++ pins, q.1 ≠ a := fun q hq z => by
      obtain ⟨q1, _⟩ := J.pin q hq
      rw [z] at q1
      exact fresh _ q1
    have S3 := J3.suite a3 d3 na nl nf
    have asked : PySem.W.Looks (model X.prog X.w) g3 (typeOf (.ref a)) (.ref C) := fun A Q E s k q => wpAny_typeOf_ref (k _ _ a3) (by rw [z3.1]; exact q)
    refine PySem.W.exc_clause_as ?_
    have named : ∀ {Q E : Value → Shared → Prop}, Q c { s' with heap := g3 } → wpAny (model X.prog X.w) (X.A.mark (some (.ref a))) (eval (.Name x np) X.env) Q E { s' with heap := g3 } := fun {Q E} q => by
      obtain ⟨gl, db, kn | ⟨no, bt, nn⟩⟩ := nm
      · exact ld_glob (X := X.suite a ((a, o3) :: (X.pn ++ pins))) S3 gl kn q db
      · exact ld_blt (X := X.suite a ((a, o3) :: (X.pn ++ pins))) S3 gl no bt q nn db
    refine named ⟨true, PySem.W.exm_one (M := model X.prog X.w) J3.kIn asked match_, ?_⟩
    rw [if_pos rfl]
    refine HandSPX.lands_againZ fl3 fun g4 fl4 up4 => ?_
    have J4 : Inv X pins τ H2 { s' with heap := g4 } := J.landed ground fl4.1 ((upto.trans up3).trans up4) os gens
    obtain ⟨o4, v4, a4, z4, d4⟩ := fl4.there
    have S4 := J4.suite a4 d4 na nl nf
    refine store_ok (X := X.suite a ((a, o4) :: (X.pn ++ pins))) (v := .ref a) S4 nd hi (.inl loc) rfl (fun s5 S5 => ?_) (.inr loc)
    have ran2 := (keeps a o4 (X.pn ++ pins)).run [] s5 _ H2 ⟨fun τ6 H6 => τ6 = (τ.set i (some (.ref a))).set j (some (.ref a)) ∧ H6 = H2, fun _ _ => False, fun _ _ => False, fun _ _ => False⟩ S5 ⟨.ref a, ?_, rfl, rfl⟩
    · refine wpAny_mono ran2 (fun f s6 done => ?_) fun _ _ z => z.elim
      cases f with
      | next =>
        obtain ⟨t6, H6, S6, e6, eH⟩ := done
        subst e6 eH
        obtain ⟨p1, _⟩ := S6.pin (a, o4) (List.mem_append_left _ List.mem_cons_self)
        have J6 := S6.unsuite good
        have J7 := note_ext (J := J6) na p1 d4 z4.1 z4.2.1 new0 others nl
        exact gone_ok J7 nd hi loc fun s7 J8 => ⟨_, _, J8, wish a na⟩
      | brk =>
        obtain ⟨_, _, _, z⟩ := done
        exact z.elim
      | cont =>
        obtain ⟨_, _, _, z⟩ := done
        exact z.elim
      | ret u =>
        obtain ⟨_, _, _, _, _, z⟩ := done
        exact z.elim
    · rw [List.getElem?_set_self (by rw [J4.len]; exact (List.getElem?_eq_some_iff.mp hi).1)]
end
/-! ### lifted -/
def tTry' (i j : Nat) (tb : WX' → TS') : TS' := fun D τ G => tb (fun x τ2 G2 => x ≠ .back ∧ ∀ a, G2 a = none → D.nx (((τ2.set i (some (.ref a))).set j (some (.ref a))).set i none) (gup G2 a (.exc x))) D τ G
theorem At.clear {p : Pm} {B : Bs p} {τ : St'} {G : GH} {σ : L2.St} {H : Hp} (h : At p B τ G σ H) (i : Nat) : At p B (τ.set i none) G (σ.set i none) H := by
  refine ⟨⟨by rw [List.length_set, List.length_set]; exact h.s.1, fun k d e => ?_⟩, h.h, h.b⟩
  by_cases c : i = k
  · subst c
    by_cases l : i < τ.length
    · rw [List.getElem?_set_self l] at e
      cases e
    · rw [List.getElem?_eq_none (by simpa using l)] at e
      cases e
  · rw [List.getElem?_set_ne c] at e ⊢
    exact h.s.2 k d e
theorem ds_try_kept {p : Pm} {B : Bs p} {X : Cx} {x n : Str} {c : Value} {i j : Nat} {body : List Stmt} {b0 : Stmt} {np pc pos : Pos} {tb : WX' → TS'} (exm : ∀ y, y ≠ .back → PySem.W.exmOne X.K (.ref (p.xa y)) c = some true) (nd : X.N.Nodup) (nm : Names X x c)
    (tries : ∀ (W : WX') (pn : List (Addr × Obj)) (xe : Value → Shared → Prop), L2N.Takes (X.tr pn xe) (liftW p B W) → PassesOwn (model X.prog X.w) X.A X.env xe → DSs p B (X.tr pn xe) body (tb W))
    (keeps : ∀ (a : Addr) (oe : Obj) (pn : List (Addr × Obj)), PSs (X.suite a ((a, oe) :: pn)) [b0] (tAsg (tVar i) (gName j)))
    (h1 : X.stack = X.env :: X.outer := by rfl) (h2 : X.env.frame = some X.env.locals := by rfl) (hex : X.ex = [] := by rfl) (hi : X.N[i]? = some n := by rfl) (loc : X.env.kindOf n = some .local := by rfl) :
    DS p B X (.Try body [.ExceptHandler (some (.Name x np)) (some n) [b0] pc] [] [] pos) (tTry' i j tb) := by
  refine PS.weak (ps_try_kept (tb := fun W0 D σ H => ∃ W : WX', (∀ y τ G s H2, At p B τ G s H2 → W y τ G → W0 (.ref (p.xa y)) none s H2) ∧ liftS p B (tb W) D σ H) h1 h2 hex nd hi loc nm (fun W0 pn xe tk own => ?_) keeps) fun D σ H h => ?_
  · constructor
    intro pins s σ H D I ⟨W, wish, h⟩
    refine (tries W pn xe (tk.imp fun cls d s2 H2 hw => ?_) own).run pins s σ H D I h
    obtain ⟨y, τ, G, rfl, rfl, at_, w⟩ := hw
    exact wish y τ G s2 H2 at_ w
  · obtain ⟨τ, G, D', at_, q, k⟩ := h
    refine ⟨_, fun y τ2 G2 s2 H2 at2 w => ⟨p.xa y, rfl, rfl, exm y w.1, fun a ha => ?_⟩, τ, G, D', at_, q, k⟩
    have ga : G2 a = none := by
      cases e : G2 a with
      | none => rfl
      | some g =>
        have := at2.h.obj a g e
        cases g with
        | lst ds => obtain ⟨vs, z, _⟩ := this; rw [ha] at z; cases z
        | ins c fs => obtain ⟨dx, fv, z, _⟩ := this; rw [ha] at z; cases z
        | exc y => rw [show H2 a = _ from this] at ha; cases ha
        | code y => rw [show H2 a = _ from this] at ha; cases ha
        | tz ds => obtain ⟨o, vs, z, _⟩ := this; rw [ha] at z; cases z
    have n2 : Nxt p G2 H2 (gup G2 a (.exc y)) (upd H2 a (.ext (ExcAt (p.xa y) a))) := nxt_newG at2.h ha (by exact upd_same)
    have at3 := at2.nxt n2
    exact k.nx _ _ _ _ (((at3.set i (by exact rfl)).set j (by exact rfl)).clear i) (w.2 a ga)
end DL

/-! DLCls: own classes: fields read, stored; methods; objects made. -/
namespace DL
open PySem PySem.Spec PyProof.Rows L2
/-! ### methods and makers that may refuse, told at the slots -/
section
variable {X : Cx} {k : Nat} {g C : Addr} {gd : FuncData} {qs : List Str} {sq : Sp} {W : WX} {nm mt : Str} {pp pq pr : Pos} {ea eo : Expr} {er : List Expr} {to : TE} {tr : TA}
theorem raw_meth {pl : Sem Bool} (ho : PE X eo to) (cl : Cls X.K C) (mm : Meth X.K C mt g) (F : FnOk X.prog X.w X.K X.mg X.base (L2N.CX X.prog X.w) k g gd qs sq) (room : Room k X.A) (bd : Binds X.K gd qs []) (tk : L2N.Takes X W) (has : PA X (ea :: er) tr)
    (h1 : starEach (ea :: er) X.env = (false, eval ea X.env) :: starEach er X.env := by rfl) (h2 : (backTo pr (starEach er X.env)).any (·.1) = false := by rfl)
    (h3 : eval (.Call (.Attribute eo mt pq) (ea :: er) [] pr) X.env = (do
      let obj ← eval eo X.env
      standAt pq.atName
      let (fn, fst) ← holding [obj] (getMethod obj mt pl)
      callWith pr fn fst (backTo pr (starEach (ea :: er) X.env)) (backToKw pr (keywordEach [] X.env))) := by rfl) :
    PE X (.Call (.Attribute eo mt pq) (ea :: er) [] pr) (L2H.tMethH C mt sq (WE W) to tr) := ⟨fun pins s σ H Q I h => by
  refine PySem.W.methodCall_KW (pl := pl) (thn (ho.run pins s σ H _ I h) fun u s1 ⟨x, H1, I1, rx, a, dx, fs, ex, ea, l, q⟩ => ?_) h3
  subst ex
  cases (show u = Value.ref a from rx)
  exact getmeth_ok I1 ea cl mm l (PySem.W.callWith_K (h₀ := X.base) (first := [.ref a]) I.ok.mod.kin mm.kp (thn (has.run pr pins s1 σ H1 _ I1 q) fun us s2 ⟨vs, H2, I2, rv, q2⟩ => ⟨I2.kIn, run_fnS (us := .ref a :: us) (vs := .ref a :: vs) F room bd (L2N.passAt tk σ) I2 (.cons rfl rv) q2⟩) h1 h2)⟩
theorem raw_meth0 {pl : Sem Bool} (ho : PE X eo to) (cl : Cls X.K C) (mm : Meth X.K C mt g) (F : FnOk X.prog X.w X.K X.mg X.base (L2N.CX X.prog X.w) k g gd qs sq) (room : Room k X.A) (bd : Binds X.K gd qs []) (tk : L2N.Takes X W)
    (h3 : eval (.Call (.Attribute eo mt pq) [] [] pr) X.env = (do
      let obj ← eval eo X.env
      standAt pq.atName
      let (fn, fst) ← holding [obj] (getMethod obj mt pl)
      callWith pr fn fst (backTo pr (starEach [] X.env)) (backToKw pr (keywordEach [] X.env))) := by rfl) :
    PE X (.Call (.Attribute eo mt pq) [] [] pr) (L2H.tMethH C mt sq (WE W) to tNil) := ⟨fun pins s σ H Q I h => by
  refine PySem.W.methodCall_KW (pl := pl) (thn (ho.run pins s σ H _ I h) fun u s1 ⟨x, H1, I1, rx, a, dx, fs, ex, ea, l, q⟩ => ?_) h3
  subst ex
  cases (show u = Value.ref a from rx)
  exact getmeth_ok I1 ea cl mm l (PySem.W.callWith_K0 (first := [.ref a]) I1.kIn mm.kp (run_fnS (us := [.ref a]) (vs := [.ref a]) F room bd (L2N.passAt tk σ) I1 (.cons rfl .nil) q))⟩
/-- a new object by its __init__ -/
def tMakeE (C : Addr) (sp : Sp) (W : WX) (t : TA) : TE := fun σ H Q => t σ H fun vs H1 => ∀ x dx, H1 x = none → H1 dx = none → dx ≠ x → sp (.ref x :: vs) (upd (upd H1 dx (.own x)) x (.ins C dx [])) (fun v H2 => v = .non ∧ Q (.ref x) H2) (WE W σ)
theorem run_makeE {pins : List (Addr × Obj)} {σ : L2.St} {H : Hp} {s : Shared} {Q : VK} {us : List Value} {vs : List V} (M : Mk X.K C g) (F : FnOk X.prog X.w X.K X.mg X.base (L2N.CX X.prog X.w) k g gd qs sq) (room : Room (k + 1) X.A) (bd : Binds X.K gd qs []) (tk : L2N.Takes X W)
    (I : Inv X pins σ H s) (rv : Vals vs us) (h : ∀ x dx, H x = none → H dx = none → dx ≠ x → sq (.ref x :: vs) (upd (upd H dx (.own x)) x (.ins C dx [])) (fun v H2 => v = .non ∧ Q (.ref x) H2) (WE W σ)) :
    wpAny (model X.prog X.w) X.A (call (.ref C) us) (EP X pins σ Q) X.xe s := by
  generalize hx : s.heap.objs.size + 1 = nx
  have hq := h nx s.heap.objs.size (by rw [← hx]; exact I.hok.fresh (Nat.le_succ _)) (I.hok.fresh (Nat.le_refl _)) (by rw [← hx]; exact Nat.ne_of_lt (Nat.lt_succ_self _))
  subst hx
  have J := Inv.made (C := C) I
  have rr : Vals (V.ref (s.heap.objs.size + 1) :: vs) (Value.ref (s.heap.objs.size + 1) :: us) := .cons rfl rv
  have hlen : (Value.ref (s.heap.objs.size + 1) :: us).length = qs.length := by rw [← rr.length]; exact F.len _ _ _ _ hq
  have hb := bd _ (Value.ref (s.heap.objs.size + 1) :: us) J.kIn (by rw [List.append_nil]; exact hlen)
  rw [List.append_nil] at hb
  refine wpAny_call (make_map (f := g) I.kIn M.makes M.init (beq_iff_eq.mp M.fn) (codeAny_mono (F.run _ X.stack _ _ ⟨Value.ref (s.heap.objs.size + 1) :: us, []⟩ _ _ _ (WE W σ) (room.make C us []) (J.env0.make C us []) hb rr hq) fun r s' hr => ?_))
  match r, hr with
  | .error e, hr => exact L2N.passAt tk σ pins _ _ e s' J hr
  | .ok (.ret u), hr =>
    obtain ⟨v, H', I3, r3, ev, q3⟩ := J.after hr
    subst ev
    exact ⟨r3, V.ref (s.heap.objs.size + 1), H', I3, rfl, q3⟩
  | .ok .next, hr => exact (show False from hr).elim
  | .ok .brk, hr => exact (show False from hr).elim
  | .ok .cont, hr => exact (show False from hr).elim
theorem raw_make (M : Mk X.K C g) (F : FnOk X.prog X.w X.K X.mg X.base (L2N.CX X.prog X.w) k g gd qs sq) (room : Room (k + 1) X.A) (gl : Gl X nm) (gm : X.mg nm = some (.ref C)) (bd : Binds X.K gd qs []) (tk : L2N.Takes X W) (has : PA X (ea :: er) tr)
    (hdb : (nm == ("__debug__" : Str)) = false := by decide) (h1 : starEach (ea :: er) X.env = (false, eval ea X.env) :: starEach er X.env := by rfl) (h2 : (backTo pr (starEach er X.env)).any (·.1) = false := by rfl) :
    PE X (.Call (.Name nm pp) (ea :: er) [] pr) (tMakeE C sq W tr) := ⟨fun pins s σ H Q I h =>
  wpAny_Call_Name_kw (ld_glob I gl gm (PySem.W.callWith_K (h₀ := X.base) I.ok.mod.kin M.kp (thn (has.run pr pins s σ H _ I h) fun us s1 ⟨vs, H1, I1, rv, q⟩ => ⟨I1.kIn, run_makeE M F room bd tk I1 rv q⟩) h1 h2) hdb)⟩
theorem raw_make0 (M : Mk X.K C g) (F : FnOk X.prog X.w X.K X.mg X.base (L2N.CX X.prog X.w) k g gd qs sq) (room : Room (k + 1) X.A) (gl : Gl X nm) (gm : X.mg nm = some (.ref C)) (bd : Binds X.K gd qs []) (tk : L2N.Takes X W)
    (hdb : (nm == ("__debug__" : Str)) = false := by decide) : PE X (.Call (.Name nm pp) [] [] pr) (tMakeE C sq W tNil) := ⟨fun pins s σ H Q I h =>
  wpAny_Call_Name_kw (ld_glob I gl gm (PySem.W.callWith_K0 I.kIn M.kp (run_makeE (us := []) M F room bd tk I .nil h)) hdb)⟩
end
/-! ### fields, by value -/
def putFD (f : Str) (v : D) : List (Str × D) → List (Str × D)
  | [] => [(f, v)]
  | (g, x) :: r => if g = f then (g, v) :: r else (g, x) :: putFD f v r
section
variable {p : Pm} {G : GH} {H : Hp}
theorem RepF.get : ∀ {fs : List (Str × D)} {fv : List (Str × V)} {f : Str} {d : D}, RepF p G H fs fv → fs.lookup f = some d → ∃ v, fv.lookup f = some v ∧ Rep p G H d v
  | [], _, _, _, _, e => by cases e
  | (g, x) :: r, _, f, d, ⟨v, vr, e', rx, t⟩, e => by
    subst e'
    rw [List.lookup_cons] at e ⊢
    cases q : (f == g) with
    | true => rw [q] at e; cases e; exact ⟨v, by simp, rx⟩
    | false => rw [q] at e; simpa [q] using RepF.get t e
theorem RepF.none_ : ∀ {fs : List (Str × D)} {fv : List (Str × V)} {f : Str}, RepF p G H fs fv → fs.lookup f = none → fv.lookup f = none
  | [], _, _, h, _ => by cases (show _ = _ from h); rfl
  | (g, x) :: r, _, f, ⟨v, vr, e', rx, t⟩, e => by
    subst e'
    rw [List.lookup_cons] at e ⊢
    cases q : (f == g) with
    | true => rw [q] at e; cases e
    | false => rw [q] at e; exact RepF.none_ t e
theorem RepF.put : ∀ {fs : List (Str × D)} {fv : List (Str × V)} (f : Str) {d : D} {v : V}, RepF p G H fs fv → Rep p G H d v → RepF p G H (putFD f d fs) (putF f v fv)
  | [], _, f, d, v, h, r => by cases (show _ = _ from h); exact ⟨v, [], rfl, r, rfl⟩
  | (g, x) :: r, _, f, d, v, ⟨w, wr, e', rx, t⟩, rd => by
    subst e'
    unfold putFD putF
    by_cases c : g = f
    · rw [if_pos c, if_pos c]; exact ⟨v, wr, rfl, rd, t⟩
    · rw [if_neg c, if_neg c]; exact ⟨w, _, rfl, rx, RepF.put f t rd⟩
theorem RepF.len : ∀ {fs : List (Str × D)} {fv : List (Str × V)}, RepF p G H fs fv → fs.length = fv.length
  | [], _, h => by cases (show _ = _ from h); rfl
  | _ :: _, _, ⟨_, _, e', _, t⟩ => by subst e'; rw [List.length_cons, List.length_cons, RepF.len t]
end
section
variable {p : Pm} {B : Bs p} {X : Cx} {ea eo ev : Expr} {er : List Expr} {ta to tv : TE'} {t : TA'} {pos apos : Pos} {c f m : Str}
/-- o.f -/
def tFld' (c f : Str) (to : TE') : TE' := fun σ G Q => to σ G fun x G1 => ∃ a fs d, x = .ref a ∧ G1 a = some (.ins c fs) ∧ fs.lookup f = some d ∧ Q d G1
theorem de_fld (hK : X.K = p.K) (hc : Cls p.K (p.ca c)) (hn : NoAttr p.K (p.ca c) f) (ho : DE p B X eo to) (hb : attributeBase eo f X.env (eval eo X.env) = eval eo X.env := by rfl) : DE p B X (.Attribute eo f pos) (tFld' c f to) :=
  PE.weak (pe_fld ho hb) fun σ H Q h => by
    obtain ⟨σ', G, Q', at_, q, k⟩ := h
    refine ⟨σ', G, _, at_, q, fun x G1 v H1 n1 r1 q1 => ?_⟩
    obtain ⟨a, fs, d, rfl, hg, hl, q1⟩ := q1
    obtain ⟨dx, fv, hH, rf⟩ := n1.rep.obj a _ hg
    obtain ⟨w, hw, rw_⟩ := rf.get hl
    exact ⟨a, p.ca c, dx, fv, w, r1, hH, hK ▸ hc, hK ▸ hn, hw, k d G1 w H1 n1 rw_ q1⟩
/-- o.f = e -/
def tFset' (c f : Str) (to tv : TE') : TS' := fun D σ G => tv σ G fun y G1 => to σ G1 fun x G2 => ∃ a fs, x = .ref a ∧ G2 a = some (.ins c fs) ∧ fs.length < 1000 ∧ D.nx σ (gup G2 a (.ins c (putFD f y fs)))
theorem ds_fset (hK : X.K = p.K) (hc : Cls p.K (p.ca c)) (hn : NoAttr p.K (p.ca c) f) (ho : DE p B X eo to) (hv : DE p B X ev tv) (hs : swapsWith ev (some (.Attribute eo f apos)) pos.line X.env = pure false := by rfl) : DS p B X (.Assign [.Attribute eo f apos] ev pos) (tFset' c f to tv) :=
  PS.weak (ps_fld ho hv hs) fun D σ H h => by
    obtain ⟨σ', G, D', at_, q, k⟩ := h
    refine ⟨σ', G, _, at_, q, fun y G1 w H1 n1 r1 q1 => ⟨σ', G1, _, at_.nxt n1, q1, fun x G2 v H2 n2 r2 q2 => ?_⟩⟩
    obtain ⟨a, fs, rfl, hg, hl, q2⟩ := q2
    obtain ⟨dx, fv, hH, rf⟩ := n2.rep.obj a _ hg
    refine ⟨a, p.ca c, dx, fv, r2, hH, hK ▸ hc, hK ▸ hn, by rw [← rf.len]; exact hl, ?_⟩
    have st : Step p G2 H2 (gup G2 a (.ins c (putFD f y fs))) (upd H2 a (.ins (p.ca c) dx (putF f w fv))) := step_set hg fun vs z => by rcases z with z | ⟨_, z⟩ <;> (rw [hH] at z; cases z)
    have n3 : Nxt p G2 H2 (gup G2 a (.ins c (putFD f y fs))) (upd H2 a (.ins (p.ca c) dx (putF f w fv))) := by
      refine nxt_set n2.rep hg (fun vs z => by rcases z with z | ⟨_, z⟩ <;> (rw [hH] at z; cases z)) (fun ps z => by rw [hH] at z; cases z) (fun c q z => ?_) ⟨dx, _, upd_same, st.flds (rf.put f (n2.st _ _ r1))⟩
      rw [hH] at z
      unfold LamX.CodeO at z
      cases z
    exact k.nx _ _ _ _ (at_.nxt ((n1.trans n2).trans n3)) q2
theorem mcall_h3 {eo : Expr} {m : Str} {apos pos : Pos} {env : Env} {args : List Expr} {kws : List Keyword} (hb : attributeBase eo m env (eval eo env) = eval eo env) (hf : methodCallForm (args.length + kws.length) (backTo pos (starEach args env)) (backToKw pos (keywordEach kws env)) = true) (hl : (apos.endLine == pos.line) = true) :
    eval (.Call (.Attribute eo m apos) args kws pos) env = (do
      let obj ← eval eo env
      standAt apos.atName
      let (fn, fst) ← holding [obj] (getMethod obj m (plainOf eo env))
      callWith pos fn fst (backTo pos (starEach args env)) (backToKw pos (keywordEach kws env))) := by
  have e : eval (.Call (.Attribute eo m apos) args kws pos) env = (attributeBase eo m env (eval eo env) >>= fun ov => standAt apos.atName >>= fun _ => methodCall eo m apos pos env ov (args.length + kws.length) (backTo pos (starEach args env)) (backToKw pos (keywordEach kws env))) := by rfl
  rw [e, hb]
  refine congrArg (fun f => eval eo env >>= f) (funext fun ov => ?_)
  refine congrArg (fun f => standAt apos.atName >>= f) (funext fun _ => ?_)
  exact mcall_line hf hl
/-- no field of this name -/
def noF (fs : List (Str × D)) (m : Str) : Prop := fs.lookup m = none
/-- o.m(..) -/
def tMeth' (c m : Str) (n : Nat) (sp : Sp') (W : WX') (to : TE') (t : TA') : TE' := fun σ G Q => to σ G fun x G1 => ∃ a fs, x = .ref a ∧ G1 a = some (.ins c fs) ∧ noF fs m ∧ t σ G1 fun ds G2 => ds.length + 1 = n ∧ sp (.ref a :: ds) G2 Q (fun x G3 => W x σ G3)
theorem lift_meth {n : Nat} {sp : Sp'} {W : WX'} {σ H Q} (h : liftE p B (tMeth' c m n sp W to t) σ H Q) : L2H.tMethH (p.ca c) m (liftSp p n sp) (WE (liftW p B W)) (liftE p B to) (liftA p B t) σ H Q := by
  obtain ⟨σ', G, Q', at_, q, k⟩ := h
  refine ⟨σ', G, _, at_, q, fun x G1 v H1 n1 r1 q1 => ?_⟩
  obtain ⟨a, fs, rfl, hg, hl, q1⟩ := q1
  obtain ⟨dx, fv, hH, rf⟩ := n1.rep.obj a _ hg
  refine ⟨a, dx, fv, r1, hH, rf.none_ hl, σ', G1, _, at_.nxt n1, q1, fun ds G2 vs H2 n2 r2 q2 => ?_⟩
  refine ⟨.ref a :: ds, G2, Q', _, by rw [List.length_cons]; exact q2.1, ⟨v, vs, rfl, r1, r2⟩, n2.rep, q2.2, fun d G3 w H3 n3 r3 q3 => k d G3 w H3 ((n1.trans n2).trans n3) r3 q3, fun x G3 H3 n3 q3 => ?_⟩
  exact ⟨x, σ', G3, rfl, rfl, at_.nxt ((n1.trans n2).trans n3), q3⟩
/-- a method that can be called -/
structure CalM (P : Program) (w : World) (K : PySem.W.Frag) (mg : Str → Option Value) (base : Heap) (p : Pm) (c m : Str) (k n : Nat) (sp : Sp') : Prop where
  ex : ∃ f fd ps, ps.length = n ∧ FnOk P w K mg base (L2N.CX P w) k f fd ps (liftSp p n sp) ∧ Meth K (p.ca c) m f ∧ Cls K (p.ca c) ∧ Binds K fd ps []
theorem calM_mk {P : Program} {w : World} {K : PySem.W.Frag} {mg : Str → Option Value} {base : Heap} {f : Addr} {fd : FuncData} {ps : List Str} {k n : Nat} {sp : Sp'} (F : FnOk P w K mg base (L2N.CX P w) k f fd ps (liftSp p ps.length sp)) (hn : ps.length = n) (hm : Meth K (p.ca c) m f) (hc : Cls K (p.ca c)) (hb : Binds K fd ps []) : CalM P w K mg base p c m k n sp := by
  subst hn
  exact ⟨f, fd, ps, rfl, F, hm, hc, hb⟩
theorem de_meth {j k n : Nat} {sp : Sp'} {W : WX'} (C : CalM X.prog X.w X.K X.mg X.base p c m k n sp) (hr : Room j X.A) (tk : L2N.Takes X (liftW p B W)) (ho : DE p B X eo to) (ha : DA p B X (ea :: er) t) (hk : k ≤ j := by decide)
    (h1 : starEach (ea :: er) X.env = (false, eval ea X.env) :: starEach er X.env := by rfl) (h2 : (backTo pos (starEach er X.env)).any (·.1) = false := by rfl)
    (h3 : eval (.Call (.Attribute eo m apos) (ea :: er) [] pos) X.env = (do
      let obj ← eval eo X.env
      standAt apos.atName
      let (fn, fst) ← holding [obj] (getMethod obj m (plainOf eo X.env))
      callWith pos fn fst (backTo pos (starEach (ea :: er) X.env)) (backToKw pos (keywordEach [] X.env))) := by exact mcall_h3 rfl rfl rfl) :
    DE p B X (.Call (.Attribute eo m apos) (ea :: er) [] pos) (tMeth' c m n sp W to t) := by
  obtain ⟨f, fd, ps, hn, F, hm, hc, hb⟩ := C.ex
  exact PE.weak (raw_meth ho hc hm F (hr.mono hk) hb tk ha h1 h2 h3) fun σ H Q h => lift_meth h
theorem lift_nil {σ H} {Q : List V → Hp → Prop} (h : liftA p B tNil' σ H Q) : tNil σ H Q := by
  obtain ⟨σ', G, Q', at_, q, k⟩ := h
  exact k [] G [] H (.refl at_.h) rfl q
theorem de_meth0 {j k n : Nat} {sp : Sp'} {W : WX'} (C : CalM X.prog X.w X.K X.mg X.base p c m k n sp) (hr : Room j X.A) (tk : L2N.Takes X (liftW p B W)) (ho : DE p B X eo to) (hk : k ≤ j := by decide)
    (h3 : eval (.Call (.Attribute eo m apos) [] [] pos) X.env = (do
      let obj ← eval eo X.env
      standAt apos.atName
      let (fn, fst) ← holding [obj] (getMethod obj m (plainOf eo X.env))
      callWith pos fn fst (backTo pos (starEach [] X.env)) (backToKw pos (keywordEach [] X.env))) := by exact mcall_h3 rfl rfl rfl) :
    DE p B X (.Call (.Attribute eo m apos) [] [] pos) (tMeth' c m n sp W to tNil') := by
  obtain ⟨f, fd, ps, hn, F, hm, hc, hb⟩ := C.ex
  refine PE.weak (raw_meth0 ho hc hm F (hr.mono hk) hb tk h3) fun σ H Q h => ?_
  obtain ⟨σ', G, Q', at_, q, k⟩ := lift_meth h
  exact ⟨σ', G, Q', at_, q, fun d G1 v H1 n1 r1 q1 => by
    obtain ⟨a, dx, fs, e1, e2, e3, q2⟩ := k d G1 v H1 n1 r1 q1
    exact ⟨a, dx, fs, e1, e2, e3, lift_nil q2⟩⟩
/-- C(..) -/
def tMake' (c : Str) (n : Nat) (sp : Sp') (W : WX') (t : TA') : TE' := fun σ G Q => t σ G fun ds G1 => ds.length + 1 = n ∧ ∀ a, G1 a = none → sp (.ref a :: ds) (gup G1 a (.ins c [])) (fun v G2 => v = .non ∧ Q (.ref a) G2) (fun x G2 => W x σ G2)
theorem lift_make {n : Nat} {sp : Sp'} {W : WX'} {σ H Q} (h : liftE p B (tMake' c n sp W t) σ H Q) : tMakeE (p.ca c) (liftSp p n sp) (liftW p B W) (liftA p B t) σ H Q := by
  obtain ⟨σ', G, Q', at_, q, k⟩ := h
  refine ⟨σ', G, _, at_, q, fun ds G1 vs H1 n1 r1 q1 => fun x dx hx hdx ne => ?_⟩
  have N1 : Nxt p G1 H1 G1 (upd H1 dx (.own x)) := nxt_new n1.rep hdx
  have hx2 : upd H1 dx (.own x) x = none := by rw [upd_ne (Ne.symm ne)]; exact hx
  have N2 : Nxt p G1 (upd H1 dx (.own x)) (gup G1 x (.ins c [])) (upd (upd H1 dx (.own x)) x (.ins (p.ca c) dx [])) := nxt_newG N1.rep hx2 ⟨dx, [], upd_same, rfl⟩
  have N := N1.trans N2
  refine ⟨.ref x :: ds, _, _, _, by rw [List.length_cons]; exact q1.1, ⟨_, vs, rfl, rfl, N.st.list r1⟩, N.rep, q1.2 x (n1.rep.free hx), fun d G3 w H3 n3 r3 q3 => ?_, fun y G3 H3 n3 q3 => ?_⟩
  · obtain ⟨rfl, q3⟩ := q3
    exact ⟨r3, k _ G3 _ H3 ((n1.trans N).trans n3) (by exact rfl) q3⟩
  · exact ⟨y, σ', G3, rfl, rfl, at_.nxt ((n1.trans N).trans n3), q3⟩
/-- a class that can be called -/
structure CalC (P : Program) (w : World) (K : PySem.W.Frag) (mg : Str → Option Value) (base : Heap) (p : Pm) (c : Str) (k n : Nat) (sp : Sp') : Prop where
  ex : ∃ f fd ps, ps.length = n ∧ FnOk P w K mg base (L2N.CX P w) k f fd ps (liftSp p n sp) ∧ Mk K (p.ca c) f ∧ mg c = some (.ref (p.ca c)) ∧ Binds K fd ps []
theorem calC_mk {P : Program} {w : World} {K : PySem.W.Frag} {mg : Str → Option Value} {base : Heap} {f : Addr} {fd : FuncData} {ps : List Str} {k n : Nat} {sp : Sp'} (F : FnOk P w K mg base (L2N.CX P w) k f fd ps (liftSp p ps.length sp)) (hn : ps.length = n) (hm : Mk K (p.ca c) f) (hg : mg c = some (.ref (p.ca c))) (hb : Binds K fd ps []) : CalC P w K mg base p c k n sp := by
  subst hn
  exact ⟨f, fd, ps, rfl, F, hm, hg, hb⟩
theorem de_make {j k n : Nat} {sp : Sp'} {W : WX'} {pp : Pos} (C : CalC X.prog X.w X.K X.mg X.base p c k n sp) (hr : Room j X.A) (tk : L2N.Takes X (liftW p B W)) (ha : DA p B X (ea :: er) t) (hk : k + 1 ≤ j := by decide) (hg : Gl X c := by rfl) (hdb : (c == ("__debug__" : Str)) = false := by decide)
    (h1 : starEach (ea :: er) X.env = (false, eval ea X.env) :: starEach er X.env := by rfl) (h2 : (backTo pos (starEach er X.env)).any (·.1) = false := by rfl) : DE p B X (.Call (.Name c pp) (ea :: er) [] pos) (tMake' c n sp W t) := by
  obtain ⟨f, fd, ps, hn, F, hm, hgm, hb⟩ := C.ex
  exact PE.weak (raw_make hm F (hr.mono hk) hg hgm hb tk ha hdb h1 h2) fun σ H Q h => lift_make h
theorem de_make0 {j k n : Nat} {sp : Sp'} {W : WX'} {pp : Pos} (C : CalC X.prog X.w X.K X.mg X.base p c k n sp) (hr : Room j X.A) (tk : L2N.Takes X (liftW p B W)) (hk : k + 1 ≤ j := by decide) (hg : Gl X c := by rfl) (hdb : (c == ("__debug__" : Str)) = false := by decide) : DE p B X (.Call (.Name c pp) [] [] pos) (tMake' c n sp W tNil') := by
  obtain ⟨f, fd, ps, hn, F, hm, hgm, hb⟩ := C.ex
  refine PE.weak (raw_make0 hm F (hr.mono hk) hg hgm hb tk hdb) fun σ H Q h => ?_
  exact lift_nil (lift_make h)
end
end DL

/-! DEnd2: the end of a law by the head's facts, tables of code objects too. -/
namespace DL
open PySem PySem.Spec PyProof.Rows L2
theorem fun_of_D {K : PySem.W.Frag} {x qual : Str} {st : Stmt} {f : Addr} {fd : FuncData} (F : FunD K x qual (defArgs st) (defBody st) (defScope st) [] [] f fd) : Fun K x qual st f fd := by
  refine ⟨?_, F.kp⟩
  obtain ⟨oc, od, dV, kV, doc, pm, an, cdv, ct, osl, e, lk, hcd, hd, _⟩ := F.ex
  have z : dV = .none := by
    rcases hd with ⟨_, z⟩ | ⟨z, _⟩
    · exact z
    · exact (z rfl).elim
  subst z
  exact ⟨oc, od, kV, doc, pm, an, cdv, ct, osl, e, lk, hcd⟩
/-- where a def with lambdas has its table -/
def tabsOf (K : PySem.W.Frag) (tf : List (He.Defn × Str)) : List (Addr × Str) := tf.map fun q => ((He.cT K q.1).2, q.2)
def apartB (K : PySem.W.Frag) (tf : List (He.Defn × Str)) : Bool := tf.all fun q => tf.all fun r => !decide ((He.cT K q.1).2 = (He.cT K r.1).2) || decide (q.2 = r.2)
theorem htab_of {K : PySem.W.Frag} {base : Heap} {mg : Str → Option Value} {p : Pm} {tf : List (He.Defn × Str)} {q : He.Defn × Str} {x qual : Str} {st : Stmt} {fd : FuncData} (F : Fun K x qual st (He.fAd K q.1) fd) (hq : q ∈ tf) (hp : p.T = tabsOf K tf) (ha : apartB K tf = true) (hn : q.2 = (envOfC qual (defScope st) 0 0 .none).qual ++ "<lambda>")
    (TB : ∀ r ∈ (tf.map (·.1)).map (He.cT K), LamX.TabB base mg r.1 r.2) : HTab base mg p fd qual st := by
  obtain ⟨oc, od, kV, doc, pm, an, cdv, ct, osl, rfl, lk, hcd⟩ := F.ex
  obtain ⟨c, rfl⟩ := He.codeIn_ref hcd
  have e := He.codeOf_eq lk rfl
  have m : He.cT K q.1 ∈ (tf.map (·.1)).map (He.cT K) := List.mem_map.mpr ⟨q.1, List.mem_map.mpr ⟨q, hq, rfl⟩, rfl⟩
  refine ⟨c, (He.cT K q.1).2, rfl, ?_, ?_, fun t ht et => ?_⟩
  · have := TB _ m
    rw [show (He.cT K q.1).1 = c from e] at this
    exact this
  · rw [hp, ← hn]
    exact List.mem_map.mpr ⟨q, hq, rfl⟩
  · rw [hp] at ht
    obtain ⟨r, hr, rfl⟩ := List.mem_map.mp ht
    have z := List.all_eq_true.mp (List.all_eq_true.mp ha q hq) r hr
    rw [← hn]
    dsimp only at et ⊢
    rw [et] at z
    simp at z
    exact z.symm
theorem spTop_start {K : PySem.W.Frag} {ca : Str → Addr} {xa : Ex → Addr} {H : Hp} {a : Addr} {ns : List Int} {T : List (Addr × Str)} (hl : ns.length ≤ 63) (hT : ∀ t ∈ T, H t.1 = some (.tbl #[])) (hS : SqL K H a (ns.map V.int)) : spTop K T ca xa [.ref a] H (fun v _ => v = .bl true) fun _ _ _ => False := by
  refine top_start hl ?_ fun t ht => LamX.TabS.nil (hT t ht)
  rcases hS with h | h
  · exact .inl ⟨h, rfl⟩
  · exact .inr fun H' => .inr h
theorem law_at {l : PySem.W.OpenLaw} {w : World} {K : PySem.W.Frag} {h : Heap} {mg : Str → Option Value} {fa : List He.Fa} {fn : List He.DefD} {tf : List (He.Defn × Str)} {ex : PySem.W.Frag → Bool} {k : Nat} {f : Addr} {fd : FuncData} {x : Str} (X : K.In h) (c : He.SaysX fa fn [] (tf.map (·.1)) ex w h K)
    (hb : ∀ (s : Shared) (u : Value), BindsTo s fd ⟨[u], []⟩ [(x, u)])
    (F : ∀ base : Heap, K.In base → base.Ns mainGlobals mg → (∀ r ∈ (tf.map (·.1)).map (He.cT K), LamX.TabB base mg r.1 r.2) → ∀ a ns (hl : ns.length ≤ 63), FnOk l.prog w K mg base (L2N.CX l.prog w) k f fd [x] (liftSp (pmOf K (tabsOf K tf) (He.ga K) (fun y => He.ga K (exCls y)) a ns hl) 1 spLaw)) :
    LamX.LawAtS l w K (L2N.CX l.prog w) k 63 x mg f h := by
  refine ⟨fd, (tf.map (·.1)).map (He.cT K), spTop K (tabsOf K tf) (He.ga K) (fun y => He.ga K (exCls y)), fun r hr => ?_, fun r hr => ?_, fun r hr => ?_, hb, fun H a ns hl _ hT hS => ?_, fun base KB NB TB => top_ok (F base KB NB TB)⟩
  · obtain ⟨q, hq, rfl⟩ := List.mem_map.mp hr
    exact c.empty q hq
  · obtain ⟨q, hq, rfl⟩ := List.mem_map.mp hr
    exact c.out q hq
  · obtain ⟨q, hq, rfl⟩ := List.mem_map.mp hr
    exact PySem.W.codeHd_of_K X (c.hd q hq)
  · refine spTop_start hl (fun t ht => ?_) hS
    obtain ⟨q, hq, rfl⟩ := List.mem_map.mp ht
    exact hT _ (List.mem_map.mpr ⟨q.1, List.mem_map.mpr ⟨q, hq, rfl⟩, rfl⟩)
/-! ### the refusals' facts by one Bool -/
def excB (K : PySem.W.Frag) (D : Addr) : Bool := He.eqO (PySem.W.findIn K (.ref D) "__getattribute__") (some (some (.builtin "BaseException.__getattribute__"))) && (He.eqO (PySem.W.findIn K (.ref D) "__getattr__") (some none) && (decide (PySem.W.subIn K (.ref D) (.type "BaseException") = some true) && (PySem.W.hasDictIn K D && (He.eqO (PySem.W.findIn K (.ref D) "__class__") (some (some (.builtin "object.__class__"))) &&
  (He.eqO (PySem.W.specialIn K (.builtin "object.__class__") "__get__") (some (some (.builtin "getset_descriptor.__get__"))) && (decide (PySem.W.takesIn K (.builtin "object.__class__") = some true) && decide (PySem.W.mroIn K D (.type "object") = some true)))))))
theorem excB_ok {K : PySem.W.Frag} {D : Addr} (h : excB K D = true) : ExcC K D := by
  obtain ⟨h1, h⟩ := He.ba h
  obtain ⟨h2, h⟩ := He.ba h
  obtain ⟨h3, h⟩ := He.ba h
  obtain ⟨h4, h⟩ := He.ba h
  obtain ⟨h5, h⟩ := He.ba h
  obtain ⟨h6, h⟩ := He.ba h
  obtain ⟨h7, h8⟩ := He.ba h
  exact ⟨He.eqO_ok h1, He.eqO_ok h2, of_decide_eq_true h3, h4, He.eqO_ok h5, He.eqO_ok h6, of_decide_eq_true h7, of_decide_eq_true h8⟩
def allEx : List Ex := [.row, .gate, .period, .text, .back]
theorem mem_ex (x : Ex) : x ∈ allEx := by cases x <;> simp [allEx]
def excsB (K : PySem.W.Frag) : Bool := allEx.all fun x => excB K (He.ga K (exCls x)) && (He.eqO (PySem.W.nsIn K mainGlobals (exCls x)) (some (some (.ref (He.ga K (exCls x))))) && (decide (PySem.W.kitOne K (.ref (He.ga K (exCls x))) (.type "ValueError") = some true) &&
  (decide (PySem.W.exmOne K (.ref (He.ga K (exCls x))) (.ref (He.ga K "BeatError")) = some true) && allEx.all fun y => decide (PySem.W.kitOne K (.ref (He.ga K (exCls x))) (.ref (He.ga K (exCls y))) = some (decide (x = y))))))
theorem excs_ok {K : PySem.W.Frag} {h : Heap} {mg : Str → Option Value} {p : Pm} (X : K.In h) (G : h.Ns mainGlobals mg) (hx : p.xa = fun y => He.ga K (exCls y)) (hc : p.ca = He.ga K) (hb : mg "BeatError" = some (.ref (He.ga K "BeatError"))) (e : excsB K = true) : ExcsF K mg p (p.ca "BeatError") := by
  have key := fun x => List.all_eq_true.mp e x (mem_ex x)
  rw [hc]
  refine ⟨fun x => ?_, fun x => ?_, fun x y => ?_, fun x => ?_, hb, fun x => ?_⟩ <;> rw [hx]
  · exact PySem.W.mg_of X G (He.eqO_ok (He.ba (He.ba (key x)).2).1)
  · exact excB_ok (He.ba (key x)).1
  · exact of_decide_eq_true (List.all_eq_true.mp (He.ba (He.ba (He.ba (He.ba (key x)).2).2).2).2 y (mem_ex y))
  · exact of_decide_eq_true (He.ba (He.ba (He.ba (key x)).2).2).1
  · exact of_decide_eq_true (He.ba (He.ba (He.ba (He.ba (key x)).2).2).2).1
theorem excF_of {K : PySem.W.Frag} {mg : Str → Option Value} {p : Pm} {x : Ex} (hx : p.xa = fun y => He.ga K (exCls y)) (hg : mg (exCls x) = some (.ref (He.ga K (exCls x)))) (e : (He.Fa.exc (exCls x)).ok K = true) : ExcF K mg p (exCls x) x := by
  obtain ⟨h1, h2, h3, h4⟩ := He.exc_ok e
  have z : p.xa x = He.ga K (exCls x) := by rw [hx]
  exact excf z h1 hg h2 h3 h4
theorem facts_of {fa : List He.Fa} {fn : List He.DefD} {tf : List He.Defn} {ex : PySem.W.Frag → Bool} {w : World} {h : Heap} {K : PySem.W.Frag} (c : He.SaysX fa fn [] tf ex w h K) : He.SaysD fa fn K := congrArg (fun z : He.AlT => z.1) c.t
end DL
namespace DL
open PySem PySem.Spec PyProof.Rows L2
theorem bind_one {K : PySem.W.Frag} {x qual : Str} {st : Stmt} {f : Addr} {fd : FuncData} {a : Str} (F : Fun K x qual st f fd) (s : Shared) (u : Value) (h : ∀ (kV doc pm : Value) (an : Option Addr) (cdv ct : Value), bindArgs (PySem.W.fnOf x qual (defArgs st) (defBody st) (defScope st) .none kV doc pm an cdv ct) ⟨[u], []⟩ = pure [(a, u)] := by intros; rfl) : BindsTo s fd ⟨[u], []⟩ [(a, u)] := by
  obtain ⟨oc, od, kV, doc, pm, an, cdv, ct, osl, rfl, lk, hcd⟩ := F.ex
  exact .of_eq (h _ _ _ _ _ _)
end DL

namespace DL
open PySem PySem.Spec PyProof.Rows L2
/-! ### what the program's functions tell -/
@[simp] theorem kit_NoneType_int : kitB "NoneType" "int" = some false := by decide +kernel
@[simp] theorem kit_NoneType_bool : kitB "NoneType" "bool" = some false := by decide +kernel
@[simp] theorem kit_NoneType_tuple : kitB "NoneType" "tuple" = some false := by decide +kernel
@[simp] theorem kit_NoneType_list : kitB "NoneType" "list" = some false := by decide +kernel
@[simp] theorem kit_NoneType_str : kitB "NoneType" "str" = some false := by decide +kernel
@[simp] theorem kit_bool_int : kitB "bool" "int" = some true := by decide +kernel
@[simp] theorem kit_bool_bool : kitB "bool" "bool" = some true := by decide +kernel
@[simp] theorem kit_bool_tuple : kitB "bool" "tuple" = some false := by decide +kernel
@[simp] theorem kit_bool_list : kitB "bool" "list" = some false := by decide +kernel
@[simp] theorem kit_bool_str : kitB "bool" "str" = some false := by decide +kernel
@[simp] theorem kit_int_int : kitB "int" "int" = some true := by decide +kernel
@[simp] theorem kit_int_bool : kitB "int" "bool" = some false := by decide +kernel
@[simp] theorem kit_int_tuple : kitB "int" "tuple" = some false := by decide +kernel
@[simp] theorem kit_int_list : kitB "int" "list" = some false := by decide +kernel
@[simp] theorem kit_int_str : kitB "int" "str" = some false := by decide +kernel
@[simp] theorem kit_str_int : kitB "str" "int" = some false := by decide +kernel
@[simp] theorem kit_str_bool : kitB "str" "bool" = some false := by decide +kernel
@[simp] theorem kit_str_tuple : kitB "str" "tuple" = some false := by decide +kernel
@[simp] theorem kit_str_list : kitB "str" "list" = some false := by decide +kernel
@[simp] theorem kit_str_str : kitB "str" "str" = some true := by decide +kernel
@[simp] theorem kit_tuple_int : kitB "tuple" "int" = some false := by decide +kernel
@[simp] theorem kit_tuple_bool : kitB "tuple" "bool" = some false := by decide +kernel
@[simp] theorem kit_tuple_tuple : kitB "tuple" "tuple" = some true := by decide +kernel
@[simp] theorem kit_tuple_list : kitB "tuple" "list" = some false := by decide +kernel
@[simp] theorem kit_tuple_str : kitB "tuple" "str" = some false := by decide +kernel
@[simp] theorem kit_list_int : kitB "list" "int" = some false := by decide +kernel
@[simp] theorem kit_list_bool : kitB "list" "bool" = some false := by decide +kernel
@[simp] theorem kit_list_tuple : kitB "list" "tuple" = some false := by decide +kernel
@[simp] theorem kit_list_list : kitB "list" "list" = some true := by decide +kernel
@[simp] theorem kit_list_str : kitB "list" "str" = some false := by decide +kernel
/-- a thing of which isinstance can be asked -/
def plain : D → Bool
  | .ref _ => false
  | .scr => false
  | _ => true
@[simp] theorem plain_int {i : Int} : plain (.int i) = true := rfl
@[simp] theorem plain_bl {i : Bool} : plain (.bl i) = true := rfl
@[simp] theorem plain_non : plain .non = true := rfl
@[simp] theorem plain_str {x : Str} : plain (.str x) = true := rfl
@[simp] theorem plain_tup {ds : List D} : plain (.tup ds) = true := rfl
@[simp] theorem plain_lst {ds : List D} : plain (.lst ds) = true := rfl
@[simp] theorem plain_ref {a : Addr} : plain (.ref a) = false := rfl
@[simp] theorem plain_scr : plain .scr = false := rfl
def isWhole (lo hi : Int) : D → Bool
  | .int i => decide (lo ≤ i) && decide (i ≤ hi)
  | _ => false
@[simp] theorem isWhole_int {lo hi i : Int} : isWhole lo hi (.int i) = (decide (lo ≤ i) && decide (i ≤ hi)) := rfl
@[simp] theorem isWhole_bl {lo hi : Int} {b : Bool} : isWhole lo hi (.bl b) = false := rfl
@[simp] theorem isWhole_non {lo hi : Int} : isWhole lo hi .non = false := rfl
@[simp] theorem isWhole_str {lo hi : Int} {x : Str} : isWhole lo hi (.str x) = false := rfl
@[simp] theorem isWhole_tup {lo hi : Int} {x : List D} : isWhole lo hi (.tup x) = false := rfl
@[simp] theorem isWhole_lst {lo hi : Int} {x : List D} : isWhole lo hi (.lst x) = false := rfl
theorem isWhole_some {lo hi : Int} {d : D} (h : isWhole lo hi d = true) : ∃ i, d = .int i ∧ lo ≤ i ∧ i ≤ hi := by
  cases d with
  | int i => simp at h; exact ⟨i, rfl, h⟩
  | _ => cases h
def RowOk (ns : List Int) : Prop := ns.length ≤ 40 ∧ (∀ n ∈ ns, 0 ≤ n ∧ n ≤ 9999) ∧ ns.Pairwise (· < ·)
instance (ns : List Int) : Decidable (RowOk ns) := by unfold RowOk; infer_instance
def intsOf : List D → Option (List Int)
  | [] => some []
  | .int i :: r => (intsOf r).map (i :: ·)
  | _ :: _ => none
def rowOf : D → Option (List Int)
  | .tup ds => match intsOf ds with
    | some ns => if RowOk ns then some ns else none
    | none => none
  | _ => none
/-- a thing of which is_row can be asked -/
def rowAsk : D → Prop
  | .tup ds => ds.length ≤ sizeLine ∧ ∀ d ∈ ds, plain d = true
  | d => plain d = true
@[simp] theorem intsOf_map : ∀ ns : List Int, intsOf (ns.map D.int) = some ns
  | [] => rfl
  | n :: ns => by simp [intsOf, intsOf_map ns]
theorem intsOf_some : ∀ {ds : List D} {ns : List Int}, intsOf ds = some ns → ds = ns.map D.int
  | [], ns, h => by simp [intsOf] at h; subst h; rfl
  | .int i :: r, ns, h => by
    simp only [intsOf, Option.map_eq_some_iff] at h
    obtain ⟨ms, h1, rfl⟩ := h
    rw [intsOf_some h1]; rfl
  | .non :: _, _, h => by simp [intsOf] at h
  | .bl _ :: _, _, h => by simp [intsOf] at h
  | .str _ :: _, _, h => by simp [intsOf] at h
  | .tup _ :: _, _, h => by simp [intsOf] at h
  | .lst _ :: _, _, h => by simp [intsOf] at h
  | .ref _ :: _, _, h => by simp [intsOf] at h
  | .scr :: _, _, h => by simp [intsOf] at h
theorem rowOf_some {d : D} {ns : List Int} (h : rowOf d = some ns) : d = .tup (ns.map D.int) ∧ RowOk ns := by
  cases d with
  | tup ds =>
    simp only [rowOf] at h
    split at h
    · rename_i ms e
      split at h
      · rename_i hr
        cases h
        exact ⟨by rw [intsOf_some e], hr⟩
      · cases h
    · cases h
  | _ => simp [rowOf] at h
theorem rowOf_row {ns : List Int} (h : RowOk ns) : rowOf (.tup (ns.map D.int)) = some ns := by simp [rowOf, h]
theorem line_40 : 40 ≤ sizeLine := by rw [sizeLine_eq]; omega
theorem rowAsk_row {ns : List Int} (h : RowOk ns) : rowAsk (.tup (ns.map D.int)) := by
  refine ⟨by rw [List.length_map]; exact Nat.le_trans h.1 line_40, fun d hd => ?_⟩
  obtain ⟨n, _, rfl⟩ := List.mem_map.mp hd
  rfl
def gateOf (s l : D) : Option (Int × Int) := match s, l with
  | .int s, .int l => if 0 ≤ s ∧ s ≤ 9999 ∧ 1 ≤ l ∧ l ≤ 9999 then some (s, l) else none
  | _, _ => none
def cnt (ns : List Int) (s l : Int) : List Int := ns.filter fun x => decide (s ≤ x) && decide (x < s + l)

def sp_is_whole (p : Pm) : Sp' := sp3 fun d lo hi G Q E => ∃ l h, lo = .int l ∧ hi = .int h ∧ plain d = true ∧ Q (.bl (isWhole l h d)) G
def sp_is_row (p : Pm) : Sp' := sp1 fun d G Q E => rowAsk d ∧ Q (.bl (rowOf d).isSome) G
def withRow (d : D) (E : EK') (G : GH) (k : List Int → Prop) : Prop := match rowOf d with
  | some ns => k ns
  | none => E .row G
def withGate (s l : D) (E : EK') (G : GH) (k : Int → Int → Prop) : Prop := match gateOf s l with
  | some (a, b) => k a b
  | none => E .gate G
def sp_look_row (p : Pm) : Sp' := sp1 fun d G Q E => rowAsk d ∧ withRow d E G fun _ => Q .non G
def sp_look_gate (p : Pm) : Sp' := sp2 fun s l G Q E => plain s = true ∧ plain l = true ∧ withGate s l E G fun _ _ => Q .non G
def sp_in_gate (p : Pm) : Sp' := sp3 fun d s l G Q E => ∃ (ns : List Int) (a b : Int), d = .tup (ns.map D.int) ∧ s = .int a ∧ l = .int b ∧ ns.length ≤ sizeLine ∧ Q (.lst ((cnt ns a b).map D.int)) G
def sp_counted (p : Pm) : Sp' := sp3 fun d s l G Q E => rowAsk d ∧ plain s = true ∧ plain l = true ∧ withRow d E G fun ns => withGate s l E G fun a b => Q (.int (cnt ns a b).length) G
/-- how far each is behind the one ahead -/
def gapsOf (ns : List Int) : List Int := (ns.zip ns.tail).map fun q => q.2 - q.1
def sp_gaps (p : Pm) : Sp' := sp1 fun d G Q E => rowAsk d ∧ withRow d E G fun ns => Q (.lst ((gapsOf ns).map D.int)) G
/-- a cell of the script -/
def cellF (ns : List Int) (k : Int) : Int := if k < ns.length then ns.getD k.toNat 0 else if ns = [] then 0 else ns.getD (k % ns.length).toNat 0 * 31 + k
def drawnF (ns : List Int) (k : Int) : Int := (cellF ns k + 6151 * (k + 1)) * 40692 % 2147483399
def pickF (ns : List Int) (k : Int) (many : Int) : Int := (drawnF ns k * drawnF ns k + drawnF ns k / 31) % 2147483629 % many
theorem pickF_range {ns : List Int} {k : Int} {many : Int} (h : 0 < many) : 0 ≤ pickF ns k many ∧ pickF ns k many < many := ⟨Int.emod_nonneg _ (by omega), Int.emod_lt_of_pos _ h⟩
def sp__law_cell (p : Pm) : Sp' := sp2 fun s k G Q E => ∃ n : Int, s = .scr ∧ k = .int n ∧ 0 ≤ n ∧ n ≤ 1000000 ∧ Q (.int (cellF p.ns n)) G
def sp__law_pick (p : Pm) : Sp' := sp3 fun s k m G Q E => ∃ (n many : Int), s = .scr ∧ k = .int n ∧ m = .int many ∧ 0 ≤ n ∧ n ≤ 1000000 ∧ 0 < many ∧ Q (.int (pickF p.ns n many)) G
/-! applied -/
section
variable {p : Pm} {G : GH} {Q : QE} {E : EK'} {d s l : D} {i j lo hi : Int}
@[simp] theorem at_cell : sp__law_cell p [.scr, .int i] G Q E = (0 ≤ i ∧ i ≤ 1000000 ∧ Q (.int (cellF p.ns i)) G) := by simp [sp__law_cell]
@[simp] theorem at_pick : sp__law_pick p [.scr, .int i, .int j] G Q E = (0 ≤ i ∧ i ≤ 1000000 ∧ 0 < j ∧ Q (.int (pickF p.ns i j)) G) := by simp [sp__law_pick]
@[simp] theorem at_is_whole : sp_is_whole p [d, .int lo, .int hi] G Q E = (plain d = true ∧ Q (.bl (isWhole lo hi d)) G) := by simp [sp_is_whole]
@[simp] theorem at_is_row : sp_is_row p [d] G Q E = (rowAsk d ∧ Q (.bl (rowOf d).isSome) G) := by simp [sp_is_row]
@[simp] theorem at_look_row : sp_look_row p [d] G Q E = (rowAsk d ∧ withRow d E G fun _ => Q .non G) := by simp [sp_look_row]
@[simp] theorem at_look_gate : sp_look_gate p [s, l] G Q E = (plain s = true ∧ plain l = true ∧ withGate s l E G fun _ _ => Q .non G) := by simp [sp_look_gate]
@[simp] theorem at_in_gate {ns : List Int} : sp_in_gate p [.tup (ns.map D.int), .int i, .int j] G Q E = (ns.length ≤ sizeLine ∧ Q (.lst ((cnt ns i j).map D.int)) G) := by
  simp only [sp_in_gate, sp3]
  refine propext ⟨fun ⟨ms, a, b, e, e1, e2, h⟩ => ?_, fun h => ⟨ns, i, j, rfl, rfl, rfl, h⟩⟩
  cases e1; cases e2
  have : ns = ms := by
    have e := D.tup.inj e
    exact (List.map_inj_right (fun x y h => by cases h; rfl)).mp e
  subst this
  exact h
@[simp] theorem at_counted : sp_counted p [d, s, l] G Q E = (rowAsk d ∧ plain s = true ∧ plain l = true ∧ withRow d E G fun ns => withGate s l E G fun a b => Q (.int (cnt ns a b).length) G) := by simp [sp_counted]
@[simp] theorem at_gaps : sp_gaps p [d] G Q E = (rowAsk d ∧ withRow d E G fun ns => Q (.lst ((gapsOf ns).map D.int)) G) := by simp [sp_gaps]
/-- a row is looked at, a gate: what is behind -/
theorem wr_step {d : D} {σ : St'} {k k' : List Int → Prop} (h : withRow d E G k) (f : ∀ xs, d = .tup (xs.map D.int) → RowOk xs → k xs → k' xs) : withRow d (fun x G2 => FzE E x σ G2) G k' := by
  unfold withRow at h ⊢
  cases e : rowOf d with
  | none => rw [e] at h; exact fzE h
  | some ns => rw [e] at h; obtain ⟨e1, e2⟩ := rowOf_some e; exact f ns e1 e2 h
theorem gateOf_some {s l : D} {a b : Int} (h : gateOf s l = some (a, b)) : s = .int a ∧ l = .int b ∧ 0 ≤ a ∧ a ≤ 9999 ∧ 1 ≤ b ∧ b ≤ 9999 := by
  unfold gateOf at h
  split at h
  · split at h
    · cases h; rename_i h; exact ⟨rfl, rfl, h⟩
    · cases h
  · cases h
theorem wg_step {s l : D} {σ : St'} {k k' : Int → Int → Prop} (h : withGate s l E G k) (f : ∀ a b, s = .int a → l = .int b → 0 ≤ a ∧ a ≤ 9999 ∧ 1 ≤ b ∧ b ≤ 9999 → k a b → k' a b) : withGate s l (fun x G2 => FzE E x σ G2) G k' := by
  unfold withGate at h ⊢
  cases e : gateOf s l with
  | none => rw [e] at h; exact fzE h
  | some ab => rw [e] at h; obtain ⟨e1, e2, e3⟩ := gateOf_some e; exact f _ _ e1 e2 e3 h
/-- what is a row, a gate -/
theorem on_row {ns : List Int} {k : List Int → Prop} (h : RowOk ns) : withRow (.tup (ns.map D.int)) E G k = k ns := by simp [withRow, rowOf_row h]
@[simp] theorem on_row0 {k : List Int → Prop} : withRow (.tup []) E G k = k [] := on_row (ns := []) (by decide)
@[simp] theorem ask_row0 : rowAsk (.tup []) := rowAsk_row (ns := []) (by decide)
theorem on_gate {k : Int → Int → Prop} (h : 0 ≤ i ∧ i ≤ 9999 ∧ 1 ≤ j ∧ j ≤ 9999) : withGate (.int i) (.int j) E G k = k i j := by simp [withGate, gateOf, h]
end
end DL

set_option maxHeartbeats 2000000
/-! DLWord: the word of an exception that was kept. -/
namespace DL
open PySem PySem.Spec PyProof.Rows L2
/-- isinstance(e, c), e an exception that is known -/
def rIsW (K : PySem.W.Frag) : List V → Hp → VK → Prop := fun xs H Q => ∃ (a C : Addr) (c : V) (cv : Value) (b : Bool), xs = [.ref a, c] ∧ H a = some (.ext (ExcAt C a)) ∧ ExcC K C ∧ (∀ u, RelV c u → u = cv) ∧ PySem.W.kitOne K (.ref C) cv = some b ∧ Q (.bl b) H
theorem call_isW {X : Cx} : CallR X (.builtin "isinstance") (rIsW X.K) := by
  intro pins s σ H xs us Q I r h
  obtain ⟨a, C, c, cv, b, rfl, hH, hc, hcv, e, q⟩ := h
  obtain ⟨⟨o, vs, z1, z2, z3, z4⟩, _⟩ := I.hok a _ hH
  cases r with
  | cons r1 rest =>
    cases rest with
    | cons r2 rest =>
      cases rest
      cases r1
      have ec := hcv _ r2
      subst ec
      have inst : PySem.W.InstAt s.heap a o C none := by
        obtain ⟨oc, od, oda, osl⟩ := o
        dsimp only at z2 z3 z4
        subst z2 z3 z4
        exact ⟨z1, rfl, rfl, trivial⟩
      exact PySem.W.kia_one (PySem.W.handS_kitx_exc hc.hg hc.hk hc.hs hc.hd hc.ha hc.hn hc.ht hc.hm) I.kIn inst e (fun z => nomatch z) fun tk => ⟨.bl b, H, I.kept (t' := tk) fun _ _ z => z, rfl, q⟩
/-- the refusals' classes that a word is known of -/
structure ExcsW (K : PySem.W.Frag) (mg : Str → Option Value) (p : Pm) (CS : Addr) : Prop where
  gl : ∀ x, x ≠ .back → mg (exCls x) = some (.ref (p.xa x))
  isc : ∀ x, x ≠ .back → ExcC K (p.xa x)
  kit : ∀ x y, x ≠ .back → y ≠ .back → PySem.W.kitOne K (.ref (p.xa x)) (.ref (p.xa y)) = some (decide (x = y))
  ve : ∀ x, x ≠ .back → PySem.W.kitOne K (.ref (p.xa x)) (.type "ValueError") = some true
  base : mg "BeatError" = some (.ref CS)
  exm : ∀ x, x ≠ .back → PySem.W.exmOne K (.ref (p.xa x)) (.ref CS) = some true
  kb : ∀ x, x ≠ .back → PySem.W.kitOne K (.ref (p.xa x)) (.ref CS) = some true
def tIsW (K : PySem.W.Frag) (v : V) : TE := tCB (rIsW K) (tCons (tVar 0) (tCons (tC v) tNil))
section
variable {X : Cx} {p : Pm} {CS : Addr} {kept : Str} {p1 p2 p3 pos : Pos}
theorem pe_isw {y : Str} {C : Addr} (mi : X.mg "isinstance" = none) (gi : Gl X "isinstance") (hk : PE X (.Name kept p1) (tVar 0)) (gc : Gl X y) (gm : X.mg y = some (.ref C)) (hdb : (y == ("__debug__" : Str)) = false)
    (h1 : starEach [.Name kept p1, .Name y p2] X.env = (false, eval (.Name kept p1) X.env) :: starEach [.Name y p2] X.env := by rfl) (h2 : starEach [.Name y p2] X.env = (false, eval (.Name y p2) X.env) :: starEach [] X.env := by rfl)
    (h3 : (backTo pos (starEach [.Name y p2] X.env)).any (·.1) = false := by rfl) : PE X (.Call (.Name "isinstance" p3) [.Name kept p1, .Name y p2] [] pos) (tIsW X.K (.ref C)) :=
  pe_callB call_isW gi mi (by decide +kernel) (pa_cons hk (pa_cons (pe_glob (v := .ref C) gc gm rfl hdb) pa_nil h2) h1) (by decide) (by decide) h1 h3
theorem pe_isv (mi : X.mg "isinstance" = none) (mv : X.mg "ValueError" = none) (gi : Gl X "isinstance") (gv : Gl X "ValueError") (hk : PE X (.Name kept p1) (tVar 0))
    (h1 : starEach [.Name kept p1, .Name "ValueError" p2] X.env = (false, eval (.Name kept p1) X.env) :: starEach [.Name "ValueError" p2] X.env := by rfl) (h2 : starEach [.Name "ValueError" p2] X.env = (false, eval (.Name "ValueError" p2) X.env) :: starEach [] X.env := by rfl)
    (h3 : (backTo pos (starEach [.Name "ValueError" p2] X.env)).any (·.1) = false := by rfl) : PE X (.Call (.Name "isinstance" p3) [.Name kept p1, .Name "ValueError" p2] [] pos) (tIsW X.K (.ty "ValueError")) :=
  pe_callB call_isW gi mi (by decide +kernel) (pa_cons hk (pa_cons (pe_bltn (v := .ty "ValueError") gv mv (by decide +kernel) rfl) pa_nil h2) h1) (by decide) (by decide) h1 h3
end
/-- what _law_word's body asks -/
def tWordBody (K : PySem.W.Frag) (p : Pm) (CS : Addr) : TS :=
  tSeq (tAsg (tLst (tCons (tIsW K (.ref (p.xa .gate))) (tCons (tIsW K (.ref (p.xa .period))) (tCons (tIsW K (.ref (p.xa .row))) (tCons (tIsW K (.ref (p.xa .text))) tNil))))) (gName 1))
  (tSeq (tIfS (tOr (tTest (tOp rNe (tBM K "list" (rCntB K) (tVar 1) (tCons (tC (.bl true)) tNil)) (tC (.int 1)))) (tOr (tNot (tTest (tIsW K (.ty "ValueError")))) (tNot (tTest (tIsW K (.ref CS)))))) (tRet (tC (.str "wrong"))) tNext)
  (tRet (tOp (rIx K) (tLst (tCons (tC (.str "no gate")) (tCons (tC (.str "no period")) (tCons (tC (.str "no row")) (tCons (tC (.str "no text")) tNil))))) (tBM K "list" (rIndex K) (tVar 1) (tCons (tC (.bl true)) tNil)))))
def kindsW (x : Ex) : List Bool := [decide (x = .gate), decide (x = .period), decide (x = .row), decide (x = .text)]
theorem isw_go {K : PySem.W.Frag} {p : Pm} {a : Addr} {x : Ex} {c : V} {cv : Value} {b : Bool} {σ : L2.St} {H : Hp} {Q : VK} (hc : ExcC K (p.xa x)) (h0 : σ[0]? = some (some (.ref a))) (hH : H a = some (.ext (ExcAt (p.xa x) a))) (hv : ∀ u, RelV c u → u = cv) (e : PySem.W.kitOne K (.ref (p.xa x)) cv = some b) (q : Q (.bl b) H) : tIsW K c σ H Q :=
  ⟨.ref a, h0, a, p.xa x, c, cv, b, rfl, hH, hc, hv, e, q⟩
theorem word_body {K : PySem.W.Frag} {mg : Str → Option Value} {p : Pm} {CS a : Addr} {x : Ex} {H : Hp} {D : Ends} {z0 : Option V} (E : ExcsW K mg p CS) (hx : x ≠ .back) (hH : H a = some (.ext (ExcAt (p.xa x) a))) (q : ∀ H', (∀ b o, H b = some o → H' b = some o) → D.rt (.str (exName x)) H') : tWordBody K p CS D [some (.ref a), z0] H := by
  have isx : ∀ {y : Ex} {z : Option V} {H2 : Hp} {Q : VK}, y ≠ .back → H2 a = some (.ext (ExcAt (p.xa x) a)) → Q (.bl (decide (x = y))) H2 → tIsW K (.ref (p.xa y)) [some (.ref a), z] H2 Q := fun {y z H2 Q} hy h2 q2 => isw_go (E.isc x hx) rfl h2 (fun u r => r) (E.kit x y hx hy) q2
  refine isx (by decide) hH (isx (by decide) hH (isx (by decide) hH (isx (by decide) hH ⟨by show 4 ≤ sizeLine; decide, fun l hl => ?_⟩)))
  have al : upd H l (.lst ((kindsW x).map V.bl)) l = some (.lst ((kindsW x).map V.bl)) := upd_same
  have k1 : ∀ b o, H b = some o → upd H l (.lst ((kindsW x).map V.bl)) b = some o := fun b o e => (upd_ne (ne_of_none e hl)).trans e
  show (gName 1) (.ref l) _ (upd H l (.lst ((kindsW x).map V.bl))) _
  generalize upd H l (.lst ((kindsW x).map V.bl)) = H1 at al k1
  have st : SqL K H1 l ((kindsW x).map V.bl) := SqL.of al
  have cn : ((kindsW x).countP fun y => decide (y = true)) = 1 := by cases x <;> first | rfl | exact (hx rfl).elim
  have hH1 := k1 _ _ hH
  refine ⟨.ref l, rfl, .inl ⟨rfl, _, st⟩, l, _, true, rfl, rfl, st, rfl, ?_⟩
  rw [cn]
  refine ⟨false, rfl, isw_go (E.isc x hx) rfl hH1 (fun u r => r) (E.ve x hx) ⟨true, rfl, isw_go (E.isc x hx) rfl hH1 (fun u r => r) (E.kb x hx) ⟨true, rfl, ?_⟩⟩⟩
  refine ⟨by show 4 ≤ sizeLine; decide, fun l4 hl4 => ?_⟩
  have sq4 : SqL K (upd H1 l4 (.lst [.str "no gate", .str "no period", .str "no row", .str "no text"])) l ((kindsW x).map V.bl) := SqL.of ((upd_ne (ne_of_none al hl4)).trans al)
  refine ⟨.ref l, rfl, .inl ⟨rfl, _, sq4⟩, ?_⟩
  have fin : ∀ j : Nat, ([.str "no gate", .str "no period", .str "no row", .str "no text"] : List V)[j]? = some (.str (exName x)) → j < 4 →
      (rIx K) (.ref l4) (.int (j : Nat)) (upd H1 l4 (.lst [.str "no gate", .str "no period", .str "no row", .str "no text"])) D.rt := fun j hj h5 =>
    .inl ⟨l4, _, _, .str (exName x), rfl, rfl, SqL.of upd_same, by rw [atI_nat]; exact hj, q _ fun b o e => (upd_ne (ne_of_none (k1 b o e) hl4)).trans (k1 b o e)⟩
  cases x with
  | back => exact (hx rfl).elim
  | gate => exact ⟨l, _, .bl true, 0, .bl true, rfl, rfl, sq4, rfl, rfl, rfl, rfl, fun m z' hm => by omega, fin 0 rfl (by omega)⟩
  | period => exact ⟨l, _, .bl true, 1, .bl true, rfl, rfl, sq4, rfl, rfl, rfl, rfl, fun m z' hm e => by
      have : m = 0 := by omega
      subst this; cases e; rfl, fin 1 rfl (by omega)⟩
  | row => exact ⟨l, _, .bl true, 2, .bl true, rfl, rfl, sq4, rfl, rfl, rfl, rfl, fun m z' hm e => by
      have : m = 0 ∨ m = 1 := by omega
      rcases this with rfl | rfl <;> (cases e; rfl), fin 2 rfl (by omega)⟩
  | text => exact ⟨l, _, .bl true, 3, .bl true, rfl, rfl, sq4, rfl, rfl, rfl, rfl, fun m z' hm e => by
      have : m = 0 ∨ m = 1 ∨ m = 2 := by omega
      rcases this with rfl | rfl | rfl <;> (cases e; rfl), fin 3 rfl (by omega)⟩
/-! ### lifted -/
theorem nxt_more {p : Pm} {G : GH} {H H3 : Hp} (h : RepH p G H) (hx : ∀ b o, H b = some o → H3 b = some o) : Nxt p G H G H3 := by
  have st : Step p G H G H3 := rep_keep (fun a vs z => rd_keep (fun b o _ z => hx b o z) (fun ps y => by cases y) z) fun a vs z n => ⟨hx _ _ z, n⟩
  refine ⟨⟨fun a g hg => ?_, ?_, h.tab.ext hx⟩, st⟩
  · have r := h.obj a g hg
    cases g with
    | lst ds => obtain ⟨vs, q, r⟩ := r; exact ⟨vs, hx _ _ q, st.list r⟩
    | ins c fs => obtain ⟨dx, fv, q, r⟩ := r; exact ⟨dx, fv, hx _ _ q, st.flds r⟩
    | exc x => exact hx _ _ r
    | code x => exact hx _ _ r
    | tz ds => obtain ⟨o, vs, q, c, d, r⟩ := r; exact ⟨o, vs, hx _ _ q, c, d, st.list r⟩
  · rcases h.scr with ⟨r, n⟩ | k
    · refine .inl ⟨?_, n⟩
      rcases r with r | ⟨w, r⟩
      · exact .inl (hx _ _ r)
      · exact .inr ⟨w, hx _ _ r⟩
    · exact .inr k
def tWord' : TS' := fun D τ G => ∃ (a : Addr) (x : Ex), τ = [some (.ref a), none] ∧ G a = some (.exc x) ∧ x ≠ .back ∧ D.rt (.str (exName x)) G
theorem ds_word {p : Pm} {B : Bs p} {X : Cx} {CS : Addr} {mg : Str → Option Value} {body : List Stmt} (E : ExcsW X.K mg p CS) (h : PSs X body (tWordBody X.K p CS)) : DSs p B X body tWord' := PSs.weak h fun D σ H hh => by
  obtain ⟨τ, G, D', at_, ⟨a, x, rfl, hG, hx, q⟩, k⟩ := hh
  have e1 := at_.s.2 0 (.ref a) rfl
  obtain ⟨v, hv, rv⟩ := e1
  cases (show v = .ref a from rv)
  have hl := at_.s.1
  obtain ⟨z0, e⟩ : ∃ z0, σ = [some (.ref a), z0] := by
    match σ, hl, hv with
    | [u, w], _, hv => exact ⟨w, by cases (show some u = some (some (.ref a)) from hv); rfl⟩
  subst e
  have hH : H a = some (.ext (ExcAt (p.xa x) a)) := at_.h.obj a _ hG
  refine word_body E hx hH fun H' ext => ?_
  have n := nxt_more at_.h ext
  exact k.rt _ G _ H' n.rep (B.step _ _ _ _ at_.b n.st) (by exact rfl) q
def sp__law_word (p : Pm) : Sp' := sp1 fun s G Q E => ∃ (a : Addr) (x : Ex), s = .ref a ∧ G a = some (.exc x) ∧ x ≠ .back ∧ Q (.str (exName x)) G
def t__law_word (p : Pm) (W : WX') : TS' := tWord'
theorem pure__law_word (p : Pm) (s : D) (G : GH) (Q : QE) (E : EK') (h : sp__law_word p [s] G Q E) : t__law_word p (FzE E) { nx := fun _ G => Fz Q .non G, rt := Fz Q } (start' 2 [s]) G := by
  simp only [sp__law_word, sp1] at h
  obtain ⟨a, x, rfl, hG, hx, q⟩ := h
  exact ⟨a, x, rfl, hG, hx, fz q⟩
/-! ### the classes' facts by one Bool -/
def fourEx : List Ex := [.row, .gate, .period, .text]
theorem mem_four {x : Ex} (h : x ≠ .back) : x ∈ fourEx := by cases x <;> first | exact (h rfl).elim | simp [fourEx]
def excsWB (K : PySem.W.Frag) : Bool := fourEx.all fun x => excB K (He.ga K (exCls x)) && (He.eqO (PySem.W.nsIn K mainGlobals (exCls x)) (some (some (.ref (He.ga K (exCls x))))) && (decide (PySem.W.kitOne K (.ref (He.ga K (exCls x))) (.type "ValueError") = some true) &&
  (decide (PySem.W.exmOne K (.ref (He.ga K (exCls x))) (.ref (He.ga K "BeatError")) = some true) && (decide (PySem.W.kitOne K (.ref (He.ga K (exCls x))) (.ref (He.ga K "BeatError")) = some true) && fourEx.all fun y => decide (PySem.W.kitOne K (.ref (He.ga K (exCls x))) (.ref (He.ga K (exCls y))) = some (decide (x = y)))))))
theorem excsW_ok {K : PySem.W.Frag} {h : Heap} {mg : Str → Option Value} {p : Pm} (X : K.In h) (G : h.Ns mainGlobals mg) (hx : p.xa = fun y => He.ga K (exCls y)) (hc : p.ca = He.ga K) (hb : mg "BeatError" = some (.ref (He.ga K "BeatError"))) (e : excsWB K = true) : ExcsW K mg p (p.ca "BeatError") := by
  have key := fun x h => List.all_eq_true.mp e x (mem_four h)
  rw [hc]
  refine ⟨fun x n => ?_, fun x n => ?_, fun x y n n2 => ?_, fun x n => ?_, hb, fun x n => ?_, fun x n => ?_⟩ <;> rw [hx]
  · exact PySem.W.mg_of X G (He.eqO_ok (He.ba (He.ba (key x n)).2).1)
  · exact excB_ok (He.ba (key x n)).1
  · exact of_decide_eq_true (List.all_eq_true.mp (He.ba (He.ba (He.ba (He.ba (He.ba (key x n)).2).2).2).2).2 y (mem_four n2))
  · exact of_decide_eq_true (He.ba (He.ba (He.ba (key x n)).2).2).1
  · exact of_decide_eq_true (He.ba (He.ba (He.ba (He.ba (key x n)).2).2).2).1
  · exact of_decide_eq_true (He.ba (He.ba (He.ba (He.ba (He.ba (key x n)).2).2).2).2).1
end DL

namespace DL
open PySem PySem.Spec PyProof.Rows L2
def t_is_whole (p : Pm) (W : WX') : TS' :=
    (tRet' (tAndV' (rIsi' "int" (tVar' 0)) (tAndV' (tNotV' (rIsi' "bool" (tVar' 0))) (tChain' (rCmp' fun i j => decide (i ≤ j)) (rCmp' fun i j => decide (i ≤ j)) (tVar' 1) (tVar' 0) (tVar' 2)))))

def t_is_row (p : Pm) (W : WX') : TS' :=
    (tSeq' (tIfS' (tOr' (tNot' (tTest' (rIsi' "tuple" (tVar' 0)))) (tOr' (tTest' (tOp' (rCmp' fun i j => decide (j < i)) (tCB' (rLen' p) (tCons' (tVar' 0) tNil')) (tC' (.int 40)))) (tNot' (tTest' (tCB' rAll' (tCons' (tLc' false (iSeq' (tVar' 0)) (gName' 1) tYes' (tCall' 3 (sp_is_whole p) Wno (tCons' (tVar' 1) (tCons' (tC' (.int 0)) (tCons' (tC' (.int 9999)) tNil')))) [1]) tNil')))))) (tRet' (tC' (.bl false))) tNext')
    (tRet' (tCB' rAll' (tCons' (tLc' false (iZip' (tCons' (tVar' 0) (tCons' (tSl' (rSl' false) (tVar' 0) (tPart' (tC' (.int 1))) tNo') tNil'))) (gTup' 2 (gCons' (gName' 1) (gCons' (gName' 2) gNil'))) tYes' (tOp' (rCmp' fun i j => decide (i < j)) (tVar' 1) (tVar' 2)) [1, 2]) tNil'))))

def t_look_row (p : Pm) (W : WX') : TS' :=
    (tIfS' (tNot' (tTest' (tCall' 1 (sp_is_row p) W (tCons' (tVar' 0) tNil')))) (tRaise' .row W) tNext')

def t_look_gate (p : Pm) (W : WX') : TS' :=
    (tIfS' (tOr' (tNot' (tTest' (tCall' 3 (sp_is_whole p) W (tCons' (tVar' 0) (tCons' (tC' (.int 0)) (tCons' (tC' (.int 9999)) tNil')))))) (tNot' (tTest' (tCall' 3 (sp_is_whole p) W (tCons' (tVar' 1) (tCons' (tC' (.int 1)) (tCons' (tC' (.int 9999)) tNil'))))))) (tRaise' .gate W) tNext')

def t_in_gate (p : Pm) (W : WX') : TS' :=
    (tRet' (tLc' false (iSeq' (tVar' 0)) (gName' 3) (tTest' (tChain' (rCmp' fun i j => decide (i ≤ j)) (rCmp' fun i j => decide (i < j)) (tVar' 1) (tVar' 3) (tOp' (rAdd' false) (tVar' 1) (tVar' 2)))) (tVar' 3) [3]))

def t_counted (p : Pm) (W : WX') : TS' :=
    (tSeq' (tDrop' (tCall' 1 (sp_look_row p) W (tCons' (tVar' 0) tNil')))
    (tSeq' (tDrop' (tCall' 2 (sp_look_gate p) W (tCons' (tVar' 1) (tCons' (tVar' 2) tNil'))))
    (tRet' (tCB' (rLen' p) (tCons' (tCall' 3 (sp_in_gate p) W (tCons' (tVar' 0) (tCons' (tVar' 1) (tCons' (tVar' 2) tNil')))) tNil')))))

def t_gaps (p : Pm) (W : WX') : TS' :=
    (tSeq' (tDrop' (tCall' 1 (sp_look_row p) W (tCons' (tVar' 0) tNil')))
    (tRet' (tLc' false (iZip' (tCons' (tVar' 0) (tCons' (tSl' (rSl' false) (tVar' 0) (tPart' (tC' (.int 1))) tNo') tNil'))) (gTup' 2 (gCons' (gName' 1) (gCons' (gName' 2) gNil'))) tYes' (tOp' (rI' (fun _ _ => True) fun i j => .int (i - j)) (tVar' 2) (tVar' 1)) [1, 2])))

def t__law_cell (p : Pm) (W : WX') : TS' :=
    (tSeq' (tIfS' (tTest' (tOp' (rCmp' fun i j => decide (i < j)) (tVar' 1) (tCB' (rLen' p) (tCons' (tVar' 0) tNil')))) (tRet' (tOp' (rIx' p) (tVar' 0) (tVar' 1))) tNext')
    (tSeq' (tIfS' (tTest' (tOp' (rEq' p false) (tVar' 0) (tLst' false tNil'))) (tRet' (tC' (.int 0))) tNext')
    (tRet' (tOp' (rAdd' false) (tOp' (rMul' false) (tOp' (rIx' p) (tVar' 0) (tOp' (rI' (fun _ j => 0 < j) fun i j => .int (i % j)) (tVar' 1) (tCB' (rLen' p) (tCons' (tVar' 0) tNil')))) (tC' (.int 31))) (tVar' 1)))))

def t__law_pick (p : Pm) (W : WX') : TS' :=
    (tSeq' (tAsg' (tOp' (rI' (fun _ j => 0 < j) fun i j => .int (i % j)) (tOp' (rMul' false) (tOp' (rAdd' false) (tCall' 2 (sp__law_cell p) W (tCons' (tVar' 0) (tCons' (tVar' 1) tNil'))) (tOp' (rMul' false) (tC' (.int 6151)) (tOp' (rAdd' false) (tVar' 1) (tC' (.int 1))))) (tC' (.int 40692))) (tC' (.int 2147483399))) (gName' 3))
    (tRet' (tOp' (rI' (fun _ j => 0 < j) fun i j => .int (i % j)) (tOp' (rI' (fun _ j => 0 < j) fun i j => .int (i % j)) (tOp' (rAdd' false) (tOp' (rMul' false) (tVar' 3) (tVar' 3)) (tOp' (rI' CDiv fun i j => .int (i / j)) (tVar' 3) (tC' (.int 31)))) (tC' (.int 2147483629))) (tVar' 2))))

end DL

namespace DL
open PySem PySem.Spec PyProof.Rows L2
theorem pure_is_whole (p : Pm) (d lo hi : D) : Pure (t_is_whole p) (sp_is_whole p) 3 [d, lo, hi] := fun G Q E h => by
  simp only [sp_is_whole, sp3] at h
  obtain ⟨l, h, rfl, rfl, hp, q⟩ := h
  have q := fz q
  cases d with
  | int i =>
    by_cases h1 : l ≤ i
    · simp_all [tSeq', t_is_whole, start']
    · simp_all [tSeq', t_is_whole, start']
  | ref a => simp at hp
  | scr => simp at hp
  | _ => simp_all [tSeq', t_is_whole, start']
theorem all_id_map {α : Type} (l : List α) (f : α → Bool) : (l.map f).all id = l.all f := by
  rw [List.all_map]; rfl
/-- adjacent items rise: all do -/
theorem up_adj : ∀ ns : List Int, ns.Pairwise (· < ·) ↔ (ns.zip ns.tail).all (fun q => decide (q.1 < q.2)) = true
  | [] => by simp
  | [x] => by simp
  | x :: y :: r => by
    have ih := up_adj (y :: r)
    simp only [List.tail_cons, List.zip_cons_cons, List.all_cons, Bool.and_eq_true, decide_eq_true_eq] at ih ⊢
    rw [← ih]
    constructor
    · intro h
      exact ⟨(List.pairwise_cons.mp h).1 y (by simp), (List.pairwise_cons.mp h).2⟩
    · rintro ⟨h1, h2⟩
      refine List.pairwise_cons.mpr ⟨fun z hz => ?_, h2⟩
      rcases List.mem_cons.mp hz with rfl | hz
      · exact h1
      · exact Int.lt_trans h1 ((List.pairwise_cons.mp h2).1 z hz)
theorem intsOf_whole : ∀ {ds : List D}, ds.all (isWhole 0 9999) = true → ∃ ns : List Int, ds = ns.map D.int ∧ ∀ n ∈ ns, 0 ≤ n ∧ n ≤ 9999
  | [], _ => ⟨[], rfl, by simp⟩
  | d :: ds, h => by
    rw [List.all_cons, Bool.and_eq_true] at h
    obtain ⟨i, rfl, h1⟩ := isWhole_some h.1
    obtain ⟨ns, rfl, h2⟩ := intsOf_whole h.2
    exact ⟨i :: ns, rfl, fun n hn => by rcases List.mem_cons.mp hn with rfl | hn; exact h1; exact h2 n hn⟩
theorem rowOf_none_len {ds : List D} (h : 40 < ds.length) : rowOf (.tup ds) = none := by
  simp only [rowOf]
  split
  · rename_i ns e
    rw [if_neg]
    rintro ⟨h1, _⟩
    rw [intsOf_some e, List.length_map] at h
    omega
  · rfl
theorem rowOf_none_all {ds : List D} (h : ds.all (isWhole 0 9999) = false) : rowOf (.tup ds) = none := by
  simp only [rowOf]
  split
  · rename_i ns e
    rw [if_neg]
    rintro ⟨_, h2, _⟩
    rw [intsOf_some e] at h
    rw [List.all_eq_true.mpr] at h
    · cases h
    · intro d hd
      obtain ⟨n, hn, rfl⟩ := List.mem_map.mp hd
      simp [h2 n hn]
  · rfl
theorem pure_is_row (p : Pm) (d : D) : Pure (t_is_row p) (sp_is_row p) 3 [d] := fun G Q E h => by
  simp only [sp_is_row, sp1] at h
  obtain ⟨hp, q⟩ := h
  have q := fz q
  cases d with
  | tup ds =>
    simp only [rowAsk] at hp
    simp [tSeq', t_is_row, start']
    by_cases hl : 40 < ds.length
    · refine .inr ⟨by omega, ?_⟩
      rw [rowOf_none_len hl] at q
      exact q
    · refine .inl ⟨by omega, ?_⟩
      refine lc_map (f := id) (fun _ _ h => h) ds (fun d => .bl (isWhole 0 9999 d)) (fun R r => by simpa using r) hp.1 (fun x hx Gx _ => by simp [hp.2 x hx]) ?_
      refine rAll_i (bs := ds.map (isWhole 0 9999)) (by simp [Function.comp_def]) ?_
      simp
      by_cases hw : ds.all (isWhole 0 9999) = true
      · obtain ⟨ns, rfl, hr⟩ := intsOf_whole hw
        refine .inr ⟨List.all_eq_true.mp hw, ?_⟩
        refine lc_map (f := pairD) pair_inj (ns.zip ns.tail) (fun q => .bl (decide (q.1 < q.2))) (fun R r => by simp; exact r) (by have := line_big; simp at hl ⊢; omega) (fun x hx Gx _ => by simp [pairD]) ?_
        refine rAll_i (bs := (ns.zip ns.tail).map fun q => decide (q.1 < q.2)) (by simp [Function.comp_def]) ?_
        rw [all_id_map]
        have e : (rowOf (.tup (ns.map D.int))).isSome = (ns.zip ns.tail).all fun q => decide (q.1 < q.2) := by
          simp only [rowOf, intsOf_map]
          by_cases hu : ns.Pairwise (· < ·)
          · rw [if_pos ⟨by rw [List.length_map] at hl; omega, hr, hu⟩, (up_adj ns).mp hu]; rfl
          · rw [if_neg fun z => hu z.2.2]
            have := mt (up_adj ns).mpr hu
            rw [Bool.eq_false_iff.mpr this]; rfl
        rw [← e]
        exact q
      · have hw := Bool.eq_false_iff.mpr hw
        rw [rowOf_none_all hw] at q
        rw [List.all_eq_false] at hw
        obtain ⟨x, hx, hx2⟩ := hw
        exact .inl ⟨⟨x, hx, by simpa using hx2⟩, q⟩
  | ref a => simp [rowAsk] at hp
  | scr => simp [rowAsk] at hp
  | _ => simp_all [tSeq', t_is_row, start', rowOf]
theorem pure_look_row (p : Pm) (d : D) : Pure (t_look_row p) (sp_look_row p) 1 [d] := fun G Q E h => by
  simp only [sp_look_row, sp1, withRow] at h
  obtain ⟨hp, q⟩ := h
  simp [tSeq', t_look_row, start']
  refine ⟨hp, ?_⟩
  cases e : rowOf d with
  | some ns => simp_all; exact fz q
  | none => simp_all; exact fzE q
theorem gateOf_whole (s l : D) : gateOf s l = if isWhole 0 9999 s = true ∧ isWhole 1 9999 l = true then (match s, l with | .int a, .int b => some (a, b) | _, _ => none) else none := by
  unfold gateOf
  split
  · rename_i a b
    simp only [isWhole_int, Bool.and_eq_true, decide_eq_true_eq]
    by_cases h : 0 ≤ a ∧ a ≤ 9999 ∧ 1 ≤ b ∧ b ≤ 9999
    · rw [if_pos h, if_pos ⟨⟨h.1, h.2.1⟩, h.2.2⟩]
    · rw [if_neg h, if_neg fun z => h ⟨z.1.1, z.1.2, z.2⟩]
  · rename_i h
    split
    · rename_i hw
      obtain ⟨a, rfl, _⟩ := isWhole_some hw.1
      obtain ⟨b, rfl, _⟩ := isWhole_some hw.2
      exact (h a b rfl rfl).elim
    · rfl
theorem pure_look_gate (p : Pm) (s l : D) : Pure (t_look_gate p) (sp_look_gate p) 2 [s, l] := fun G Q E h => by
  simp only [sp_look_gate, sp2] at h
  obtain ⟨h1, h2, q⟩ := h
  simp [tSeq', t_look_gate, start', h1, h2]
  simp only [withGate, gateOf_whole] at q ⊢
  by_cases a1 : isWhole 0 9999 s = true
  · by_cases a2 : isWhole 1 9999 l = true
    · simp [a1, a2] at q ⊢
      obtain ⟨a, rfl, _⟩ := isWhole_some a1
      obtain ⟨b, rfl, _⟩ := isWhole_some a2
      exact fz q
    · simp [a1, a2] at q ⊢
      exact fzE q
  · simp [a1] at q ⊢
    exact fzE q
theorem pure_in_gate (p : Pm) (d s l : D) : Pure (t_in_gate p) (sp_in_gate p) 4 [d, s, l] := fun G Q E h => by
  simp only [sp_in_gate, sp3] at h
  obtain ⟨ns, a, b, rfl, rfl, rfl, hl, q⟩ := h
  simp [tSeq', t_in_gate, start', tLc']
  refine ⟨hl, fI fun x => if (decide (a ≤ x) && decide (x < a + b)) = true then some (.int x) else none, fun x hx Gx _ => ?_, ?_⟩
  · by_cases h1 : a ≤ x <;> by_cases h2 : x < a + b <;> simp [h1, h2] <;> omega
  · simp only [fI_comp]
    rw [fm_ite]
    exact fz q
theorem pure_counted (p : Pm) (d s l : D) : Pure (t_counted p) (sp_counted p) 3 [d, s, l] := fun G Q E h => by
  simp only [sp_counted, sp3] at h
  obtain ⟨hd, h1, h2, q⟩ := h
  simp [tSeq', t_counted, start', hd, h1, h2]
  simp only [withRow, withGate] at q ⊢
  cases e : rowOf d with
  | none => simp [e] at q ⊢; exact fzE q
  | some ns =>
    cases e2 : gateOf s l with
    | none => simp [e, e2] at q ⊢; exact fzE q
    | some ab =>
      obtain ⟨a, b⟩ := ab
      obtain ⟨rfl, hr⟩ := rowOf_some e
      obtain ⟨rfl, rfl, _⟩ := gateOf_some e2
      simp [e, e2] at q ⊢
      exact ⟨line_of (Nat.le_trans hr.1 (by omega)), fz q⟩
theorem pure_gaps (p : Pm) (d : D) : Pure (t_gaps p) (sp_gaps p) 3 [d] := fun G Q E h => by
  simp only [sp_gaps, sp1] at h
  obtain ⟨hd, q⟩ := h
  simp [tSeq', t_gaps, start', hd]
  simp only [withRow] at q ⊢
  cases e : rowOf d with
  | none => simp [e] at q ⊢; exact fzE q
  | some ns =>
    obtain ⟨rfl, hr⟩ := rowOf_some e
    simp [e, tLc', and_assoc] at q ⊢
    refine ⟨(by have := line_big; have := hr.1; omega), fII fun a b => some (.int (b - a)), (by rintro _ a b hab rfl Gx _; simp), ?_⟩
    · simp [Function.comp_def]
      have := fz q
      simpa [gapsOf, Function.comp_def] using this
end DL

namespace DL
open PySem PySem.Spec PyProof.Rows L2
/-- the laws' drawn row -/
def rtopF (ns : List Int) (at_ : Int) : Int := [1, 3, 12, 200].getD (pickF ns (at_ + 1) 4).toNat 1
def rhereF (ns : List Int) (at_ : Int) : Nat → Int
  | 0 => pickF ns at_ 30
  | k + 1 => rhereF ns at_ k + 1 + pickF ns (at_ + 3 + k) (rtopF ns at_)
def rmanyF (ns : List Int) (at_ most : Int) : Nat := (pickF ns (at_ + 2) (most + 1)).toNat
def lrow (ns : List Int) (at_ most : Int) : List Int := (List.range (rmanyF ns at_ most)).map (rhereF ns at_)
def sp__law_row (p : Pm) : Sp' := sp3 fun s a m G Q E => ∃ (n k : Int), s = .scr ∧ a = .int n ∧ m = .int k ∧ 0 ≤ n ∧ n ≤ 100000 ∧ 0 ≤ k ∧ k ≤ 40 ∧ Q (.tup ((lrow p.ns n k).map D.int)) G
@[simp] theorem at_row {p : Pm} {G : GH} {Q : QE} {E : EK'} {i j : Int} : sp__law_row p [.scr, .int i, .int j] G Q E = (0 ≤ i ∧ i ≤ 100000 ∧ 0 ≤ j ∧ j ≤ 40 ∧ Q (.tup ((lrow p.ns i j).map D.int)) G) := by simp [sp__law_row]
def missOf (ns : List Int) (l : Int) : List (Int × Int) := ((ns.zip ns.tail).filter fun q => decide (l ≤ q.2 - q.1 - 1)).map fun q => (q.1 + 1, q.2 - q.1 - 1)
def sp_missing (p : Pm) : Sp' := sp2 fun d l G Q E => rowAsk d ∧ plain l = true ∧ withRow d E G fun ns => withGate (.int 0) l E G fun _ b => Q (.lst ((missOf ns b).map pairD)) G
@[simp] theorem at_missing {p : Pm} {G : GH} {Q : QE} {E : EK'} {d l : D} : sp_missing p [d, l] G Q E = (rowAsk d ∧ plain l = true ∧ withRow d E G fun ns => withGate (.int 0) l E G fun _ b => Q (.lst ((missOf ns b).map pairD)) G) := by simp [sp_missing]
theorem rtopF_pos (ns : List Int) (a : Int) : 1 ≤ rtopF ns a ∧ rtopF ns a ≤ 200 := by
  unfold rtopF
  obtain ⟨h1, h2⟩ := pickF_range (ns := ns) (k := a + 1) (many := 4) (by omega)
  generalize pickF ns (a + 1) 4 = x at h1 h2
  have : x = 0 ∨ x = 1 ∨ x = 2 ∨ x = 3 := by omega
  rcases this with rfl | rfl | rfl | rfl <;> decide
theorem rhereF_range (ns : List Int) (a : Int) : ∀ k : Nat, 0 ≤ rhereF ns a k ∧ rhereF ns a k ≤ 29 + 200 * k
  | 0 => by
    have := pickF_range (ns := ns) (k := a) (many := 30) (by omega)
    simp only [rhereF]; omega
  | k + 1 => by
    have h := rtopF_pos ns a
    have := pickF_range (ns := ns) (k := a + 3 + k) (many := rtopF ns a) (by omega)
    have ih := rhereF_range ns a k
    simp only [rhereF]
    omega
theorem rhereF_step (ns : List Int) (a : Int) (k : Nat) : rhereF ns a k < rhereF ns a (k + 1) := by
  have h := rtopF_pos ns a
  have := pickF_range (ns := ns) (k := a + 3 + k) (many := rtopF ns a) (by omega)
  simp only [rhereF]
  omega
theorem rhereF_mono (ns : List Int) (a : Int) {i j : Nat} (h : i < j) : rhereF ns a i < rhereF ns a j := by
  induction h with
  | refl => exact rhereF_step ns a i
  | step _ ih => exact Int.lt_trans ih (rhereF_step ns a _)
theorem rmanyF_le (ns : List Int) (a m : Int) (h : 0 ≤ m) : rmanyF ns a m ≤ m := by
  have := pickF_range (ns := ns) (k := a + 2) (many := m + 1) (by omega)
  unfold rmanyF
  omega
theorem lrow_len (ns : List Int) (a m : Int) : (lrow ns a m).length = rmanyF ns a m := by unfold lrow; simp
theorem lrow_ok (ns : List Int) (a m : Int) (h0 : 0 ≤ m) (h : m ≤ 40) : RowOk (lrow ns a m) := by
  have hl := rmanyF_le ns a m h0
  refine ⟨by rw [lrow_len]; omega, fun n hn => ?_, ?_⟩
  · unfold lrow at hn
    obtain ⟨k, hk, rfl⟩ := List.mem_map.mp hn
    rw [List.mem_range] at hk
    have := rhereF_range ns a k
    omega
  · unfold lrow
    rw [List.pairwise_map]
    exact List.Pairwise.imp (fun h => rhereF_mono ns a h) List.pairwise_lt_range
end DL

namespace DL
open PySem PySem.Spec PyProof.Rows L2
def t_missing (p : Pm) (W : WX') : TS' :=
    (tSeq' (tDrop' (tCall' 1 (sp_look_row p) W (tCons' (tVar' 0) tNil')))
    (tSeq' (tDrop' (tCall' 2 (sp_look_gate p) W (tCons' (tC' (.int 0)) (tCons' (tVar' 1) tNil'))))
    (tRet' (tLc' false (iZip' (tCons' (tVar' 0) (tCons' (tSl' (rSl' false) (tVar' 0) (tPart' (tC' (.int 1))) tNo') tNil'))) (gTup' 2 (gCons' (gName' 2) (gCons' (gName' 3) gNil'))) (tTest' (tOp' (rCmp' fun i j => decide (j ≤ i)) (tOp' (rI' (fun _ _ => True) fun i j => .int (i - j)) (tOp' (rI' (fun _ _ => True) fun i j => .int (i - j)) (tVar' 3) (tVar' 2)) (tC' (.int 1))) (tVar' 1))) (tTup' (tCons' (tOp' (rAdd' false) (tVar' 2) (tC' (.int 1))) (tCons' (tOp' (rI' (fun _ _ => True) fun i j => .int (i - j)) (tOp' (rI' (fun _ _ => True) fun i j => .int (i - j)) (tVar' 3) (tVar' 2)) (tC' (.int 1))) tNil'))) [2, 3]))))

def t__law_row (p : Pm) (W : WX') : TS' :=
    (tSeqF' (tPar' 3 4 (tCons' (tLst' true tNil') (tCons' (tCall' 3 (sp__law_pick p) W (tCons' (tVar' 0) (tCons' (tVar' 1) (tCons' (tC' (.int 30)) tNil')))) tNil')))
    (tSeqF' (tAsg' (tOp' (rIx' p) (tLst' false (tCons' (tC' (.int 1)) (tCons' (tC' (.int 3)) (tCons' (tC' (.int 12)) (tCons' (tC' (.int 200)) tNil'))))) (tCall' 3 (sp__law_pick p) W (tCons' (tVar' 0) (tCons' (tOp' (rAdd' false) (tVar' 1) (tC' (.int 1))) (tCons' (tC' (.int 4)) tNil'))))) (gName' 5))
    (tSeqF' (tFor' (iRng1' (tCons' (tCall' 3 (sp__law_pick p) W (tCons' (tVar' 0) (tCons' (tOp' (rAdd' false) (tVar' 1) (tC' (.int 2))) (tCons' (tOp' (rAdd' false) (tVar' 2) (tC' (.int 1))) tNil')))) tNil')) (gName' 6) (tSeqF' (tDrop' (tMut' rAppend' (tVar' 3) (tCons' (tVar' 4) tNil')))
    (tAsg' (tOp' (rAdd' false) (tOp' (rAdd' false) (tVar' 4) (tC' (.int 1))) (tCall' 3 (sp__law_pick p) W (tCons' (tVar' 0) (tCons' (tOp' (rAdd' false) (tOp' (rAdd' false) (tVar' 1) (tC' (.int 3))) (tVar' 6)) (tCons' (tVar' 5) tNil'))))) (gName' 4))))
    (tRet' (tCB' rTupOf' (tCons' (tVar' 3) tNil'))))))

end DL

namespace DL
open PySem PySem.Spec PyProof.Rows L2
theorem miss_fm (ns : List Int) (b : Int) : (ns.zip ns.tail).filterMap (fun q => if decide (b ≤ q.2 - q.1 - 1) = true then some (pairD (q.1 + 1, q.2 - q.1 - 1)) else none) = (missOf ns b).map pairD := by
  rw [fm_ite (fun q : Int × Int => decide (b ≤ q.2 - q.1 - 1)), missOf, List.map_map]; rfl
theorem pure_missing (p : Pm) (d l : D) : Pure (t_missing p) (sp_missing p) 4 [d, l] := fun G Q E h => by
  simp only [sp_missing, sp2] at h
  obtain ⟨hd, hl, q⟩ := h
  simp [tSeq', t_missing, start', hd, hl]
  simp only [withRow, withGate] at q ⊢
  cases e : rowOf d with
  | none => simp [e] at q ⊢; exact fzE q
  | some ns =>
    cases e2 : gateOf (.int 0) l with
    | none => simp [e, e2] at q ⊢; exact fzE q
    | some ab =>
      obtain ⟨a, b⟩ := ab
      obtain ⟨rfl, hr⟩ := rowOf_some e
      obtain ⟨h0, rfl, _⟩ := gateOf_some e2
      simp [e, e2] at q ⊢
      refine lc_at (f := pairD) pair_inj (ns.zip ns.tail) (fun q => if decide (b ≤ q.2 - q.1 - 1) = true then some (pairD (q.1 + 1, q.2 - q.1 - 1)) else none) (G1 := G) (fun R r => ?_) ?_ ?_ ?_
      · simp [and_assoc]; exact r
      · have := line_big; have := hr.1; simp; omega
      · rintro ⟨x, y⟩ hx Gx _
        by_cases h1 : b ≤ y - x - 1 <;> simp [pairD, h1]; have := line_big; omega
      · simp only [miss_fm]
        exact fz q
theorem pure__law_cell (p : Pm) (s k : D) : Pure (t__law_cell p) (sp__law_cell p) 2 [s, k] := fun G Q E h => by
  simp only [sp__law_cell, sp2] at h
  obtain ⟨n, rfl, rfl, h0, hn, q⟩ := h
  have q := fz q
  simp [tSeq', t__law_cell, start']
  unfold cellF at q
  have hb := line_big
  have hl := p.ln
  by_cases h1 : n < p.ns.length
  · refine .inr ⟨h1, p.ns[n.toNat], ?_, ?_⟩
    · rw [atI_nn _ _ h0 h1]; simp
    · rw [if_pos h1] at q
      rw [List.getD_eq_getElem?_getD, List.getElem?_eq_getElem (by omega)] at q
      exact q
  · refine .inl ⟨by omega, ?_⟩
    rw [if_neg h1] at q
    by_cases h2 : p.ns = []
    · rw [if_pos h2] at q
      simp [h2]; exact q
    · rw [if_neg h2] at q
      have hp : 0 < p.ns.length := List.length_pos_iff.mpr h2
      have h3 : 0 ≤ n % p.ns.length ∧ n % p.ns.length < p.ns.length := ⟨Int.emod_nonneg _ (by omega), Int.emod_lt_of_pos _ (by omega)⟩
      simp [h2]
      refine ⟨by omega, p.ns[(n % p.ns.length).toNat], ?_, .inr (by omega), ?_⟩
      · rw [atI_nn _ _ h3.1 h3.2]; simp
      · rw [List.getD_eq_getElem?_getD, List.getElem?_eq_getElem (by omega)] at q
        exact q
theorem mod_small {a : Int} : 0 ≤ a % 2147483399 ∧ a % 2147483399 < 2147483399 := ⟨Int.emod_nonneg _ (by omega), Int.emod_lt_of_pos _ (by omega)⟩
theorem pure__law_pick (p : Pm) (s k m : D) : Pure (t__law_pick p) (sp__law_pick p) 4 [s, k, m] := fun G Q E h => by
  simp only [sp__law_pick, sp3] at h
  obtain ⟨n, many, rfl, rfl, rfl, h0, hn, hm, q⟩ := h
  have q := fz q
  simp [tSeq', t__law_pick, start']
  have hd := @mod_small ((cellF p.ns n + 6151 * (n + 1)) * 40692)
  refine ⟨h0, hn, .inr (by omega), .inr (by omega), .inr (by omega), ⟨by omega, by omega⟩, hm, q⟩
end DL

namespace DL
open PySem PySem.Spec PyProof.Rows L2
theorem atI_ex {xs : List D} {i : Int} {q : D → Prop} (h : 0 ≤ i) (h2 : i < xs.length) (k : ∀ d, xs[i.toNat]? = some d → q d) : ∃ d, atI xs i = some d ∧ q d :=
  ⟨xs[i.toNat], by rw [atI_nn _ _ h h2]; simp, k _ (by simp)⟩
theorem rtop_at (ns : List Int) (a : Int) : atI [D.int 1, .int 3, .int 12, .int 200] (pickF ns (a + 1) 4) = some (.int (rtopF ns a)) := by
  have hp := pickF_range (ns := ns) (k := a + 1) (many := 4) (by omega)
  unfold rtopF
  generalize pickF ns (a + 1) 4 = x at hp
  have : x = 0 ∨ x = 1 ∨ x = 2 ∨ x = 3 := by omega
  rcases this with rfl | rfl | rfl | rfl <;> rfl
theorem pure__law_row (p : Pm) (s a m : D) : Pure (t__law_row p) (sp__law_row p) 7 [s, a, m] := fun G Q E h => by
  simp only [sp__law_row, sp3] at h
  obtain ⟨n, k, rfl, rfl, rfl, hn, hn2, hk, hk2, q⟩ := h
  have hb := line_big
  refine seqF fun N hN _ => ?_
  simp [start']
  intro b hG
  refine ⟨by omega, by omega, hN _ _ ?_⟩
  refine seqF fun N hN _ => ?_
  simp
  refine ⟨by omega, by omega, by omega, _, rtop_at _ _, hN _ _ ?_⟩
  refine seqF fun N hN hF => ?_
  have hm := rmanyF_le p.ns n k hk
  have hr := pickF_range (ns := p.ns) (k := n + 2) (many := k + 1) (by omega)
  have ht := rtopF_pos p.ns n
  refine for_at (f := fun i : Nat => D.int i) (List.range (rmanyF p.ns n k)) (fun i σ G' => ∃ o, σ = [some .scr, some (.int n), some (.int k), some (.ref b), some (.int (rhereF p.ns n i)), some (.int (rtopF p.ns n)), o] ∧ G' = gup G b (.lst (((List.range i).map (rhereF p.ns n)).map D.int))) (G1 := gup G b (.lst [])) (fun R r => ?_) ⟨none, rfl, rfl⟩ ?_ ?_
  · simp
    refine ⟨by omega, by omega, by omega, by omega, by omega, ?_⟩
    simpa [rangeD, rmanyF] using r
  · rintro i x σ G' hx ⟨o, rfl, rfl⟩
    rw [List.getElem?_eq_some_iff] at hx
    obtain ⟨h1, h2⟩ := hx
    simp at h1 h2
    subst h2
    refine seqF fun N hN _ => ?_
    simp
    refine ⟨by omega, hN _ _ ?_⟩
    simp
    refine ⟨by omega, by omega, by omega, ?_, ?_⟩
    · simp [rhereF]
    · simp [List.range_succ]
  · rintro σ G' ⟨o, rfl, rfl⟩
    refine hF _ _ _ _ (FrzS.lst 3 hG (by rfl)) ?_
    simp
    exact fz (by simpa [lrow] using q)
end DL

namespace DL
open PySem PySem.Spec PyProof.Rows L2
section
variable {p : Pm} {G : GH} {Q : QE} {E : EK'} {d s l : D} {i j lo hi : Int}
theorem row_line {ns : List Int} (h : RowOk ns) : ns.length ≤ sizeLine := line_of (Nat.le_trans h.1 (by omega))
/-- one of a list, drawn -/
theorem pick_list {α : Type} (f : α → D) (ns : List Int) (k : Int) (xs : List α) {m : Int} (h : (xs.length : Int) = m) (h0 : 0 < m := by decide) : ∃ v ∈ xs, atI (xs.map f) (pickF ns k m) = some (f v) := by
  have hp := pickF_range (ns := ns) (k := k) h0
  have hl : (pickF ns k m).toNat < xs.length := by omega
  refine ⟨xs[(pickF ns k m).toNat], List.getElem_mem hl, ?_⟩
  rw [atI_map, atI_nn _ _ hp.1 (by omega), List.getElem?_eq_getElem hl]
  rfl
/-! ### near -/
def withNear (lo hi : Int) (d : D) (E : EK') (G : GH) (k : Int → Prop) : Prop := match d with
  | .int n => if lo ≤ n ∧ n ≤ hi then k n else E .gate G
  | _ => E .gate G
theorem wn_step {lo hi : Int} {d : D} {σ : St'} {k k' : Int → Prop} (h : withNear lo hi d E G k) (f : ∀ n, d = .int n → lo ≤ n ∧ n ≤ hi → k n → k' n) : withNear lo hi d (fun x G2 => FzE E x σ G2) G k' := by
  unfold withNear at h ⊢
  cases d with
  | int n =>
    dsimp only at h ⊢
    by_cases hc : lo ≤ n ∧ n ≤ hi
    · rw [if_pos hc] at h ⊢; exact f n rfl hc h
    · rw [if_neg hc] at h ⊢; exact fzE h
  | _ => exact fzE h
theorem on_near {k : Int → Prop} (h : lo ≤ i ∧ i ≤ hi) : withNear lo hi (.int i) E G k = k i := by simp [withNear, h]
/-- is_whole asked of what a gate's number has to be -/
theorem wn_whole {lo hi : Int} {d : D} {σ : St'} {k : Int → Prop} {B : Prop} (h : withNear lo hi d E G k) (f : ∀ n, d = .int n → lo ≤ n ∧ n ≤ hi → k n → B) : (isWhole lo hi d = false ∧ FzE E .gate σ G) ∨ (isWhole lo hi d = true ∧ B) := by
  unfold withNear at h
  cases d with
  | int n =>
    dsimp only at h
    by_cases hc : lo ≤ n ∧ n ≤ hi
    · rw [if_pos hc] at h; exact .inr ⟨by simp [hc], f n rfl hc h⟩
    · rw [if_neg hc] at h
      refine .inl ⟨?_, fzE h⟩
      rw [isWhole_int]
      by_cases h1 : lo ≤ n
      · have h2 : ¬ n ≤ hi := fun z => hc ⟨h1, z⟩
        simp [h2]
      · simp [h1]
  | _ => exact .inl ⟨rfl, fzE h⟩
def sp_look_near (p : Pm) : Sp' := sp1 fun d G Q E => plain d = true ∧ withNear 0 9999 d E G fun _ => Q .non G
@[simp] theorem at_look_near : sp_look_near p [d] G Q E = (plain d = true ∧ withNear 0 9999 d E G fun _ => Q .non G) := by simp [sp_look_near]
/-! ### alone, farthest -/
def nearB (b : List Int) (n x : Int) : Bool := b.any fun y => decide (absI (x - y) ≤ n)
def aloneOf (a b : List Int) (n : Int) : List Int := a.filter fun x => !nearB b n x
def nearestOf (b : List Int) (x : Int) : Int := minL (b.map fun y => absI (x - y))
def farOf (a b : List Int) : Int := maxL (a.map (nearestOf b) ++ b.map (nearestOf a))
def sp_alone (p : Pm) : Sp' := sp3 fun one other near G Q E => rowAsk one ∧ rowAsk other ∧ plain near = true ∧ withRow one E G fun a => withRow other E G fun b => withNear 0 9999 near E G fun n => Q (.lst ((aloneOf a b n).map D.int)) G
@[simp] theorem at_alone {one other near : D} : sp_alone p [one, other, near] G Q E = (rowAsk one ∧ rowAsk other ∧ plain near = true ∧ withRow one E G fun a => withRow other E G fun b => withNear 0 9999 near E G fun n => Q (.lst ((aloneOf a b n).map D.int)) G) := by simp [sp_alone]
def sp_farthest (p : Pm) : Sp' := sp2 fun one other G Q E => rowAsk one ∧ rowAsk other ∧ withRow one E G fun a => withRow other E G fun b => Q (if a = [] ∨ b = [] then .non else .int (farOf a b)) G
@[simp] theorem at_farthest {one other : D} : sp_farthest p [one, other] G Q E = (rowAsk one ∧ rowAsk other ∧ withRow one E G fun a => withRow other E G fun b => Q (if a = [] ∨ b = [] then .non else .int (farOf a b)) G) := by simp [sp_farthest]
end
end DL

namespace DL
open PySem PySem.Spec PyProof.Rows L2
def t_look_near (p : Pm) (W : WX') : TS' :=
    (tIfS' (tNot' (tTest' (tCall' 3 (sp_is_whole p) W (tCons' (tVar' 0) (tCons' (tC' (.int 0)) (tCons' (tC' (.int 9999)) tNil')))))) (tRaise' .gate W) tNext')

def t_alone (p : Pm) (W : WX') : TS' :=
    (tSeq' (tDrop' (tCall' 1 (sp_look_row p) W (tCons' (tVar' 0) tNil')))
    (tSeq' (tDrop' (tCall' 1 (sp_look_row p) W (tCons' (tVar' 1) tNil')))
    (tSeq' (tDrop' (tCall' 1 (sp_look_near p) W (tCons' (tVar' 2) tNil')))
    (tRet' (tLc' false (iSeq' (tVar' 0)) (gName' 3) (tNot' (tTest' (tCB' rAny' (tCons' (tLc' false (iSeq' (tVar' 1)) (gName' 4) tYes' (tOp' (rCmp' fun i j => decide (i ≤ j)) (tCB' rAbs' (tCons' (tOp' (rI' (fun _ _ => True) fun i j => .int (i - j)) (tVar' 3) (tVar' 4)) tNil')) (tVar' 2)) [4]) tNil')))) (tVar' 3) [3])))))

def t_farthest (p : Pm) (W : WX') : TS' :=
    (tSeq' (tDrop' (tCall' 1 (sp_look_row p) W (tCons' (tVar' 0) tNil')))
    (tSeq' (tDrop' (tCall' 1 (sp_look_row p) W (tCons' (tVar' 1) tNil')))
    (tSeq' (tIfS' (tOr' (tTest' (tOp' (rEq' p false) (tVar' 0) (tTup' tNil'))) (tTest' (tOp' (rEq' p false) (tVar' 1) (tTup' tNil')))) (tRet' (tC' .non)) tNext')
    (tSeq' (tAsg' (tLc' false (iSeq' (tVar' 0)) (gName' 3) tYes' (tCB' rMinL' (tCons' (tLc' false (iSeq' (tVar' 1)) (gName' 4) tYes' (tCB' rAbs' (tCons' (tOp' (rI' (fun _ _ => True) fun i j => .int (i - j)) (tVar' 3) (tVar' 4)) tNil')) [4]) tNil')) [3]) (gName' 2))
    (tRet' (tCB' rMaxL' (tCons' (tOp' (rAdd' false) (tVar' 2) (tLc' false (iSeq' (tVar' 1)) (gName' 3) tYes' (tCB' rMinL' (tCons' (tLc' false (iSeq' (tVar' 0)) (gName' 4) tYes' (tCB' rAbs' (tCons' (tOp' (rI' (fun _ _ => True) fun i j => .int (i - j)) (tVar' 3) (tVar' 4)) tNil')) [4]) tNil')) [3])) tNil')))))))

end DL

namespace DL
open PySem PySem.Spec PyProof.Rows L2
theorem pure_look_near (p : Pm) (d : D) : Pure (t_look_near p) (sp_look_near p) 1 [d] := fun G Q E h => by
  simp only [sp_look_near, sp1] at h
  obtain ⟨hp, q⟩ := h
  simp [t_look_near, start', hp]
  exact wn_whole q fun n e h q => fz q
theorem pure_alone (p : Pm) (d e f : D) : Pure (t_alone p) (sp_alone p) 5 [d, e, f] := fun G Q E h => by
  simp only [sp_alone, sp3] at h
  obtain ⟨h1, h2, h3, q⟩ := h
  refine seqN fun N hN => ?_
  simp [start', h1]
  refine wr_step q fun a e1 ha q1 => hN _ _ (seqN fun N hN => ?_)
  simp [h2]
  refine wr_step q1 fun b e2 hb q2 => hN _ _ (seqN fun N hN => ?_)
  simp [h3]
  refine wn_step q2 fun n e3 hn q3 => hN _ _ ?_
  subst e1 e2 e3
  have la := row_line ha
  have lb := row_line hb
  simp
  refine lc_filter int_inj a (fun x => !nearB b n x) .int (fun R r => by simp; exact r) la (fun x hx Gx _ => ?_) (fz q3)
  simp
  refine lc_map int_inj b (fun y => .bl (decide (absI (x - y) ≤ n))) (fun R r => by simp; exact r) lb (fun y _ Gy _ => by simp) ?_
  refine rAny_i (bs := b.map fun y => decide (absI (x - y) ≤ n)) (by simp) ?_
  have : (b.map fun y => decide (absI (x - y) ≤ n)).any id = nearB b n x := by unfold nearB; rw [List.any_map]; rfl
  rw [this]
  cases nearB b n x <;> simp
theorem pure_farthest (p : Pm) (d e : D) : Pure (t_farthest p) (sp_farthest p) 5 [d, e] := fun G Q E h => by
  simp only [sp_farthest, sp2] at h
  obtain ⟨h1, h2, q⟩ := h
  refine seqN fun N hN => ?_
  simp [start', h1]
  refine wr_step q fun a e1 ha q1 => hN _ _ (seqN fun N hN => ?_)
  simp [h2]
  refine wr_step q1 fun b e2 hb q2 => hN _ _ (seqN fun N hN => ?_)
  subst e1 e2
  have la := row_line ha
  have lb := row_line hb
  have hbig := line_big
  by_cases c : a = [] ∨ b = []
  · rw [if_pos c] at q2
    simp
    rcases c with c | c
    · exact .inr ⟨c, fz q2⟩
    · by_cases c2 : a = []
      · exact .inr ⟨c2, fz q2⟩
      · exact .inl ⟨c2, .inr ⟨c, fz q2⟩⟩
  · rw [if_neg c] at q2
    have ca : a ≠ [] := fun z => c (.inl z)
    have cb : b ≠ [] := fun z => c (.inr z)
    simp
    refine .inl ⟨ca, .inl ⟨cb, hN _ _ (seqN fun N hN => ?_)⟩⟩
    simp
    refine lc_map int_inj a (fun x => .int (nearestOf b x)) (fun R r => by simp; exact r) la (fun x _ Gx _ => ?_) ?_
    · simp
      refine lc_map int_inj b (fun y => .int (absI (x - y))) (fun R r => by simp; exact r) lb (fun y _ Gy _ => by simp) ?_
      refine rMinL_i (ns := b.map fun y => absI (x - y)) (by simp) (by simpa using cb) ?_
      exact ⟨rfl, rfl⟩
    · refine hN _ _ ?_
      simp
      refine lc_map int_inj b (fun x => .int (nearestOf a x)) (fun R r => by simp; exact r) lb (fun x _ Gx _ => ?_) ?_
      · simp
        refine lc_map int_inj a (fun y => .int (absI (x - y))) (fun R r => by simp; exact r) la (fun y _ Gy _ => by simp) ?_
        refine rMinL_i (ns := a.map fun y => absI (x - y)) (by simp) (by simpa using ca) ?_
        exact ⟨rfl, rfl⟩
      · simp
        have := ha.1
        have := hb.1
        refine ⟨by omega, rMaxL_i (ns := a.map (nearestOf b) ++ b.map (nearestOf a)) (by simp [Function.comp_def]) (by simpa using fun z => (ca z).elim) (fz q2)⟩
end DL

namespace DL
open PySem PySem.Spec PyProof.Rows L2
section
variable {p : Pm} {G : GH} {Q : QE} {E : EK'} {d s l : D} {i j lo hi : Int}
/-! ### rows worked on -/
theorem ask_ints {ns : List Int} (h : ns.length ≤ sizeLine) : rowAsk (.tup (ns.map D.int)) := ⟨by rw [List.length_map]; exact h, fun d hd => by
  obtain ⟨n, _, rfl⟩ := List.mem_map.mp hd
  rfl⟩
/-- what is made has to be a row -/
def madeRow (ns : List Int) (Q : QE) (E : EK') (G : GH) : Prop := if RowOk ns then Q (.tup (ns.map D.int)) G else E .row G
theorem mr_step {σ : St'} {ns : List Int} (h : madeRow ns Q E G) : (rowOf (.tup (ns.map D.int)) = none ∧ FzE E .row σ G) ∨ ((rowOf (.tup (ns.map D.int))).isSome = true ∧ Fz Q (.tup (ns.map D.int)) G) := by
  unfold madeRow at h
  by_cases c : RowOk ns
  · rw [if_pos c] at h
    rw [rowOf_row c]
    exact .inr ⟨rfl, fz h⟩
  · rw [if_neg c] at h
    refine .inl ⟨?_, fzE h⟩
    simp [rowOf, c]
theorem on_made {ns : List Int} (h : RowOk ns) : madeRow ns Q E G = Q (.tup (ns.map D.int)) G := if_pos h
def sp_shifted (p : Pm) : Sp' := sp2 fun r by_ G Q E => rowAsk r ∧ plain by_ = true ∧ withRow r E G fun ns => withNear (-9999) 9999 by_ E G fun b => madeRow (ns.map (· + b)) Q E G
@[simp] theorem at_shifted : sp_shifted p [s, l] G Q E = (rowAsk s ∧ plain l = true ∧ withRow s E G fun ns => withNear (-9999) 9999 l E G fun b => madeRow (ns.map (· + b)) Q E G) := by simp [sp_shifted]
def mergeOf (a b : List Int) : List Int := sortD (a ++ b)
def sp_merged (p : Pm) : Sp' := sp2 fun r o G Q E => rowAsk r ∧ rowAsk o ∧ withRow r E G fun a => withRow o E G fun b => madeRow (mergeOf a b) Q E G
@[simp] theorem at_merged : sp_merged p [s, l] G Q E = (rowAsk s ∧ rowAsk l ∧ withRow s E G fun a => withRow l E G fun b => madeRow (mergeOf a b) Q E G) := by simp [sp_merged]
def cutOf (ns : List Int) (s l : Int) : List Int := (cnt ns s l).map (· - s)
def sp_cut_out (p : Pm) : Sp' := sp3 fun r s l G Q E => rowAsk r ∧ plain s = true ∧ plain l = true ∧ withRow r E G fun ns => withGate s l E G fun a b => Q (.tup ((cutOf ns a b).map D.int)) G
@[simp] theorem at_cut_out : sp_cut_out p [d, s, l] G Q E = (rowAsk d ∧ plain s = true ∧ plain l = true ∧ withRow d E G fun ns => withGate s l E G fun a b => Q (.tup ((cutOf ns a b).map D.int)) G) := by simp [sp_cut_out]
def sp_divided (p : Pm) : Sp' := sp2 fun r by_ G Q E => rowAsk r ∧ plain by_ = true ∧ withRow r E G fun ns => withNear 1 40 by_ E G fun b => Q (.tup ((stepL ns b.toNat).map D.int)) G
@[simp] theorem at_divided : sp_divided p [s, l] G Q E = (rowAsk s ∧ plain l = true ∧ withRow s E G fun ns => withNear 1 40 l E G fun b => Q (.tup ((stepL ns b.toNat).map D.int)) G) := by simp [sp_divided]
def sp_slowed (p : Pm) : Sp' := sp2 fun r by_ G Q E => rowAsk r ∧ plain by_ = true ∧ withRow r E G fun ns => withNear 1 40 by_ E G fun b => madeRow (ns.map (· * b)) Q E G
@[simp] theorem at_slowed : sp_slowed p [s, l] G Q E = (rowAsk s ∧ plain l = true ∧ withRow s E G fun ns => withNear 1 40 l E G fun b => madeRow (ns.map (· * b)) Q E G) := by simp [sp_slowed]
/-! ### gates -/
def gatesOk (s l d m : Int) : Prop := 0 ≤ d ∧ d ≤ 9999 ∧ 1 ≤ m ∧ m ≤ 20 ∧ s + m * l + (m - 1) * d - 1 ≤ 99999
instance {s l d m : Int} : Decidable (gatesOk s l d m) := by unfold gatesOk; infer_instance
def withGates (s l dd m : D) (E : EK') (G : GH) (k : Int → Int → Int → Int → Prop) : Prop := withGate s l E G fun a b => match dd, m with
  | .int c, .int n => if gatesOk a b c n then k a b c n else E .gate G
  | _, _ => E .gate G
theorem wgs_step {s l dd m : D} {σ : St'} {k k' : Int → Int → Int → Int → Prop} (h : withGates s l dd m E G k) (f : ∀ a b c n, s = .int a → l = .int b → dd = .int c → m = .int n → 0 ≤ a ∧ a ≤ 9999 ∧ 1 ≤ b ∧ b ≤ 9999 → gatesOk a b c n → k a b c n → k' a b c n) :
    withGates s l dd m (fun x G2 => FzE E x σ G2) G k' := by
  unfold withGates at h ⊢
  refine wg_step h fun a b e1 e2 h3 h5 => ?_
  subst e1 e2
  cases dd with
  | int c =>
    cases m with
    | int n =>
      dsimp only at h5 ⊢
      by_cases z : gatesOk a b c n
      · rw [if_pos z] at h5 ⊢; exact f a b c n rfl rfl rfl rfl h3 z h5
      · rw [if_neg z] at h5 ⊢; exact fzE h5
    | _ => exact fzE h5
  | _ => exact fzE h5
theorem on_gates {a b c n : Int} {k : Int → Int → Int → Int → Prop} (h : 0 ≤ a ∧ a ≤ 9999 ∧ 1 ≤ b ∧ b ≤ 9999) (h2 : gatesOk a b c n) : withGates (.int a) (.int b) (.int c) (.int n) E G k = k a b c n := by
  unfold withGates
  rw [on_gate h]
  exact if_pos h2
def startsOf (s l d : Int) (m : Nat) : List Int := (List.range m).map fun (i : Nat) => s + i * (l + d)
def countsOf (ns : List Int) (s l d : Int) (m : Nat) : List Int := (startsOf s l d m).map fun a => ((cnt ns a l).length : Int)
def sp_look_gates (p : Pm) : Sp' := sp4 fun s l c n G Q E => plain s = true ∧ plain l = true ∧ plain c = true ∧ plain n = true ∧ withGates s l c n E G fun _ _ _ _ => Q .non G
@[simp] theorem at_look_gates {s l c n : D} : sp_look_gates p [s, l, c, n] G Q E = (plain s = true ∧ plain l = true ∧ plain c = true ∧ plain n = true ∧ withGates s l c n E G fun _ _ _ _ => Q .non G) := by simp [sp_look_gates]
def sp_starts_of (p : Pm) : Sp' := sp4 fun s l c n G Q E => ∃ a b e m : Int, s = .int a ∧ l = .int b ∧ c = .int e ∧ n = .int m ∧ 0 ≤ m ∧ m ≤ 20 ∧ Q (.lst ((startsOf a b e m.toNat).map D.int)) G
@[simp] theorem at_starts_of {a b e m : Int} : sp_starts_of p [.int a, .int b, .int e, .int m] G Q E = (0 ≤ m ∧ m ≤ 20 ∧ Q (.lst ((startsOf a b e m.toNat).map D.int)) G) := by simp [sp_starts_of]
def sp_counts_of (p : Pm) : Sp' := sp5 fun r s l c n G Q E => ∃ (ns : List Int) (a b e m : Int), r = .tup (ns.map D.int) ∧ s = .int a ∧ l = .int b ∧ c = .int e ∧ n = .int m ∧ ns.length ≤ sizeLine ∧ 0 ≤ m ∧ m ≤ 20 ∧ Q (.lst ((countsOf ns a b e m.toNat).map D.int)) G
@[simp] theorem at_counts_of {ns : List Int} {a b e m : Int} : sp_counts_of p [.tup (ns.map D.int), .int a, .int b, .int e, .int m] G Q E = (ns.length ≤ sizeLine ∧ 0 ≤ m ∧ m ≤ 20 ∧ Q (.lst ((countsOf ns a b e m.toNat).map D.int)) G) := by
  simp only [sp_counts_of, sp5]
  refine propext ⟨fun ⟨ms, a', b', e', m', z, z1, z2, z3, z4, h⟩ => ?_, fun h => ⟨ns, a, b, e, m, rfl, rfl, rfl, rfl, rfl, h⟩⟩
  cases z1; cases z2; cases z3; cases z4
  rw [ints_inj (D.tup.inj z)]; exact h
def sp_in_gates (p : Pm) : Sp' := sp5 fun r s l c n G Q E => rowAsk r ∧ plain s = true ∧ plain l = true ∧ plain c = true ∧ plain n = true ∧ withRow r E G fun ns => withGates s l c n E G fun a b e m => Q (.lst ((countsOf ns a b e m.toNat).map D.int)) G
@[simp] theorem at_in_gates {r s l c n : D} : sp_in_gates p [r, s, l, c, n] G Q E = (rowAsk r ∧ plain s = true ∧ plain l = true ∧ plain c = true ∧ plain n = true ∧ withRow r E G fun ns => withGates s l c n E G fun a b e m => Q (.lst ((countsOf ns a b e m.toNat).map D.int)) G) := by simp [sp_in_gates]
end
end DL

namespace DL
open PySem PySem.Spec PyProof.Rows L2
def t_shifted (p : Pm) (W : WX') : TS' :=
    (tSeq' (tDrop' (tCall' 1 (sp_look_row p) W (tCons' (tVar' 0) tNil')))
    (tSeq' (tIfS' (tNot' (tTest' (tCall' 3 (sp_is_whole p) W (tCons' (tVar' 1) (tCons' (tOp' (rI' (fun _ _ => True) fun i j => .int (i - j)) (tC' (.int 0)) (tC' (.int 9999))) (tCons' (tC' (.int 9999)) tNil')))))) (tRaise' .gate W) tNext')
    (tSeq' (tAsg' (tCB' rTupOf' (tCons' (tLc' false (iSeq' (tVar' 0)) (gName' 3) tYes' (tOp' (rAdd' false) (tVar' 3) (tVar' 1)) [3]) tNil')) (gName' 2))
    (tSeq' (tIfS' (tNot' (tTest' (tCall' 1 (sp_is_row p) W (tCons' (tVar' 2) tNil')))) (tRaise' .row W) tNext')
    (tRet' (tVar' 2))))))

def t_merged (p : Pm) (W : WX') : TS' :=
    (tSeq' (tDrop' (tCall' 1 (sp_look_row p) W (tCons' (tVar' 0) tNil')))
    (tSeq' (tDrop' (tCall' 1 (sp_look_row p) W (tCons' (tVar' 1) tNil')))
    (tSeq' (tAsg' (tCB' rTupOf' (tCons' (tSortSet' (p := p) (tCons' (tOp' (rAdd' false) (tVar' 0) (tVar' 1)) tNil')) tNil')) (gName' 2))
    (tSeq' (tIfS' (tNot' (tTest' (tCall' 1 (sp_is_row p) W (tCons' (tVar' 2) tNil')))) (tRaise' .row W) tNext')
    (tRet' (tVar' 2))))))

def t_cut_out (p : Pm) (W : WX') : TS' :=
    (tSeq' (tDrop' (tCall' 1 (sp_look_row p) W (tCons' (tVar' 0) tNil')))
    (tSeq' (tDrop' (tCall' 2 (sp_look_gate p) W (tCons' (tVar' 1) (tCons' (tVar' 2) tNil'))))
    (tRet' (tCB' rTupOf' (tCons' (tLc' false (iSeq' (tCall' 3 (sp_in_gate p) W (tCons' (tVar' 0) (tCons' (tVar' 1) (tCons' (tVar' 2) tNil'))))) (gName' 3) tYes' (tOp' (rI' (fun _ _ => True) fun i j => .int (i - j)) (tVar' 3) (tVar' 1)) [3]) tNil')))))

def t_divided (p : Pm) (W : WX') : TS' :=
    (tSeq' (tDrop' (tCall' 1 (sp_look_row p) W (tCons' (tVar' 0) tNil')))
    (tSeq' (tIfS' (tNot' (tTest' (tCall' 3 (sp_is_whole p) W (tCons' (tVar' 1) (tCons' (tC' (.int 1)) (tCons' (tC' (.int 40)) tNil')))))) (tRaise' .gate W) tNext')
    (tRet' (tStep' (tVar' 0) (tVar' 1)))))

def t_slowed (p : Pm) (W : WX') : TS' :=
    (tSeq' (tDrop' (tCall' 1 (sp_look_row p) W (tCons' (tVar' 0) tNil')))
    (tSeq' (tIfS' (tNot' (tTest' (tCall' 3 (sp_is_whole p) W (tCons' (tVar' 1) (tCons' (tC' (.int 1)) (tCons' (tC' (.int 40)) tNil')))))) (tRaise' .gate W) tNext')
    (tSeq' (tAsg' (tCB' rTupOf' (tCons' (tLc' false (iSeq' (tVar' 0)) (gName' 3) tYes' (tOp' (rMul' false) (tVar' 3) (tVar' 1)) [3]) tNil')) (gName' 2))
    (tSeq' (tIfS' (tNot' (tTest' (tCall' 1 (sp_is_row p) W (tCons' (tVar' 2) tNil')))) (tRaise' .row W) tNext')
    (tRet' (tVar' 2))))))

def t_look_gates (p : Pm) (W : WX') : TS' :=
    (tSeq' (tDrop' (tCall' 2 (sp_look_gate p) W (tCons' (tVar' 0) (tCons' (tVar' 1) tNil'))))
    (tSeq' (tIfS' (tOr' (tNot' (tTest' (tCall' 3 (sp_is_whole p) W (tCons' (tVar' 2) (tCons' (tC' (.int 0)) (tCons' (tC' (.int 9999)) tNil')))))) (tNot' (tTest' (tCall' 3 (sp_is_whole p) W (tCons' (tVar' 3) (tCons' (tC' (.int 1)) (tCons' (tC' (.int 20)) tNil'))))))) (tRaise' .gate W) tNext')
    (tIfS' (tTest' (tOp' (rCmp' fun i j => decide (j < i)) (tOp' (rI' (fun _ _ => True) fun i j => .int (i - j)) (tOp' (rAdd' false) (tOp' (rAdd' false) (tVar' 0) (tOp' (rMul' false) (tVar' 3) (tVar' 1))) (tOp' (rMul' false) (tOp' (rI' (fun _ _ => True) fun i j => .int (i - j)) (tVar' 3) (tC' (.int 1))) (tVar' 2))) (tC' (.int 1))) (tC' (.int 99999)))) (tRaise' .gate W) tNext')))

def t_starts_of (p : Pm) (W : WX') : TS' :=
    (tRet' (tLc' false (iRng1' (tCons' (tVar' 3) tNil')) (gName' 4) tYes' (tOp' (rAdd' false) (tVar' 0) (tOp' (rMul' false) (tVar' 4) (tOp' (rAdd' false) (tVar' 1) (tVar' 2)))) [4]))

def t_counts_of (p : Pm) (W : WX') : TS' :=
    (tRet' (tLc' false (iSeq' (tCall' 4 (sp_starts_of p) W (tCons' (tVar' 1) (tCons' (tVar' 2) (tCons' (tVar' 3) (tCons' (tVar' 4) tNil')))))) (gName' 5) tYes' (tCB' (rLen' p) (tCons' (tCall' 3 (sp_in_gate p) Wno (tCons' (tVar' 0) (tCons' (tVar' 5) (tCons' (tVar' 2) tNil')))) tNil')) [5]))

def t_in_gates (p : Pm) (W : WX') : TS' :=
    (tSeq' (tDrop' (tCall' 1 (sp_look_row p) W (tCons' (tVar' 0) tNil')))
    (tSeq' (tDrop' (tCall' 4 (sp_look_gates p) W (tCons' (tVar' 1) (tCons' (tVar' 2) (tCons' (tVar' 3) (tCons' (tVar' 4) tNil'))))))
    (tRet' (tCall' 5 (sp_counts_of p) W (tCons' (tVar' 0) (tCons' (tVar' 1) (tCons' (tVar' 2) (tCons' (tVar' 3) (tCons' (tVar' 4) tNil')))))))))

end DL

namespace DL
open PySem PySem.Spec PyProof.Rows L2
theorem pure_shifted (p : Pm) (d e : D) : Pure (t_shifted p) (sp_shifted p) 4 [d, e] := fun G Q E h => by
  simp only [sp_shifted, sp2] at h
  obtain ⟨h1, h2, q⟩ := h
  refine seqN fun N hN => ?_
  simp [start', h1]
  refine wr_step q fun a e1 ha q1 => hN _ _ (seqN fun N hN => ?_)
  subst e1
  have la := row_line ha
  simp [h2]
  refine wn_whole q1 fun n e3 hn q2 => hN _ _ (seqN fun N hN => ?_)
  subst e3
  simp
  refine lc_map int_inj a (fun x => .int (x + n)) (fun R r => by simp; exact r) la (fun x _ Gx _ => by simp) ?_
  simp
  have e : a.map (fun x => D.int (x + n)) = (a.map (· + n)).map D.int := by simp
  rw [e]
  refine hN _ _ (seqN fun N hN => ?_)
  generalize hm : a.map (· + n) = made at q2
  have hl : made.length ≤ sizeLine := by rw [← hm]; simpa using la
  simp [ask_ints hl]
  rcases mr_step (σ := [some (D.tup (List.map D.int a)), some (D.int n), some (D.tup (List.map D.int made)), none]) q2 with ⟨c, k⟩ | ⟨c, k⟩
  · exact .inl ⟨c, k⟩
  · exact .inr ⟨c, hN _ _ (by simpa using k)⟩
theorem pure_slowed (p : Pm) (d e : D) : Pure (t_slowed p) (sp_slowed p) 4 [d, e] := fun G Q E h => by
  simp only [sp_slowed, sp2] at h
  obtain ⟨h1, h2, q⟩ := h
  refine seqN fun N hN => ?_
  simp [start', h1]
  refine wr_step q fun a e1 ha q1 => hN _ _ (seqN fun N hN => ?_)
  subst e1
  have la := row_line ha
  simp [h2]
  refine wn_whole q1 fun n e3 hn q2 => hN _ _ (seqN fun N hN => ?_)
  subst e3
  simp
  refine lc_map int_inj a (fun x => .int (x * n)) (fun R r => by simp; exact r) la (fun x _ Gx _ => by simp; exact .inr (by omega)) ?_
  simp
  have e : a.map (fun x => D.int (x * n)) = (a.map (· * n)).map D.int := by simp
  rw [e]
  refine hN _ _ (seqN fun N hN => ?_)
  generalize hm : a.map (· * n) = made at q2
  have hl : made.length ≤ sizeLine := by rw [← hm]; simpa using la
  simp [ask_ints hl]
  rcases mr_step (σ := [some (D.tup (List.map D.int a)), some (D.int n), some (D.tup (List.map D.int made)), none]) q2 with ⟨c, k⟩ | ⟨c, k⟩
  · exact .inl ⟨c, k⟩
  · exact .inr ⟨c, hN _ _ (by simpa using k)⟩
theorem putD_len (k : Int) : ∀ l : List Int, (putD k l).length ≤ l.length + 1
  | [] => by simp [putD]
  | x :: r => by
    have ih := putD_len k r
    unfold putD
    split
    · simp
    · split
      · simp
      · simp; exact ih
theorem sortD_len : ∀ ns : List Int, (sortD ns).length ≤ ns.length
  | [] => by simp [sortD]
  | x :: r => by
    have ih := sortD_len r
    have := putD_len x (sortD r)
    show (putD x (sortD r)).length ≤ _
    simp only [List.length_cons]
    omega
theorem sortset_ {t : TA'} {p : Pm} {σ : St'} {G : GH} {Q : QE} (h : t σ G fun xs G1 => ∃ (x : D) (ns : List Int), xs = [x] ∧ asQ p G1 x = some (ns.map D.int) ∧ ns.length ≤ 4000 ∧ Q (.lst ((sortD ns).map D.int)) G1) : tSortSet' (p := p) t σ G Q := h
theorem pure_merged (p : Pm) (d e : D) : Pure (t_merged p) (sp_merged p) 3 [d, e] := fun G Q E h => by
  simp only [sp_merged, sp2] at h
  obtain ⟨h1, h2, q⟩ := h
  refine seqN fun N hN => ?_
  simp [start', h1]
  refine wr_step q fun a e1 ha q1 => hN _ _ (seqN fun N hN => ?_)
  subst e1
  have la := ha.1
  simp [h2]
  refine wr_step q1 fun b e3 hb q2 => hN _ _ (seqN fun N hN => ?_)
  subst e3
  have lb := hb.1
  have big := line_big
  simp
  refine sortset_ ?_
  simp
  refine ⟨by omega, a ++ b, by simp, by simp; omega, hN _ _ (seqN fun N hN => ?_)⟩
  have hl : (mergeOf a b).length ≤ sizeLine := by
    have := sortD_len (a ++ b)
    unfold mergeOf
    rw [List.length_append] at this
    omega
  rw [show sortD (a ++ b) = mergeOf a b from rfl]
  simp [ask_ints hl]
  rcases mr_step (σ := [some (D.tup (List.map D.int a)), some (D.tup (List.map D.int b)), some (D.tup (List.map D.int (mergeOf a b)))]) q2 with ⟨c, k⟩ | ⟨c, k⟩
  · exact .inl ⟨c, k⟩
  · exact .inr ⟨c, hN _ _ (by simpa using k)⟩
theorem cnt_len (ns : List Int) (s l : Int) : (cnt ns s l).length ≤ ns.length := List.length_filter_le _ _
theorem pure_cut_out (p : Pm) (d s l : D) : Pure (t_cut_out p) (sp_cut_out p) 4 [d, s, l] := fun G Q E h => by
  simp only [sp_cut_out, sp3] at h
  obtain ⟨h1, h2, h3, q⟩ := h
  refine seqN fun N hN => ?_
  simp [start', h1]
  refine wr_step q fun a e1 ha q1 => hN _ _ (seqN fun N hN => ?_)
  subst e1
  have la := row_line ha
  simp [h2, h3]
  refine wg_step q1 fun x y e3 e4 hg q2 => hN _ _ ?_
  subst e3 e4
  have lc := cnt_len a x y
  simp
  refine lc_map int_inj (cnt a x y) (fun z => .int (z - x)) (fun R r => by simp; exact ⟨la, r⟩) (by omega) (fun z _ Gx _ => by simp) ?_
  simp
  exact fz (by simpa [cutOf, Function.comp_def] using q2)
theorem pure_divided (p : Pm) (d e : D) : Pure (t_divided p) (sp_divided p) 2 [d, e] := fun G Q E h => by
  simp only [sp_divided, sp2] at h
  obtain ⟨h1, h2, q⟩ := h
  refine seqN fun N hN => ?_
  simp [start', h1]
  refine wr_step q fun a e1 ha q1 => hN _ _ (seqN fun N hN => ?_)
  subst e1
  have la := row_line ha
  simp [h2]
  refine wn_whole q1 fun n e3 hn q2 => hN _ _ ?_
  subst e3
  simp
  exact ⟨by omega, fz (by rw [stepL_map]; exact q2)⟩
theorem pure_look_gates (p : Pm) (s l c n : D) : Pure (t_look_gates p) (sp_look_gates p) 4 [s, l, c, n] := fun G Q E h => by
  simp only [sp_look_gates, sp4] at h
  obtain ⟨h1, h2, h3, h4, q⟩ := h
  refine seqN fun N hN => ?_
  simp [start', h1, h2]
  unfold withGates at q
  refine wg_step q fun a b e1 e2 hg q1 => hN _ _ (seqN fun N hN => ?_)
  subst e1 e2
  simp [h3, h4]
  by_cases w1 : isWhole 0 9999 c = true
  · obtain ⟨c, rfl, hc1, hc2⟩ := isWhole_some w1
    by_cases w2 : isWhole 1 20 n = true
    · obtain ⟨n, rfl, hn1, hn2⟩ := isWhole_some w2
      refine .inr ⟨w1, .inr ⟨w2, hN _ _ ?_⟩⟩
      dsimp only at q1
      simp
      by_cases k : gatesOk a b c n
      · rw [if_pos k] at q1
        have kk := k.2.2.2.2
        exact ⟨.inl (by omega), .inr (by omega), .inl ⟨by omega, fz q1⟩⟩
      · rw [if_neg k] at q1
        unfold gatesOk at k
        exact ⟨.inl (by omega), .inr (by omega), .inr ⟨by omega, fzE q1⟩⟩
    · refine .inr ⟨w1, .inl ⟨by simpa using w2, fzE ?_⟩⟩
      split at q1
      · rename_i x y
        rw [if_neg] at q1
        · exact q1
        · unfold gatesOk
          intro z
          exact w2 (by simp; omega)
      · exact q1
  · refine .inl ⟨by simpa using w1, fzE ?_⟩
    split at q1
    · rename_i x y
      rw [if_neg] at q1
      · exact q1
      · unfold gatesOk
        intro z
        exact w1 (by simp; omega)
    · exact q1
theorem pure_starts_of (p : Pm) (s l c n : D) : Pure (t_starts_of p) (sp_starts_of p) 5 [s, l, c, n] := fun G Q E h => by
  simp only [sp_starts_of, sp4] at h
  obtain ⟨a, b, e, m, rfl, rfl, rfl, rfl, h1, h2, q⟩ := h
  have big := line_big
  simp [t_starts_of, start']
  refine lc_map (f := fun i : Nat => D.int i) (fun x y h => by have := D.int.inj h; omega) (List.range m.toNat) (fun i => .int (a + i * (b + e))) (fun R r => by simp; exact ⟨by omega, by omega, by simpa [rangeD] using r⟩) (by simp; omega) (fun i hi Gx _ => ?_) ?_
  · rw [List.mem_range] at hi
    simp; exact .inl (by omega)
  · exact fz (by simpa [startsOf, Function.comp_def] using q)
theorem pure_counts_of (p : Pm) (r s l c n : D) : Pure (t_counts_of p) (sp_counts_of p) 6 [r, s, l, c, n] := fun G Q E h => by
  simp only [sp_counts_of, sp5] at h
  obtain ⟨ns, a, b, e, m, rfl, rfl, rfl, rfl, rfl, h0, h1, h2, q⟩ := h
  have big := line_big
  simp [t_counts_of, start']
  refine lc_map int_inj (startsOf a b e m.toNat) (fun x => .int (cnt ns x b).length) (fun R r => by simp; exact ⟨by omega, by omega, r⟩) (by simp [startsOf]; omega) (fun x _ Gx _ => by simp [h0]) ?_
  exact fz (by simpa [countsOf, Function.comp_def] using q)
theorem pure_in_gates (p : Pm) (r s l c n : D) : Pure (t_in_gates p) (sp_in_gates p) 5 [r, s, l, c, n] := fun G Q E h => by
  simp only [sp_in_gates, sp5] at h
  obtain ⟨h0, h1, h2, h3, h4, q⟩ := h
  refine seqN fun N hN => ?_
  simp [start', h0]
  refine wr_step q fun ns e1 ha q1 => hN _ _ (seqN fun N hN => ?_)
  subst e1
  simp [h1, h2, h3, h4]
  refine wgs_step q1 fun a b e m e1 e2 e3 e4 hg hk q2 => hN _ _ ?_
  subst e1 e2 e3 e4
  unfold gatesOk at hk
  simp
  exact ⟨row_line ha, by omega, by omega, fz q2⟩
end DL

namespace DL
open PySem PySem.Spec PyProof.Rows L2
section
variable {p : Pm} {G : GH} {Q : QE} {E : EK'} {d s l : D} {i j lo hi : Int}
/-! ### pairs -/
def optD : Option Int → D
  | some i => .int i
  | none => .non
theorem opt_inj : ∀ x y : Option Int, optD x = optD y → x = y
  | some _, some _, h => by cases h; rfl
  | none, none, _ => rfl
  | some _, none, h => by cases h
  | none, some _, h => by cases h
/-- how long till the next of b -/
def waitOf (b : List Int) (x : Int) : Option Int := (b.find? fun y => decide (x ≤ y)).map (· - x)
def waitsOf (a b : List Int) : List (Option Int) := a.map (waitOf b)
def sp_waits (p : Pm) : Sp' := sp2 fun r o G Q E => ∃ a b : List Int, r = .tup (a.map D.int) ∧ o = .tup (b.map D.int) ∧ a.length ≤ 40 ∧ b.length ≤ 40 ∧ Q (.lst ((waitsOf a b).map optD)) G
@[simp] theorem at_waits {a b : List Int} : sp_waits p [.tup (a.map D.int), .tup (b.map D.int)] G Q E = (a.length ≤ 40 ∧ b.length ≤ 40 ∧ Q (.lst ((waitsOf a b).map optD)) G) := by
  simp only [sp_waits, sp2]
  refine propext ⟨fun ⟨x, y, e, e2, h⟩ => ?_, fun h => ⟨a, b, rfl, rfl, h⟩⟩
  rw [ints_inj (D.tup.inj e), ints_inj (D.tup.inj e2)]; exact h
def sp_to_next (p : Pm) : Sp' := sp2 fun r o G Q E => rowAsk r ∧ rowAsk o ∧ withRow r E G fun a => withRow o E G fun b => Q (.lst ((waitsOf a b).map optD)) G
@[simp] theorem at_to_next : sp_to_next p [s, l] G Q E = (rowAsk s ∧ rowAsk l ∧ withRow s E G fun a => withRow l E G fun b => Q (.lst ((waitsOf a b).map optD)) G) := by simp [sp_to_next]
def longestOf (a b : List Int) : Option Int := let w := (waitsOf a b).filterMap id; if w = [] then none else some (maxL w)
def sp_longest_wait (p : Pm) : Sp' := sp2 fun r o G Q E => rowAsk r ∧ rowAsk o ∧ withRow r E G fun a => withRow o E G fun b => Q (optD (longestOf a b)) G
@[simp] theorem at_longest_wait : sp_longest_wait p [s, l] G Q E = (rowAsk s ∧ rowAsk l ∧ withRow s E G fun a => withRow l E G fun b => Q (optD (longestOf a b)) G) := by simp [sp_longest_wait]
def betweenOf (a b : List Int) : List Int := (a.zip a.tail).map fun q => ((b.filter fun z => decide (q.1 ≤ z) && decide (z < q.2)).length : Int)
def sp_between (p : Pm) : Sp' := sp2 fun r o G Q E => rowAsk r ∧ rowAsk o ∧ withRow r E G fun a => withRow o E G fun b => Q (.lst ((betweenOf a b).map D.int)) G
@[simp] theorem at_between : sp_between p [s, l] G Q E = (rowAsk s ∧ rowAsk l ∧ withRow s E G fun a => withRow l E G fun b => Q (.lst ((betweenOf a b).map D.int)) G) := by simp [sp_between]
end
end DL

namespace DL
open PySem PySem.Spec PyProof.Rows L2
def t_waits (p : Pm) (W : WX') : TS' :=
    (tSeqF' (tAsg' (tLst' true tNil') (gName' 2))
    (tSeqF' (tFor' (iSeq' (tVar' 0)) (gName' 3) (tSeqF' (tAsg' (tLc' false (iSeq' (tVar' 1)) (gName' 5) (tTest' (tOp' (rCmp' fun i j => decide (j ≤ i)) (tVar' 5) (tVar' 3))) (tOp' (rI' (fun _ _ => True) fun i j => .int (i - j)) (tVar' 5) (tVar' 3)) [5]) (gName' 4))
    (tDrop' (tMut' rAppend' (tVar' 2) (tCons' (tIf' (tTest' (tOp' (rEq' p true) (tVar' 4) (tLst' false tNil'))) (tOp' (rIx' p) (tVar' 4) (tC' (.int 0))) (tC' .non)) tNil')))))
    (tRet' (tVar' 2))))

def t_to_next (p : Pm) (W : WX') : TS' :=
    (tSeq' (tDrop' (tCall' 1 (sp_look_row p) W (tCons' (tVar' 0) tNil')))
    (tSeq' (tDrop' (tCall' 1 (sp_look_row p) W (tCons' (tVar' 1) tNil')))
    (tRet' (tCall' 2 (sp_waits p) W (tCons' (tVar' 0) (tCons' (tVar' 1) tNil'))))))

def t_longest_wait (p : Pm) (W : WX') : TS' :=
    (tSeq' (tAsg' (tLc' false (iSeq' (tCall' 2 (sp_to_next p) W (tCons' (tVar' 0) (tCons' (tVar' 1) tNil')))) (gName' 3) (tTest' (tOp' (rIsN' true) (tVar' 3) (tC' .non))) (tVar' 3) [3]) (gName' 2))
    (tRet' (tIf' (tTest' (tOp' (rEq' p true) (tVar' 2) (tLst' false tNil'))) (tCB' rMaxL' (tCons' (tVar' 2) tNil')) (tC' .non))))

def t_between (p : Pm) (W : WX') : TS' :=
    (tSeq' (tDrop' (tCall' 1 (sp_look_row p) W (tCons' (tVar' 0) tNil')))
    (tSeq' (tDrop' (tCall' 1 (sp_look_row p) W (tCons' (tVar' 1) tNil')))
    (tRet' (tLc' false (iZip' (tCons' (tVar' 0) (tCons' (tSl' (rSl' false) (tVar' 0) (tPart' (tC' (.int 1))) tNo') tNil'))) (gTup' 2 (gCons' (gName' 2) (gCons' (gName' 3) gNil'))) tYes' (tCB' (rLen' p) (tCons' (tLc' false (iSeq' (tVar' 1)) (gName' 4) (tTest' (tChain' (rCmp' fun i j => decide (i ≤ j)) (rCmp' fun i j => decide (i < j)) (tVar' 2) (tVar' 4) (tVar' 3))) (tVar' 4) [4]) tNil')) [2, 3]))))

end DL

namespace DL
open PySem PySem.Spec PyProof.Rows L2
theorem wait_head (b : List Int) (x : Int) : waitOf b x = ((b.filter fun y => decide (x ≤ y)).map (· - x)).head? := by
  unfold waitOf
  rw [List.head?_map, List.head?_filter]
theorem pure_waits (p : Pm) (d e : D) : Pure (t_waits p) (sp_waits p) 6 [d, e] := fun G Q E h => by
  simp only [sp_waits, sp2] at h
  obtain ⟨a, b, rfl, rfl, la, lb, q⟩ := h
  have big := line_big
  refine seqF fun N hN _ => ?_
  simp [start']
  intro r hr
  refine hN _ _ (seqF fun N hN hF => ?_)
  refine for_at a (fun i σ G' => G' = gup G r (.lst (((a.take i).map (waitOf b)).map optD)) ∧ ∃ o o2, σ = [some (.tup (a.map D.int)), some (.tup (b.map D.int)), some (.ref r), o, o2, none]) (f := D.int) (G1 := gup G r (.lst [])) (fun R r => by simp; exact r) ⟨rfl, none, none, rfl⟩ ?_ ?_
  · rintro i x σ G' hx ⟨rfl, o, o2, rfl⟩
    have hil := (List.getElem?_eq_some_iff.mp hx).1
    refine seqF fun N hN _ => ?_
    simp
    refine lc_filter int_inj b (fun y => decide (x ≤ y)) (fun y => .int (y - x)) (fun R r => by simp; exact r) (by omega) (fun y _ Gx _ => by by_cases c : x ≤ y <;> simp [c]) ?_
    have hw := wait_head b x
    have e1 : (b.filter fun y => decide (x ≤ y)).map (fun y => D.int (y - x)) = ((b.filter fun y => decide (x ≤ y)).map (· - x)).map D.int := by simp
    rw [e1]
    generalize ((b.filter fun y => decide (x ≤ y)).map (· - x)) = beh at hw ⊢
    refine hN _ _ ?_
    have st : (a.take (i + 1)).map (waitOf b) = (a.take i).map (waitOf b) ++ [waitOf b x] := by
      rw [List.take_add_one, hx]; simp
    simp only [st]
    have hz : ((a.take i).map (waitOf b)).length < sizeLine := by rw [List.length_map, List.length_take]; omega
    simp
    cases beh with
    | nil =>
      simp at hw
      refine .inl ⟨rfl, ?_, by simp [hw, optD]⟩
      simpa using hz
    | cons y l =>
      simp at hw
      refine .inr ⟨by simp, y, atI_head y l, ?_, by simp [hw, optD]⟩
      simpa using hz
  · rintro σ G' ⟨rfl, o, o2, rfl⟩
    refine hF _ _ _ _ (FrzS.lst 2 hr rfl) ?_
    simp
    exact fz (by simpa [waitsOf] using q)
theorem pure_to_next (p : Pm) (d e : D) : Pure (t_to_next p) (sp_to_next p) 2 [d, e] := fun G Q E h => by
  simp only [sp_to_next, sp2] at h
  obtain ⟨h1, h2, q⟩ := h
  refine seqN fun N hN => ?_
  simp [start', h1]
  refine wr_step q fun a e1 ha q1 => hN _ _ (seqN fun N hN => ?_)
  simp [h2]
  refine wr_step q1 fun b e2 hb q2 => hN _ _ ?_
  subst e1 e2
  simp
  exact ⟨ha.1, hb.1, fz q2⟩
theorem opt_filter (l : List (Option Int)) : l.filterMap (fun o => if o.isSome = true then some (optD o) else none) = (l.filterMap id).map D.int := by
  induction l with
  | nil => rfl
  | cons o r ih =>
    cases o with
    | none => exact ih
    | some x => exact congrArg (D.int x :: ·) ih
theorem waits_len (a b : List Int) : (waitsOf a b).length = a.length := by unfold waitsOf; simp
theorem pure_longest_wait (p : Pm) (d e : D) : Pure (t_longest_wait p) (sp_longest_wait p) 4 [d, e] := fun G Q E h => by
  simp only [sp_longest_wait, sp2] at h
  obtain ⟨h1, h2, q⟩ := h
  refine seqN fun N hN => ?_
  have big := line_big
  simp [start']
  refine lc_body ?_
  simp [h1, h2]
  refine wr_step q fun a e1 ha q1 => ?_
  refine wr_step q1 fun b e2 hb q2 => ?_
  subst e1 e2
  have wl := waits_len a b
  have la := ha.1
  unfold longestOf at q2
  refine lcb_at opt_inj (waitsOf a b) (fun o => if o.isSome = true then some (optD o) else none) (by omega) (fun o _ Gx _ => by cases o <;> simp [optD, isNon]) ?_
  simp only [opt_filter]
  simp
  generalize (waitsOf a b).filterMap id = w at q2 ⊢
  refine hN _ _ ?_
  simp
  by_cases c : w = []
  · refine .inl ⟨c, fz (by simpa [c, optD] using q2)⟩
  · refine .inr ⟨c, fz (by simpa [c, optD] using q2)⟩
theorem pure_between (p : Pm) (d e : D) : Pure (t_between p) (sp_between p) 5 [d, e] := fun G Q E h => by
  simp only [sp_between, sp2] at h
  obtain ⟨h1, h2, q⟩ := h
  refine seqN fun N hN => ?_
  simp [start', h1]
  refine wr_step q fun a e1 ha q1 => hN _ _ (seqN fun N hN => ?_)
  simp [h2]
  refine wr_step q1 fun b e2 hb q2 => hN _ _ ?_
  subst e1 e2
  have la := ha.1
  have lb := row_line hb
  have big := line_big
  simp
  refine lc_map pair_inj (a.zip a.tail) (fun q => .int (b.filter fun z => decide (q.1 ≤ z) && decide (z < q.2)).length) (fun R r => by simp; exact r) (by simp; omega) (fun q _ Gx _ => ?_) ?_
  · simp [pairD]
    refine lc_filter int_inj b (fun z => decide (q.1 ≤ z) && decide (z < q.2)) .int (fun R r => by simp; exact r) lb (fun y _ Gy _ => by by_cases c : q.1 ≤ y <;> by_cases c2 : y < q.2 <;> simp [c, c2]) ?_
    simp
  · exact fz (by simpa [betweenOf, Function.comp_def] using q2)
end DL

namespace DL
open PySem PySem.Spec PyProof.Rows L2
section
variable {p : Pm} {G : GH} {Q : QE} {E : EK'} {d s l : D} {i j lo hi : Int}
/-! ### fractions -/
def gcdF (up down : Int) : Int := (Nat.gcd up.natAbs down.natAbs : Nat)
def shareF (up down : Int) : Int × Int := (up / gcdF up down, down / gcdF up down)
def sp_share (p : Pm) : Sp' := sp2 fun u d G Q E => ∃ up down : Int, u = .int up ∧ d = .int down ∧ 0 < down ∧ down < 1073741824 ∧ Q (pairD (shareF up down)) G
@[simp] theorem at_share : sp_share p [.int i, .int j] G Q E = (0 < j ∧ j < 1073741824 ∧ Q (pairD (shareF i j)) G) := by simp [sp_share]
def sp__law_low (p : Pm) : Sp' := sp_share p
@[simp] theorem at_low : sp__law_low p [.int i, .int j] G Q E = (0 < j ∧ j < 1073741824 ∧ Q (pairD (shareF i j)) G) := at_share
theorem gcdF_pos (up : Int) {down : Int} (h : 0 < down) : 0 < gcdF up down := by
  unfold gcdF
  have := Nat.gcd_pos_of_pos_right up.natAbs (n := down.natAbs) (by omega)
  omega
theorem gcdF_le (up : Int) {down : Int} (h : 0 < down) : gcdF up down ≤ down := by
  unfold gcdF
  have := Nat.gcd_le_right up.natAbs (n := down.natAbs) (by omega)
  omega
theorem gcdF_dvd_up (up down : Int) : gcdF up down ∣ up := by
  unfold gcdF
  exact Int.ofNat_dvd_left.mpr (Nat.gcd_dvd_left _ _)
theorem gcdF_dvd_down (up down : Int) : gcdF up down ∣ down := by
  unfold gcdF
  exact Int.ofNat_dvd_left.mpr (Nat.gcd_dvd_right _ _)
/-- the fraction is the same -/
theorem share_cross (up : Int) {down : Int} (h : 0 < down) : (shareF up down).1 * down = up * (shareF up down).2 := by
  have hg := gcdF_pos up h
  obtain ⟨u, hu⟩ := gcdF_dvd_up up down
  obtain ⟨v, hv⟩ := gcdF_dvd_down up down
  unfold shareF
  generalize gcdF up down = g at *
  have e1 : up / g = u := by rw [hu]; exact Int.mul_ediv_cancel_left u (by omega)
  have e2 : down / g = v := by rw [hv]; exact Int.mul_ediv_cancel_left v (by omega)
  dsimp only
  rw [e1, e2, hu, hv, ← Int.mul_assoc, Int.mul_comm u g]
theorem share_pos (up : Int) {down : Int} (h : 0 < down) : 0 < (shareF up down).2 := by
  have hg := gcdF_pos up h
  exact Int.ediv_pos_of_pos_of_dvd h (by omega) (gcdF_dvd_down up down)
/-! ### what is lost, mean, spread -/
def lostOf (ns : List Int) (s l d m : Int) : Int := ((cnt ns s (m * l + (m - 1) * d)).length : Int) - (countsOf ns s l d m.toNat).sum
def sp_lost (p : Pm) : Sp' := sp5 fun r s l c n G Q E => rowAsk r ∧ plain s = true ∧ plain l = true ∧ plain c = true ∧ plain n = true ∧ withRow r E G fun ns => withGates s l c n E G fun a b e m => Q (.int (lostOf ns a b e m)) G
@[simp] theorem at_lost {r s l c n : D} : sp_lost p [r, s, l, c, n] G Q E = (rowAsk r ∧ plain s = true ∧ plain l = true ∧ plain c = true ∧ plain n = true ∧ withRow r E G fun ns => withGates s l c n E G fun a b e m => Q (.int (lostOf ns a b e m)) G) := by simp [sp_lost]
/-- counts, told as a list or a tuple -/
def CountsOk (cs : List Int) : Prop := 1 ≤ cs.length ∧ cs.length ≤ 20 ∧ ∀ n ∈ cs, 0 ≤ n ∧ n ≤ 99
instance (cs : List Int) : Decidable (CountsOk cs) := by unfold CountsOk; infer_instance
def countsIn : D → Option (List Int)
  | .tup ds => match intsOf ds with
    | some ns => if CountsOk ns then some ns else none
    | none => none
  | .lst ds => match intsOf ds with
    | some ns => if CountsOk ns then some ns else none
    | none => none
  | _ => none
def countsAsk : D → Prop
  | .tup ds => ds.length ≤ sizeLine ∧ ∀ d ∈ ds, plain d = true
  | .lst ds => ds.length ≤ sizeLine ∧ ∀ d ∈ ds, plain d = true
  | d => plain d = true
def withCounts (d : D) (E : EK') (G : GH) (k : List Int → Prop) : Prop := match countsIn d with
  | some cs => k cs
  | none => E .gate G
theorem on_counts {cs : List Int} {k : List Int → Prop} (h : CountsOk cs) : withCounts (.lst (cs.map D.int)) E G k = k cs := by simp [withCounts, countsIn, h]
theorem on_countst {cs : List Int} {k : List Int → Prop} (h : CountsOk cs) : withCounts (.tup (cs.map D.int)) E G k = k cs := by simp [withCounts, countsIn, h]
theorem counts_some {d : D} {cs : List Int} (h : countsIn d = some cs) : (d = .lst (cs.map D.int) ∨ d = .tup (cs.map D.int)) ∧ CountsOk cs := by
  cases d with
  | tup ds =>
    simp only [countsIn] at h
    split at h
    · rename_i ms e
      split at h
      · rename_i hr
        cases h
        exact ⟨.inr (by rw [intsOf_some e]), hr⟩
      · cases h
    · cases h
  | lst ds =>
    simp only [countsIn] at h
    split at h
    · rename_i ms e
      split at h
      · rename_i hr
        cases h
        exact ⟨.inl (by rw [intsOf_some e]), hr⟩
      · cases h
    · cases h
  | _ => simp [countsIn] at h
theorem wc_step {d : D} {σ : St'} {k k' : List Int → Prop} (h : withCounts d E G k) (f : ∀ cs, (d = .lst (cs.map D.int) ∨ d = .tup (cs.map D.int)) → CountsOk cs → k cs → k' cs) : withCounts d (fun x G2 => FzE E x σ G2) G k' := by
  unfold withCounts at h ⊢
  cases e : countsIn d with
  | none => rw [e] at h; exact fzE h
  | some cs => rw [e] at h; obtain ⟨e1, e2⟩ := counts_some e; exact f cs e1 e2 h
def sp_look_counts (p : Pm) : Sp' := sp1 fun d G Q E => countsAsk d ∧ withCounts d E G fun _ => Q .non G
@[simp] theorem at_look_counts : sp_look_counts p [d] G Q E = (countsAsk d ∧ withCounts d E G fun _ => Q .non G) := by simp [sp_look_counts]
def sp_mean (p : Pm) : Sp' := sp1 fun d G Q E => countsAsk d ∧ withCounts d E G fun cs => Q (pairD (shareF cs.sum cs.length)) G
@[simp] theorem at_mean : sp_mean p [d] G Q E = (countsAsk d ∧ withCounts d E G fun cs => Q (pairD (shareF cs.sum cs.length)) G) := by simp [sp_mean]
def sp_spread (p : Pm) : Sp' := sp1 fun d G Q E => countsAsk d ∧ withCounts d E G fun cs => Q (.int (maxL cs - minL cs)) G
@[simp] theorem at_spread : sp_spread p [d] G Q E = (countsAsk d ∧ withCounts d E G fun cs => Q (.int (maxL cs - minL cs)) G) := by simp [sp_spread]
end
end DL

namespace DL
open PySem PySem.Spec PyProof.Rows L2
def t_share (p : Pm) (W : WX') : TS' :=
    (tSeq' (tPar' 2 3 (tCons' (tCB' rAbs' (tCons' (tVar' 0) tNil')) (tCons' (tVar' 1) tNil')))
    (tSeq' (tWhile' (tTest' (tOp' (rEq' p true) (tVar' 3) (tC' (.int 0)))) (tPar' 2 3 (tCons' (tVar' 3) (tCons' (tOp' (rI' (fun _ j => 0 < j) fun i j => .int (i % j)) (tVar' 2) (tVar' 3)) tNil'))))
    (tRet' (tTup' (tCons' (tOp' (rI' CDiv fun i j => .int (i / j)) (tVar' 0) (tVar' 2)) (tCons' (tOp' (rI' CDiv fun i j => .int (i / j)) (tVar' 1) (tVar' 2)) tNil'))))))

def t_lost (p : Pm) (W : WX') : TS' :=
    (tSeq' (tDrop' (tCall' 1 (sp_look_row p) W (tCons' (tVar' 0) tNil')))
    (tSeq' (tDrop' (tCall' 4 (sp_look_gates p) W (tCons' (tVar' 1) (tCons' (tVar' 2) (tCons' (tVar' 3) (tCons' (tVar' 4) tNil'))))))
    (tSeq' (tAsg' (tOp' (rAdd' false) (tOp' (rMul' false) (tVar' 4) (tVar' 2)) (tOp' (rMul' false) (tOp' (rI' (fun _ _ => True) fun i j => .int (i - j)) (tVar' 4) (tC' (.int 1))) (tVar' 3))) (gName' 5))
    (tRet' (tOp' (rI' (fun _ _ => True) fun i j => .int (i - j)) (tCB' (rLen' p) (tCons' (tCall' 3 (sp_in_gate p) W (tCons' (tVar' 0) (tCons' (tVar' 1) (tCons' (tVar' 5) tNil')))) tNil')) (tCB' rSum' (tCons' (tCall' 5 (sp_counts_of p) W (tCons' (tVar' 0) (tCons' (tVar' 1) (tCons' (tVar' 2) (tCons' (tVar' 3) (tCons' (tVar' 4) tNil')))))) tNil')))))))

def t_look_counts (p : Pm) (W : WX') : TS' :=
    (tSeq' (tIfS' (tOr' (tNot' (tTest' (rIsi2' "list" "tuple" (tVar' 0)))) (tNot' (tTest' (tChain' (rCmp' fun i j => decide (i ≤ j)) (rCmp' fun i j => decide (i ≤ j)) (tC' (.int 1)) (tCB' (rLen' p) (tCons' (tVar' 0) tNil')) (tC' (.int 20)))))) (tRaise' .gate W) tNext')
    (tIfS' (tNot' (tTest' (tCB' rAll' (tCons' (tLc' false (iSeq' (tVar' 0)) (gName' 1) tYes' (tCall' 3 (sp_is_whole p) Wno (tCons' (tVar' 1) (tCons' (tC' (.int 0)) (tCons' (tC' (.int 99)) tNil')))) [1]) tNil')))) (tRaise' .gate W) tNext'))

def t_mean (p : Pm) (W : WX') : TS' :=
    (tSeq' (tDrop' (tCall' 1 (sp_look_counts p) W (tCons' (tVar' 0) tNil')))
    (tRet' (tCall' 2 (sp_share p) W (tCons' (tCB' rSum' (tCons' (tVar' 0) tNil')) (tCons' (tCB' (rLen' p) (tCons' (tVar' 0) tNil')) tNil')))))

def t_spread (p : Pm) (W : WX') : TS' :=
    (tSeq' (tDrop' (tCall' 1 (sp_look_counts p) W (tCons' (tVar' 0) tNil')))
    (tRet' (tOp' (rI' (fun _ _ => True) fun i j => .int (i - j)) (tCB' rMaxL' (tCons' (tVar' 0) tNil')) (tCB' rMinL' (tCons' (tVar' 0) tNil')))))

end DL

namespace DL
open PySem PySem.Spec PyProof.Rows L2
/-- the loop of share, of the laws' low -/
theorem gcd_step (u v : Nat) : Nat.gcd v (u % v) = Nat.gcd u v := by
  rw [Nat.gcd_comm u v, Nat.gcd_rec v u, Nat.gcd_comm]
theorem pure_share (p : Pm) (d e : D) : Pure (t_share p) (sp_share p) 4 [d, e] := fun G Q E h => by
  simp only [sp_share, sp2] at h
  obtain ⟨up, down, rfl, rfl, h1, h2, q⟩ := h
  refine seqN fun N hN => ?_
  simp [start']
  refine hN _ _ (seqN fun N hN => ?_)
  refine ⟨fun m σ G' => G' = G ∧ ∃ u v : Nat, m = v ∧ Nat.gcd u v = Nat.gcd up.natAbs down.natAbs ∧ σ = [some (.int up), some (.int down), some (.int u), some (.int v)], ⟨_, rfl, up.natAbs, down.natAbs, rfl, rfl, ?_⟩, ?_⟩
  · have e1 : absI up = (up.natAbs : Int) := by unfold absI; omega
    have e2 : down = (down.natAbs : Int) := by omega
    rw [e1, ← e2]
  · rintro m σ G' ⟨rfl, u, v, hm, hg, rfl⟩
    rw [hm]
    clear hm m
    simp
    by_cases c : v = 0
    · subst c
      rw [Nat.gcd_zero_right] at hg
      refine .inl ⟨rfl, hN _ _ ?_⟩
      have hgp := gcdF_pos up h1
      have hgl := gcdF_le up h1
      have e1 : (u : Int) = gcdF up down := by unfold gcdF; rw [hg]
      rw [e1]
      simp
      have big := line_big
      exact ⟨⟨by omega, by omega⟩, ⟨by omega, by omega⟩, by omega, fz q⟩
    · refine .inr ⟨c, by omega, u % v, Nat.mod_lt _ (by omega), v, ?_, ?_⟩
      · rw [gcd_step]; exact hg
      · simp
theorem pure_lost (p : Pm) (r s l c n : D) : Pure (t_lost p) (sp_lost p) 6 [r, s, l, c, n] := fun G Q E h => by
  simp only [sp_lost, sp5] at h
  obtain ⟨h0, h1, h2, h3, h4, q⟩ := h
  refine seqN fun N hN => ?_
  simp [start', h0]
  refine wr_step q fun ns e1 ha q1 => hN _ _ (seqN fun N hN => ?_)
  subst e1
  simp [h1, h2, h3, h4]
  refine wgs_step q1 fun a b e m e1 e2 e3 e4 hg hk q2 => hN _ _ (seqN fun N hN => ?_)
  subst e1 e2 e3 e4
  unfold gatesOk at hk
  simp
  refine ⟨.inr (by omega), .inr (by omega), hN _ _ ?_⟩
  simp
  refine ⟨row_line ha, by omega, by omega, fz q2⟩
theorem cIn_none_l {ds : List D} (h : ¬ (1 ≤ ds.length ∧ ds.length ≤ 20)) : countsIn (.lst ds) = none := by
  simp only [countsIn]
  split
  · rename_i ns e
    rw [if_neg]
    rintro ⟨h1, h2, _⟩
    rw [intsOf_some e, List.length_map] at h
    exact h ⟨h1, h2⟩
  · rfl
theorem cIn_none_all {ds : List D} (h : ds.all (isWhole 0 99) = false) : countsIn (.lst ds) = none := by
  simp only [countsIn]
  split
  · rename_i ns e
    rw [if_neg]
    rintro ⟨_, _, h3⟩
    rw [intsOf_some e] at h
    rw [List.all_eq_true.mpr] at h
    · cases h
    · intro d hd
      obtain ⟨n, hn, rfl⟩ := List.mem_map.mp hd
      simp [h3 n hn]
  · rfl
theorem cIn_tup (ds : List D) : countsIn (.tup ds) = countsIn (.lst ds) := rfl
theorem cIn_all {ds : List D} (h : 1 ≤ ds.length ∧ ds.length ≤ 20) (h2 : ds.all (isWhole 0 99) = true) : ∃ cs, countsIn (.lst ds) = some cs := by
  have : ∃ ns : List Int, ds = ns.map D.int ∧ ∀ n ∈ ns, 0 ≤ n ∧ n ≤ 99 := by
    clear h
    induction ds with
    | nil => exact ⟨[], rfl, by simp⟩
    | cons d r ih =>
      rw [List.all_cons, Bool.and_eq_true] at h2
      obtain ⟨i, rfl, hi⟩ := isWhole_some h2.1
      obtain ⟨ns, rfl, hn⟩ := ih h2.2
      exact ⟨i :: ns, rfl, fun n hn' => by rcases List.mem_cons.mp hn' with rfl | z; exact hi; exact hn n z⟩
  obtain ⟨ns, rfl, hn⟩ := this
  rw [List.length_map] at h
  exact ⟨ns, by simp [countsIn, show CountsOk ns from ⟨h.1, h.2, hn⟩]⟩
theorem pure_look_counts (p : Pm) (d : D) : Pure (t_look_counts p) (sp_look_counts p) 2 [d] := fun G Q E h => by
  simp only [sp_look_counts, sp1] at h
  obtain ⟨hp, q⟩ := h
  have key : ∀ ds : List D, (d = .lst ds ∨ d = .tup ds) → ds.length ≤ sizeLine → (∀ d ∈ ds, plain d = true) → t_look_counts p (FzE E) { nx := fun _ G => Fz Q .non G, rt := Fz Q } (start' 2 [d]) G := by
    intro ds hd hl hpl
    have hin : countsIn d = countsIn (.lst ds) := by rcases hd with rfl | rfl <;> rfl
    unfold withCounts at q
    rw [hin] at q
    rcases hd with rfl | rfl <;>
    · refine seqN fun N hN => ?_
      simp [start']
      by_cases c1 : ds.length < 1
      · refine .inl ⟨by omega, fzE ?_⟩
        rw [cIn_none_l (fun z => by omega)] at q
        exact q
      · refine .inr ⟨by omega, ?_⟩
        by_cases c2 : 20 < ds.length
        · refine .inl ⟨by omega, fzE ?_⟩
          rw [cIn_none_l (fun z => by omega)] at q
          exact q
        · refine .inr ⟨by omega, hN _ _ ?_⟩
          simp
          refine lc_map (f := id) (fun _ _ h => h) ds (fun d => .bl (isWhole 0 99 d)) (fun R r => by simpa using r) hl (fun x hx Gx _ => by simp [hpl x hx]) ?_
          refine rAll_i (bs := ds.map (isWhole 0 99)) (by simp [Function.comp_def]) ?_
          have ei : (ds.map (isWhole 0 99)).all id = ds.all (isWhole 0 99) := by rw [List.all_map]; rfl
          rw [ei]
          cases w : ds.all (isWhole 0 99) with
          | true =>
            obtain ⟨cs, e⟩ := cIn_all ⟨by omega, by omega⟩ w
            rw [e] at q
            simp
            exact fz q
          | false =>
            rw [cIn_none_all w] at q
            simp
            exact fzE q
  cases d with
  | tup ds => exact key ds (.inr rfl) hp.1 hp.2
  | lst ds => exact key ds (.inl rfl) hp.1 hp.2
  | ref a => simp [countsAsk] at hp
  | scr => simp [countsAsk] at hp
  | _ =>
    refine seqN fun N hN => ?_
    simp [start']
    exact fzE q
theorem pure_mean (p : Pm) (d : D) : Pure (t_mean p) (sp_mean p) 1 [d] := fun G Q E h => by
  simp only [sp_mean, sp1] at h
  obtain ⟨hp, q⟩ := h
  refine seqN fun N hN => ?_
  simp [start', hp]
  refine wc_step q fun cs e hc q1 => hN _ _ ?_
  have h1 := hc.1
  have h2 := hc.2.1
  rcases e with rfl | rfl <;> · simp; exact ⟨by omega, by omega, fz q1⟩
theorem pure_spread (p : Pm) (d : D) : Pure (t_spread p) (sp_spread p) 1 [d] := fun G Q E h => by
  simp only [sp_spread, sp1] at h
  obtain ⟨hp, q⟩ := h
  refine seqN fun N hN => ?_
  simp [start', hp]
  refine wc_step q fun cs e hc q1 => hN _ _ ?_
  have h1 := hc.1
  have cn : cs ≠ [] := fun z => by rw [z] at h1; simp at h1
  rcases e with rfl | rfl <;> · simp [cn]; exact fz q1
end DL

namespace DL
open PySem PySem.Spec PyProof.Rows L2
section
variable {p : Pm} {G : GH} {Q : QE} {E : EK'} {d s l : D} {i j lo hi : Int}
/-! ### best_shift -/
def agreeN (a b : List Int) (k : Int) : Int := ((a.filter fun x => decide (x - k ∈ b)).length : Int)
def sp_agreeing (p : Pm) : Sp' := sp3 fun r o k G Q E => ∃ (a b : List Int) (n : Int), r = .tup (a.map D.int) ∧ o = .tup (b.map D.int) ∧ k = .int n ∧ a.length ≤ sizeLine ∧ Q (.int (agreeN a b n)) G
@[simp] theorem at_agreeing {a b : List Int} : sp_agreeing p [.tup (a.map D.int), .tup (b.map D.int), .int i] G Q E = (a.length ≤ sizeLine ∧ Q (.int (agreeN a b i)) G) := by
  simp only [sp_agreeing, sp3]
  refine propext ⟨fun ⟨x, y, n, e, e2, e3, h⟩ => ?_, fun h => ⟨a, b, i, rfl, rfl, rfl, h⟩⟩
  cases e3
  rw [ints_inj (D.tup.inj e), ints_inj (D.tup.inj e2)]; exact h
def farsOf (a b : List Int) (m : Int) : List Int := a.flatMap fun x => (b.filter fun y => decide (absI (x - y) ≤ m)).map fun y => x - y
def rankT (a b : List Int) (k : Int) : Int × Int × Int := (0 - agreeN a b k, absI k, 0 - k)
def bestF (a b : List Int) (m : Int) : Int := 0 - (minT ((sortD (0 :: farsOf a b m)).map (rankT a b))).2.2
def sp_best_shift (p : Pm) : Sp' := sp3 fun one other near G Q E => rowAsk one ∧ rowAsk other ∧ plain near = true ∧ withRow one E G fun a => withRow other E G fun b => withNear 0 9999 near E G fun n => Q (.int (bestF a b n)) G
@[simp] theorem at_best_shift {one other near : D} : sp_best_shift p [one, other, near] G Q E = (rowAsk one ∧ rowAsk other ∧ plain near = true ∧ withRow one E G fun a => withRow other E G fun b => withNear 0 9999 near E G fun n => Q (.int (bestF a b n)) G) := by simp [sp_best_shift]
/-! ### couples -/
def coup (n : Int) : List Int → List Int → List (Int × Int)
  | [], _ => []
  | x :: r, b => match b.dropWhile (fun y => decide (y < x - n)) with
    | [] => coup n r []
    | y :: t => if y ≤ x + n then (x, y) :: coup n r t else coup n r (y :: t)
def sp_couples (p : Pm) : Sp' := sp3 fun one other near G Q E => rowAsk one ∧ rowAsk other ∧ plain near = true ∧ withRow one E G fun a => withRow other E G fun b => withNear 0 9999 near E G fun n => Q (.lst ((coup n a b).map pairD)) G
@[simp] theorem at_couples {one other near : D} : sp_couples p [one, other, near] G Q E = (rowAsk one ∧ rowAsk other ∧ plain near = true ∧ withRow one E G fun a => withRow other E G fun b => withNear 0 9999 near E G fun n => Q (.lst ((coup n a b).map pairD)) G) := by simp [sp_couples]
end
end DL

namespace DL
open PySem PySem.Spec PyProof.Rows L2
def t_agreeing (p : Pm) (W : WX') : TS' :=
    (tRet' (tCB' (rLen' p) (tCons' (tLc' false (iSeq' (tVar' 0)) (gName' 3) (tTest' (tOp' (rIn' p false) (tOp' (rI' (fun _ _ => True) fun i j => .int (i - j)) (tVar' 3) (tVar' 2)) (tVar' 1))) (tVar' 3) [3]) tNil')))

def t_best_shift (p : Pm) (W : WX') : TS' :=
    (tSeqF' (tDrop' (tCall' 1 (sp_look_row p) W (tCons' (tVar' 0) tNil')))
    (tSeqF' (tDrop' (tCall' 1 (sp_look_row p) W (tCons' (tVar' 1) tNil')))
    (tSeqF' (tDrop' (tCall' 1 (sp_look_near p) W (tCons' (tVar' 2) tNil')))
    (tSeqF' (tAsg' (tLst' true (tCons' (tC' (.int 0)) tNil')) (gName' 3))
    (tSeqF' (tFor' (iSeq' (tVar' 0)) (gName' 4) (tDrop' (tMut' rExtend' (tVar' 3) (tCons' (tLc' false (iSeq' (tVar' 1)) (gName' 6) (tTest' (tOp' (rCmp' fun i j => decide (i ≤ j)) (tCB' rAbs' (tCons' (tOp' (rI' (fun _ _ => True) fun i j => .int (i - j)) (tVar' 4) (tVar' 6)) tNil')) (tVar' 2))) (tOp' (rI' (fun _ _ => True) fun i j => .int (i - j)) (tVar' 4) (tVar' 6)) [6]) tNil'))))
    (tSeqF' (tAsg' (tLc' false (iSeq' (tSortSet' (p := p) (tCons' (tVar' 3) tNil'))) (gName' 7) tYes' (tTup' (tCons' (tOp' (rI' (fun _ _ => True) fun i j => .int (i - j)) (tC' (.int 0)) (tCall' 3 (sp_agreeing p) Wno (tCons' (tVar' 0) (tCons' (tVar' 1) (tCons' (tVar' 7) tNil'))))) (tCons' (tCB' rAbs' (tCons' (tVar' 7) tNil')) (tCons' (tOp' (rI' (fun _ _ => True) fun i j => .int (i - j)) (tC' (.int 0)) (tVar' 7)) tNil')))) [7]) (gName' 5))
    (tRet' (tOp' (rI' (fun _ _ => True) fun i j => .int (i - j)) (tC' (.int 0)) (tOp' (rIx' p) (tCB' rMinT' (tCons' (tVar' 5) tNil')) (tC' (.int 2)))))))))))

def t_couples (p : Pm) (W : WX') : TS' :=
    (tSeqF' (tDrop' (tCall' 1 (sp_look_row p) W (tCons' (tVar' 0) tNil')))
    (tSeqF' (tDrop' (tCall' 1 (sp_look_row p) W (tCons' (tVar' 1) tNil')))
    (tSeqF' (tDrop' (tCall' 1 (sp_look_near p) W (tCons' (tVar' 2) tNil')))
    (tSeqF' (tAsg' (tLst' true tNil') (gName' 3))
    (tSeqF' (tAsg' (tC' (.int 0)) (gName' 4))
    (tSeqF' (tFor' (iSeq' (tVar' 0)) (gName' 5) (tSeqF' (tWhile' (tAnd' (tTest' (tOp' (rCmp' fun i j => decide (i < j)) (tVar' 4) (tCB' (rLen' p) (tCons' (tVar' 1) tNil')))) (tTest' (tOp' (rCmp' fun i j => decide (i < j)) (tOp' (rIx' p) (tVar' 1) (tVar' 4)) (tOp' (rI' (fun _ _ => True) fun i j => .int (i - j)) (tVar' 5) (tVar' 2))))) (tAsg' (tOp' (rAdd' false) (tVar' 4) (tC' (.int 1))) (gName' 4)))
    (tIfS' (tAnd' (tTest' (tOp' (rCmp' fun i j => decide (i < j)) (tVar' 4) (tCB' (rLen' p) (tCons' (tVar' 1) tNil')))) (tTest' (tOp' (rCmp' fun i j => decide (i ≤ j)) (tOp' (rIx' p) (tVar' 1) (tVar' 4)) (tOp' (rAdd' false) (tVar' 5) (tVar' 2))))) (tSeqF' (tDrop' (tMut' rAppend' (tVar' 3) (tCons' (tTup' (tCons' (tVar' 5) (tCons' (tOp' (rIx' p) (tVar' 1) (tVar' 4)) tNil'))) tNil')))
    (tAsg' (tOp' (rAdd' false) (tVar' 4) (tC' (.int 1))) (gName' 4))) tNext')))
    (tRet' (tVar' 3))))))))

end DL

namespace DL
open PySem PySem.Spec PyProof.Rows L2
theorem pure_agreeing (p : Pm) (d e f : D) : Pure (t_agreeing p) (sp_agreeing p) 4 [d, e, f] := fun G Q E h => by
  simp only [sp_agreeing, sp3] at h
  obtain ⟨a, b, n, rfl, rfl, rfl, la, q⟩ := h
  simp [t_agreeing, start']
  refine lc_filter int_inj a (fun x => decide (x - n ∈ b)) .int (fun R r => by simp; exact r) la (fun x _ Gx _ => by by_cases c : x - n ∈ b <;> simp [c]) ?_
  simp
  exact fz q
theorem fars_len (a b : List Int) (m : Int) : (farsOf a b m).length ≤ a.length * b.length := by
  unfold farsOf
  induction a with
  | nil => simp
  | cons x r ih =>
    rw [List.flatMap_cons, List.length_append, List.length_map, List.length_cons, Nat.succ_mul]
    have := List.length_filter_le (fun y => decide (absI (x - y) ≤ m)) b
    omega
theorem pure_best_shift (p : Pm) (d e f : D) : Pure (t_best_shift p) (sp_best_shift p) 8 [d, e, f] := fun G Q E h => by
  simp only [sp_best_shift, sp3] at h
  obtain ⟨h1, h2, h3, q⟩ := h
  have big := line_big
  refine seqF fun N hN hF => ?_
  simp [start', h1]
  refine wr_step q fun a e1 ha q1 => hN _ _ (seqF fun N hN hF => ?_)
  simp [h2]
  refine wr_step q1 fun b e2 hb q2 => hN _ _ (seqF fun N hN hF => ?_)
  simp [h3]
  refine wn_step q2 fun m e3 hm q3 => hN _ _ (seqF fun N hN hF => ?_)
  subst e1 e2 e3
  have la := ha.1
  have lb := hb.1
  simp
  refine ⟨by omega, fun r hr => hN _ _ (seqF fun N hN hF => ?_)⟩
  have fl := fun k => fars_len (a.take k) b m
  have ml : ∀ k : Nat, (a.take k).length * b.length ≤ 1600 := fun k => by
    have : (a.take k).length ≤ 40 := by rw [List.length_take]; omega
    exact Nat.mul_le_mul this lb
  refine for_at a (fun i σ G' => G' = gup G r (.lst ((0 :: farsOf (a.take i) b m).map D.int)) ∧ ∃ o, σ = [some (.tup (a.map D.int)), some (.tup (b.map D.int)), some (.int m), some (.ref r), o, none, none, none]) (f := D.int) (G1 := gup G r (.lst [.int 0])) (fun R r => by simp; exact r) ⟨rfl, none, rfl⟩ ?_ ?_
  · rintro i x σ G' hx ⟨rfl, o, rfl⟩
    have f1 := fl i
    have f2 := ml i
    have st : farsOf (a.take (i + 1)) b m = farsOf (a.take i) b m ++ (b.filter fun y => decide (absI (x - y) ≤ m)).map fun y => x - y := by
      unfold farsOf
      rw [List.take_add_one, hx, List.flatMap_append]
      simp
    rw [st]
    generalize farsOf (a.take i) b m = W at f1 ⊢
    have fb2 : ((b.filter fun y => decide (absI (x - y) ≤ m)).map fun y => x - y).length ≤ 40 := by
      have := List.length_filter_le (fun y => decide (absI (x - y) ≤ m)) b
      rw [List.length_map]; omega
    have e1 : (b.filter fun y => decide (absI (x - y) ≤ m)).map (fun y => D.int (x - y)) = ((b.filter fun y => decide (absI (x - y) ≤ m)).map fun y => x - y).map D.int := by simp
    generalize (b.filter fun y => decide (absI (x - y) ≤ m)).map (fun y => x - y) = V at fb2 e1 ⊢
    simp
    refine lc_filter int_inj b (fun y => decide (absI (x - y) ≤ m)) (fun y => .int (x - y)) (fun R r => by simp; exact r) (by omega) (fun y _ Gx _ => by
      by_cases c : absI (x - y) ≤ m
      · simp [c]
      · simp [c]; omega) ?_
    rw [e1]
    simp
    omega
  · rintro σ G' ⟨rfl, o, rfl⟩
    rw [List.take_length]
    have f1 := fl a.length
    have f2 := ml a.length
    rw [List.take_length] at f1 f2
    refine hF _ _ _ _ (FrzS.lst 3 hr rfl) (seqF fun N hN hF => ?_)
    unfold bestF at q3
    generalize farsOf a b m = W at f1 q3 ⊢
    simp
    have sl := sortD_len (0 :: W)
    simp only [List.length_cons] at sl
    refine lc_map int_inj (sortD (0 :: W)) (fun k => triD (rankT a b k)) (G1 := G) (fun R r => ?_) (by omega) (fun k _ Gx _ => ?_) ?_
    · simp
      refine sortset_ ?_
      simp
      exact ⟨0 :: W, by simp, by simp; omega, r⟩
    · simp
      exact ⟨by omega, by omega, by simp [triD, rankT]⟩
    · refine hN _ _ ?_
      simp
      have hne : sortD (0 :: W) ≠ [] := List.ne_nil_of_mem (sortD_mem.mpr (List.mem_cons_self (a := (0 : Int))))
      generalize sortD (0 :: W) = S at hne q3 ⊢
      refine rMinT_i (ts := S.map (rankT a b)) (by simp [Function.comp_def]) (by simpa using hne) ?_
      generalize minT (S.map (rankT a b)) = t at q3 ⊢
      unfold triD
      simp
      refine ⟨.int t.2.2, rfl, ?_⟩
      simp
      exact fz (by simpa using q3)
end DL

namespace DL
open PySem PySem.Spec PyProof.Rows L2
theorem coup_nil {n x : Int} {r b : List Int} (h : b.dropWhile (fun y => decide (y < x - n)) = []) : coup n (x :: r) b = coup n r [] := by
  show (match b.dropWhile (fun y => decide (y < x - n)) with
    | [] => coup n r []
    | y :: t => if y ≤ x + n then (x, y) :: coup n r t else coup n r (y :: t)) = _
  rw [h]
theorem coup_hit {n x y : Int} {r b t : List Int} (h : b.dropWhile (fun y => decide (y < x - n)) = y :: t) (c : y ≤ x + n) : coup n (x :: r) b = (x, y) :: coup n r t := by
  show (match b.dropWhile (fun y => decide (y < x - n)) with
    | [] => coup n r []
    | y :: t => if y ≤ x + n then (x, y) :: coup n r t else coup n r (y :: t)) = _
  rw [h]
  exact if_pos c
theorem coup_miss {n x y : Int} {r b t : List Int} (h : b.dropWhile (fun y => decide (y < x - n)) = y :: t) (c : ¬ y ≤ x + n) : coup n (x :: r) b = coup n r (y :: t) := by
  show (match b.dropWhile (fun y => decide (y < x - n)) with
    | [] => coup n r []
    | y :: t => if y ≤ x + n then (x, y) :: coup n r t else coup n r (y :: t)) = _
  rw [h]
  exact if_neg c
theorem drop_cons {b : List Int} {t : Nat} {y : Int} (h : b[t]? = some y) : b.drop t = y :: b.drop (t + 1) := by
  obtain ⟨h1, h2⟩ := List.getElem?_eq_some_iff.mp h
  rw [List.drop_eq_getElem_cons h1, h2]
theorem pure_couples (p : Pm) (d e f : D) : Pure (t_couples p) (sp_couples p) 6 [d, e, f] := fun G Q E h => by
  simp only [sp_couples, sp3] at h
  obtain ⟨h1, h2, h3, q⟩ := h
  have big := line_big
  refine seqF fun N hN hF => ?_
  simp [start', h1]
  refine wr_step q fun a e1 ha q1 => hN _ _ (seqF fun N hN hF => ?_)
  simp [h2]
  refine wr_step q1 fun b e2 hb q2 => hN _ _ (seqF fun N hN hF => ?_)
  simp [h3]
  refine wn_step q2 fun n e3 hn q3 => hN _ _ (seqF fun N hN hF => ?_)
  subst e1 e2 e3
  have la := ha.1
  have lb := hb.1
  simp
  intro r hr
  refine hN _ _ (seqF fun N hN hF => ?_)
  simp
  refine hN _ _ (seqF fun N hN hF => ?_)
  refine for_at a (fun i σ G' => ∃ (k : Nat) (made : List (Int × Int)) (o : Option D), k ≤ b.length ∧ made.length ≤ i ∧ coup n a b = made ++ coup n (a.drop i) (b.drop k) ∧ G' = gup G r (.lst (made.map pairD)) ∧ σ = [some (.tup (a.map D.int)), some (.tup (b.map D.int)), some (.int n), some (.ref r), some (.int k), o]) (f := D.int) (G1 := gup G r (.lst [])) (fun R r => by simp; exact r) ⟨0, [], none, by omega, by simp, by simp, rfl, rfl⟩ ?_ ?_
  · rintro i x σ G' hx ⟨k, made, o, hk, hml, hc, rfl, rfl⟩
    have hil := (List.getElem?_eq_some_iff.mp hx).1
    have hd : a.drop i = x :: a.drop (i + 1) := drop_cons hx
    refine seqF fun N hN hF => ?_
    simp
    refine ⟨fun m σ G' => G' = gup G r (.lst (made.map pairD)) ∧ ∃ t : Nat, m = b.length - t ∧ t ≤ b.length ∧ (b.drop t).dropWhile (fun y => decide (y < x - n)) = (b.drop k).dropWhile (fun y => decide (y < x - n)) ∧ σ = [some (.tup (a.map D.int)), some (.tup (b.map D.int)), some (.int n), some (.ref r), some (.int t), some (.int x)], ⟨_, rfl, k, rfl, hk, rfl, rfl⟩, ?_⟩
    rintro m σ G' ⟨rfl, t, rfl, ht, hdw, rfl⟩
    simp
    by_cases c1 : t < b.length
    · have hbt : b[t]? = some b[t] := List.getElem?_eq_getElem c1
      have hat : atI b (t : Int) = some b[t] := by rw [atI_nn _ _ (by omega) (by omega)]; simp [c1]
      generalize b[t] = y at hbt hat
      have hdt := drop_cons hbt
      by_cases c2 : y < x - n
      · refine .inr ⟨c1, y, hat, .inr ⟨c2, _, by omega, t + 1, rfl, by omega, ?_, by omega⟩⟩
        rw [← hdw, hdt, List.dropWhile_cons_of_pos (by simpa using c2)]
      · have hdk : (b.drop k).dropWhile (fun y => decide (y < x - n)) = y :: b.drop (t + 1) := by
          rw [← hdw, hdt, List.dropWhile_cons_of_neg (by simpa using c2)]
        refine .inr ⟨c1, y, hat, .inl ⟨by omega, hN _ _ ?_⟩⟩
        simp
        refine .inr ⟨c1, y, hat, ?_⟩
        by_cases c3 : y ≤ x + n
        · refine .inr ⟨c3, seqF fun N hN hF => ?_⟩
          rw [hd, coup_hit hdk c3] at hc
          simp
          refine ⟨y, hat, by omega, by omega, hN _ _ ?_⟩
          simp
          refine ⟨t + 1, by omega, made ++ [(x, y)], by simp; omega, ?_, ?_, by omega⟩
          · rw [hc]; simp
          · simp [pairD]
        · refine .inl ⟨by omega, t, by omega, made, by omega, ?_, rfl, rfl⟩
          rw [hd, coup_miss hdk c3, ← hdt] at hc
          exact hc
    · refine .inl ⟨by omega, hN _ _ ?_⟩
      have hte : t = b.length := by omega
      subst hte
      have hdk : (b.drop k).dropWhile (fun y => decide (y < x - n)) = [] := by
        rw [← hdw, List.drop_length]; rfl
      rw [hd, coup_nil hdk] at hc
      simp
      refine ⟨b.length, by omega, made, by omega, ?_, rfl, rfl⟩
      rw [List.drop_length]; exact hc
  · rintro σ G' ⟨k, made, o, hk, hml, hc, rfl, rfl⟩
    rw [List.drop_length] at hc
    have : coup n [] (b.drop k) = [] := rfl
    rw [this, List.append_nil] at hc
    refine hF _ _ _ _ (FrzS.lst 3 hr rfl) ?_
    simp
    rw [← hc]
    exact fz q3
end DL

namespace DL
open PySem PySem.Spec PyProof.Rows L2
section
variable {p : Pm} {G : GH} {Q : QE} {E : EK'} {d s l : D} {lo hi : Int}
/-! ### what is none -/
@[simp] theorem sll_0 : 0 < sizeLine := line_lt (by decide)
@[simp] theorem sl_1 : 1 ≤ sizeLine := line_of (by decide)
@[simp] theorem sll_1 : 1 < sizeLine := line_lt (by decide)
@[simp] theorem sl_2 : 2 ≤ sizeLine := line_of (by decide)
@[simp] theorem sll_2 : 2 < sizeLine := line_lt (by decide)
@[simp] theorem sl_3 : 3 ≤ sizeLine := line_of (by decide)
@[simp] theorem sll_3 : 3 < sizeLine := line_lt (by decide)
@[simp] theorem sl_4 : 4 ≤ sizeLine := line_of (by decide)
@[simp] theorem sll_4 : 4 < sizeLine := line_lt (by decide)
@[simp] theorem sl_5 : 5 ≤ sizeLine := line_of (by decide)
@[simp] theorem sll_5 : 5 < sizeLine := line_lt (by decide)
@[simp] theorem sl_6 : 6 ≤ sizeLine := line_of (by decide)
@[simp] theorem sll_6 : 6 < sizeLine := line_lt (by decide)
@[simp] theorem sl_7 : 7 ≤ sizeLine := line_of (by decide)
@[simp] theorem sll_7 : 7 < sizeLine := line_lt (by decide)
@[simp] theorem sl_8 : 8 ≤ sizeLine := line_of (by decide)
@[simp] theorem sll_8 : 8 < sizeLine := line_lt (by decide)
@[simp] theorem sl_9 : 9 ≤ sizeLine := line_of (by decide)
@[simp] theorem sll_9 : 9 < sizeLine := line_lt (by decide)
@[simp] theorem sl_10 : 10 ≤ sizeLine := line_of (by decide)
@[simp] theorem sll_10 : 10 < sizeLine := line_lt (by decide)
@[simp] theorem sl_11 : 11 ≤ sizeLine := line_of (by decide)
@[simp] theorem sll_11 : 11 < sizeLine := line_lt (by decide)
@[simp] theorem sl_12 : 12 ≤ sizeLine := line_of (by decide)
@[simp] theorem sll_12 : 12 < sizeLine := line_lt (by decide)
@[simp] theorem sl_13 : 13 ≤ sizeLine := line_of (by decide)
@[simp] theorem sll_13 : 13 < sizeLine := line_lt (by decide)
@[simp] theorem sl_14 : 14 ≤ sizeLine := line_of (by decide)
@[simp] theorem sll_14 : 14 < sizeLine := line_lt (by decide)
@[simp] theorem sl_15 : 15 ≤ sizeLine := line_of (by decide)
@[simp] theorem sll_15 : 15 < sizeLine := line_lt (by decide)
@[simp] theorem sl_16 : 16 ≤ sizeLine := line_of (by decide)
@[simp] theorem sll_16 : 16 < sizeLine := line_lt (by decide)
@[simp] theorem sl_17 : 17 ≤ sizeLine := line_of (by decide)
@[simp] theorem sll_17 : 17 < sizeLine := line_lt (by decide)
@[simp] theorem sl_18 : 18 ≤ sizeLine := line_of (by decide)
@[simp] theorem sll_18 : 18 < sizeLine := line_lt (by decide)
@[simp] theorem sl_19 : 19 ≤ sizeLine := line_of (by decide)
@[simp] theorem sll_19 : 19 < sizeLine := line_lt (by decide)
@[simp] theorem sl_20 : 20 ≤ sizeLine := line_of (by decide)
@[simp] theorem sll_20 : 20 < sizeLine := line_lt (by decide)
@[simp] theorem sl_21 : 21 ≤ sizeLine := line_of (by decide)
@[simp] theorem sll_21 : 21 < sizeLine := line_lt (by decide)
@[simp] theorem sl_22 : 22 ≤ sizeLine := line_of (by decide)
@[simp] theorem sll_22 : 22 < sizeLine := line_lt (by decide)
@[simp] theorem sl_23 : 23 ≤ sizeLine := line_of (by decide)
@[simp] theorem sll_23 : 23 < sizeLine := line_lt (by decide)
@[simp] theorem sl_24 : 24 ≤ sizeLine := line_of (by decide)
@[simp] theorem sll_24 : 24 < sizeLine := line_lt (by decide)
@[simp] theorem sl_25 : 25 ≤ sizeLine := line_of (by decide)
@[simp] theorem sll_25 : 25 < sizeLine := line_lt (by decide)
@[simp] theorem sl_26 : 26 ≤ sizeLine := line_of (by decide)
@[simp] theorem sll_26 : 26 < sizeLine := line_lt (by decide)
@[simp] theorem sl_27 : 27 ≤ sizeLine := line_of (by decide)
@[simp] theorem sll_27 : 27 < sizeLine := line_lt (by decide)
@[simp] theorem sl_28 : 28 ≤ sizeLine := line_of (by decide)
@[simp] theorem sll_28 : 28 < sizeLine := line_lt (by decide)
@[simp] theorem sl_29 : 29 ≤ sizeLine := line_of (by decide)
@[simp] theorem sll_29 : 29 < sizeLine := line_lt (by decide)
@[simp] theorem sl_30 : 30 ≤ sizeLine := line_of (by decide)
@[simp] theorem sll_30 : 30 < sizeLine := line_lt (by decide)
@[simp] theorem sl_31 : 31 ≤ sizeLine := line_of (by decide)
@[simp] theorem sll_31 : 31 < sizeLine := line_lt (by decide)
@[simp] theorem sl_32 : 32 ≤ sizeLine := line_of (by decide)
@[simp] theorem sll_32 : 32 < sizeLine := line_lt (by decide)
@[simp] theorem sl_33 : 33 ≤ sizeLine := line_of (by decide)
@[simp] theorem sll_33 : 33 < sizeLine := line_lt (by decide)
@[simp] theorem sl_34 : 34 ≤ sizeLine := line_of (by decide)
@[simp] theorem sll_34 : 34 < sizeLine := line_lt (by decide)
@[simp] theorem sl_35 : 35 ≤ sizeLine := line_of (by decide)
@[simp] theorem sll_35 : 35 < sizeLine := line_lt (by decide)
@[simp] theorem sl_36 : 36 ≤ sizeLine := line_of (by decide)
@[simp] theorem sll_36 : 36 < sizeLine := line_lt (by decide)
@[simp] theorem sl_37 : 37 ≤ sizeLine := line_of (by decide)
@[simp] theorem sll_37 : 37 < sizeLine := line_lt (by decide)
@[simp] theorem sl_38 : 38 ≤ sizeLine := line_of (by decide)
@[simp] theorem sll_38 : 38 < sizeLine := line_lt (by decide)
@[simp] theorem sl_39 : 39 ≤ sizeLine := line_of (by decide)
@[simp] theorem sll_39 : 39 < sizeLine := line_lt (by decide)
@[simp] theorem sl_40 : 40 ≤ sizeLine := line_of (by decide)
@[simp] theorem sll_40 : 40 < sizeLine := line_lt (by decide)
@[simp] theorem sl_41 : 41 ≤ sizeLine := line_of (by decide)
@[simp] theorem sll_41 : 41 < sizeLine := line_lt (by decide)
@[simp] theorem sl_42 : 42 ≤ sizeLine := line_of (by decide)
@[simp] theorem sll_42 : 42 < sizeLine := line_lt (by decide)
@[simp] theorem sl_43 : 43 ≤ sizeLine := line_of (by decide)
@[simp] theorem sll_43 : 43 < sizeLine := line_lt (by decide)
@[simp] theorem sl_44 : 44 ≤ sizeLine := line_of (by decide)
@[simp] theorem sll_44 : 44 < sizeLine := line_lt (by decide)
@[simp] theorem sl_45 : 45 ≤ sizeLine := line_of (by decide)
@[simp] theorem sll_45 : 45 < sizeLine := line_lt (by decide)
@[simp] theorem sl_60 : 60 ≤ sizeLine := line_of (by decide)
@[simp] theorem sll_60 : 60 < sizeLine := line_lt (by decide)
@[simp] theorem sl_61 : 61 ≤ sizeLine := line_of (by decide)
@[simp] theorem sll_61 : 61 < sizeLine := line_lt (by decide)
@[simp] theorem sl_100 : 100 ≤ sizeLine := line_of (by decide)
@[simp] theorem sll_100 : 100 < sizeLine := line_lt (by decide)
theorem line_t {n : Nat} (h : n ≤ 100000) : (n ≤ sizeLine) = True := eq_true (line_of h)
theorem line_lt_t {n : Nat} (h : n ≤ 100000) : (n < sizeLine) = True := eq_true (line_lt h)
theorem on_norow {k : List Int → Prop} (h : rowOf d = none) : withRow d E G k = E .row G := by simp [withRow, h]
theorem on_nonear {k : Int → Prop} (h : isWhole lo hi d = false) : withNear lo hi d E G k = E .gate G := by
  unfold withNear
  cases d with
  | int n =>
    dsimp only
    rw [if_neg]
    rintro ⟨h1, h2⟩
    simp [h1, h2] at h
  | _ => rfl
theorem on_nogate {k : Int → Int → Prop} (h : gateOf s l = none) : withGate s l E G k = E .gate G := by simp [withGate, h]
theorem gate_none1 (h : isWhole 0 9999 s = false) : gateOf s l = none := by rw [gateOf_whole]; simp [h]
theorem gate_none2 (h : isWhole 1 9999 l = false) : gateOf s l = none := by rw [gateOf_whole]; simp [h]
theorem pick_at (ns : List Int) (k : Int) (xs : List D) {m : Int} (h : (xs.length : Int) = m) (h0 : 0 < m := by decide) : ∃ v ∈ xs, atI xs (pickF ns k m) = some v := by
  obtain ⟨v, hv, e⟩ := pick_list id ns k xs h h0
  rw [List.map_id] at e
  exact ⟨v, hv, e⟩
theorem atI_in {α : Type} {xs : List α} {i : Int} (h0 : 0 ≤ i) (h1 : i < xs.length) : ∃ v ∈ xs, atI xs i = some v := by
  have hl : i.toNat < xs.length := by omega
  exact ⟨xs[i.toNat], List.getElem_mem hl, by rw [atI_nn _ _ h0 h1, List.getElem?_eq_getElem hl]⟩
/-- things that are no rows -/
def oddRows : List D := [.non, .lst [.int 1], .tup [.int 2, .int 1], .tup [.int 1, .int 1], .tup [.int (-1)], .tup [.int 10000], .tup [.bl true], .tup [.str "1"], .tup (rangeD 0 41), .int 5]
theorem odd_row {d : D} (h : d ∈ oddRows) : rowAsk d ∧ rowOf d = none := by
  unfold oddRows at h
  have big := line_big
  have h41 : rowAsk (.tup (rangeD 0 41)) ∧ rowOf (.tup (rangeD 0 41)) = none := by
    refine ⟨⟨by unfold rangeD; simp, fun d hd => ?_⟩, rowOf_none_len (by unfold rangeD; simp)⟩
    unfold rangeD at hd
    obtain ⟨i, _, rfl⟩ := List.mem_map.mp hd
    rfl
  simp only [List.mem_cons, List.not_mem_nil, or_false] at h
  rcases h with rfl | rfl | rfl | rfl | rfl | rfl | rfl | rfl | rfl | rfl
  all_goals first
    | exact h41
    | (refine ⟨?_, ?_⟩
       · simp [rowAsk]
       · simp [rowOf, intsOf] <;> (intro h; simp [RowOk] at h) <;> omega)
/-! ### == of the same -/
@[simp] theorem rEq_strs1 {neg : Bool} {i j : Str} (hi : PyData.strOk i = true) (hj : PyData.strOk j = true) : rEq' p neg (.str i) (.str j) G Q = Q (.bl (neg ^^ decide (i = j))) G := by
  rw [rEq_iff (by simpa [deref] using hi) (by simpa [deref] using hj)]
  simp [deref]
theorem rEq_self {x : D} {neg : Bool} (h : Dok 8 (deref G x)) : rEq' p neg x x G Q = Q (.bl (neg ^^ true)) G := by
  rw [rEq_iff h h]
  unfold eqD
  rw [SeqAt.eqv_refl _ (dok_can p 8 _ h).1]
@[simp] theorem sok_0 : PyData.strOk ("no row" : Str) = true := by decide +kernel
@[simp] theorem sok_1 : PyData.strOk ("no gate" : Str) = true := by decide +kernel
@[simp] theorem sok_2 : PyData.strOk ("no period" : Str) = true := by decide +kernel
@[simp] theorem sok_3 : PyData.strOk ("no text" : Str) = true := by decide +kernel
@[simp] theorem sok_4 : PyData.strOk ("no back" : Str) = true := by decide +kernel
@[simp] theorem sok_5 : PyData.strOk ("few" : Str) = true := by decide +kernel
@[simp] theorem sok_6 : PyData.strOk ("many" : Str) = true := by decide +kernel
@[simp] theorem sok_7 : PyData.strOk ("" : Str) = true := by decide +kernel
@[simp] theorem sok_8 : PyData.strOk ("beats" : Str) = true := by decide +kernel
@[simp] theorem sok_9 : PyData.strOk ("rest" : Str) = true := by decide +kernel
@[simp] theorem sok_10 : PyData.strOk ("put" : Str) = true := by decide +kernel
@[simp] theorem sok_11 : PyData.strOk ("rub" : Str) = true := by decide +kernel
@[simp] theorem sok_12 : PyData.strOk ("insert" : Str) = true := by decide +kernel
@[simp] theorem sok_13 : PyData.strOk ("cut" : Str) = true := by decide +kernel
@[simp] theorem sok_14 : PyData.strOk ("time" : Str) = true := by decide +kernel
@[simp] theorem sok_15 : PyData.strOk ("count" : Str) = true := by decide +kernel
@[simp] theorem sok_16 : PyData.strOk ("wrong" : Str) = true := by decide +kernel
@[simp] theorem sok_17 : PyData.strOk ("?" : Str) = true := by decide +kernel
@[simp] theorem exName_row : exName .row = "no row" := rfl
@[simp] theorem exName_gate : exName .gate = "no gate" := rfl
@[simp] theorem exName_period : exName .period = "no period" := rfl
@[simp] theorem exName_text : exName .text = "no text" := rfl
@[simp] theorem exName_back : exName .back = "no back" := rfl
@[simp] theorem strOk_name (x : Ex) : PyData.strOk (exName x) = true := by cases x <;> decide +kernel
end
end DL

namespace DL
open PySem PySem.Spec PyProof.Rows L2
/-! ### fractions by cross multiplication -/
abbrev Fr := Int × Int
def ltF (a b : Fr) : Prop := a.1 * b.2 < b.1 * a.2
def leF (a b : Fr) : Prop := a.1 * b.2 ≤ b.1 * a.2
def lessF (a b : Fr) : Bool := decide (a.1 * b.2 < b.1 * a.2)
theorem lessF_iff {a b : Fr} : lessF a b = true ↔ ltF a b := by unfold lessF ltF; exact decide_eq_true_iff
theorem lessF_not {a b : Fr} : lessF a b = false ↔ leF b a := by unfold lessF leF; rw [decide_eq_false_iff_not]; omega
theorem leF_refl (a : Fr) : leF a a := Int.le_refl _
theorem mul_cancel {x y c : Int} (hc : 0 < c) : x * c < y * c ↔ x < y := ⟨fun h => Int.lt_of_mul_lt_mul_right h (by omega), fun h => Int.mul_lt_mul_of_pos_right h hc⟩
theorem mul_cancel_le {x y c : Int} (hc : 0 < c) : x * c ≤ y * c ↔ x ≤ y := ⟨fun h => Int.le_of_mul_le_mul_right h hc, fun h => Int.mul_le_mul_of_nonneg_right h (by omega)⟩
theorem leF_trans {a b c : Fr} (pa : 0 < a.2) (pb : 0 < b.2) (pc : 0 < c.2) (h1 : leF a b) (h2 : leF b c) : leF a c := by
  unfold leF at *
  have e1 := (mul_cancel_le pc).mpr h1
  have e2 := (mul_cancel_le pa).mpr h2
  rw [← mul_cancel_le pb]
  calc a.1 * c.2 * b.2 = a.1 * b.2 * c.2 := by rw [Int.mul_right_comm]
    _ ≤ b.1 * a.2 * c.2 := e1
    _ = b.1 * c.2 * a.2 := by rw [Int.mul_right_comm]
    _ ≤ c.1 * b.2 * a.2 := e2
    _ = c.1 * a.2 * b.2 := by rw [Int.mul_right_comm]
theorem ltF_le {a b : Fr} (h : ltF a b) : leF a b := Int.le_of_lt h
theorem ltF_of_lt_le {a b c : Fr} (pa : 0 < a.2) (pb : 0 < b.2) (pc : 0 < c.2) (h1 : ltF a b) (h2 : leF b c) : ltF a c := by
  unfold leF ltF at *
  have e1 := (mul_cancel pc).mpr h1
  have e2 := (mul_cancel_le pa).mpr h2
  rw [← mul_cancel pb]
  calc a.1 * c.2 * b.2 = a.1 * b.2 * c.2 := by rw [Int.mul_right_comm]
    _ < b.1 * a.2 * c.2 := e1
    _ = b.1 * c.2 * a.2 := by rw [Int.mul_right_comm]
    _ ≤ c.1 * b.2 * a.2 := e2
    _ = c.1 * a.2 * b.2 := by rw [Int.mul_right_comm]
theorem ltF_of_le_lt {a b c : Fr} (pa : 0 < a.2) (pb : 0 < b.2) (pc : 0 < c.2) (h1 : leF a b) (h2 : ltF b c) : ltF a c := by
  unfold leF ltF at *
  have e1 := (mul_cancel_le pc).mpr h1
  have e2 := (mul_cancel pa).mpr h2
  rw [← mul_cancel pb]
  calc a.1 * c.2 * b.2 = a.1 * b.2 * c.2 := by rw [Int.mul_right_comm]
    _ ≤ b.1 * a.2 * c.2 := e1
    _ = b.1 * c.2 * a.2 := by rw [Int.mul_right_comm]
    _ < c.1 * b.2 * a.2 := e2
    _ = c.1 * a.2 * b.2 := by rw [Int.mul_right_comm]
/-- the same value -/
def eqF (a b : Fr) : Prop := a.1 * b.2 = b.1 * a.2
theorem eqF_le {a b : Fr} (h : eqF a b) : leF a b := Int.le_of_eq h
theorem eqF_symm {a b : Fr} (h : eqF a b) : eqF b a := h.symm
theorem share_eqF (u : Int) {d : Int} (h : 0 < d) : eqF (shareF u d) (u, d) := share_cross u h
theorem ltF_congr {a a' b b' : Fr} (pa : 0 < a.2) (pa' : 0 < a'.2) (pb : 0 < b.2) (pb' : 0 < b'.2) (ha : eqF a a') (hb : eqF b b') : ltF a b ↔ ltF a' b' :=
  ⟨fun h => ltF_of_le_lt pa' pa pb' (eqF_le (eqF_symm ha)) (ltF_of_lt_le pa pb pb' h (eqF_le hb)), fun h => ltF_of_le_lt pa pa' pb (eqF_le ha) (ltF_of_lt_le pa' pb' pb h (eqF_le (eqF_symm hb)))⟩
/-! ### the greatest, the least of some -/
def upF (l : List Fr) (i : Fr) : Fr := l.foldl (fun a q => if lessF a q = true then q else a) i
def dnF (l : List Fr) (i : Fr) : Fr := l.foldl (fun a q => if lessF q a = true then q else a) i
theorem upF_spec : ∀ (l : List Fr) (i : Fr), 0 < i.2 → (∀ q ∈ l, 0 < q.2) → 0 < (upF l i).2 ∧ (upF l i = i ∨ upF l i ∈ l) ∧ leF i (upF l i) ∧ ∀ q ∈ l, leF q (upF l i)
  | [], i, hi, _ => ⟨hi, .inl rfl, leF_refl i, by simp⟩
  | q :: l, i, hi, hl => by
    have hq := hl q (by simp)
    have hl' : ∀ q ∈ l, 0 < q.2 := fun x hx => hl x (by simp [hx])
    show 0 < (upF l (if lessF i q = true then q else i)).2 ∧ _
    by_cases c : lessF i q = true
    · rw [show upF (q :: l) i = upF l q by show upF l (if lessF i q = true then q else i) = _; rw [if_pos c], if_pos c]
      obtain ⟨h1, h2, h3, h4⟩ := upF_spec l q hq hl'
      refine ⟨h1, ?_, leF_trans hi hq h1 (ltF_le (lessF_iff.mp c)) h3, fun x hx => ?_⟩
      · rcases h2 with h2 | h2
        · exact .inr (by rw [h2]; simp)
        · exact .inr (by simp [h2])
      · rcases List.mem_cons.mp hx with rfl | hx
        · exact h3
        · exact h4 x hx
    · rw [show upF (q :: l) i = upF l i by show upF l (if lessF i q = true then q else i) = _; rw [if_neg c], if_neg c]
      obtain ⟨h1, h2, h3, h4⟩ := upF_spec l i hi hl'
      refine ⟨h1, ?_, h3, fun x hx => ?_⟩
      · rcases h2 with h2 | h2
        · exact .inl h2
        · exact .inr (by simp [h2])
      · rcases List.mem_cons.mp hx with rfl | hx
        · exact leF_trans hq hi h1 (lessF_not.mp (by simpa using c)) h3
        · exact h4 x hx
theorem dnF_spec : ∀ (l : List Fr) (i : Fr), 0 < i.2 → (∀ q ∈ l, 0 < q.2) → 0 < (dnF l i).2 ∧ (dnF l i = i ∨ dnF l i ∈ l) ∧ leF (dnF l i) i ∧ ∀ q ∈ l, leF (dnF l i) q
  | [], i, hi, _ => ⟨hi, .inl rfl, leF_refl i, by simp⟩
  | q :: l, i, hi, hl => by
    have hq := hl q (by simp)
    have hl' : ∀ q ∈ l, 0 < q.2 := fun x hx => hl x (by simp [hx])
    show 0 < (dnF l (if lessF q i = true then q else i)).2 ∧ _
    by_cases c : lessF q i = true
    · rw [show dnF (q :: l) i = dnF l q by show dnF l (if lessF q i = true then q else i) = _; rw [if_pos c], if_pos c]
      obtain ⟨h1, h2, h3, h4⟩ := dnF_spec l q hq hl'
      refine ⟨h1, ?_, leF_trans h1 hq hi h3 (ltF_le (lessF_iff.mp c)), fun x hx => ?_⟩
      · rcases h2 with h2 | h2
        · exact .inr (by rw [h2]; simp)
        · exact .inr (by simp [h2])
      · rcases List.mem_cons.mp hx with rfl | hx
        · exact h3
        · exact h4 x hx
    · rw [show dnF (q :: l) i = dnF l i by show dnF l (if lessF q i = true then q else i) = _; rw [if_neg c], if_neg c]
      obtain ⟨h1, h2, h3, h4⟩ := dnF_spec l i hi hl'
      refine ⟨h1, ?_, h3, fun x hx => ?_⟩
      · rcases h2 with h2 | h2
        · exact .inl h2
        · exact .inr (by simp [h2])
      · rcases List.mem_cons.mp hx with rfl | hx
        · exact leF_trans h1 hi hq h3 (lessF_not.mp (by simpa using c))
        · exact h4 x hx
/-- the greatest of some is less than the least of others just if each is -/
theorem up_dn {l m : List Fr} {i j : Fr} (hi : 0 < i.2) (hj : 0 < j.2) (hl : ∀ q ∈ l, 0 < q.2) (hm : ∀ q ∈ m, 0 < q.2) : lessF (upF l i) (dnF m j) = true ↔ ∀ a ∈ i :: l, ∀ b ∈ j :: m, ltF a b := by
  obtain ⟨u1, u2, u3, u4⟩ := upF_spec l i hi hl
  obtain ⟨d1, d2, d3, d4⟩ := dnF_spec m j hj hm
  rw [lessF_iff]
  constructor
  · intro h a ha b hb
    have pa : 0 < a.2 := by rcases List.mem_cons.mp ha with rfl | ha; exact hi; exact hl a ha
    have pb : 0 < b.2 := by rcases List.mem_cons.mp hb with rfl | hb; exact hj; exact hm b hb
    have la : leF a (upF l i) := by rcases List.mem_cons.mp ha with rfl | ha; exact u3; exact u4 a ha
    have lb : leF (dnF m j) b := by rcases List.mem_cons.mp hb with rfl | hb; exact d3; exact d4 b hb
    exact ltF_of_le_lt pa u1 pb la (ltF_of_lt_le u1 d1 pb h lb)
  · intro h
    refine h _ ?_ _ ?_
    · rcases u2 with e | e
      · rw [e]; simp
      · exact List.mem_cons_of_mem _ e
    · rcases d2 with e | e
      · rw [e]; simp
      · exact List.mem_cons_of_mem _ e
/-! ### pairs of beats: how far apart, how many on -/
def innP (ns : List Int) (i : Nat) : List (Int × Int) := (ns.drop (i + 1)).mapIdx fun j y => (y - ns.getD i 0, (j : Int) + 1)
def preP (ns : List Int) (i : Nat) : List (Int × Int) := (List.range i).flatMap (innP ns)
def pairsP (ns : List Int) : List (Int × Int) := preP ns ns.length
theorem mem_inn {ns : List Int} {i : Nat} {q : Int × Int} : q ∈ innP ns i ↔ ∃ k, 1 ≤ k ∧ i + k < ns.length ∧ q = (ns.getD (i + k) 0 - ns.getD i 0, (k : Int)) := by
  unfold innP
  rw [List.mem_mapIdx]
  constructor
  · rintro ⟨j, hj, rfl⟩
    rw [List.length_drop] at hj
    refine ⟨j + 1, by omega, by omega, ?_⟩
    rw [List.getElem_drop, List.getD_eq_getElem?_getD (l := ns) (i := i + (j + 1)), List.getElem?_eq_getElem (by omega)]
    simp
    congr 1
    omega
  · rintro ⟨k, h1, h2, rfl⟩
    refine ⟨k - 1, by rw [List.length_drop]; omega, ?_⟩
    have e1 : (ns.drop (i + 1))[k - 1]'(by rw [List.length_drop]; omega) = ns.getD (i + k) 0 := by
      rw [List.getElem_drop, List.getD_eq_getElem?_getD (l := ns) (i := i + k), List.getElem?_eq_getElem h2]
      simp only [Option.getD_some]
      congr 1
      omega
    rw [e1]
    have e2 : ((k - 1 : Nat) : Int) + 1 = k := by omega
    rw [e2]
theorem mem_pairs {ns : List Int} {q : Int × Int} : q ∈ pairsP ns ↔ ∃ i k, 1 ≤ k ∧ i + k < ns.length ∧ q = (ns.getD (i + k) 0 - ns.getD i 0, (k : Int)) := by
  unfold pairsP preP
  rw [List.mem_flatMap]
  constructor
  · rintro ⟨i, hi, hq⟩
    obtain ⟨k, h⟩ := mem_inn.mp hq
    exact ⟨i, k, h⟩
  · rintro ⟨i, k, h1, h2, h3⟩
    exact ⟨i, List.mem_range.mpr (by omega), mem_inn.mpr ⟨k, h1, h2, h3⟩⟩
theorem pairs_pos {ns : List Int} {q : Int × Int} (h : q ∈ pairsP ns) : 0 < q.2 := by
  obtain ⟨i, k, h1, _, rfl⟩ := mem_pairs.mp h
  show (0 : Int) < k
  omega
/-! ### bounds of a row -/
def lowS (l : List (Int × Int)) : Fr := upF (l.map fun q => shareF (q.1 - 1) q.2) (0, 1)
def highS (l : List (Int × Int)) : Fr := dnF (l.map fun q => shareF (q.1 + 1) q.2) (10001, 1)
def lowU (l : List (Int × Int)) : Fr := upF (l.map fun q => (q.1 - 1, q.2)) (0, 1)
def highU (l : List (Int × Int)) : Fr := dnF (l.map fun q => (q.1 + 1, q.2)) (10001, 1)
def bndF (ns : List Int) : Option (Fr × Fr) := if ns.length > 1 ∧ lessF (lowS (pairsP ns)) (highS (pairsP ns)) = true then some (lowS (pairsP ns), highS (pairsP ns)) else none
/-- all pairs agree -/
def agreeP (ns : List Int) : Prop := ∀ a ∈ (0, 1) :: (pairsP ns).map (fun q => (q.1 - 1, q.2)), ∀ b ∈ (10001, 1) :: (pairsP ns).map (fun q => (q.1 + 1, q.2)), ltF a b
theorem agree_U (ns : List Int) : lessF (lowU (pairsP ns)) (highU (pairsP ns)) = true ↔ agreeP ns := up_dn (by decide) (by decide) (fun q hq => by
  obtain ⟨x, hx, rfl⟩ := List.mem_map.mp hq
  exact (pairs_pos hx : 0 < x.2)) (fun q hq => by
  obtain ⟨x, hx, rfl⟩ := List.mem_map.mp hq
  exact (pairs_pos hx : 0 < x.2))
theorem agree_S (ns : List Int) : lessF (lowS (pairsP ns)) (highS (pairsP ns)) = true ↔ agreeP ns := by
  unfold lowS highS agreeP
  rw [up_dn (by decide) (by decide) (fun q hq => by
    obtain ⟨x, hx, rfl⟩ := List.mem_map.mp hq
    exact share_pos _ (pairs_pos hx)) (fun q hq => by
    obtain ⟨x, hx, rfl⟩ := List.mem_map.mp hq
    exact share_pos _ (pairs_pos hx))]
  have key : ∀ (c : Int) (i : Fr), 0 < i.2 → ∀ a ∈ i :: (pairsP ns).map (fun q => (q.1 + c, q.2)), ∃ b ∈ i :: (pairsP ns).map (fun q => shareF (q.1 + c) q.2), eqF b a ∧ 0 < a.2 ∧ 0 < b.2 := by
    intro c i hi a ha
    rcases List.mem_cons.mp ha with rfl | ha
    · exact ⟨a, by simp, rfl, hi, hi⟩
    · obtain ⟨x, hx, rfl⟩ := List.mem_map.mp ha
      exact ⟨_, List.mem_cons_of_mem _ (List.mem_map.mpr ⟨x, hx, rfl⟩), share_eqF _ (pairs_pos hx), (pairs_pos hx : 0 < x.2), share_pos _ (pairs_pos hx)⟩
  have key2 : ∀ (c : Int) (i : Fr), 0 < i.2 → ∀ b ∈ i :: (pairsP ns).map (fun q => shareF (q.1 + c) q.2), ∃ a ∈ i :: (pairsP ns).map (fun q => (q.1 + c, q.2)), eqF b a ∧ 0 < a.2 ∧ 0 < b.2 := by
    intro c i hi a ha
    rcases List.mem_cons.mp ha with rfl | ha
    · exact ⟨a, by simp, rfl, hi, hi⟩
    · obtain ⟨x, hx, rfl⟩ := List.mem_map.mp ha
      exact ⟨_, List.mem_cons_of_mem _ (List.mem_map.mpr ⟨x, hx, rfl⟩), share_eqF _ (pairs_pos hx), (pairs_pos hx : 0 < x.2), share_pos _ (pairs_pos hx)⟩
  constructor
  · intro h a ha b hb
    obtain ⟨a', ha', e1, p1, p2⟩ := key (-1) (0, 1) (by decide) a ha
    obtain ⟨b', hb', e2, p3, p4⟩ := key 1 (10001, 1) (by decide) b hb
    exact (ltF_congr p2 p1 p4 p3 e1 e2).mp (h a' ha' b' hb')
  · intro h a ha b hb
    obtain ⟨a', ha', e1, p1, p2⟩ := key2 (-1) (0, 1) (by decide) a ha
    obtain ⟨b', hb', e2, p3, p4⟩ := key2 1 (10001, 1) (by decide) b hb
    exact (ltF_congr p2 p1 p4 p3 e1 e2).mpr (h a' ha' b' hb')
/-- a row that can be of steady beats -/
def canB (ns : List Int) : Bool := decide (ns.length < 2) || lessF (lowU (pairsP ns)) (highU (pairsP ns))
theorem canB_iff {ns : List Int} : canB ns = true ↔ ns.length < 2 ∨ agreeP ns := by unfold canB; rw [Bool.or_eq_true, decide_eq_true_iff, agree_U]
theorem can_bnd (ns : List Int) : (decide (ns.length < 2) || (bndF ns).isSome) = canB ns := by
  rw [Bool.eq_iff_iff, canB_iff, Bool.or_eq_true, decide_eq_true_iff]
  unfold bndF
  by_cases c : ns.length < 2
  · simp [c]
  · by_cases h : agreeP ns
    · rw [if_pos ⟨by omega, (agree_S ns).mpr h⟩]
      simp [h]
    · rw [if_neg fun z => h ((agree_S ns).mp z.2)]
      simp [h]
theorem pairs_short {ns : List Int} (h : ns.length < 2) : pairsP ns = [] := by
  cases e : pairsP ns with
  | nil => rfl
  | cons q l =>
    obtain ⟨i, k, h1, h2, _⟩ := mem_pairs.mp (show q ∈ pairsP ns by rw [e]; simp)
    omega
theorem agree_short {ns : List Int} (h : ns.length < 2) : agreeP ns := by
  unfold agreeP
  rw [pairs_short h]
  intro a ha b hb
  simp at ha hb
  subst ha hb
  show (0 : Int) * 1 < 10001 * 1
  omega
theorem canB_agree {ns : List Int} : canB ns = true ↔ agreeP ns := by
  rw [canB_iff]
  exact ⟨fun h => h.elim agree_short id, .inr⟩
/-- fewer pairs, fewer asks -/
theorem agree_sub {ns ms : List Int} (h : ∀ q ∈ pairsP ms, q ∈ pairsP ns) (a : agreeP ns) : agreeP ms := fun x hx y hy => by
  refine a x ?_ y ?_
  · rcases List.mem_cons.mp hx with rfl | hx
    · simp
    · obtain ⟨q, hq, rfl⟩ := List.mem_map.mp hx
      exact List.mem_cons_of_mem _ (List.mem_map.mpr ⟨q, h q hq, rfl⟩)
  · rcases List.mem_cons.mp hy with rfl | hy
    · simp
    · obtain ⟨q, hq, rfl⟩ := List.mem_map.mp hy
      exact List.mem_cons_of_mem _ (List.mem_map.mpr ⟨q, h q hq, rfl⟩)
end DL

namespace DL
open PySem PySem.Spec PyProof.Rows L2
/-! ### stretches -/
def seg (ns : List Int) (f k : Nat) : List Int := (ns.drop f).take k
theorem seg_len (ns : List Int) (f k : Nat) : (seg ns f k).length = min k (ns.length - f) := by unfold seg; rw [List.length_take, List.length_drop]
theorem seg_getD {ns : List Int} {f k i : Nat} (h : i < k) : (seg ns f k).getD i 0 = ns.getD (f + i) 0 := by
  unfold seg
  rw [List.getD_eq_getElem?_getD, List.getD_eq_getElem?_getD, List.getElem?_take_of_lt h, List.getElem?_drop]
theorem mem_seg {ns : List Int} {f k : Nat} {q : Int × Int} : q ∈ pairsP (seg ns f k) ↔ ∃ i j, f ≤ i ∧ 1 ≤ j ∧ i + j < f + k ∧ i + j < ns.length ∧ q = (ns.getD (i + j) 0 - ns.getD i 0, (j : Int)) := by
  rw [mem_pairs]
  constructor
  · rintro ⟨i, j, h1, h2, rfl⟩
    rw [seg_len] at h2
    refine ⟨f + i, j, by omega, h1, by omega, by omega, ?_⟩
    rw [seg_getD (by omega), seg_getD (by omega), Nat.add_assoc]
  · rintro ⟨i, j, h1, h2, h3, h4, rfl⟩
    refine ⟨i - f, j, h2, by rw [seg_len]; omega, ?_⟩
    rw [seg_getD (by omega), seg_getD (by omega), show f + (i - f + j) = i + j by omega, show f + (i - f) = i by omega]
theorem can_seg {ns : List Int} {f k f' k' : Nat} (h1 : f' ≤ f) (h2 : f + k ≤ f' + k') (h : canB (seg ns f' k') = true) : canB (seg ns f k) = true := by
  rw [canB_agree] at h ⊢
  refine agree_sub (fun q hq => ?_) h
  obtain ⟨i, j, a1, a2, a3, a4, e⟩ := mem_seg.mp hq
  exact mem_seg.mpr ⟨i, j, by omega, a2, by omega, a4, e⟩
theorem can_one (ns : List Int) (f : Nat) : canB (seg ns f 1) = true := canB_iff.mpr (.inl (by rw [seg_len]; omega))
theorem seg_all (ns : List Int) : seg ns 0 ns.length = ns := by unfold seg; rw [List.drop_zero, List.take_length]
theorem seg_row {ns : List Int} (h : RowOk ns) (f k : Nat) : RowOk (seg ns f k) := by
  have hs : (seg ns f k).Sublist ns := (List.take_sublist _ _).trans (List.drop_sublist _ _)
  exact ⟨Nat.le_trans hs.length_le h.1, fun n hn => h.2.1 n (hs.subset hn), h.2.2.sublist hs⟩
/-- how far it goes on from f -/
def farGo (ns : List Int) (f : Nat) : Nat → Nat → Nat
  | 0, m => m
  | n + 1, m => if f + m < ns.length ∧ canB (seg ns f (m + 1)) = true then farGo ns f n (m + 1) else m
def farF (ns : List Int) (f : Nat) : Nat := farGo ns f ns.length 1
structure IsFar (ns : List Int) (f r : Nat) : Prop where
  pos : 1 ≤ r
  le : f + r ≤ ns.length
  can : canB (seg ns f r) = true
  max : f + r < ns.length → canB (seg ns f (r + 1)) = false
theorem farGo_spec (ns : List Int) (f : Nat) : ∀ (n m : Nat), 1 ≤ m → f + m ≤ ns.length → ns.length ≤ f + m + n → canB (seg ns f m) = true → IsFar ns f (farGo ns f n m)
  | 0, m, h1, h2, h3, hc => ⟨h1, h2, hc, fun z => by unfold farGo at z; omega⟩
  | n + 1, m, h1, h2, h3, hc => by
    unfold farGo
    by_cases c : f + m < ns.length ∧ canB (seg ns f (m + 1)) = true
    · rw [if_pos c]
      exact farGo_spec ns f n (m + 1) (by omega) (by omega) (by omega) c.2
    · rw [if_neg c]
      exact ⟨h1, h2, hc, fun z => by
        cases e : canB (seg ns f (m + 1)) with
        | false => rfl
        | true => exact (c ⟨z, e⟩).elim⟩
theorem far_spec {ns : List Int} {f : Nat} (h : f < ns.length) : IsFar ns f (farF ns f) := farGo_spec ns f ns.length 1 (by omega) (by omega) (by omega) (can_one ns f)
theorem far_uniq {ns : List Int} {f r s : Nat} (a : IsFar ns f r) (b : IsFar ns f s) : r = s := by
  have key : ∀ {r s : Nat}, IsFar ns f r → IsFar ns f s → ¬ r < s := fun {r s} a b h => by
    have hl := b.le
    have := a.max (by omega)
    have z := can_seg (ns := ns) (f := f) (k := r + 1) (f' := f) (k' := s) (by omega) (by omega) b.can
    rw [this] at z; cases z
  rcases Nat.lt_trichotomy r s with h | h | h
  · exact (key a b h).elim
  · exact h
  · exact (key b a h).elim
theorem far_iff {ns : List Int} {f k : Nat} (h : f < ns.length) (h1 : f + k ≤ ns.length) : canB (seg ns f k) = true ↔ k ≤ farF ns f := by
  have a := far_spec h
  constructor
  · intro hc
    by_cases z : k ≤ farF ns f
    · exact z
    · have := a.max (by omega)
      have y := can_seg (ns := ns) (f := f) (k := farF ns f + 1) (f' := f) (k' := k) (by omega) (by omega) hc
      rw [this] at y; cases y
  · intro hk
    exact can_seg (by omega) (by omega) a.can
/-! ### the longest, the parts, the strays -/
def bestGo (ns : List Int) (b : Option (Nat × Nat)) (f : Nat) : Option (Nat × Nat) := match b with
  | none => some (f, farF ns f)
  | some (g, m) => if m < farF ns f then some (f, farF ns f) else some (g, m)
def longF (ns : List Int) : Option (Nat × Nat) := (List.range ns.length).foldl (bestGo ns) none
def partsGo (ns : List Int) : Nat → Nat → List Nat
  | 0, _ => []
  | n + 1, f => if f < ns.length then farF ns f :: partsGo ns n (f + farF ns f) else []
def partsF (ns : List Int) : List Nat := partsGo ns ns.length 0
def without (ns : List Int) (k : Nat) : List Int := ns.take k ++ ns.drop (k + 1)
def straysF (ns : List Int) : List Nat := if canB ns = true then [] else (List.range ns.length).filter fun k => canB (without ns k)
theorem without_row {ns : List Int} (h : RowOk ns) (k : Nat) : RowOk (without ns k) := by
  have hs : (without ns k).Sublist ns := by
    unfold without
    have : ns = ns.take k ++ ns.drop k := (List.take_append_drop k ns).symm
    conv => rhs; rw [this]
    refine List.Sublist.append (List.Sublist.refl _) ?_
    rw [← List.drop_drop]
    exact List.drop_sublist _ _
  exact ⟨Nat.le_trans hs.length_le h.1, fun n hn => h.2.1 n (hs.subset hn), h.2.2.sublist hs⟩
def natD (n : Nat) : D := .int n
def natsD (q : Nat × Nat) : D := .tup [.int q.1, .int q.2]
def onatsD : Option (Nat × Nat) → D
  | none => .non
  | some q => natsD q
def bndD : Option (Fr × Fr) → D
  | none => .non
  | some q => .tup [pairD q.1, pairD q.2]
/-! ### promises -/
@[simp] theorem gTup_pair {t : TGs'} {q : Int × Int} {σ : St'} {G : GH} {Q : St' → GH → Prop} : gTup' 2 t (pairD q) σ G Q = t [.int q.1, .int q.2] σ G Q := by unfold pairD; simp
def SmF (q : Fr) : Prop := -1099511627776 < q.1 ∧ q.1 < 1099511627776 ∧ -1099511627776 < q.2 ∧ q.2 < 1099511627776
section
variable {p : Pm} {G : GH} {Q : QE} {E : EK'} {d s l : D} {i j lo hi : Int}
def sp_is_less (p : Pm) : Sp' := sp2 fun x y G Q E => ∃ a b : Fr, x = pairD a ∧ y = pairD b ∧ SmF a ∧ SmF b ∧ Q (.bl (lessF a b)) G
@[simp] theorem at_is_less {a b : Fr} : sp_is_less p [pairD a, pairD b] G Q E = (SmF a ∧ SmF b ∧ Q (.bl (lessF a b)) G) := by
  simp only [sp_is_less, sp2]
  refine propext ⟨fun ⟨x, y, e, e2, h⟩ => ?_, fun h => ⟨a, b, rfl, rfl, h⟩⟩
  rw [pair_inj _ _ e, pair_inj _ _ e2]; exact h
def sp__law_is_less (p : Pm) : Sp' := sp_is_less p
@[simp] theorem at_lless {a b : Fr} : sp__law_is_less p [pairD a, pairD b] G Q E = (SmF a ∧ SmF b ∧ Q (.bl (lessF a b)) G) := at_is_less
/-- of a row's ints -/
def spRow (k : List Int → GH → QE → Prop) : Sp' := sp1 fun r G Q E => ∃ ns : List Int, r = .tup (ns.map D.int) ∧ RowOk ns ∧ k ns G Q
@[simp] theorem at_spRow {k : List Int → GH → QE → Prop} {ns : List Int} : spRow k [.tup (ns.map D.int)] G Q E = (RowOk ns ∧ k ns G Q) := by
  simp only [spRow, sp1]
  refine propext ⟨fun ⟨x, e, h⟩ => ?_, fun h => ⟨ns, rfl, h⟩⟩
  rw [ints_inj (D.tup.inj e)]; exact h
def sp_bounds_of (p : Pm) : Sp' := spRow fun ns G Q => Q (bndD (bndF ns)) G
@[simp] theorem at_bounds_of {ns : List Int} : sp_bounds_of p [.tup (ns.map D.int)] G Q E = (RowOk ns ∧ Q (bndD (bndF ns)) G) := at_spRow
def sp_can_be (p : Pm) : Sp' := spRow fun ns G Q => Q (.bl (canB ns)) G
@[simp] theorem at_can_be {ns : List Int} : sp_can_be p [.tup (ns.map D.int)] G Q E = (RowOk ns ∧ Q (.bl (canB ns)) G) := at_spRow
def sp__law_can (p : Pm) : Sp' := sp_can_be p
@[simp] theorem at_lcan {ns : List Int} : sp__law_can p [.tup (ns.map D.int)] G Q E = (RowOk ns ∧ Q (.bl (canB ns)) G) := at_can_be
def sp_far_from (p : Pm) : Sp' := sp2 fun r f G Q E => ∃ (ns : List Int) (i : Nat), r = .tup (ns.map D.int) ∧ f = .int i ∧ RowOk ns ∧ i < ns.length ∧ Q (.int (farF ns i)) G
@[simp] theorem at_far_from {ns : List Int} {i : Nat} : sp_far_from p [.tup (ns.map D.int), .int i] G Q E = (RowOk ns ∧ i < ns.length ∧ Q (.int (farF ns i)) G) := by
  simp only [sp_far_from, sp2]
  refine propext ⟨fun ⟨x, y, e, e2, h⟩ => ?_, fun h => ⟨ns, i, rfl, rfl, h⟩⟩
  have : i = y := by have := D.int.inj e2; omega
  subst this
  rw [ints_inj (D.tup.inj e)]; exact h
def sp_longest_steady (p : Pm) : Sp' := sp1 fun r G Q E => rowAsk r ∧ withRow r E G fun ns => Q (onatsD (longF ns)) G
@[simp] theorem at_longest : sp_longest_steady p [d] G Q E = (rowAsk d ∧ withRow d E G fun ns => Q (onatsD (longF ns)) G) := by simp [sp_longest_steady]
def sp_steady_parts (p : Pm) : Sp' := sp1 fun r G Q E => rowAsk r ∧ withRow r E G fun ns => Q (.lst ((partsF ns).map natD)) G
@[simp] theorem at_parts : sp_steady_parts p [d] G Q E = (rowAsk d ∧ withRow d E G fun ns => Q (.lst ((partsF ns).map natD)) G) := by simp [sp_steady_parts]
def sp_strays (p : Pm) : Sp' := sp1 fun r G Q E => rowAsk r ∧ withRow r E G fun ns => Q (.lst ((straysF ns).map natD)) G
@[simp] theorem at_strays : sp_strays p [d] G Q E = (rowAsk d ∧ withRow d E G fun ns => Q (.lst ((straysF ns).map natD)) G) := by simp [sp_strays]
def sp_can_be_steady (p : Pm) : Sp' := sp1 fun r G Q E => rowAsk r ∧ withRow r E G fun ns => Q (.bl (canB ns)) G
@[simp] theorem at_can_steady : sp_can_be_steady p [d] G Q E = (rowAsk d ∧ withRow d E G fun ns => Q (.bl (canB ns)) G) := by simp [sp_can_be_steady]
def sp_bounds (p : Pm) : Sp' := sp1 fun r G Q E => rowAsk r ∧ withRow r E G fun ns => Q (bndD (bndF ns)) G
@[simp] theorem at_bounds : sp_bounds p [d] G Q E = (rowAsk d ∧ withRow d E G fun ns => Q (bndD (bndF ns)) G) := by simp [sp_bounds]
end
end DL

namespace DL
open PySem PySem.Spec PyProof.Rows L2
/-! ### fractions, periods, phases -/
def fracOf : D → Option Fr
  | .tup [.int u, .int d] => if 1 ≤ d ∧ d ≤ 99 ∧ shareF u d = (u, d) then some (u, d) else none
  | _ => none
def fracAsk : D → Prop
  | .tup [x, y] => plain x = true ∧ plain y = true
  | .tup _ => True
  | d => plain d = true
def perOf (d : D) : Option Fr := match fracOf d with
  | some q => if 0 < q.1 ∧ q.1 ≤ 9999 * q.2 then some q else none
  | none => none
def phOf (d : D) : Option Fr := match fracOf d with
  | some q => if 0 ≤ q.1 ∧ q.1 < 9999 * q.2 then some q else none
  | none => none
def withPer (d : D) (E : EK') (G : GH) (k : Fr → Prop) : Prop := match perOf d with
  | some q => k q
  | none => E .period G
def withPh (d : D) (E : EK') (G : GH) (k : Fr → Prop) : Prop := match phOf d with
  | some q => k q
  | none => E .period G
def withNum (m : D) (lo hi : Int) (x : Ex) (E : EK') (G : GH) (k : Int → Prop) : Prop := match m with
  | .int i => if lo ≤ i ∧ i ≤ hi then k i else E x G
  | _ => E x G
def ticksF (ph pe : Fr) (n : Nat) : List Int := (List.range n).map fun i : Nat => (ph.1 * pe.2 + (i : Int) * pe.1 * ph.2) / (ph.2 * pe.2)
theorem frac_some {d : D} {q : Fr} (h : fracOf d = some q) : d = pairD q ∧ 1 ≤ q.2 ∧ q.2 ≤ 99 ∧ shareF q.1 q.2 = q := by
  unfold fracOf at h
  split at h
  · split at h
    · rename_i c
      cases h
      exact ⟨rfl, c⟩
    · cases h
  · cases h
theorem per_some {d : D} {q : Fr} (h : perOf d = some q) : d = pairD q ∧ 1 ≤ q.2 ∧ q.2 ≤ 99 ∧ shareF q.1 q.2 = q ∧ 0 < q.1 ∧ q.1 ≤ 9999 * q.2 := by
  unfold perOf at h
  split at h
  · rename_i e
    split at h
    · rename_i c
      cases h
      have := frac_some e
      exact ⟨this.1, this.2.1, this.2.2.1, this.2.2.2, c⟩
    · cases h
  · cases h
theorem ph_some {d : D} {q : Fr} (h : phOf d = some q) : d = pairD q ∧ 1 ≤ q.2 ∧ q.2 ≤ 99 ∧ shareF q.1 q.2 = q ∧ 0 ≤ q.1 ∧ q.1 < 9999 * q.2 := by
  unfold phOf at h
  split at h
  · rename_i e
    split at h
    · rename_i c
      cases h
      have := frac_some e
      exact ⟨this.1, this.2.1, this.2.2.1, this.2.2.2, c⟩
    · cases h
  · cases h
theorem frac_pair {q : Fr} (h1 : 1 ≤ q.2 ∧ q.2 ≤ 99) (h2 : shareF q.1 q.2 = q) : fracOf (pairD q) = some q := by
  show (if 1 ≤ q.2 ∧ q.2 ≤ 99 ∧ shareF q.1 q.2 = (q.1, q.2) then some (q.1, q.2) else none) = _
  rw [if_pos ⟨h1.1, h1.2, h2⟩]
theorem per_pair {q : Fr} (h1 : 1 ≤ q.2 ∧ q.2 ≤ 99) (h2 : shareF q.1 q.2 = q) (h3 : 0 < q.1 ∧ q.1 ≤ 9999 * q.2) : perOf (pairD q) = some q := by unfold perOf; rw [frac_pair h1 h2]; exact if_pos h3
theorem ph_pair {q : Fr} (h1 : 1 ≤ q.2 ∧ q.2 ≤ 99) (h2 : shareF q.1 q.2 = q) (h3 : 0 ≤ q.1 ∧ q.1 < 9999 * q.2) : phOf (pairD q) = some q := by unfold phOf; rw [frac_pair h1 h2]; exact if_pos h3
theorem share_one (u : Int) : shareF u 1 = (u, 1) := by
  unfold shareF gcdF
  simp
@[simp] theorem fracAsk_pair {q : Fr} : fracAsk (pairD q) = True := by simp [fracAsk, pairD]
section
variable {p : Pm} {G : GH} {Q : QE} {E : EK'} {d s l : D} {i j lo hi : Int}
def sp_is_fraction (p : Pm) : Sp' := sp1 fun d G Q E => fracAsk d ∧ Q (.bl (fracOf d).isSome) G
@[simp] theorem at_is_fraction : sp_is_fraction p [d] G Q E = (fracAsk d ∧ Q (.bl (fracOf d).isSome) G) := by simp [sp_is_fraction]
def sp_look_period (p : Pm) : Sp' := sp1 fun d G Q E => fracAsk d ∧ withPer d E G fun _ => Q .non G
@[simp] theorem at_look_period : sp_look_period p [d] G Q E = (fracAsk d ∧ withPer d E G fun _ => Q .non G) := by simp [sp_look_period]
def sp_ticks_of (p : Pm) : Sp' := sp3 fun a b m G Q E => ∃ (ph pe : Fr) (n : Int), a = pairD ph ∧ b = pairD pe ∧ m = .int n ∧ (0 ≤ n ∧ n ≤ 40) ∧ (0 ≤ ph.1 ∧ ph.1 ≤ 2000000) ∧ (1 ≤ ph.2 ∧ ph.2 ≤ 99) ∧ (0 < pe.1 ∧ pe.1 ≤ 1000000) ∧ (1 ≤ pe.2 ∧ pe.2 ≤ 99) ∧ Q (.tup ((ticksF ph pe n.toNat).map D.int)) G
@[simp] theorem at_ticks_of {ph pe : Fr} : sp_ticks_of p [pairD ph, pairD pe, .int i] G Q E = ((0 ≤ i ∧ i ≤ 40) ∧ (0 ≤ ph.1 ∧ ph.1 ≤ 2000000) ∧ (1 ≤ ph.2 ∧ ph.2 ≤ 99) ∧ (0 < pe.1 ∧ pe.1 ≤ 1000000) ∧ (1 ≤ pe.2 ∧ pe.2 ≤ 99) ∧ Q (.tup ((ticksF ph pe i.toNat).map D.int)) G) := by
  simp only [sp_ticks_of, sp3]
  refine propext ⟨fun ⟨x, y, n, e, e2, e3, h⟩ => ?_, fun h => ⟨ph, pe, i, rfl, rfl, rfl, h⟩⟩
  rw [pair_inj _ _ e, pair_inj _ _ e2, D.int.inj e3]; exact h
def sp_steady (p : Pm) : Sp' := sp3 fun a b m G Q E => fracAsk a ∧ fracAsk b ∧ plain m = true ∧ withPh a E G fun ph => withPer b E G fun pe => withNum m 0 40 .period E G fun n => if RowOk (ticksF ph pe n.toNat) then Q (.tup ((ticksF ph pe n.toNat).map D.int)) G else E .period G
@[simp] theorem at_steady {a b m : D} : sp_steady p [a, b, m] G Q E = (fracAsk a ∧ fracAsk b ∧ plain m = true ∧ withPh a E G fun ph => withPer b E G fun pe => withNum m 0 40 .period E G fun n => if RowOk (ticksF ph pe n.toNat) then Q (.tup ((ticksF ph pe n.toNat).map D.int)) G else E .period G) := by simp [sp_steady]
end
end DL

/-! DL13: t[::-1] of a tuple. -/
namespace DL
open PySem PySem.Spec PyProof.Rows L2
open HT PySem.SeqAt PySem.MeetsSeq PySem.MeetsSeq2 PySem.MeetsSeq3
theorem turn_places (n : Nat) : Builtin.Slice.slicePlaces ((n : Int) - 1) (-1) (-1) = n := by
  unfold Builtin.Slice.slicePlaces
  have h1 : ¬ ((-1 : Int) > 0) := by decide
  by_cases h : (n : Int) - 1 > -1
  · have e : ((n : Int) - 1 - -1 - 1) / (- -1) = (n : Int) - 1 := by
      rw [show (- -1 : Int) = 1 by decide, Int.ediv_one]
      omega
    simp only [h1, if_false, h, if_true, e]
    omega
  · simp only [h1, if_false, h]
    omega
theorem turn_pick (xs : Array Value) : ((List.range xs.size).filterMap fun (m : Nat) => xs[(((xs.size : Int) - 1) + (m : Int) * (-1 : Int)).toNat]?) = xs.toList.reverse := by
  have e : ((List.range xs.size).filterMap fun (m : Nat) => xs[(((xs.size : Int) - 1) + (m : Int) * (-1 : Int)).toNat]?) = (((List.range xs.size).map fun k => xs.size - 1 - k).filterMap (xs[·]?)) := by
    rw [List.filterMap_map]
    have key : ∀ l : List Nat, (∀ m ∈ l, m < xs.size) → l.filterMap (fun (m : Nat) => xs[(((xs.size : Int) - 1) + (m : Int) * (-1 : Int)).toNat]?) = l.filterMap ((xs[·]?) ∘ fun k => xs.size - 1 - k) := by
      intro l
      induction l with
      | nil => intro _; rfl
      | cons m l ih =>
        intro h
        have hm := h m (by simp)
        rw [List.filterMap_cons, List.filterMap_cons, ih fun x hx => h x (by simp [hx])]
        have : (((xs.size : Int) - 1) + (m : Int) * (-1 : Int)).toNat = xs.size - 1 - m := by omega
        rw [this]
        rfl
    exact key _ fun m hm => List.mem_range.mp hm
  rw [e, PySem.W.krv_range, List.filterMap_reverse, PySem.W.krv_all]
section
variable {prog : Program} {w : World} {A : Around} {E : Value → Shared → Prop} {s : Shared}
theorem applied_turn {sl : Addr} {vl vu vs : Value} {n : Nat} {Q : Int × Int × Nat → Shared → Prop} (hs : s.heap.IsSliceOf sl vl vu vs) (pl : IsPart vl none) (pu : IsPart vu none) (ps : IsPart vs (some (-1)))
    (h : Q ((n : Int) - 1, -1, n) s) : wpAny (model prog w) A (Builtin.Slice.sliceApplied (.ref sl) (pure (n : Int))) Q E s := by
  obtain ⟨os, hos, hcs, hds⟩ := id hs
  unfold Builtin.Slice.sliceApplied Builtin.Slice.sliceFields
  refine wpAny_bind (wpAny_bind (wpAny_field hos hds (x := vl) rfl (wpAny_bind (wpAny_field hos hds (x := vu) rfl (wpAny_bind (wpAny_field hos hds (x := vs) rfl (wpAny_pure ?_)))))))
  refine wpAny_bind (slicePart_ ps ?_)
  show wpAny _ _ (if (((-1 : Int)) == 0) = true then _ else _) _ _ s
  rw [if_neg (by decide)]
  refine wpAny_bind (slicePart_ pl (wpAny_bind (slicePart_ pu (wpAny_bind (wpAny_pure ?_)))))
  show wpAny _ _ (match Builtin.Slice.sliceAdjust none none (-1) (n : Int) with | (lo, hi) => pure (lo, (-1 : Int), Builtin.Slice.slicePlaces lo hi (-1))) _ _ s
  have hadj : Builtin.Slice.sliceAdjust none none (-1) (n : Int) = ((n : Int) - 1, -1) := by
    unfold Builtin.Slice.sliceAdjust
    simp
  rw [hadj]
  show wpAny _ _ (pure ((n : Int) - 1, (-1 : Int), Builtin.Slice.slicePlaces ((n : Int) - 1) (-1) (-1))) _ _ s
  rw [turn_places n]
  exact wpAny_pure h
theorem getItem_tuple_turn {t sl : Addr} {items : Array Value} {vl vu vs : Value} {Q : Value → Shared → Prop} (ht : IsTup s.heap t items) (hs : s.heap.IsSliceOf sl vl vu vs) (pl : IsPart vl none) (pu : IsPart vu none) (ps : IsPart vs (some (-1)))
    (h : Q (.ref s.heap.objs.size) { s with heap := s.heap.push { cls := .type "tuple", data := .seq items.toList.reverse.toArray } })
    (hsz : items.size ≤ sizeLine) : wpAny (model prog w) A (getItem (.ref t) (.ref sl)) Q E s := by
  have hsize : sizeOk (.seq items.toList.reverse.toArray) := by
    show items.toList.reverse.toArray.size ≤ sizeLine
    rw [List.size_toArray, List.length_reverse, Array.length_toList]
    exact hsz
  obtain ⟨os, hos, hcs, hds⟩ := id hs
  have hTs : s.TypeIs (.ref sl) "slice" := ⟨os, hos, hcs⟩
  unfold getItem
  try with_reducible refine wpAny_holding ?_
  first | refine wpAny_bind (wpAny_pure ?_) | skip
  refine wpAny_bind (wpAny_sequenceKey ht.typeIs (by decide) ?_)
  refine wpAny_bind (wpAny_callSpecial?_slot (name := Str.ofString "__getitem__") ht.typeIs PyProof.Rows.slot_tuple_getitem
    (wpAny_call_entry PyProof.Rows.slot_tuple_getitem ht.typeIs entry_tuple_getitem ?_ (args_tuple_getitem _ _)))
  show wpAny _ _ (Builtin.Tuple.tupleItemsOf (.ref t) >>= _) _ _ s
  refine wpAny_bind (tupleItemsOf_ ht ?_)
  refine wpAny_bind (wpAny_typeOf hTs ?_)
  rw [if_pos (by decide)]
  refine wpAny_bind (applied_turn (n := items.size) hs pl pu ps ?_)
  have hno : ¬ (((((items.size : Int) - 1)) == 0 && ((-1 : Int)) == 1 && (items.size == items.size)) = true) := by
    intro q
    rw [Bool.and_eq_true, Bool.and_eq_true] at q
    have q2 : (-1 : Int) = 1 := eq_of_beq q.1.2
    omega
  show wpAny _ _ (if ((((items.size : Int) - 1)) == 0 && ((-1 : Int)) == 1 && (items.size == items.size)) = true then _ else _) _ _ s
  rw [if_neg hno, turn_pick items]
  first
    | exact wpAny_bind (m := Builtin.Tuple.tupleExact _) (wpAny_newObj_type (wpAny_pure ⟨_, rfl, wpAny_pure h⟩) hsize)
    | exact wpAny_bind (m := Builtin.Tuple.tupleExact _) (wpAny_newObj_type (wpAny_bind (wpAny_pure (wpAny_pure ⟨_, rfl, wpAny_pure h⟩))) hsize)
end
def tTurnH (K : PySem.W.Frag) (te : TE) : TE := fun σ H Q => te σ H fun x H1 => ∃ (a : Addr) (xs : List V), x = .ref a ∧ SqT K H1 a xs ∧ (∀ p, H1 p = none → Q (.ref p) (upd H1 p (.tup xs.reverse)))
theorem pe_turn {X : Cx} {e : Expr} {te : TE} {k : Nat} {p1 p2 p3 pos : Pos} (he : PE X e te) : PE X (.Subscript e (.Slice none none (some (.UnaryOp .USub (.Constant (.int 1) k p1) p2)) p3) pos) (tTurnH X.K te) := by
  refine ⟨fun pins s σ H Q I h => ?_⟩
  refine Subscript_ (thn (he.run pins s σ H _ I h) fun v s1 ⟨x, H1, I1, r1, q1⟩ => ?_)
  obtain ⟨a, xs, ex, hx, q⟩ := q1
  subst ex
  cases r1
  have hst : PO X (some (.UnaryOp .USub (.Constant (.int 1) k p1) p2)) (tPart (tUn (rU fun i => .int (-i)) (tC (.int 1)))) := po_some (pe_un un_neg pe_int)
  refine wpAny_Slice (thn (po_none.run pins s1 σ H1 (fun o H2 => o = none ∧ H2 = H1) I1 ⟨rfl, rfl⟩) fun vl s2 ⟨l, H2, I2, pl, el, e2⟩ => ?_)
  subst el e2
  refine thn (po_none.run pins s2 σ H2 (fun o H3 => o = none ∧ H3 = H2) I2 ⟨rfl, rfl⟩) fun vu s3 ⟨u, H3, I3, pu, eu, e3⟩ => ?_
  subst eu e3
  refine thn (hst.run pins s3 σ H3 (fun o H4 => o = some (-1) ∧ H4 = H3) I3 ⟨1, rfl, -1, rfl, rfl, rfl⟩) fun vs s4 ⟨o, H4, I4, ps, eo, e4⟩ => ?_
  subst eo e4
  have I5 : Inv X pins σ H4 { s4 with heap := s4.heap.push { cls := .type "slice", data := .fields #[vl, vu, vs] } } := I4.kept (t' := s4.toks) fun b ob q => Heap.get?_push_of_some _ q
  obtain ⟨its, r, ht, hz⟩ := I5.tuple hx
  have hlen := r.length
  show wpAny (model X.prog X.w) X.A (subscriptTail e (.Slice none none (some (.UnaryOp .USub (.Constant (.int 1) k p1) p2)) p3) (.ref a) (.ref s4.heap.objs.size)) (EP X pins σ Q) X.xe { s4 with heap := s4.heap.push { cls := .type "slice", data := .fields #[vl, vu, vs] } }
  refine tail_any (ops := [.ref a, .ref s4.heap.objs.size]) ht.typeIs PyProof.Rows.slot_tuple_getitem.lookup ?_ (by with_unfolding_all rfl)
  refine getItem_tuple_turn ht (Heap.IsSliceOf.new _ vl vu vs) pl pu ps ?_ (by rw [List.size_toArray]; omega)
  refine ⟨.ref _, _, I5.laid (t' := s4.toks) (o := .tup xs.reverse) (fun b ob q => Heap.get?_push_of_some _ q) (Nat.le_refl _) ?_, rfl, q _ (I5.hok.fresh (Nat.le_refl _))⟩
  exact ⟨by rw [List.length_reverse]; exact hz, _, r.reverse, IsTup.new _ _⟩
section
variable {p : Pm} {B : Bs p} {X : Cx} {a b c e o : Expr} {ta tb tc : TE'} {pos : Pos}
@[simp] def tTurn' (te : TE') : TE' := fun σ G Q => te σ G fun x G1 => ∃ ds, x = .tup ds ∧ Q (.tup ds.reverse) G1
theorem de_turn {k : Nat} {p1 p2 p3 : Pos} (ha : DE p B X a ta) : DE p B X (.Subscript a (.Slice none none (some (.UnaryOp .USub (.Constant (.int 1) k p1) p2)) p3) pos) (tTurn' ta) :=
  PE.weak (pe_turn ha) fun σ H Q ⟨σ', G, Q', at_, q, k⟩ => by
    refine ⟨σ', G, _, at_, q, fun x G1 v H1 n1 r1 q1 => ?_⟩
    obtain ⟨ds, rfl, q1⟩ := q1
    obtain ⟨a, vs, rfl, ha, rr⟩ := r1
    refine ⟨a, vs, rfl, sqT_of ha, fun pp hp => ?_⟩
    have n3 := nxt_new (o := .tup vs.reverse) n1.rep hp
    exact k (.tup ds.reverse) G1 _ _ (n1.trans n3) ⟨pp, _, rfl, .inl upd_same, n3.st.list rr.reverse⟩ q1
end
end DL

/-! DL14: range with a step. -/
namespace DL
open PySem PySem.Spec PyProof.Rows L2
section
variable {p : Pm} {B : Bs p} {X : Cx} {a b c e o : Expr} {ta tb tc : TE'} {t : TA'} {pos : Pos}
theorem it_rangeC {G : GH} {H : Hp} {c : Int} {n : Nat} : ItOk p (Itc 0 c n) (rangeC 0 c n) G H := by
  intro G2 H2 nx i
  unfold rangeC
  refine ⟨fun d hd => ?_, fun hl => by rw [List.length_map, List.length_range] at hl; exact hl⟩
  rw [List.getElem?_map] at hd
  cases e : (List.range n)[i]? with
  | none => rw [e] at hd; cases hd
  | some j =>
    rw [e] at hd
    have hj : j = i ∧ i < n := by
      rw [List.getElem?_eq_some_iff] at e
      obtain ⟨h1, h2⟩ := e
      rw [List.getElem_range] at h2
      rw [List.length_range] at h1
      exact ⟨h2.symm, h1⟩
    obtain ⟨rfl, hlt⟩ := hj
    cases (show some (D.int (0 + j * c)) = some d from hd)
    refine ⟨hlt, fun v H3 y => ?_⟩
    obtain ⟨rfl, rfl⟩ := y
    exact ⟨.refl nx.rep, rfl⟩
/-- how many steps -/
def stepsF (j c : Int) : Nat := ((j + c - 1) / c).toNat
theorem rgC_up {j c : Int} (hj : 0 ≤ j ∧ j ≤ 1000000) (hc : 0 < c ∧ c ≤ 1000000) : RgC 0 j c (stepsF j c) := by
  have e : Builtin.Range.rangeSize 0 j c = (stepsF j c : Nat) := by
    unfold Builtin.Range.rangeSize stepsF
    have d0 : 0 ≤ (j + c - 1) / c := Int.ediv_nonneg (by omega) (by omega)
    rw [if_pos (by omega)]
    by_cases h : 0 < j
    · rw [if_pos h]
      have : (j + c - 1) = (j - 0 - 1) + 1 * c := by omega
      rw [this, Int.add_mul_ediv_right _ _ (by omega)] at d0 ⊢
      omega
    · have : j = 0 := by omega
      subst this
      rw [if_neg (by omega)]
      have : (0 + c - 1) / c = 0 := Int.ediv_eq_zero_of_lt (by omega) (by omega)
      rw [this]; rfl
  refine ⟨by omega, by omega, ?_, e⟩
  have hs : Builtin.Range.rangeSize 0 j c ≤ 1000000 ∧ 0 ≤ Builtin.Range.rangeSize 0 j c := by
    unfold Builtin.Range.rangeSize
    rw [if_pos (by omega)]
    have : (j - 0 - 1) / c ≤ j - 0 - 1 ∨ j = 0 := by
      by_cases h : 0 < j
      · exact .inl (Int.ediv_le_self _ (by omega))
      · exact .inr (by omega)
    split
    · have := Int.ediv_nonneg (show 0 ≤ j - 0 - 1 by omega) (show 0 ≤ c by omega)
      omega
    · omega
  unfold Builtin.Range.small
  simp only [Builtin.Range.rangeFitsLong, Bool.and_eq_true, Bool.or_eq_true, decide_eq_true_eq, beq_iff_eq]
  rw [if_pos (by omega)]
  simp only [Bool.and_eq_true, decide_eq_true_eq]
  omega
@[simp] def iRng3' (t : TA') : TI' := fun σ G R => t σ G fun xs G1 => ∃ j c : Int, xs = [.int 0, .int j, .int c] ∧ (0 ≤ j ∧ j ≤ 1000000) ∧ (0 < c ∧ c ≤ 1000000) ∧ R (rangeC 0 c (stepsF j c)) G1
theorem di_range3 {tg : Expr} {t : TA'} {pq : Pos} (hm : X.mg "range" = none) (ha : DA p B X [a, b, c] t) (hg : Gl X "range" := by rfl) (hs : starEach [a, b, c] X.env = (false, eval a X.env) :: starEach [b, c] X.env := by rfl) (hpl : (backTo pos (starEach [b, c] X.env)).any (·.1) = false := by rfl) : DI p B X tg (.Call (.Name "range" pq) [a, b, c] [] pos) (iRng3' t) :=
  PI.weak (pi_range3 hg hm ha hs hpl) fun σ H R h => by
    obtain ⟨σ', G, R', at_, q, k⟩ := h
    refine ⟨σ', G, _, at_, q, fun xs G1 vs H1 n1 r1 q1 => ?_⟩
    obtain ⟨j, c, rfl, h1, h2, q1⟩ := q1
    obtain ⟨v, w, u, rfl, r, r2, r3⟩ := rl3 r1
    cases (show _ = _ from r)
    cases (show _ = _ from r2)
    cases (show _ = _ from r3)
    exact ⟨0, j, c, stepsF j c, rfl, rgC_up h1 h2, k _ G1 _ H1 n1 it_rangeC q1⟩
end
end DL

set_option maxHeartbeats 4000000
/-! DL15: t * n of a tuple, n nought or one too. -/
namespace DL
open PySem PySem.Spec PyProof.Rows L2
theorem tuple_mul1 (l : Addr) (items : Array Value) (n : Nat) (dd : Option Addr) (sl : Array (Option Value)) (u : Tok) :
    Meets (Builtin.«tuple.__mul__» ⟨[.ref l, .int 1 u], []⟩) (fun _ R s => s.heap.get? l = some { cls := .type "tuple", dict := dd, data := .seq items n, slots := sl } ∧
      R (.ok (.ret (Value.ref l))) s) :=
  .of_wp fun prog w A R s h => by
    obtain ⟨hp, g, d, tk, os⟩ := s
    obtain ⟨hl, h⟩ := h
    have f1 := AutoSeq1.idx_int
    wp_walk using wpAny_loadPart' hl
    all_goals exact ⟨_, rfl, h⟩
theorem tuple_mul0 (l : Addr) (items : Array Value) (n : Nat) (dd : Option Addr) (sl : Array (Option Value)) (u : Tok) (c1 : (items.isEmpty || ((0 : Int) == 1)) = false) :
    Meets (Builtin.«tuple.__mul__» ⟨[.ref l, .int 0 u], []⟩) (fun _ R s => s.heap.get? l = some { cls := .type "tuple", dict := dd, data := .seq items n, slots := sl } ∧
      R (.ok (.ret (Value.ref s.heap.objs.size))) { s with heap := s.heap.push { cls := Value.type "tuple", data := Data.seq #[] }, toks := s.toks }) :=
  .of_wp fun prog w A R s h => by
    obtain ⟨hp, g, d, tk, os⟩ := s
    obtain ⟨hl, h⟩ := h
    have f1 := AutoSeq1.idx_int
    wp_walk using wpAny_loadPart' hl
    repeat (first
      | (refine wpAny_ite_false (decide_eq_false (by rw [c1]; exact Bool.false_ne_true)) ?_; wp_walk using wpAny_loadPart' hl)
      | (refine wpAny_ite_true (decide_eq_true (by simp)) ?_; wp_walk using wpAny_loadPart' hl))
    all_goals exact ⟨_, rfl, h⟩
def rRepA (K : PySem.W.Frag) : R2 := fun x y H Q => ∃ l k xs, x = .ref l ∧ y = .int k ∧ SqT K H l xs ∧ xs ≠ [] ∧ 0 ≤ k ∧ k ≤ 1000 ∧ xs.length ≤ 1000 ∧ (k = 1 → Q (.ref l) H) ∧ (k ≠ 1 → ∀ p, H p = none → Q (.ref p) (upd H p (.tup (List.replicate k.toNat xs).flatten)))
theorem op_repA {X : Cx} : OpR X (binaryOp .Mult) (rRepA X.K) := by
  intro pins s σ H x y v u Q I rx ry h
  obtain ⟨l, k, xs, rfl, rfl, hT, hne, h1, h2, hz, q1, q2⟩ := h
  by_cases c : 2 ≤ k
  · exact op_repT pins s σ H _ _ _ _ Q I rx ry ⟨l, k, xs, rfl, rfl, hT, hne, c, h2, hz, q2 (by omega)⟩
  cases rx
  obtain ⟨t, rfl⟩ := ry
  obtain ⟨its, r, ⟨⟨cls, dd, data, sl⟩, ho, hc, n, hd⟩, hs⟩ := I.tuple hT
  simp only at hc hd
  subst hc hd
  have hle : its.length = xs.length := r.length.symm
  have hn : its ≠ [] := fun e => hne (by
    rw [e] at hle
    exact List.eq_nil_of_length_eq_zero hle.symm)
  have hi : its.toArray.isEmpty = false := by
    cases its with
    | nil => exact absurd rfl hn
    | cons a b => rfl
  by_cases c1 : k = 1
  · subst c1
    refine wpAny_binaryOp_repeat_ref (T := "tuple") (U := "int") (by decide) ⟨_, ho, rfl⟩ (fun s' => typeIs_int s' 1 t) noFill_tuple_mul F.fills_int_mul F.slot_int_rmul repeat_tuple F.slot_int_index.lookup
      (call_meets F.slot_int_rmul (typeIs_int s 1 t) F.entry_int_rmul (F.args_int_rmul_2 _ _) (int_rmul_tuple 1 t l its.toArray n dd sl)
        ⟨ho, rfl, ⟨_, ho, rfl⟩, call_meets F.slot_tuple_mul ⟨_, ho, rfl⟩ F.entry_tuple_mul (F.args_tuple_mul_2 _ _) (tuple_mul1 l its.toArray n dd sl t) ⟨ho, ?_⟩⟩)
    exact ⟨.ref l, H, I, rfl, q1 rfl⟩
  · have : k = 0 := by omega
    subst this
    refine wpAny_binaryOp_repeat_ref (T := "tuple") (U := "int") (by decide) ⟨_, ho, rfl⟩ (fun s' => typeIs_int s' 0 t) noFill_tuple_mul F.fills_int_mul F.slot_int_rmul repeat_tuple F.slot_int_index.lookup
      (call_meets F.slot_int_rmul (typeIs_int s 0 t) F.entry_int_rmul (F.args_int_rmul_2 _ _) (int_rmul_tuple 0 t l its.toArray n dd sl)
        ⟨ho, rfl, ⟨_, ho, rfl⟩, call_meets F.slot_tuple_mul ⟨_, ho, rfl⟩ F.entry_tuple_mul (F.args_tuple_mul_2 _ _) (tuple_mul0 l its.toArray n dd sl t (by rw [hi]; rfl)) ⟨ho, ?_⟩⟩)
    refine ⟨.ref s.heap.objs.size, _, I.laid (t' := s.toks) (o := .tup []) (fun b ob q => Heap.get?_push_of_some _ q) (Nat.le_refl _) ?_, rfl, q2 (by decide) _ (I.hok.fresh (Nat.le_refl _))⟩
    exact ⟨Nat.zero_le _, [], .nil, IsTup.new _ _⟩
section
variable {p : Pm} {B : Bs p} {X : Cx} {a b c e o : Expr} {ta tb tc : TE'} {pos : Pos}
@[simp] def rMulT' : R2' := fun x y G Q => ∃ ds k, x = .tup ds ∧ y = .int k ∧ ds ≠ [] ∧ 0 ≤ k ∧ k ≤ 1000 ∧ ds.length ≤ 1000 ∧ Q (.tup (List.replicate k.toNat ds).flatten) G
theorem lft_mulT {K : PySem.W.Frag} : Lft2 p (rRepA K) rMulT' := by
  rintro x y G Q' u v H Q rx ry h ⟨ds, n, rfl, rfl, hne, h1, h2, hl, q⟩ k
  obtain ⟨a, vs, rfl, ha, rr⟩ := rx
  refine ⟨a, n, vs, rfl, ry, sqT_of ha, fun z => ?_, h1, h2, by rw [← rr.length]; exact hl, fun z => ?_, fun z pp hp => ?_⟩
  · subst z
    cases ds with
    | nil => exact hne rfl
    | cons x r => have := rr.length; simp at this
  · subst z
    have e : (List.replicate (1 : Int).toNat ds).flatten = ds := by simp
    rw [e] at q
    exact k (.tup ds) G _ H (.refl h) ⟨a, vs, rfl, ha, rr⟩ q
  · have n3 := nxt_new (o := .tup (List.replicate n.toNat vs).flatten) h hp
    exact k (.tup (List.replicate n.toNat ds).flatten) G _ _ n3 ⟨pp, _, rfl, .inl upd_same, n3.st.list (rr.rep _)⟩ q
theorem de_mulT (ha : DE p B X a ta) (hb : DE p B X b tb) : DE p B X (.BinOp a .Mult b pos) (tOp' rMulT' ta tb) := de_op op_repA lft_mulT ha hb
end
end DL

namespace DL
open PySem PySem.Spec PyProof.Rows L2
/-! ### meters -/
structure Here where
  tick : Int
  known : List Int
  word : Str
def hereD (h : Here) : D := .tup [.int h.tick, .tup (h.known.map D.int), .str h.word]
def wordF (lo hi n : Int) : Str := if n < lo then "few" else if n > hi then "many" else ""
def tickOn (len lo hi : Int) (h : Here) (x : Nat) : Here :=
  let k := (h.known ++ List.replicate x h.tick).filter fun one => decide (h.tick - len < one)
  ⟨h.tick + 1, k, wordF lo hi k.length⟩
/-- behind i ticks of a step -/
def runF (len lo hi : Int) (h : Here) (x : Nat) : Nat → Here × List (Int × Str)
  | 0 => (h, [])
  | i + 1 =>
    let r := runF len lo hi h x i
    let h2 := tickOn len lo hi r.1 (if i = 0 then x else 0)
    (h2, if h2.word = r.1.word then r.2 else r.2 ++ [(r.1.tick, h2.word)])
structure Mtr where
  len : Int
  lo : Int
  hi : Int
  here : Here
  past : List (Str × Here)
  later : List (Str × Here)
def stepD (q : Str × Here) : D := .tup [.str q.1, hereD q.2]
def mfs (len lo hi : Int) (h : Here) (b c : Addr) : List (Str × D) := [("length", .int len), ("low", .int lo), ("high", .int hi), ("here", hereD h), ("past", .ref b), ("later", .ref c)]
section
variable {len lo hi : Int} {h h2 : Here} {b c d : Addr} {x : D}
@[simp] theorem mf_len : List.lookup ("length" : Str) (mfs len lo hi h b c) = some (D.int len) := by rfl
@[simp] theorem mf_low : List.lookup ("low" : Str) (mfs len lo hi h b c) = some (D.int lo) := by rfl
@[simp] theorem mf_high : List.lookup ("high" : Str) (mfs len lo hi h b c) = some (D.int hi) := by rfl
@[simp] theorem mf_here : List.lookup ("here" : Str) (mfs len lo hi h b c) = some (hereD h) := by rfl
@[simp] theorem mf_past : List.lookup ("past" : Str) (mfs len lo hi h b c) = some (D.ref b) := by rfl
@[simp] theorem mf_later : List.lookup ("later" : Str) (mfs len lo hi h b c) = some (D.ref c) := by rfl
@[simp] theorem mf_word_of : noF (mfs len lo hi h b c) "word_of" = True := eq_true rfl
@[simp] theorem mf_step : noF (mfs len lo hi h b c) "step" = True := eq_true rfl
@[simp] theorem mf_beats : noF (mfs len lo hi h b c) "beats" = True := eq_true rfl
@[simp] theorem mf_rest : noF (mfs len lo hi h b c) "rest" = True := eq_true rfl
@[simp] theorem mf_clock : noF (mfs len lo hi h b c) "clock" = True := eq_true rfl
@[simp] theorem mf_held : noF (mfs len lo hi h b c) "held" = True := eq_true rfl
@[simp] theorem mf_word : noF (mfs len lo hi h b c) "word" = True := eq_true rfl
@[simp] theorem mf_back : noF (mfs len lo hi h b c) "back" = True := eq_true rfl
@[simp] theorem mf_forth : noF (mfs len lo hi h b c) "forth" = True := eq_true rfl
@[simp] theorem mf_steps : noF (mfs len lo hi h b c) "steps" = True := eq_true rfl
@[simp] theorem mf_twin : noF (mfs len lo hi h b c) "twin" = True := eq_true rfl
@[simp] theorem mp_here : putFD "here" (hereD h2) (mfs len lo hi h b c) = mfs len lo hi h2 b c := by rfl
@[simp] theorem mp_past : putFD "past" (.ref d) (mfs len lo hi h b c) = mfs len lo hi h d c := by rfl
@[simp] theorem mp_later : putFD "later" (.ref d) (mfs len lo hi h b c) = mfs len lo hi h b d := by rfl
@[simp] theorem mf_length : (mfs len lo hi h b c).length = 6 := by rfl
end
def mf1 (v1 : D) : List (Str × D) := [("length", v1)]
def mf2 (v1 v2 : D) : List (Str × D) := [("length", v1), ("low", v2)]
def mf3 (v1 v2 v3 : D) : List (Str × D) := [("length", v1), ("low", v2), ("high", v3)]
def mf4 (v1 v2 v3 v4 : D) : List (Str × D) := [("length", v1), ("low", v2), ("high", v3), ("here", v4)]
def mf5 (v1 v2 v3 v4 v5 : D) : List (Str × D) := [("length", v1), ("low", v2), ("high", v3), ("here", v4), ("past", v5)]
@[simp] theorem mi_1 {v1 : D} : putFD "length" v1 [] = mf1 v1 := rfl
@[simp] theorem mi_2 {v1 v2 : D} : putFD "low" v2 (mf1 v1) = mf2 v1 v2 := rfl
@[simp] theorem mi_3 {v1 v2 v3 : D} : putFD "high" v3 (mf2 v1 v2) = mf3 v1 v2 v3 := rfl
@[simp] theorem mi_4 {v1 v2 v3 v4 : D} : putFD "here" v4 (mf3 v1 v2 v3) = mf4 v1 v2 v3 v4 := rfl
@[simp] theorem mi_5 {v1 v2 v3 v4 v5 : D} : putFD "past" v5 (mf4 v1 v2 v3 v4) = mf5 v1 v2 v3 v4 v5 := rfl
theorem mi_6 {len lo hi : Int} {h : Here} {b c : Addr} : putFD "later" (.ref c) (mf5 (.int len) (.int lo) (.int hi) (hereD h) (.ref b)) = mfs len lo hi h b c := rfl
@[simp] theorem mj_1 {v1 : D} : (mf1 v1).length = 1 := rfl
@[simp] theorem mj_2 {v1 v2 : D} : (mf2 v1 v2).length = 2 := rfl
@[simp] theorem mj_3 {v1 v2 v3 : D} : (mf3 v1 v2 v3).length = 3 := rfl
@[simp] theorem mj_4 {v1 v2 v3 v4 : D} : (mf4 v1 v2 v3 v4).length = 4 := rfl
@[simp] theorem mj_5 {v1 v2 v3 v4 v5 : D} : (mf5 v1 v2 v3 v4 v5).length = 5 := rfl
def gdel (G : GH) (a : Addr) : GH := fun b => if b = a then none else G b
theorem gdel_same {G : GH} {a : Addr} : gdel G a a = none := if_pos rfl
theorem gdel_ne {G : GH} {a b : Addr} (h : b ≠ a) : gdel G a b = G b := if_neg h
theorem gdel_back {G : GH} {a : Addr} {o : GO} (h : G a = some o) : gup (gdel G a) a o = G := by
  funext b
  unfold gup gdel
  by_cases c : b = a
  · rw [if_pos c, c, h]
  · rw [if_neg c, if_neg c]
theorem gdel_up {G : GH} {a : Addr} {o : GO} (h : G a = none) : gdel (gup G a o) a = G := by
  funext b
  unfold gup gdel
  by_cases c : b = a
  · rw [if_pos c, c, h]
  · rw [if_neg c]
    exact if_neg c
/-- a meter stands at a -/
structure MeterAt (G : GH) (a b c : Addr) (m : Mtr) : Prop where
  obj : G a = some (.ins "Meter" (mfs m.len m.lo m.hi m.here b c))
  past : G b = some (.lst (m.past.map stepD))
  later : G c = some (.lst (m.later.map stepD))
theorem MeterAt.bc {G : GH} {a b c : Addr} {m : Mtr} (h : MeterAt G a b c m) : a ≠ b ∧ a ≠ c := by
  constructor
  · intro z
    have := h.past
    rw [← z, h.obj] at this
    cases this
  · intro z
    have := h.later
    rw [← z, h.obj] at this
    cases this
end DL

namespace DL
open PySem PySem.Spec PyProof.Rows L2
/-! ### counters -/
structure Ctr where
  starts : List Int
  len : Int
  found : List Int
  gone : Int
  next : Nat
def cfs (starts : List Int) (len : Int) (b : Addr) (gone : Int) (next : Nat) : List (Str × D) := [("starts", .lst (starts.map D.int)), ("length", .int len), ("found", .ref b), ("gone", .int gone), ("next", .int next)]
section
variable {starts : List Int} {len gone g2 : Int} {b : Addr} {next n2 : Nat}
@[simp] theorem cf_starts : List.lookup ("starts" : Str) (cfs starts len b gone next) = some (D.lst (starts.map D.int)) := by rfl
@[simp] theorem cf_length : List.lookup ("length" : Str) (cfs starts len b gone next) = some (D.int len) := by rfl
@[simp] theorem cf_found : List.lookup ("found" : Str) (cfs starts len b gone next) = some (D.ref b) := by rfl
@[simp] theorem cf_gone : List.lookup ("gone" : Str) (cfs starts len b gone next) = some (D.int gone) := by rfl
@[simp] theorem cf_next : List.lookup ("next" : Str) (cfs starts len b gone next) = some (D.int next) := by rfl
@[simp] theorem cf_beat : noF (cfs starts len b gone next) "beat" = True := eq_true rfl
@[simp] theorem cf_go_on : noF (cfs starts len b gone next) "go_on" = True := eq_true rfl
@[simp] theorem cf_over : noF (cfs starts len b gone next) "over" = True := eq_true rfl
@[simp] theorem cf_now : noF (cfs starts len b gone next) "now" = True := eq_true rfl
@[simp] theorem cp_gone : putFD "gone" (.int g2) (cfs starts len b gone next) = cfs starts len b g2 next := by rfl
@[simp] theorem cp_next : putFD "next" (.int n2) (cfs starts len b gone next) = cfs starts len b gone n2 := by rfl
@[simp] theorem cf_len5 : (cfs starts len b gone next).length = 5 := by rfl
end
structure CtrAt (G : GH) (a b : Addr) (c : Ctr) : Prop where
  obj : G a = some (.ins "Counter" (cfs c.starts c.len b c.gone c.next))
  found : G b = some (.lst (c.found.map D.int))
/-- a beat comes -/
def bumpF (len tick : Int) (starts found : List Int) : List Int := List.zipWith (fun s f => if s ≤ tick ∧ tick < s + len then f + 1 else f) starts found
def beatC (c : Ctr) (tick : Int) : Ctr := { c with found := bumpF c.len tick c.starts c.found }
def beatsC (c : Ctr) (row : List Int) : Ctr := row.foldl (fun c one => beatC c (c.gone + one)) c
/-- how many gates have ended from one on -/
def endsC (c : Ctr) : Nat → Nat
  | 0 => 0
  | n + 1 => match c.starts[c.next]? with
    | some s => if s + c.len ≤ c.gone then 1 + endsC { c with next := c.next + 1 } n else 0
    | none => 0
def putC (G : GH) (a b : Addr) (c : Ctr) : GH := gup (gup G b (.lst (c.found.map D.int))) a (.ins "Counter" (cfs c.starts c.len b c.gone c.next))
end DL

namespace DL
open PySem PySem.Spec PyProof.Rows L2
def toldD (q : Int × Str) : D := .tup [.int q.1, .str q.2]
/-- what is told may be kept -/
def HereOk (h : Here) : Prop := 0 ≤ h.tick ∧ h.tick ≤ 100000 ∧ h.known.length ≤ 2000 ∧ PyData.strOk h.word = true
/-- a meter behind a step -/
def stepM (m : Mtr) (x : Nat) (n : Nat) : Mtr := { m with here := (runF m.len m.lo m.hi m.here x n).1, past := m.past ++ [((if x > 0 then "beats" else "rest" : Str), m.here)], later := [] }
section
variable {p : Pm} {G : GH} {Q : QE} {E : EK'} {a b c : Addr} {m : Mtr}
def sp_Meter___init__ (p : Pm) : Sp' := sp4 fun s l lo hi G Q E => ∃ a, s = .ref a ∧ G a = some (.ins "Meter" []) ∧ plain l = true ∧ plain lo = true ∧ plain hi = true ∧
  withGate (.int 0) l E (gdel G a) fun _ len => withNum lo 0 9999 .gate E (gdel G a) fun x => withNum hi x 9999 .gate E (gdel G a) fun y => ∀ b c, G b = none → G c = none → b ≠ c → Q .non (gup (gup (gup G b (.lst [])) c (.lst [])) a (.ins "Meter" (mfs len x y ⟨0, [], ""⟩ b c)))
def sp_Meter_word_of (p : Pm) : Sp' := sp2 fun s k G Q E => ∃ a len lo hi h b c ks, s = .ref a ∧ k = .tup ks ∧ G a = some (.ins "Meter" (mfs len lo hi h b c)) ∧ Q (.str (wordF lo hi ks.length)) G
theorem word_of_i {len lo hi h} {ks : List D} (hG : G a = some (.ins "Meter" (mfs len lo hi h b c))) (q : Q (.str (wordF lo hi ks.length)) G) : sp_Meter_word_of p [.ref a, .tup ks] G Q E := ⟨a, len, lo, hi, h, b, c, ks, rfl, rfl, hG, q⟩
/-- a step is done -/
def doneM (G : GH) (a b c : Addr) (m2 : Mtr) : GH := gup (gup (gup G c (.lst [])) b (.lst (m2.past.map stepD))) a (.ins "Meter" (mfs m2.len m2.lo m2.hi m2.here b c))
def sp_Meter_step (p : Pm) : Sp' := sp3 fun s x n G Q E => ∃ (a b c : Addr) (m : Mtr) (x' n' : Nat), s = .ref a ∧ x = .int x' ∧ n = .int n' ∧ MeterAt G a b c m ∧ HereOk m.here ∧ x' ≤ 9 ∧ 1 ≤ n' ∧ n' ≤ 99 ∧ m.past.length ≤ 1000 ∧
  ∀ c2, G c2 = none → Q (.lst ((runF m.len m.lo m.hi m.here x' n').2.map toldD)) (doneM G a b c2 (stepM m x' n'))
def sp_Meter_beats (p : Pm) : Sp' := sp2 fun s x G Q E => ∃ (a b c : Addr) (m : Mtr), s = .ref a ∧ plain x = true ∧ MeterAt G a b c m ∧ HereOk m.here ∧ m.past.length ≤ 1000 ∧ withNum x 1 9 .gate E G fun x' =>
  ∀ c2, G c2 = none → Q (.lst ((runF m.len m.lo m.hi m.here x'.toNat 1).2.map toldD)) (doneM G a b c2 (stepM m x'.toNat 1))
def sp_Meter_rest (p : Pm) : Sp' := sp2 fun s x G Q E => ∃ (a b c : Addr) (m : Mtr), s = .ref a ∧ plain x = true ∧ MeterAt G a b c m ∧ HereOk m.here ∧ m.past.length ≤ 1000 ∧ withNum x 1 99 .gate E G fun n =>
  ∀ c2, G c2 = none → Q (.lst ((runF m.len m.lo m.hi m.here 0 n.toNat).2.map toldD)) (doneM G a b c2 (stepM m 0 n.toNat))
def spM (f : Here → D) : Sp' := sp1 fun s G Q E => ∃ (a b c : Addr) (len lo hi : Int) (h : Here), s = .ref a ∧ G a = some (.ins "Meter" (mfs len lo hi h b c)) ∧ Q (f h) G
def sp_Meter_clock (p : Pm) : Sp' := spM fun h => .int h.tick
def sp_Meter_held (p : Pm) : Sp' := spM fun h => .int h.known.length
def sp_Meter_word (p : Pm) : Sp' := spM fun h => .str h.word
theorem spM_i {f : Here → D} {len lo hi h} (hG : G a = some (.ins "Meter" (mfs len lo hi h b c))) (q : Q (f h) G) : spM f [.ref a] G Q E := ⟨a, b, c, len, lo, hi, h, rfl, hG, q⟩
end
end DL

namespace DL
open PySem PySem.Spec PyProof.Rows L2
section
variable {p : Pm} {G : GH} {Q : QE} {E : EK'} {a b : Addr} {c : Ctr}
def sp_Counter___init__ (p : Pm) : Sp' := sp5 fun s x l d m G Q E => ∃ a, s = .ref a ∧ G a = some (.ins "Counter" []) ∧ plain x = true ∧ plain l = true ∧ plain d = true ∧ plain m = true ∧
  withGates x l d m E (gdel G a) fun st len dead many => ∀ b, G b = none → Q .non (putC G a b ⟨startsOf st len dead many.toNat, len, List.replicate many.toNat 0, 0, 0⟩)
/-- a counter that may go on -/
structure CtrOk (c : Ctr) : Prop where
  len : c.found.length = c.starts.length
  most : c.starts.length ≤ 20
def sp_Counter_beat (p : Pm) : Sp' := sp2 fun s x G Q E => ∃ (a b : Addr) (c : Ctr) (i : Int), s = .ref a ∧ x = .int i ∧ CtrAt G a b c ∧ CtrOk c ∧ a ≠ b ∧ Q .non (putC G a b (beatC c i))
/-- a counter that has gone on -/
def goneC (c : Ctr) (ns : List Int) (t : Int) : Ctr := { beatsC c ns with gone := c.gone + t }
def overC (c : Ctr) : Ctr := { c with next := c.next + endsC c (c.starts.length - c.next) }
def toldC (c : Ctr) : List D := (List.range (endsC c (c.starts.length - c.next))).map fun i => .tup [.int ((c.next + i : Nat) : Int), .int (c.found[c.next + i]?.getD 0)]
/-- a counter goes on by what is told: ticks, if it is an int, else a refusal -/
def goOn (x : D) (ns : List Int) (G : GH) (a b : Addr) (c : Ctr) (Q : QE) (E : EK') : Prop := match x with
  | .int t => if ∀ n ∈ ns, n < t then (if 0 ≤ t ∧ t ≤ 9999 then Q (.lst (toldC (goneC c ns t))) (putC G a b (overC (goneC c ns t))) else E .gate G) else E .row G
  | _ => E .gate G
def sp_Counter_go_on (p : Pm) : Sp' := sp3 fun s x r G Q E => ∃ (a b : Addr) (c : Ctr), s = .ref a ∧ CtrAt G a b c ∧ CtrOk c ∧ a ≠ b ∧ rowAsk r ∧ plain x = true ∧
  withRow r E G fun ns => goOn x ns G a b c Q E
def sp_Counter_over (p : Pm) : Sp' := sp1 fun s G Q E => ∃ (a b : Addr) (c : Ctr), s = .ref a ∧ CtrAt G a b c ∧ Q (.int c.gone) G
/-- what is told of the gate that is open -/
def nowC (c : Ctr) : D := match c.starts[c.next]? with
  | some s => if s ≤ c.gone then .int (c.found[c.next]?.getD 0) else .non
  | none => .non
def sp_Counter_now (p : Pm) : Sp' := sp1 fun s G Q E => ∃ (a b : Addr) (c : Ctr), s = .ref a ∧ CtrAt G a b c ∧ CtrOk c ∧ Q (nowC c) G
end
end DL

namespace DL
open PySem PySem.Spec PyProof.Rows L2
def t_is_fraction (p : Pm) (W : WX') : TS' :=
    (tSeq' (tIfS' (tOr' (tNot' (tTest' (rIsi' "tuple" (tVar' 0)))) (tOr' (tTest' (tOp' (rEq' p true) (tCB' (rLen' p) (tCons' (tVar' 0) tNil')) (tC' (.int 2)))) (tNot' (tTest' (tCall' 3 (sp_is_whole p) W (tCons' (tOp' (rIx' p) (tVar' 0) (tC' (.int 1))) (tCons' (tC' (.int 1)) (tCons' (tC' (.int 99)) tNil')))))))) (tRet' (tC' (.bl false))) tNext')
    (tRet' (tAndV' (rIsi' "int" (tOp' (rIx' p) (tVar' 0) (tC' (.int 0)))) (tAndV' (tNotV' (rIsi' "bool" (tOp' (rIx' p) (tVar' 0) (tC' (.int 0))))) (tOp' (rEq' p false) (tCall' 2 (sp_share p) W (tCons' (tOp' (rIx' p) (tVar' 0) (tC' (.int 0))) (tCons' (tOp' (rIx' p) (tVar' 0) (tC' (.int 1))) tNil'))) (tVar' 0))))))

def t_look_period (p : Pm) (W : WX') : TS' :=
    (tIfS' (tOr' (tNot' (tTest' (tCall' 1 (sp_is_fraction p) W (tCons' (tVar' 0) tNil')))) (tNot' (tTest' (tChain' (rCmp' fun i j => decide (i < j)) (rCmp' fun i j => decide (i ≤ j)) (tC' (.int 0)) (tOp' (rIx' p) (tVar' 0) (tC' (.int 0))) (tOp' (rMul' false) (tC' (.int 9999)) (tOp' (rIx' p) (tVar' 0) (tC' (.int 1)))))))) (tRaise' .period W) tNext')

def t_ticks_of (p : Pm) (W : WX') : TS' :=
    (tSeq' (tAsg' (tTup' (tCons' (tOp' (rMul' false) (tOp' (rIx' p) (tVar' 0) (tC' (.int 0))) (tOp' (rIx' p) (tVar' 1) (tC' (.int 1)))) (tCons' (tOp' (rMul' false) (tOp' (rIx' p) (tVar' 0) (tC' (.int 1))) (tOp' (rIx' p) (tVar' 1) (tC' (.int 1)))) tNil'))) (gTup' 2 (gCons' (gName' 3) (gCons' (gName' 4) gNil'))))
    (tRet' (tCB' rTupOf' (tCons' (tLc' false (iRng1' (tCons' (tVar' 2) tNil')) (gName' 5) tYes' (tOp' (rI' CDiv fun i j => .int (i / j)) (tOp' (rAdd' false) (tVar' 3) (tOp' (rMul' false) (tOp' (rMul' false) (tVar' 5) (tOp' (rIx' p) (tVar' 1) (tC' (.int 0)))) (tOp' (rIx' p) (tVar' 0) (tC' (.int 1))))) (tVar' 4)) [5]) tNil'))))

def t_steady (p : Pm) (W : WX') : TS' :=
    (tSeq' (tIfS' (tOr' (tNot' (tTest' (tCall' 1 (sp_is_fraction p) W (tCons' (tVar' 0) tNil')))) (tNot' (tTest' (tChain' (rCmp' fun i j => decide (i ≤ j)) (rCmp' fun i j => decide (i < j)) (tC' (.int 0)) (tOp' (rIx' p) (tVar' 0) (tC' (.int 0))) (tOp' (rMul' false) (tC' (.int 9999)) (tOp' (rIx' p) (tVar' 0) (tC' (.int 1)))))))) (tRaise' .period W) tNext')
    (tSeq' (tDrop' (tCall' 1 (sp_look_period p) W (tCons' (tVar' 1) tNil')))
    (tSeq' (tIfS' (tNot' (tTest' (tCall' 3 (sp_is_whole p) W (tCons' (tVar' 2) (tCons' (tC' (.int 0)) (tCons' (tC' (.int 40)) tNil')))))) (tRaise' .period W) tNext')
    (tSeq' (tAsg' (tCall' 3 (sp_ticks_of p) W (tCons' (tVar' 0) (tCons' (tVar' 1) (tCons' (tVar' 2) tNil')))) (gName' 3))
    (tSeq' (tIfS' (tNot' (tTest' (tCall' 1 (sp_is_row p) W (tCons' (tVar' 3) tNil')))) (tRaise' .period W) tNext')
    (tRet' (tVar' 3)))))))

def t_can_be_steady (p : Pm) (W : WX') : TS' :=
    (tSeq' (tDrop' (tCall' 1 (sp_look_row p) W (tCons' (tVar' 0) tNil')))
    (tRet' (tOrV' (tOp' (rCmp' fun i j => decide (i < j)) (tCB' (rLen' p) (tCons' (tVar' 0) tNil')) (tC' (.int 2))) (tOp' (rIsN' true) (tCall' 1 (sp_bounds_of p) W (tCons' (tVar' 0) tNil')) (tC' .non)))))

end DL

namespace DL
open PySem PySem.Spec PyProof.Rows L2
theorem pure_is_fraction (p : Pm) (d : D) : Pure (t_is_fraction p) (sp_is_fraction p) 1 [d] := fun G Q E h => by
  simp only [sp_is_fraction, sp1] at h
  obtain ⟨hd, q⟩ := h
  have q := fz q
  cases d with
  | tup ds =>
    match ds, hd with
    | [], _ => simp [tSeq', t_is_fraction, start']; exact q
    | [x], _ => simp [tSeq', t_is_fraction, start']; rw [show fracOf (.tup [x]) = none by cases x <;> rfl] at q; exact q
    | x :: y :: z :: r, _ =>
      simp [tSeq', t_is_fraction, start']
      rw [show fracOf (.tup (x :: y :: z :: r)) = none by cases x <;> first | rfl | (cases y <;> rfl)] at q
      exact .inr ⟨by omega, q⟩
    | [x, y], hd =>
      obtain ⟨hx, hy⟩ := hd
      simp [tSeq', t_is_fraction, start']
      refine ⟨y, rfl, hy, ?_⟩
      cases hw : isWhole 1 99 y with
      | false =>
        refine .inl ⟨rfl, ?_⟩
        have e : fracOf (.tup [x, y]) = none := by
          cases x with
          | int u =>
            cases y with
            | int d =>
              simp at hw
              show (if _ then _ else _) = _
              rw [if_neg fun z => by omega]
            | _ => rfl
          | _ => rfl
        rw [e] at q
        exact q
      | true =>
        obtain ⟨d, rfl, hd1, hd2⟩ := isWhole_some hw
        refine .inr ⟨rfl, x, rfl, ?_⟩
        cases x with
        | ref a => cases hx
        | scr => cases hx
        | int u =>
          refine ⟨_, rfl, ?_⟩
          simp
          have e : D.tup [.int u, .int d] = .tup ([u, d].map D.int) := rfl
          refine ⟨_, rfl, _, rfl, ?_⟩
          simp
          refine ⟨_, rfl, _, rfl, ?_⟩
          rw [at_share]
          refine ⟨by omega, by omega, ?_⟩
          rw [show pairD (shareF u d) = .tup ([(shareF u d).1, (shareF u d).2].map D.int) from rfl, e, rEq_tups]
          have e2 : (fracOf (.tup [.int u, .int d])).isSome = decide ([(shareF u d).1, (shareF u d).2] = [u, d]) := by
            show Option.isSome (if _ then _ else _) = _
            by_cases c : shareF u d = (u, d)
            · rw [if_pos ⟨hd1, hd2, c⟩, c]; simp
            · rw [if_neg fun z => c z.2.2]
              simp
              intro z
              by_cases c2 : (shareF u d).2 = d
              · exact (c (Prod.ext z c2)).elim
              · exact c2
          rw [e2] at q
          simpa using q
        | non => exact ⟨_, rfl, .inl ⟨by simp, q⟩⟩
        | str z => exact ⟨_, rfl, .inl ⟨by simp, q⟩⟩
        | tup z => exact ⟨_, rfl, .inl ⟨by simp, q⟩⟩
        | lst z => exact ⟨_, rfl, .inl ⟨by simp, q⟩⟩
        | bl b =>
          refine ⟨_, rfl, .inr ⟨by simp, _, rfl, _, rfl, .inr ⟨by simp, q⟩⟩⟩
  | ref a => simp [fracAsk] at hd
  | scr => simp [fracAsk] at hd
  | non => simp [tSeq', t_is_fraction, start']; exact q
  | bl => simp [tSeq', t_is_fraction, start']; exact q
  | int => simp [tSeq', t_is_fraction, start']; exact q
  | str => simp [tSeq', t_is_fraction, start']; exact q
  | lst => simp [tSeq', t_is_fraction, start']; exact q
theorem pure_look_period (p : Pm) (d : D) : Pure (t_look_period p) (sp_look_period p) 1 [d] := fun G Q E h => by
  simp only [sp_look_period, sp1] at h
  obtain ⟨hd, q⟩ := h
  simp [t_look_period, start', hd]
  unfold withPer perOf at q
  cases e : fracOf d with
  | none =>
    rw [e] at q
    simp
    exact fzE q
  | some f =>
    obtain ⟨rfl, h1, h2, h3⟩ := frac_some e
    rw [e] at q
    simp
    by_cases c : 0 < f.1 ∧ f.1 ≤ 9999 * f.2
    · dsimp only at q
      rw [if_pos c] at q
      exact .inr ⟨c.1, .inl (by omega), .inr ⟨c.2, fz q⟩⟩
    · dsimp only at q
      rw [if_neg c] at q
      by_cases c1 : 0 < f.1
      · exact .inr ⟨c1, .inl (by omega), .inl ⟨by omega, fzE q⟩⟩
      · exact .inl ⟨by omega, fzE q⟩
theorem pure_ticks_of (p : Pm) (a b m : D) : Pure (t_ticks_of p) (sp_ticks_of p) 6 [a, b, m] := fun G Q E h => by
  simp only [sp_ticks_of, sp3] at h
  obtain ⟨ph, pe, n, rfl, rfl, rfl, hn, h1, h2, h3, h4, q⟩ := h
  have big := line_big
  refine seqN fun N hN => ?_
  simp [start']
  refine ⟨.inl (by omega), .inl (by omega), hN _ _ ?_⟩
  simp
  refine lc_map (f := natD) (fun x y h => by have := D.int.inj h; omega) (List.range n.toNat) (fun i => D.int ((ph.1 * pe.2 + (i : Int) * pe.1 * ph.2) / (ph.2 * pe.2))) (G1 := G) (fun R r => ?_) (by simp; omega) (fun i hi Gx _ => ?_) ?_
  · simp
    refine ⟨by omega, by omega, ?_⟩
    have e : natD = fun i : Nat => D.int i := rfl
    simpa [rangeD, e] using r
  · rw [List.mem_range] at hi
    simp [natD]
    have m1 : 0 < ph.2 * pe.2 := Int.mul_pos (by omega) (by omega)
    have m2 : ph.2 * pe.2 ≤ 99 * 99 := Int.mul_le_mul h2.2 h4.2 (by omega) (by omega)
    exact ⟨.inl (by omega), .inr (by omega), m1, by omega⟩
  · simp
    unfold ticksF at q
    rw [List.map_map] at q
    exact fz q
theorem pure_steady (p : Pm) (a b m : D) : Pure (t_steady p) (sp_steady p) 4 [a, b, m] := fun G Q E h => by
  simp only [sp_steady, sp3] at h
  obtain ⟨ha, hb, hm, q⟩ := h
  have big := line_big
  refine seqN fun N hN => ?_
  simp [start', ha]
  unfold withPh phOf at q
  cases e : fracOf a with
  | none =>
    rw [e] at q
    simp
    exact fzE q
  | some f =>
    obtain ⟨rfl, h1, h2, h3⟩ := frac_some e
    rw [e] at q
    simp
    by_cases c : 0 ≤ f.1 ∧ f.1 < 9999 * f.2
    · dsimp only at q
      rw [if_pos c] at q
      refine .inr ⟨c.1, .inl (by omega), .inr ⟨c.2, ?_⟩⟩
      refine hN _ _ (seqN fun N hN => ?_)
      simp [hb]
      unfold withPer at q ⊢
      cases e2 : perOf b with
      | none =>
        rw [e2] at q
        simp
        exact fzE q
      | some g =>
        obtain ⟨rfl, g1, g2, g3, g4⟩ := per_some e2
        rw [e2] at q
        refine hN _ _ (seqN fun N hN => ?_)
        simp [hm]
        dsimp only at q
        unfold withNum at q
        cases hw : isWhole 0 40 m with
        | false =>
          refine .inl ⟨rfl, fzE ?_⟩
          cases m with
          | int i => simp at hw; dsimp only at q; rw [if_neg (by omega)] at q; exact q
          | _ => exact q
        | true =>
          obtain ⟨n, rfl, n1, n2⟩ := isWhole_some hw
          dsimp only at q
          rw [if_pos ⟨n1, n2⟩] at q
          refine .inr ⟨rfl, hN _ _ (seqN fun N hN => ?_)⟩
          simp
          refine ⟨by omega, by omega, by omega, by omega, by omega, by omega, by omega, by omega, by omega, by omega, hN _ _ (seqN fun N hN => ?_)⟩
          have ra : rowAsk (.tup ((ticksF f g n.toNat).map D.int)) := by
            refine ⟨by simp [ticksF]; omega, fun d hd => ?_⟩
            obtain ⟨n, _, rfl⟩ := List.mem_map.mp hd
            rfl
          simp [ra]
          by_cases r : RowOk (ticksF f g n.toNat)
          · rw [if_pos r] at q
            rw [rowOf_row r]
            simp
            refine hN _ _ ?_
            simp
            exact fz q
          · rw [if_neg r] at q
            have : rowOf (.tup ((ticksF f g n.toNat).map D.int)) = none := by simp [rowOf, r]
            rw [this]
            simp
            exact fzE q
    · dsimp only at q
      rw [if_neg c] at q
      by_cases c1 : 0 ≤ f.1
      · exact .inr ⟨c1, .inl (by omega), .inl ⟨by omega, fzE q⟩⟩
      · exact .inl ⟨by omega, fzE q⟩
theorem pure_can_be_steady (p : Pm) (d : D) : Pure (t_can_be_steady p) (sp_can_be_steady p) 1 [d] := fun G Q E h => by
  simp only [sp_can_be_steady, sp1] at h
  obtain ⟨hd, q⟩ := h
  refine seqN fun N hN => ?_
  simp [start', hd]
  refine wr_step q fun ns e1 ok q1 => hN _ _ ?_
  subst e1
  rw [← can_bnd] at q1
  simp [ok]
  by_cases c : ns.length < 2
  · refine .inr ⟨by omega, ?_⟩
    simp [c] at q1
    exact fz q1
  · refine .inl ⟨by omega, ?_⟩
    simp [c] at q1
    cases e : bndF ns with
    | none => rw [e] at q1; simp [bndD]; exact fz q1
    | some b => rw [e] at q1; simp [bndD]; exact fz q1
end DL

namespace DL
open PySem PySem.Spec PyProof.Rows L2
theorem ltF_trans {a b c : Fr} (pa : 0 < a.2) (pb : 0 < b.2) (pc : 0 < c.2) (h1 : ltF a b) (h2 : ltF b c) : ltF a c := ltF_of_lt_le pa pb pc h1 (ltF_le h2)
/-- all pairs agree on a period -/
theorem agree_mid {ns : List Int} {m : Fr} (hm : 0 < m.2) (h0 : ltF (0, 1) m) (h1 : ltF m (10001, 1)) (h : ∀ q ∈ pairsP ns, ltF (q.1 - 1, q.2) m ∧ ltF m (q.1 + 1, q.2)) : agreeP ns := by
  intro a ha b hb
  have pa : 0 < a.2 ∧ ltF a m := by
    rcases List.mem_cons.mp ha with rfl | ha
    · exact ⟨by decide, h0⟩
    · obtain ⟨q, hq, rfl⟩ := List.mem_map.mp ha
      exact ⟨(pairs_pos hq : 0 < q.2), (h q hq).1⟩
  have pb : 0 < b.2 ∧ ltF m b := by
    rcases List.mem_cons.mp hb with rfl | hb
    · exact ⟨by decide, h1⟩
    · obtain ⟨q, hq, rfl⟩ := List.mem_map.mp hb
      exact ⟨(pairs_pos hq : 0 < q.2), (h q hq).2⟩
  exact ltF_trans pa.1 hm pb.1 pa.2 pb.2
theorem floor_near (a s D : Int) (hD : 0 < D) : D * ((a + s) / D - a / D - 1) < s ∧ s < D * ((a + s) / D - a / D + 1) := by
  have e1 := Int.mul_ediv_add_emod (a + s) D
  have e2 := Int.mul_ediv_add_emod a D
  have m1 := Int.emod_nonneg (a + s) (show D ≠ 0 by omega)
  have m2 := Int.emod_nonneg a (show D ≠ 0 by omega)
  have m3 := Int.emod_lt_of_pos (a + s) hD
  have m4 := Int.emod_lt_of_pos a hD
  generalize (a + s) / D = x at *
  generalize a / D = y at *
  rw [Int.mul_sub, Int.mul_sub, Int.mul_add, Int.mul_sub]
  omega
theorem ticks_len (ph pe : Fr) (n : Nat) : (ticksF ph pe n).length = n := by simp [ticksF]
theorem ticks_getD {ph pe : Fr} {n i : Nat} (h : i < n) : (ticksF ph pe n).getD i 0 = (ph.1 * pe.2 + i * pe.1 * ph.2) / (ph.2 * pe.2) := by
  unfold ticksF
  rw [List.getD_eq_getElem?_getD, List.getElem?_map, List.getElem?_range h]
  rfl
theorem ticks_pair {ph pe : Fr} {n : Nat} (h1 : 0 < ph.2) (h2 : 0 < pe.2) {q : Int × Int} (hq : q ∈ pairsP (ticksF ph pe n)) : ltF (q.1 - 1, q.2) pe ∧ ltF pe (q.1 + 1, q.2) := by
  obtain ⟨i, k, hk, hl, rfl⟩ := mem_pairs.mp hq
  rw [ticks_len] at hl
  rw [ticks_getD hl, ticks_getD (show i < n by omega)]
  have D0 : 0 < ph.2 * pe.2 := Int.mul_pos h1 h2
  have e : ph.1 * pe.2 + ((i + k : Nat) : Int) * pe.1 * ph.2 = (ph.1 * pe.2 + (i : Int) * pe.1 * ph.2) + (k : Int) * pe.1 * ph.2 := by
    rw [show ((i + k : Nat) : Int) = (i : Int) + k by omega, Int.add_mul, Int.add_mul, Int.add_assoc]
  rw [e]
  obtain ⟨f1, f2⟩ := floor_near (ph.1 * pe.2 + (i : Int) * pe.1 * ph.2) ((k : Int) * pe.1 * ph.2) (ph.2 * pe.2) D0
  generalize (ph.1 * pe.2 + (i : Int) * pe.1 * ph.2 + (k : Int) * pe.1 * ph.2) / (ph.2 * pe.2) - (ph.1 * pe.2 + (i : Int) * pe.1 * ph.2) / (ph.2 * pe.2) = d at *
  unfold ltF
  dsimp only
  constructor
  · refine Int.lt_of_mul_lt_mul_right (a := ph.2) ?_ (by omega)
    calc (d - 1) * pe.2 * ph.2 = ph.2 * pe.2 * (d - 1) := by rw [Int.mul_assoc, Int.mul_comm, Int.mul_comm pe.2]
      _ < (k : Int) * pe.1 * ph.2 := f1
      _ = pe.1 * k * ph.2 := by rw [Int.mul_comm (k : Int)]
  · refine Int.lt_of_mul_lt_mul_right (a := ph.2) ?_ (by omega)
    calc pe.1 * k * ph.2 = (k : Int) * pe.1 * ph.2 := by rw [Int.mul_comm (k : Int)]
      _ < ph.2 * pe.2 * (d + 1) := f2
      _ = (d + 1) * pe.2 * ph.2 := by rw [Int.mul_assoc (d + 1), Int.mul_comm (d + 1), Int.mul_comm pe.2]
/-- steady beats can be steady -/
theorem steady_can {ph pe : Fr} (n : Nat) (h1 : 0 < ph.2) (h2 : 0 < pe.2) (h3 : 0 < pe.1) (h4 : pe.1 ≤ 9999 * pe.2) : agreeP (ticksF ph pe n) :=
  agree_mid h2 (by unfold ltF; dsimp only; omega) (by unfold ltF; dsimp only; omega) fun q hq => ticks_pair h1 h2 hq
theorem on_ph {d : D} {E : EK'} {G : GH} {k : Fr → Prop} {q : Fr} (h : phOf d = some q) : withPh d E G k = k q := by unfold withPh; rw [h]
theorem on_per {d : D} {E : EK'} {G : GH} {k : Fr → Prop} {q : Fr} (h : perOf d = some q) : withPer d E G k = k q := by unfold withPer; rw [h]
theorem on_num {i lo hi : Int} {x : Ex} {E : EK'} {G : GH} {k : Int → Prop} (h : lo ≤ i ∧ i ≤ hi) : withNum (.int i) lo hi x E G k = k i := if_pos h
@[simp] theorem fracAsk_ints {i j : Int} : fracAsk (.tup [.int i, .int j]) = True := by simp [fracAsk]
/-- of whole periods -/
theorem ticks_whole (a b : Int) (n : Nat) : ticksF (a, 1) (b, 1) n = (List.range n).map fun i : Nat => a + i * b := by
  unfold ticksF
  apply List.map_congr_left
  intro i _
  simp
theorem whole_row {a b : Int} {n : Nat} (hn : n ≤ 40) (ha : 0 ≤ a) (hb : 0 < b) (h : a + n * b ≤ 9999) : RowOk (ticksF (a, 1) (b, 1) n) := by
  rw [ticks_whole]
  refine ⟨by simpa using hn, fun x hx => ?_, ?_⟩
  · obtain ⟨i, hi, rfl⟩ := List.mem_map.mp hx
    rw [List.mem_range] at hi
    have : (i : Int) * b ≤ n * b := Int.mul_le_mul_of_nonneg_right (by omega) (by omega)
    have : 0 ≤ (i : Int) * b := Int.mul_nonneg (by omega) (by omega)
    omega
  · rw [List.pairwise_map]
    refine List.pairwise_lt_range.imp fun {i j} h => ?_
    have : (i : Int) * b < j * b := Int.mul_lt_mul_of_pos_right (by omega) hb
    omega
end DL

namespace DL
open PySem PySem.Spec PyProof.Rows L2
/-! ### rates -/
def countF (ns : List Int) (s l : Int) : Fr × Fr := (shareF (max 0 ((cnt ns s l).length - 1)) l, shareF ((cnt ns s l).length + 1) l)
def timeO (some_ : List Int) : Option (Fr × Fr) := match some_ with
  | [] => none
  | a :: r => if r = [] ∨ r.getLastD a - a < 2 then none else some (shareF r.length (r.getLastD a - a + 1), shareF r.length (r.getLastD a - a - 1))
def timeF (ns : List Int) (s l : Int) : Option (Fr × Fr) := timeO (cnt ns s l)
def apartF (q : Fr × Fr) : Fr := (q.2.1 * q.1.2 - q.1.1 * q.2.2, q.1.2 * q.2.2)
def sharperF (ns : List Int) (s l : Int) : Str := match timeF ns s l with
  | none => "count"
  | some t => if (apartF t).1 * (apartF (countF ns s l)).2 < (apartF (countF ns s l)).1 * (apartF t).2 then "time" else "count"
/-! ### the simplest fraction between two -/
def upAt (low : Fr) (d : Int) : Int := low.1 * d / low.2 + 1
def simB (low high : Fr) (d : Int) : Bool := decide (upAt low d * high.2 < high.1 * d)
def simGo (low high : Fr) : Nat → Int → Fr
  | 0, d => (upAt low d, d)
  | n + 1, d => if simB low high d = true then (upAt low d, d) else simGo low high n (d + 1)
def simF (low high : Fr) : Fr := simGo low high (low.2 + high.2).toNat 1
/-- what is between is found at its down -/
theorem simB_at {low high q : Fr} (pl : 0 < low.2) (ph : 0 < high.2) (pq : 0 < q.2) (h1 : ltF low q) (h2 : ltF q high) : simB low high q.2 = true := by
  unfold simB upAt
  rw [decide_eq_true_iff]
  unfold ltF at h1 h2
  have h3 : low.1 * q.2 / low.2 < q.1 := Int.ediv_lt_of_lt_mul pl h1
  calc (low.1 * q.2 / low.2 + 1) * high.2 ≤ q.1 * high.2 := Int.mul_le_mul_of_nonneg_right (by omega) (by omega)
    _ < high.1 * q.2 := h2
theorem med_between {low high : Fr} (h : ltF low high) : ltF low (low.1 + high.1, low.2 + high.2) ∧ ltF (low.1 + high.1, low.2 + high.2) high := by
  unfold ltF at *
  dsimp only
  constructor
  · rw [Int.mul_add, Int.add_mul]
    omega
  · rw [Int.mul_add, Int.add_mul]
    omega
theorem simGo_spec {low high : Fr} : ∀ (n : Nat) (d : Int), (∃ k : Nat, k ≤ n ∧ simB low high (d + k) = true) → simB low high (simGo low high n d).2 = true ∧ (simGo low high n d).1 = upAt low (simGo low high n d).2 ∧ d ≤ (simGo low high n d).2 ∧ (simGo low high n d).2 ≤ d + n ∧ ∀ e, d ≤ e → e < (simGo low high n d).2 → simB low high e = false
  | 0, d, ⟨k, hk, h⟩ => by
    have : k = 0 := by omega
    subst this
    rw [show d + ((0 : Nat) : Int) = d by omega] at h
    exact ⟨h, rfl, Int.le_refl _, by show d ≤ d + ((0 : Nat) : Int); omega, fun e h1 h2 => by change e < d at h2; omega⟩
  | n + 1, d, ⟨k, hk, h⟩ => by
    unfold simGo
    by_cases c : simB low high d = true
    · rw [if_pos c]
      exact ⟨c, rfl, Int.le_refl _, by dsimp only; omega, fun e h1 h2 => by dsimp only at h2; omega⟩
    · rw [if_neg c]
      have k0 : k ≠ 0 := fun z => by subst z; rw [show d + ((0 : Nat) : Int) = d by omega] at h; exact c h
      obtain ⟨h1, h2, h3, h4, h5⟩ := simGo_spec n (d + 1) ⟨k - 1, by omega, by rw [show d + 1 + ((k - 1 : Nat) : Int) = d + k by omega]; exact h⟩
      refine ⟨h1, h2, by omega, by omega, fun e he1 he2 => ?_⟩
      by_cases z : e = d
      · subst z; simpa using c
      · exact h5 e (by omega) he2
structure IsSim (low high q : Fr) : Prop where
  pos : 1 ≤ q.2
  le : q.2 ≤ low.2 + high.2
  up : q.1 = upAt low q.2
  ok : simB low high q.2 = true
  least : ∀ e, 1 ≤ e → e < q.2 → simB low high e = false
theorem sim_spec {low high : Fr} (pl : 0 < low.2) (ph : 0 < high.2) (h : ltF low high) : IsSim low high (simF low high) := by
  have m := med_between h
  have hb := simB_at (q := (low.1 + high.1, low.2 + high.2)) pl ph (by dsimp only; omega) m.1 m.2
  have := simGo_spec (low := low) (high := high) (low.2 + high.2).toNat 1 ⟨(low.2 + high.2 - 1).toNat, by omega, by rw [show (1 : Int) + ((low.2 + high.2 - 1).toNat : Nat) = low.2 + high.2 by omega]; exact hb⟩
  obtain ⟨h1, h2, h3, h4, h5⟩ := this
  refine ⟨h3, ?_, h2, h1, h5⟩
  apply Classical.byContradiction
  intro z
  have := h5 (low.2 + high.2) (by omega) (by unfold simF at z; omega)
  rw [hb] at this
  cases this
theorem sim_uniq {low high a b : Fr} (ha : IsSim low high a) (hb : IsSim low high b) : a = b := by
  have e : a.2 = b.2 := by
    rcases Int.lt_trichotomy a.2 b.2 with h | h | h
    · have := hb.least _ ha.pos h; rw [ha.ok] at this; cases this
    · exact h
    · have := ha.least _ hb.pos h; rw [hb.ok] at this; cases this
  exact Prod.ext (by rw [ha.up, hb.up, e]) e
/-- the simplest is between -/
theorem sim_between {low high q : Fr} (pl : 0 < low.2) (h : IsSim low high q) : ltF low q ∧ ltF q high := by
  have h1 := h.ok
  unfold simB at h1
  rw [decide_eq_true_iff, ← h.up] at h1
  refine ⟨?_, h1⟩
  unfold ltF
  rw [h.up]
  unfold upAt
  have := Int.lt_mul_ediv_self_add (x := low.1 * q.2) (k := low.2) pl
  rw [Int.mul_comm (low.1 * q.2 / low.2 + 1), Int.mul_add, Int.mul_one]
  exact this
def simO (ns : List Int) : Option Fr := (bndF ns).map fun q => simF q.1 q.2
def ofrD : Option Fr → D
  | none => .non
  | some q => pairD q
/-! ### promises -/
section
variable {p : Pm} {G : GH} {Q : QE} {E : EK'} {d s l : D} {i j lo hi : Int}
def sp_by_count (p : Pm) : Sp' := sp3 fun r s l G Q E => rowAsk r ∧ plain s = true ∧ plain l = true ∧ withRow r E G fun ns => withGate s l E G fun a b => Q (bndD (some (countF ns a b))) G
@[simp] theorem at_by_count : sp_by_count p [d, s, l] G Q E = (rowAsk d ∧ plain s = true ∧ plain l = true ∧ withRow d E G fun ns => withGate s l E G fun a b => Q (bndD (some (countF ns a b))) G) := by simp [sp_by_count]
def sp_by_time (p : Pm) : Sp' := sp3 fun r s l G Q E => rowAsk r ∧ plain s = true ∧ plain l = true ∧ withRow r E G fun ns => withGate s l E G fun a b => Q (bndD (timeF ns a b)) G
@[simp] theorem at_by_time : sp_by_time p [d, s, l] G Q E = (rowAsk d ∧ plain s = true ∧ plain l = true ∧ withRow d E G fun ns => withGate s l E G fun a b => Q (bndD (timeF ns a b)) G) := by simp [sp_by_time]
def sp_time_of (p : Pm) : Sp' := sp3 fun r s l G Q E => ∃ (ns : List Int) (a b : Int), r = .tup (ns.map D.int) ∧ s = .int a ∧ l = .int b ∧ RowOk ns ∧ (0 ≤ a ∧ a ≤ 9999) ∧ (1 ≤ b ∧ b ≤ 9999) ∧ Q (bndD (timeF ns a b)) G
@[simp] theorem at_time_of {ns : List Int} : sp_time_of p [.tup (ns.map D.int), .int i, .int j] G Q E = (RowOk ns ∧ (0 ≤ i ∧ i ≤ 9999) ∧ (1 ≤ j ∧ j ≤ 9999) ∧ Q (bndD (timeF ns i j)) G) := by
  simp only [sp_time_of, sp3]
  refine propext ⟨fun ⟨x, y, n, e, e2, e3, h⟩ => ?_, fun h => ⟨ns, i, j, rfl, rfl, rfl, h⟩⟩
  rw [ints_inj (D.tup.inj e), D.int.inj e2, D.int.inj e3]; exact h
def sp_simplest_between (p : Pm) : Sp' := sp2 fun x y G Q E => ∃ a b : Fr, x = pairD a ∧ y = pairD b ∧ SmF a ∧ SmF b ∧ (0 < a.2 ∧ a.2 ≤ 1000) ∧ (0 < b.2 ∧ b.2 ≤ 1000) ∧ ltF a b ∧ Q (pairD (simF a b)) G
@[simp] theorem at_simplest_between {a b : Fr} : sp_simplest_between p [pairD a, pairD b] G Q E = (SmF a ∧ SmF b ∧ (0 < a.2 ∧ a.2 ≤ 1000) ∧ (0 < b.2 ∧ b.2 ≤ 1000) ∧ ltF a b ∧ Q (pairD (simF a b)) G) := by
  simp only [sp_simplest_between, sp2]
  refine propext ⟨fun ⟨x, y, e, e2, h⟩ => ?_, fun h => ⟨a, b, rfl, rfl, h⟩⟩
  rw [pair_inj _ _ e, pair_inj _ _ e2]; exact h
def sp_simplest_of (p : Pm) : Sp' := spRow fun ns G Q => Q (ofrD (simO ns)) G
@[simp] theorem at_simplest_of {ns : List Int} : sp_simplest_of p [.tup (ns.map D.int)] G Q E = (RowOk ns ∧ Q (ofrD (simO ns)) G) := at_spRow
def sp_simplest (p : Pm) : Sp' := sp1 fun r G Q E => rowAsk r ∧ withRow r E G fun ns => Q (ofrD (simO ns)) G
@[simp] theorem at_simplest : sp_simplest p [d] G Q E = (rowAsk d ∧ withRow d E G fun ns => Q (ofrD (simO ns)) G) := by simp [sp_simplest]
end
end DL

namespace DL
open PySem PySem.Spec PyProof.Rows L2
section
variable {p : Pm} {G : GH} {Q : QE} {E : EK'} {d s l : D} {i j lo hi : Int}
def pairsD (q : Fr × Fr) : D := .tup [pairD q.1, pairD q.2]
theorem pairsD_inj {a b : Fr × Fr} (h : pairsD a = pairsD b) : a = b := by
  have := D.tup.inj h
  have h1 := pair_inj _ _ (List.cons.inj this).1
  have h2 := pair_inj _ _ (List.cons.inj (List.cons.inj this).2).1
  exact Prod.ext h1 h2
def SmG (q : Fr) : Prop := -20000 ≤ q.1 ∧ q.1 ≤ 20000 ∧ -20000 ≤ q.2 ∧ q.2 ≤ 20000
def SmF2 (q : Fr × Fr) : Prop := SmG q.1 ∧ SmG q.2
def sp_apart (p : Pm) : Sp' := sp1 fun x G Q E => ∃ q : Fr × Fr, x = pairsD q ∧ SmF2 q ∧ Q (pairD (apartF q)) G
@[simp] theorem at_apart {q : Fr × Fr} : sp_apart p [pairsD q] G Q E = (SmF2 q ∧ Q (pairD (apartF q)) G) := by
  simp only [sp_apart, sp1]
  refine propext ⟨fun ⟨x, e, h⟩ => ?_, fun h => ⟨q, rfl, h⟩⟩
  rw [pairsD_inj e]; exact h
def sp_sharper (p : Pm) : Sp' := sp3 fun r s l G Q E => rowAsk r ∧ plain s = true ∧ plain l = true ∧ withRow r E G fun ns => withGate s l E G fun a b => Q (.str (sharperF ns a b)) G
@[simp] theorem at_sharper : sp_sharper p [d, s, l] G Q E = (rowAsk d ∧ plain s = true ∧ plain l = true ∧ withRow d E G fun ns => withGate s l E G fun a b => Q (.str (sharperF ns a b)) G) := by simp [sp_sharper]
def sp__law_due (p : Pm) : Sp' := sp3 fun r s l G Q E => ∃ (ns : List Int) (a b : Int), r = .tup (ns.map D.int) ∧ s = .int a ∧ l = .int b ∧ RowOk ns ∧ (0 ≤ a ∧ a ≤ 9999) ∧ (1 ≤ b ∧ b ≤ 9999) ∧ Q (.tup [pairsD (countF ns a b), bndD (timeF ns a b)]) G
@[simp] theorem at_ldue {ns : List Int} : sp__law_due p [.tup (ns.map D.int), .int i, .int j] G Q E = (RowOk ns ∧ (0 ≤ i ∧ i ≤ 9999) ∧ (1 ≤ j ∧ j ≤ 9999) ∧ Q (.tup [pairsD (countF ns i j), bndD (timeF ns i j)]) G) := by
  simp only [sp__law_due, sp3]
  refine propext ⟨fun ⟨x, y, n, e, e2, e3, h⟩ => ?_, fun h => ⟨ns, i, j, rfl, rfl, rfl, h⟩⟩
  rw [ints_inj (D.tup.inj e), D.int.inj e2, D.int.inj e3]; exact h
def sp__law_apart (p : Pm) : Sp' := sp1 fun x G Q E => ∃ q : Fr × Fr, x = pairsD q ∧ SmF2 q ∧ (0 < q.1.2 ∧ 0 < q.2.2) ∧ Q (pairD (shareF (apartF q).1 (apartF q).2)) G
@[simp] theorem at_lapart {q : Fr × Fr} : sp__law_apart p [pairsD q] G Q E = (SmF2 q ∧ (0 < q.1.2 ∧ 0 < q.2.2) ∧ Q (pairD (shareF (apartF q).1 (apartF q).2)) G) := by
  simp only [sp__law_apart, sp1]
  refine propext ⟨fun ⟨x, e, h⟩ => ?_, fun h => ⟨q, rfl, h⟩⟩
  rw [pairsD_inj e]; exact h
end
end DL

namespace DL
open PySem PySem.Spec PyProof.Rows L2
def t_is_less (p : Pm) (W : WX') : TS' :=
    (tRet' (tOp' (rCmp' fun i j => decide (i < j)) (tOp' (rMul' false) (tOp' (rIx' p) (tVar' 0) (tC' (.int 0))) (tOp' (rIx' p) (tVar' 1) (tC' (.int 1)))) (tOp' (rMul' false) (tOp' (rIx' p) (tVar' 1) (tC' (.int 0))) (tOp' (rIx' p) (tVar' 0) (tC' (.int 1))))))

def t_bounds_of (p : Pm) (W : WX') : TS' :=
    (tSeq' (tPar' 1 2 (tCons' (tTup' (tCons' (tC' (.int 0)) (tCons' (tC' (.int 1)) tNil'))) (tCons' (tTup' (tCons' (tOp' (rAdd' false) (tC' (.int 9999)) (tC' (.int 2))) (tCons' (tC' (.int 1)) tNil'))) tNil')))
    (tSeq' (tFor' (iEnum' (tCons' (tVar' 0) tNil')) (gTup' 2 (gCons' (gName' 3) (gCons' (gName' 4) gNil'))) (tFor' (iEnum' (tCons' (tSl' (rSl' false) (tVar' 0) (tPart' (tOp' (rAdd' false) (tVar' 3) (tC' (.int 1)))) tNo') tNil')) (gTup' 2 (gCons' (gName' 5) (gCons' (gName' 6) gNil'))) (tSeq' (tPar' 7 8 (tCons' (tCall' 2 (sp_share p) W (tCons' (tOp' (rI' (fun _ _ => True) fun i j => .int (i - j)) (tOp' (rI' (fun _ _ => True) fun i j => .int (i - j)) (tVar' 6) (tVar' 4)) (tC' (.int 1))) (tCons' (tOp' (rAdd' false) (tVar' 5) (tC' (.int 1))) tNil'))) (tCons' (tCall' 2 (sp_share p) W (tCons' (tOp' (rAdd' false) (tOp' (rI' (fun _ _ => True) fun i j => .int (i - j)) (tVar' 6) (tVar' 4)) (tC' (.int 1))) (tCons' (tOp' (rAdd' false) (tVar' 5) (tC' (.int 1))) tNil'))) tNil')))
    (tSeq' (tAsg' (tIf' (tTest' (tCall' 2 (sp_is_less p) W (tCons' (tVar' 1) (tCons' (tVar' 7) tNil')))) (tVar' 7) (tVar' 1)) (gName' 1))
    (tAsg' (tIf' (tTest' (tCall' 2 (sp_is_less p) W (tCons' (tVar' 8) (tCons' (tVar' 2) tNil')))) (tVar' 8) (tVar' 2)) (gName' 2))))))
    (tRet' (tIf' (tAnd' (tTest' (tOp' (rCmp' fun i j => decide (j < i)) (tCB' (rLen' p) (tCons' (tVar' 0) tNil')) (tC' (.int 1)))) (tTest' (tCall' 2 (sp_is_less p) W (tCons' (tVar' 1) (tCons' (tVar' 2) tNil'))))) (tTup' (tCons' (tVar' 1) (tCons' (tVar' 2) tNil'))) (tC' .non)))))

def t_can_be (p : Pm) (W : WX') : TS' :=
    (tRet' (tOrV' (tOp' (rCmp' fun i j => decide (i < j)) (tCB' (rLen' p) (tCons' (tVar' 0) tNil')) (tC' (.int 2))) (tOp' (rIsN' true) (tCall' 1 (sp_bounds_of p) W (tCons' (tVar' 0) tNil')) (tC' .non))))

def t_far_from (p : Pm) (W : WX') : TS' :=
    (tSeq' (tAsg' (tC' (.int 1)) (gName' 2))
    (tSeq' (tWhile' (tAnd' (tTest' (tOp' (rCmp' fun i j => decide (i < j)) (tOp' (rAdd' false) (tVar' 1) (tVar' 2)) (tCB' (rLen' p) (tCons' (tVar' 0) tNil')))) (tTest' (tCall' 1 (sp_can_be p) W (tCons' (tSl' (rSl' false) (tVar' 0) (tPart' (tVar' 1)) (tPart' (tOp' (rAdd' false) (tOp' (rAdd' false) (tVar' 1) (tVar' 2)) (tC' (.int 1))))) tNil')))) (tAsg' (tOp' (rAdd' false) (tVar' 2) (tC' (.int 1))) (gName' 2)))
    (tRet' (tVar' 2))))

def t_longest_steady (p : Pm) (W : WX') : TS' :=
    (tSeq' (tDrop' (tCall' 1 (sp_look_row p) W (tCons' (tVar' 0) tNil')))
    (tSeq' (tAsg' (tC' .non) (gName' 1))
    (tSeq' (tFor' (iRng1' (tCons' (tCB' (rLen' p) (tCons' (tVar' 0) tNil')) tNil')) (gName' 2) (tSeq' (tAsg' (tCall' 2 (sp_far_from p) W (tCons' (tVar' 0) (tCons' (tVar' 2) tNil'))) (gName' 3))
    (tIfS' (tOr' (tTest' (tOp' (rIsN' false) (tVar' 1) (tC' .non))) (tTest' (tOp' (rCmp' fun i j => decide (j < i)) (tVar' 3) (tOp' (rIx' p) (tVar' 1) (tC' (.int 1)))))) (tAsg' (tTup' (tCons' (tVar' 2) (tCons' (tVar' 3) tNil'))) (gName' 1)) tNext')))
    (tRet' (tVar' 1)))))

def t_steady_parts (p : Pm) (W : WX') : TS' :=
    (tSeqF' (tDrop' (tCall' 1 (sp_look_row p) W (tCons' (tVar' 0) tNil')))
    (tSeqF' (tAsg' (tLst' true tNil') (gName' 1))
    (tSeqF' (tAsg' (tC' (.int 0)) (gName' 2))
    (tSeqF' (tWhile' (tTest' (tOp' (rCmp' fun i j => decide (i < j)) (tVar' 2) (tCB' (rLen' p) (tCons' (tVar' 0) tNil')))) (tSeqF' (tDrop' (tMut' rAppend' (tVar' 1) (tCons' (tCall' 2 (sp_far_from p) W (tCons' (tVar' 0) (tCons' (tVar' 2) tNil'))) tNil')))
    (tAsg' (tOp' (rAdd' false) (tVar' 2) (tOp' (rIx' p) (tVar' 1) (tNeg' (tC' (.int 1))))) (gName' 2))))
    (tRet' (tVar' 1))))))

def t_strays (p : Pm) (W : WX') : TS' :=
    (tSeq' (tDrop' (tCall' 1 (sp_look_row p) W (tCons' (tVar' 0) tNil')))
    (tSeq' (tIfS' (tTest' (tCall' 1 (sp_can_be p) W (tCons' (tVar' 0) tNil'))) (tRet' (tLst' false tNil')) tNext')
    (tRet' (tLc' false (iRng1' (tCons' (tCB' (rLen' p) (tCons' (tVar' 0) tNil')) tNil')) (gName' 1) (tTest' (tCall' 1 (sp_can_be p) Wno (tCons' (tOp' (rAdd' false) (tSl' (rSl' false) (tVar' 0) tNo' (tPart' (tVar' 1))) (tSl' (rSl' false) (tVar' 0) (tPart' (tOp' (rAdd' false) (tVar' 1) (tC' (.int 1)))) tNo')) tNil'))) (tVar' 1) [1]))))

end DL

namespace DL
open PySem PySem.Spec PyProof.Rows L2
theorem pure_is_less (p : Pm) (x y : D) : Pure (t_is_less p) (sp_is_less p) 2 [x, y] := fun G Q E h => by
  simp only [sp_is_less, sp2] at h
  obtain ⟨a, b, rfl, rfl, h1, h2, q⟩ := h
  unfold SmF at h1 h2
  simp [t_is_less, start']
  refine ⟨.inl (by omega), .inl (by omega), ?_⟩
  exact fz q
theorem share_small {u d : Int} (hu : -1000000000 ≤ u ∧ u ≤ 1000000000) (hd : 0 < d ∧ d < 1073741824) : SmF (shareF u d) := by
  have hg := gcdF_pos u hd.1
  obtain ⟨a, ha⟩ := gcdF_dvd_up u d
  obtain ⟨b, hb⟩ := gcdF_dvd_down u d
  unfold SmF shareF
  generalize gcdF u d = g at *
  have e1 : u / g = a := by rw [ha]; exact Int.mul_ediv_cancel_left a (by omega)
  have e2 : d / g = b := by rw [hb]; exact Int.mul_ediv_cancel_left b (by omega)
  dsimp only
  rw [e1, e2]
  have k1 : a.natAbs ≤ u.natAbs := by
    rw [ha, Int.natAbs_mul]
    exact Nat.le_mul_of_pos_left _ (by omega)
  have k2 : b.natAbs ≤ d.natAbs := by
    rw [hb, Int.natAbs_mul]
    exact Nat.le_mul_of_pos_left _ (by omega)
  omega
def PairOk (q : Int × Int) : Prop := -20000 ≤ q.1 ∧ q.1 ≤ 20000 ∧ 1 ≤ q.2 ∧ q.2 ≤ 100
theorem low_small {l : List (Int × Int)} (h : ∀ q ∈ l, PairOk q) : SmF (lowS l) := by
  have := upF_spec (l.map fun q => shareF (q.1 - 1) q.2) (0, 1) (by decide) (fun q hq => by
    obtain ⟨x, hx, rfl⟩ := List.mem_map.mp hq
    have := h x hx
    exact share_pos _ (by unfold PairOk at this; omega))
  rcases this.2.1 with e | e
  · unfold lowS; rw [e]; unfold SmF; simp
  · obtain ⟨x, hx, e⟩ := List.mem_map.mp e
    unfold lowS
    rw [← e]
    have := h x hx
    unfold PairOk at this
    exact share_small (by omega) (by omega)
theorem high_small {l : List (Int × Int)} (h : ∀ q ∈ l, PairOk q) : SmF (highS l) := by
  have := dnF_spec (l.map fun q => shareF (q.1 + 1) q.2) (10001, 1) (by decide) (fun q hq => by
    obtain ⟨x, hx, rfl⟩ := List.mem_map.mp hq
    have := h x hx
    exact share_pos _ (by unfold PairOk at this; omega))
  rcases this.2.1 with e | e
  · unfold highS; rw [e]; unfold SmF; simp
  · obtain ⟨x, hx, e⟩ := List.mem_map.mp e
    unfold highS
    rw [← e]
    have := h x hx
    unfold PairOk at this
    exact share_small (by omega) (by omega)
theorem getD_range {ns : List Int} (h : RowOk ns) {i : Nat} (hi : i < ns.length) : 0 ≤ ns.getD i 0 ∧ ns.getD i 0 ≤ 9999 := by
  rw [List.getD_eq_getElem?_getD, List.getElem?_eq_getElem hi]
  exact h.2.1 _ (List.getElem_mem hi)
theorem pair_ok {ns : List Int} (h : RowOk ns) {q : Int × Int} (hq : q ∈ pairsP ns) : PairOk q := by
  obtain ⟨i, k, h1, h2, rfl⟩ := mem_pairs.mp hq
  have a := getD_range h h2
  have b := getD_range h (show i < ns.length by omega)
  have := h.1
  unfold PairOk
  dsimp only
  omega
def enI (a : List Int) : List (Int × Int) := a.mapIdx fun i x => ((i : Int), x)
theorem en_ints (a : List Int) : enumD (a.map D.int) = (enI a).map pairD := by
  unfold enumD enI
  apply List.ext_getElem?
  intro i
  rw [List.getElem?_mapIdx, List.getElem?_map, List.getElem?_map, List.getElem?_mapIdx]
  cases a[i]? <;> rfl
theorem en_get {a : List Int} {i : Nat} {q : Int × Int} (h : (enI a)[i]? = some q) : i < a.length ∧ q = ((i : Int), a.getD i 0) := by
  unfold enI at h
  rw [List.getElem?_mapIdx] at h
  cases e : a[i]? with
  | none => rw [e] at h; cases h
  | some x =>
    rw [e] at h
    have := (List.getElem?_eq_some_iff.mp e).1
    refine ⟨this, ?_⟩
    rw [List.getD_eq_getElem?_getD, e]
    exact (Option.some.inj h).symm
theorem en_len (a : List Int) : (enI a).length = a.length := by unfold enI; simp
theorem pre_succ (ns : List Int) (i : Nat) : preP ns (i + 1) = preP ns i ++ innP ns i := by unfold preP; rw [List.range_succ, List.flatMap_append]; simp
theorem pre_mem {ns : List Int} {i : Nat} (hi : i ≤ ns.length) {q : Int × Int} (hq : q ∈ preP ns i) : q ∈ pairsP ns := by
  unfold preP at hq
  unfold pairsP preP
  obtain ⟨j, hj, h⟩ := List.mem_flatMap.mp hq
  rw [List.mem_range] at hj
  exact List.mem_flatMap.mpr ⟨j, List.mem_range.mpr (by omega), h⟩
theorem inn_mem {ns : List Int} {i : Nat} (hi : i < ns.length) {q : Int × Int} (hq : q ∈ innP ns i) : q ∈ pairsP ns := by
  unfold pairsP preP
  exact List.mem_flatMap.mpr ⟨i, List.mem_range.mpr hi, hq⟩
theorem low_snoc (l : List (Int × Int)) (q : Int × Int) : lowS (l ++ [q]) = if lessF (lowS l) (shareF (q.1 - 1) q.2) = true then shareF (q.1 - 1) q.2 else lowS l := by
  unfold lowS upF
  rw [List.map_append, List.foldl_append]
  rfl
theorem high_snoc (l : List (Int × Int)) (q : Int × Int) : highS (l ++ [q]) = if lessF (shareF (q.1 + 1) q.2) (highS l) = true then shareF (q.1 + 1) q.2 else highS l := by
  unfold highS dnF
  rw [List.map_append, List.foldl_append]
  rfl
theorem pure_bounds_of (p : Pm) (r : D) : Pure (t_bounds_of p) (sp_bounds_of p) 9 [r] := fun G Q E h => by
  simp only [sp_bounds_of, spRow, sp1] at h
  obtain ⟨ns, rfl, ok, q⟩ := h
  have la := ok.1
  have big := line_big
  refine seqN fun N hN => ?_
  simp [start']
  refine hN _ _ (seqN fun N hN => ?_)
  refine for_at (f := pairD) (enI ns) (fun i σ G' => G' = G ∧ ∃ o3 o4 o5 o6 o7 o8, σ = [some (.tup (ns.map D.int)), some (pairD (lowS (preP ns i))), some (pairD (highS (preP ns i))), o3, o4, o5, o6, o7, o8]) (G1 := G) (fun R r => by simp; rw [en_ints]; exact r) ⟨rfl, none, none, none, none, none, none, rfl⟩ ?_ ?_
  · rintro i x σ G' hx ⟨rfl, o3, o4, o5, o6, o7, o8, rfl⟩
    obtain ⟨hi, rfl⟩ := en_get hx
    simp
    have hd : (ns.map D.int).drop (i + 1) = (ns.drop (i + 1)).map D.int := by rw [List.map_drop]
    have hcut : cutD (ns.map D.int) (some ((i : Int) + 1)) none = (ns.drop (i + 1)).map D.int := by
      have := cut_from (ns.map D.int) (i + 1)
      rw [hd] at this
      exact this
    refine for_at (f := pairD) (enI (ns.drop (i + 1))) (fun j σ G2 => G2 = G' ∧ ∃ o5 o6 o7 o8, σ = [some (.tup (ns.map D.int)), some (pairD (lowS (preP ns i ++ (innP ns i).take j))), some (pairD (highS (preP ns i ++ (innP ns i).take j))), some (.int i), some (.int (ns.getD i 0)), o5, o6, o7, o8]) (G1 := G') (fun R r => ?_) ⟨rfl, o5, o6, o7, o8, by simp⟩ ?_ ?_
    · simp
      rw [hcut, en_ints]
      exact r
    · rintro j x σ G2 hx2 ⟨rfl, o5, o6, o7, o8, rfl⟩
      obtain ⟨hj, rfl⟩ := en_get hx2
      rw [List.length_drop] at hj
      have eg : (ns.drop (i + 1)).getD j 0 = ns.getD (i + 1 + j) 0 := by rw [List.getD_eq_getElem?_getD, List.getElem?_drop, List.getD_eq_getElem?_getD]
      have eq : (innP ns i)[j]? = some (ns.getD (i + 1 + j) 0 - ns.getD i 0, (j : Int) + 1) := by
        unfold innP
        rw [List.getElem?_mapIdx, List.getElem?_drop, List.getElem?_eq_getElem (by omega), List.getD_eq_getElem?_getD (l := ns) (i := i + 1 + j), List.getElem?_eq_getElem (by omega)]
        rfl
      have st : (innP ns i).take (j + 1) = (innP ns i).take j ++ [(ns.getD (i + 1 + j) 0 - ns.getD i 0, (j : Int) + 1)] := by rw [List.take_add_one, eq]; rfl
      have sm : ∀ q ∈ preP ns i ++ (innP ns i).take j, PairOk q := fun q hq => by
        rcases List.mem_append.mp hq with hq | hq
        · exact pair_ok ok (pre_mem (by omega) hq)
        · exact pair_ok ok (inn_mem hi (List.mem_of_mem_take hq))
      rw [st, eg, ← List.append_assoc]
      have s1 := low_small sm
      have s2 := high_small sm
      have r1 := getD_range ok hi
      have r2 := getD_range ok (show i + 1 + j < ns.length by omega)
      have e1 := low_snoc (preP ns i ++ (innP ns i).take j) (ns.getD (i + 1 + j) 0 - ns.getD i 0, (j : Int) + 1)
      have e2 := high_snoc (preP ns i ++ (innP ns i).take j) (ns.getD (i + 1 + j) 0 - ns.getD i 0, (j : Int) + 1)
      rw [e1, e2]
      generalize lowS (preP ns i ++ (innP ns i).take j) = lo at *
      generalize highS (preP ns i ++ (innP ns i).take j) = hi' at *
      generalize ns.getD (i + 1 + j) 0 = y at *
      generalize ns.getD i 0 = x at *
      have t1 : SmF (shareF (y - x - 1) (j + 1)) := share_small (by omega) (by omega)
      have t2 : SmF (shareF (y - x + 1) (j + 1)) := share_small (by omega) (by omega)
      simp
      refine seqN fun N hN => ?_
      simp
      refine ⟨by omega, hN _ _ (seqN fun N hN => ?_)⟩
      simp [s1, s2, t1, t2]
      have step : ∀ lo2 : Fr, lo2 = (if lessF lo (shareF (y - x - 1) (j + 1)) = true then shareF (y - x - 1) (j + 1) else lo) → SmF lo2 → N [some (D.tup (List.map D.int ns)), some (pairD lo2), some (pairD hi'), some (D.int i), some (D.int x), some (D.int j), some (D.int y), some (pairD (shareF (y - x - 1) (j + 1))), some (pairD (shareF (y - x + 1) (j + 1)))] G2 := by
        intro lo2 el sl
        refine hN _ _ ?_
        simp [s1, s2, t1, t2]
        rw [← el]
        cases c : lessF (shareF (y - x + 1) (j + 1)) hi' with
        | true => exact .inr ⟨rfl, by simp⟩
        | false => exact .inl ⟨rfl, by simp⟩
      cases c : lessF lo (shareF (y - x - 1) (j + 1)) with
      | true => exact .inr ⟨rfl, step _ (by rw [c]; rfl) t1⟩
      | false => exact .inl ⟨rfl, step _ (by rw [c]; rfl) s1⟩
    · rintro σ G2 ⟨rfl, o5, o6, o7, o8, rfl⟩
      have : (innP ns i).take (enI (ns.drop (i + 1))).length = innP ns i := List.take_of_length_le (by unfold innP; simp [en_len])
      rw [this, ← pre_succ]
      exact ⟨rfl, _, _, o5, o6, o7, o8, rfl⟩
  · rintro σ G' ⟨rfl, o3, o4, o5, o6, o7, o8, rfl⟩
    rw [en_len]
    refine hN _ _ ?_
    rw [show preP ns ns.length = pairsP ns from rfl]
    have s1 := low_small fun q hq => pair_ok ok hq
    have s2 := high_small fun q hq => pair_ok ok hq
    unfold bndF at q
    simp [s1, s2]
    by_cases c1 : ns.length > 1
    · refine .inr ⟨by omega, ?_⟩
      cases c2 : lessF (lowS (pairsP ns)) (highS (pairsP ns)) with
      | true =>
        rw [if_pos ⟨c1, c2⟩] at q
        exact .inr ⟨rfl, fz q⟩
      | false =>
        rw [if_neg fun z => by rw [c2] at z; simp at z] at q
        exact .inl ⟨rfl, fz q⟩
    · rw [if_neg fun z => c1 z.1] at q
      exact .inl ⟨by omega, fz q⟩
theorem pure_can_be (p : Pm) (r : D) : Pure (t_can_be p) (sp_can_be p) 1 [r] := fun G Q E h => by
  simp only [sp_can_be, spRow, sp1] at h
  obtain ⟨ns, rfl, ok, q⟩ := h
  rw [← can_bnd] at q
  simp [t_can_be, start', ok]
  by_cases c : ns.length < 2
  · refine .inr ⟨by omega, ?_⟩
    simp [c] at q
    exact fz q
  · refine .inl ⟨by omega, ?_⟩
    simp [c] at q
    cases e : bndF ns with
    | none => rw [e] at q; simp [bndD]; exact fz q
    | some b => rw [e] at q; simp [bndD]; exact fz q
theorem cut_seg (ns : List Int) (f m : Nat) (h : f ≤ ns.length) : cutD (ns.map D.int) (some (f : Int)) (some ((f : Int) + m + 1)) = (seg ns f (m + 1)).map D.int := by
  have := cut_mid (ns.map D.int) f (f + m + 1) (by simpa using h)
  rw [show ((f : Int) + m + 1) = ((f + m + 1 : Nat) : Int) by omega, this]
  unfold seg
  rw [← List.map_drop, ← List.map_take, show f + m + 1 - f = m + 1 by omega]
theorem pure_far_from (p : Pm) (r f : D) : Pure (t_far_from p) (sp_far_from p) 3 [r, f] := fun G Q E h => by
  simp only [sp_far_from, sp2] at h
  obtain ⟨ns, i, rfl, rfl, ok, hi, q⟩ := h
  have big := line_big
  refine seqN fun N hN => ?_
  simp [start']
  refine hN _ _ (seqN fun N hN => ?_)
  refine ⟨fun k σ G' => G' = G ∧ ∃ m : Nat, k = ns.length - m ∧ 1 ≤ m ∧ i + m ≤ ns.length ∧ canB (seg ns i m) = true ∧ σ = [some (.tup (ns.map D.int)), some (.int i), some (.int m)], ⟨_, rfl, 1, rfl, by omega, by omega, can_one ns i, rfl⟩, ?_⟩
  rintro k σ G' ⟨rfl, m, rfl, h1, h2, hc, rfl⟩
  simp
  rw [cut_seg ns i m (by omega)]
  simp [seg_row ok]
  by_cases c1 : i + m < ns.length
  · refine .inr ⟨by omega, ?_⟩
    cases c2 : canB (seg ns i (m + 1)) with
    | true => exact .inr ⟨rfl, ns.length - (m + 1), by omega, m + 1, rfl, by omega, by omega, c2, by simp⟩
    | false =>
      refine .inl ⟨rfl, hN _ _ ?_⟩
      have e := far_uniq (far_spec hi) ⟨h1, h2, hc, fun _ => c2⟩
      simp
      rw [← e]
      exact fz q
  · refine .inl ⟨by omega, hN _ _ ?_⟩
    have e := far_uniq (far_spec hi) ⟨h1, h2, hc, fun z => (c1 z).elim⟩
    simp
    rw [← e]
    exact fz q
theorem pure_longest_steady (p : Pm) (r : D) : Pure (t_longest_steady p) (sp_longest_steady p) 4 [r] := fun G Q E h => by
  simp only [sp_longest_steady, sp1] at h
  obtain ⟨hd, q⟩ := h
  have big := line_big
  refine seqN fun N hN => ?_
  simp [start', hd]
  refine wr_step q fun ns e1 ok q1 => hN _ _ (seqN fun N hN => ?_)
  subst e1
  have la := ok.1
  simp
  refine hN _ _ (seqN fun N hN => ?_)
  refine for_at (f := natD) (List.range ns.length) (fun i σ G' => G' = G ∧ ∃ o2 o3, σ = [some (.tup (ns.map D.int)), some (onatsD ((List.range i).foldl (bestGo ns) none)), o2, o3]) (G1 := G) (fun R r => by simp; (simp [rangeD]; exact ⟨by omega, r⟩)) ⟨rfl, none, none, rfl⟩ ?_ ?_
  · rintro i x σ G' hx ⟨rfl, o2, o3, rfl⟩
    obtain ⟨hx1, hx2⟩ := List.getElem?_eq_some_iff.mp hx
    simp at hx1 hx2
    subst hx2
    rw [List.range_succ, List.foldl_append]
    simp only [List.foldl_cons, List.foldl_nil]
    generalize (List.range i).foldl (bestGo ns) none = best
    simp [natD]
    refine seqN fun N hN => ?_
    simp [ok]
    refine ⟨hx1, hN _ _ ?_⟩
    cases best with
    | none => simp [onatsD, bestGo, natsD]
    | some gm =>
      obtain ⟨g, m⟩ := gm
      simp [onatsD, bestGo, natsD]
      refine ⟨.int m, rfl, ?_⟩
      by_cases c : m < farF ns i
      · simp [c]
      · simp [c]
  · rintro σ G' ⟨rfl, o2, o3, rfl⟩
    refine hN _ _ ?_
    simp
    exact fz (by simpa [longF] using q1)
theorem parts_len (ns : List Int) : ∀ (n f : Nat), (partsGo ns n f).length ≤ n
  | 0, f => by simp [partsGo]
  | n + 1, f => by
    unfold partsGo
    by_cases c : f < ns.length
    · rw [if_pos c, List.length_cons]
      have := parts_len ns n (f + farF ns f)
      omega
    · rw [if_neg c]; simp
theorem pure_steady_parts (p : Pm) (r : D) : Pure (t_steady_parts p) (sp_steady_parts p) 3 [r] := fun G Q E h => by
  simp only [sp_steady_parts, sp1] at h
  obtain ⟨hd, q⟩ := h
  have big := line_big
  refine seqF fun N hN hF => ?_
  simp [start', hd]
  refine wr_step q fun ns e1 ok q1 => hN _ _ (seqF fun N hN hF => ?_)
  subst e1
  have la := ok.1
  simp
  intro a ha
  refine hN _ _ (seqF fun N hN hF => ?_)
  simp
  refine hN _ _ (seqF fun N hN hF => ?_)
  refine ⟨fun k σ G' => ∃ (n f : Nat) (made : List Nat), k = ns.length - f ∧ made.length ≤ f ∧ f ≤ ns.length ∧ ns.length ≤ f + n ∧ partsF ns = made ++ partsGo ns n f ∧ G' = gup G a (.lst (made.map natD)) ∧ σ = [some (.tup (ns.map D.int)), some (.ref a), some (.int f)], ⟨_, ns.length, 0, [], rfl, by simp, by omega, by omega, rfl, rfl, rfl⟩, ?_⟩
  rintro k σ G' ⟨n, f, made, rfl, hm, hf, hn, hp, rfl, rfl⟩
  simp
  by_cases c : f < ns.length
  · refine .inr ⟨c, ?_⟩
    refine seqF fun N hN hF => ?_
    simp [ok, c]
    have fs := far_spec c
    refine ⟨by omega, hN _ _ ?_⟩
    simp
    cases n with
    | zero => omega
    | succ n =>
      unfold partsGo at hp
      rw [if_pos c] at hp
      rw [show List.map natD made ++ [D.int (farF ns f)] = (made ++ [farF ns f]).map natD by simp [natD], rIx_gup]
      refine ⟨farF ns f, ?_, ?_⟩
      · rw [atI_last _ (by simp)]
        simp
      · simp [natD]
        refine ⟨ns.length - (f + farF ns f), by have := fs.pos; omega, n, f + farF ns f, rfl, made ++ [farF ns f], ?_, fs.le, by have := fs.pos; omega, ?_, ?_, by omega⟩
        · have := fs.pos; simp; omega
        · rw [hp]; simp
        · simp [natD]
  · refine .inl ⟨by omega, ?_⟩
    have e : partsGo ns n f = [] := by
      cases n with
      | zero => rfl
      | succ n => unfold partsGo; rw [if_neg c]
    rw [e, List.append_nil] at hp
    refine hF _ _ _ _ (FrzS.lst 1 ha rfl) ?_
    simp
    rw [← hp]
    exact fz q1
theorem pure_strays (p : Pm) (r : D) : Pure (t_strays p) (sp_strays p) 2 [r] := fun G Q E h => by
  simp only [sp_strays, sp1] at h
  obtain ⟨hd, q⟩ := h
  have big := line_big
  refine seqN fun N hN => ?_
  simp [start', hd]
  refine wr_step q fun ns e1 ok q1 => hN _ _ (seqN fun N hN => ?_)
  subst e1
  have la := ok.1
  simp [ok]
  unfold straysF at q1
  cases c : canB ns with
  | true =>
    rw [c] at q1
    exact .inr ⟨rfl, fz (by simpa using q1)⟩
  | false =>
    rw [c] at q1
    refine .inl ⟨rfl, hN _ _ ?_⟩
    simp at q1
    simp
    refine lc_filter (f := natD) (fun x y h => by have := D.int.inj h; omega) (List.range ns.length) (fun k => canB (without ns k)) natD (fun R r => by simp; (simp [rangeD]; exact ⟨by omega, r⟩)) (by simp; omega) (fun k hk Gx _ => ?_) (fz q1)
    rw [List.mem_range] at hk
    have e1 : cutD (ns.map D.int) none (some (k : Int)) = (ns.take k).map D.int := by rw [cut_to, List.map_take]
    have e2 : cutD (ns.map D.int) (some ((k : Int) + 1)) none = (ns.drop (k + 1)).map D.int := by
      have := cut_from (ns.map D.int) (k + 1)
      rw [← List.map_drop] at this
      exact this
    have e3 : (ns.take k).map D.int ++ (ns.drop (k + 1)).map D.int = (without ns k).map D.int := by unfold without; simp
    have wr := without_row ok k
    simp [natD]
    rw [e1, e2, e3]
    simp [wr]
    omega
end DL

namespace DL
open PySem PySem.Spec PyProof.Rows L2
/-- a row of steady beats of two periods: some row, not late -/
def sp__law_rough (p : Pm) : Sp' := sp3 fun s a m G Q E => ∃ (n k : Int), s = .scr ∧ a = .int n ∧ m = .int k ∧ 0 ≤ n ∧ n ≤ 100000 ∧ 0 ≤ k ∧ k ≤ 20 ∧ ∀ ns : List Int, RowOk ns → (∀ x ∈ ns, x ≤ 1000) → Q (.tup (ns.map D.int)) G
@[simp] theorem at_rough {p : Pm} {G : GH} {Q : QE} {E : EK'} {i j : Int} : sp__law_rough p [.scr, .int i, .int j] G Q E = (0 ≤ i ∧ i ≤ 100000 ∧ 0 ≤ j ∧ j ≤ 20 ∧ ∀ ns : List Int, RowOk ns → (∀ x ∈ ns, x ≤ 1000) → Q (.tup (ns.map D.int)) G) := by simp [sp__law_rough]
end DL

namespace DL
open PySem PySem.Spec PyProof.Rows L2
def t__law_is_less (p : Pm) (W : WX') : TS' :=
    (tRet' (tOp' (rCmp' fun i j => decide (i < j)) (tOp' (rMul' false) (tOp' (rIx' p) (tVar' 0) (tC' (.int 0))) (tOp' (rIx' p) (tVar' 1) (tC' (.int 1)))) (tOp' (rMul' false) (tOp' (rIx' p) (tVar' 1) (tC' (.int 0))) (tOp' (rIx' p) (tVar' 0) (tC' (.int 1))))))

def t__law_can (p : Pm) (W : WX') : TS' :=
    (tSeq' (tAsg' (tTup' (tCons' (tTup' (tCons' (tC' (.int 0)) (tCons' (tC' (.int 1)) tNil'))) (tCons' (tTup' (tCons' (tC' (.int 10001)) (tCons' (tC' (.int 1)) tNil'))) tNil'))) (gTup' 2 (gCons' (gName' 1) (gCons' (gName' 2) gNil'))))
    (tSeq' (tFor' (iRng1' (tCons' (tCB' (rLen' p) (tCons' (tVar' 0) tNil')) tNil')) (gName' 3) (tFor' (iRng2' (tCons' (tOp' (rAdd' false) (tVar' 3) (tC' (.int 1))) (tCons' (tCB' (rLen' p) (tCons' (tVar' 0) tNil')) tNil'))) (gName' 4) (tSeq' (tPar' 5 6 (tCons' (tTup' (tCons' (tOp' (rI' (fun _ _ => True) fun i j => .int (i - j)) (tOp' (rI' (fun _ _ => True) fun i j => .int (i - j)) (tOp' (rIx' p) (tVar' 0) (tVar' 4)) (tOp' (rIx' p) (tVar' 0) (tVar' 3))) (tC' (.int 1))) (tCons' (tOp' (rI' (fun _ _ => True) fun i j => .int (i - j)) (tVar' 4) (tVar' 3)) tNil'))) (tCons' (tTup' (tCons' (tOp' (rAdd' false) (tOp' (rI' (fun _ _ => True) fun i j => .int (i - j)) (tOp' (rIx' p) (tVar' 0) (tVar' 4)) (tOp' (rIx' p) (tVar' 0) (tVar' 3))) (tC' (.int 1))) (tCons' (tOp' (rI' (fun _ _ => True) fun i j => .int (i - j)) (tVar' 4) (tVar' 3)) tNil'))) tNil')))
    (tSeq' (tAsg' (tIf' (tTest' (tCall' 2 (sp__law_is_less p) W (tCons' (tVar' 1) (tCons' (tVar' 5) tNil')))) (tVar' 5) (tVar' 1)) (gName' 1))
    (tAsg' (tIf' (tTest' (tCall' 2 (sp__law_is_less p) W (tCons' (tVar' 6) (tCons' (tVar' 2) tNil')))) (tVar' 6) (tVar' 2)) (gName' 2))))))
    (tRet' (tOrV' (tOp' (rCmp' fun i j => decide (i < j)) (tCB' (rLen' p) (tCons' (tVar' 0) tNil')) (tC' (.int 2))) (tCall' 2 (sp__law_is_less p) W (tCons' (tVar' 1) (tCons' (tVar' 2) tNil')))))))

def t__law_rough (p : Pm) (W : WX') : TS' :=
    (tSeqF' (tPar' 3 4 (tCons' (tLst' true tNil') (tCons' (tCall' 3 (sp__law_pick p) W (tCons' (tVar' 0) (tCons' (tVar' 1) (tCons' (tC' (.int 20)) tNil')))) tNil')))
    (tSeqF' (tFor' (iRng1' (tCons' (tCall' 3 (sp__law_pick p) W (tCons' (tVar' 0) (tCons' (tOp' (rAdd' false) (tVar' 1) (tC' (.int 1))) (tCons' (tOp' (rAdd' false) (tVar' 2) (tC' (.int 1))) tNil')))) tNil')) (gName' 5) (tSeqF' (tIfS' (tTest' (tOp' (rEq' p false) (tOp' (rI' (fun _ j => 0 < j) fun i j => .int (i % j)) (tVar' 5) (tC' (.int 6))) (tC' (.int 0)))) (tPar3' 6 7 8 (tCons' (tOp' (rAdd' false) (tC' (.int 3)) (tCall' 3 (sp__law_pick p) W (tCons' (tVar' 0) (tCons' (tOp' (rAdd' false) (tOp' (rAdd' false) (tVar' 1) (tC' (.int 2))) (tVar' 5)) (tCons' (tC' (.int 30)) tNil'))))) (tCons' (tOp' (rAdd' false) (tC' (.int 1)) (tCall' 3 (sp__law_pick p) W (tCons' (tVar' 0) (tCons' (tOp' (rAdd' false) (tOp' (rAdd' false) (tVar' 1) (tC' (.int 3))) (tVar' 5)) (tCons' (tC' (.int 3)) tNil'))))) (tCons' (tC' (.int 0)) tNil')))) tNext')
    (tSeqF' (tDrop' (tMut' rAppend' (tVar' 3) (tCons' (tOp' (rAdd' false) (tVar' 4) (tCB' rInt' (tCons' (tOp' (rEq' p false) (tCall' 3 (sp__law_pick p) W (tCons' (tVar' 0) (tCons' (tOp' (rAdd' false) (tOp' (rAdd' false) (tVar' 1) (tC' (.int 40))) (tVar' 5)) (tCons' (tC' (.int 7)) tNil')))) (tC' (.int 0))) tNil'))) tNil')))
    (tSeqF' (tAsg' (tOp' (rAdd' false) (tVar' 8) (tVar' 6)) (gName' 8))
    (tSeqF' (tAsg' (tOp' (rAdd' false) (tVar' 4) (tCB' rMax2' (tCons' (tC' (.int 2)) (tCons' (tOp' (rI' CDiv fun i j => .int (i / j)) (tVar' 8) (tVar' 7)) tNil')))) (gName' 4))
    (tAsg' (tOp' (rI' (fun _ j => 0 < j) fun i j => .int (i % j)) (tVar' 8) (tVar' 7)) (gName' 8)))))))
    (tRet' (tCB' rTupOf' (tCons' (tSortSet' (p := p) (tCons' (tVar' 3) tNil')) tNil')))))

end DL

namespace DL
open PySem PySem.Spec PyProof.Rows L2
theorem pure__law_is_less (p : Pm) (x y : D) : Pure (t__law_is_less p) (sp__law_is_less p) 2 [x, y] := fun G Q E h => by
  simp only [sp__law_is_less, sp_is_less, sp2] at h
  obtain ⟨a, b, rfl, rfl, h1, h2, q⟩ := h
  unfold SmF at h1 h2
  simp [t__law_is_less, start']
  refine ⟨.inl (by omega), .inl (by omega), ?_⟩
  exact fz q
theorem lowU_snoc (l : List (Int × Int)) (q : Int × Int) : lowU (l ++ [q]) = if lessF (lowU l) (q.1 - 1, q.2) = true then (q.1 - 1, q.2) else lowU l := by
  unfold lowU upF
  rw [List.map_append, List.foldl_append]
  rfl
theorem highU_snoc (l : List (Int × Int)) (q : Int × Int) : highU (l ++ [q]) = if lessF (q.1 + 1, q.2) (highU l) = true then (q.1 + 1, q.2) else highU l := by
  unfold highU dnF
  rw [List.map_append, List.foldl_append]
  rfl
theorem lowU_small {l : List (Int × Int)} (h : ∀ q ∈ l, PairOk q) : SmF (lowU l) := by
  have := upF_spec (l.map fun q => (q.1 - 1, q.2)) (0, 1) (by decide) (fun q hq => by
    obtain ⟨x, hx, rfl⟩ := List.mem_map.mp hq
    have := h x hx
    unfold PairOk at this
    show 0 < x.2
    omega)
  rcases this.2.1 with e | e
  · unfold lowU; rw [e]; unfold SmF; simp
  · obtain ⟨x, hx, e⟩ := List.mem_map.mp e
    unfold lowU
    rw [← e]
    have := h x hx
    unfold PairOk at this
    unfold SmF
    dsimp only
    omega
theorem highU_small {l : List (Int × Int)} (h : ∀ q ∈ l, PairOk q) : SmF (highU l) := by
  have := dnF_spec (l.map fun q => (q.1 + 1, q.2)) (10001, 1) (by decide) (fun q hq => by
    obtain ⟨x, hx, rfl⟩ := List.mem_map.mp hq
    have := h x hx
    unfold PairOk at this
    show 0 < x.2
    omega)
  rcases this.2.1 with e | e
  · unfold highU; rw [e]; unfold SmF; simp
  · obtain ⟨x, hx, e⟩ := List.mem_map.mp e
    unfold highU
    rw [← e]
    have := h x hx
    unfold PairOk at this
    unfold SmF
    dsimp only
    omega
theorem at_int (ns : List Int) (i : Nat) (h : i < ns.length) : atI ns i = some (ns.getD i 0) := by
  rw [atI_nn _ _ (by omega) (by omega)]
  simp [List.getD_eq_getElem?_getD, List.getElem?_eq_getElem h]
theorem pure__law_can (p : Pm) (r : D) : Pure (t__law_can p) (sp__law_can p) 7 [r] := fun G Q E h => by
  simp only [sp__law_can, sp_can_be, spRow, sp1] at h
  obtain ⟨ns, rfl, ok, q⟩ := h
  have la := ok.1
  have big := line_big
  refine seqN fun N hN => ?_
  simp [start']
  refine hN _ _ (seqN fun N hN => ?_)
  refine for_at (f := natD) (List.range ns.length) (fun i σ G' => G' = G ∧ ∃ o3 o4 o5 o6, σ = [some (.tup (ns.map D.int)), some (pairD (lowU (preP ns i))), some (pairD (highU (preP ns i))), o3, o4, o5, o6]) (G1 := G) (fun R r => by simp; (simp [rangeD]; exact ⟨by omega, r⟩)) ⟨rfl, none, none, none, none, rfl⟩ ?_ ?_
  · rintro i x σ G' hx ⟨rfl, o3, o4, o5, o6, rfl⟩
    obtain ⟨hx1, hx2⟩ := List.getElem?_eq_some_iff.mp hx
    simp at hx1 hx2
    subst hx2
    simp [natD]
    refine for_at (f := fun j : Nat => D.int ((i : Int) + 1 + j)) (List.range (ns.length - (i + 1))) (fun j σ G2 => G2 = G' ∧ ∃ o4 o5 o6, σ = [some (.tup (ns.map D.int)), some (pairD (lowU (preP ns i ++ (innP ns i).take j))), some (pairD (highU (preP ns i ++ (innP ns i).take j))), some (.int i), o4, o5, o6]) (G1 := G') (fun R r => ?_) ⟨rfl, o4, o5, o6, by simp⟩ ?_ ?_
    · simp
      refine ⟨by omega, by omega, by omega, ?_⟩
      rw [show ((ns.length : Int) - ((i : Int) + 1)).toNat = ns.length - (i + 1) by omega]
      simpa [rangeD] using r
    · rintro j x σ G2 hx2 ⟨rfl, o4, o5, o6, rfl⟩
      obtain ⟨hj, hj2⟩ := List.getElem?_eq_some_iff.mp hx2
      simp at hj hj2
      subst hj2
      have eq : (innP ns i)[j]? = some (ns.getD (i + 1 + j) 0 - ns.getD i 0, (j : Int) + 1) := by
        unfold innP
        rw [List.getElem?_mapIdx, List.getElem?_drop, List.getElem?_eq_getElem (by omega), List.getD_eq_getElem?_getD (l := ns) (i := i + 1 + j), List.getElem?_eq_getElem (by omega)]
        rfl
      have st : (innP ns i).take (j + 1) = (innP ns i).take j ++ [(ns.getD (i + 1 + j) 0 - ns.getD i 0, (j : Int) + 1)] := by rw [List.take_add_one, eq]; rfl
      have sm : ∀ q ∈ preP ns i ++ (innP ns i).take j, PairOk q := fun q hq => by
        rcases List.mem_append.mp hq with hq | hq
        · exact pair_ok ok (pre_mem (by omega) hq)
        · exact pair_ok ok (inn_mem hx1 (List.mem_of_mem_take hq))
      rw [st, ← List.append_assoc]
      have s1 := lowU_small sm
      have s2 := highU_small sm
      have r1 := getD_range ok hx1
      have r2 := getD_range ok (show i + 1 + j < ns.length by omega)
      have a1 := at_int ns i hx1
      have a2 := at_int ns (i + 1 + j) (by omega)
      rw [show ((i + 1 + j : Nat) : Int) = (i : Int) + 1 + j by omega] at a2
      have e1 := lowU_snoc (preP ns i ++ (innP ns i).take j) (ns.getD (i + 1 + j) 0 - ns.getD i 0, (j : Int) + 1)
      have e2 := highU_snoc (preP ns i ++ (innP ns i).take j) (ns.getD (i + 1 + j) 0 - ns.getD i 0, (j : Int) + 1)
      rw [e1, e2]
      generalize lowU (preP ns i ++ (innP ns i).take j) = lo at *
      generalize highU (preP ns i ++ (innP ns i).take j) = hi' at *
      generalize ns.getD (i + 1 + j) 0 = y at *
      generalize ns.getD i 0 = x at *
      have t1 : SmF (y - x - 1, (j : Int) + 1) := by unfold SmF; dsimp only; omega
      have t2 : SmF (y - x + 1, (j : Int) + 1) := by unfold SmF; dsimp only; omega
      have q1 : D.tup [D.int (y - x - 1), D.int ((j : Int) + 1)] = pairD (y - x - 1, (j : Int) + 1) := rfl
      have q2 : D.tup [D.int (y - x + 1), D.int ((j : Int) + 1)] = pairD (y - x + 1, (j : Int) + 1) := rfl
      have q3 : (i : Int) + 1 + j - i = j + 1 := by omega
      simp
      refine seqN fun N hN => ?_
      simp [q3]
      refine ⟨_, a2, _, a1, _, a2, _, a1, ?_⟩
      refine hN _ _ (seqN fun N hN => ?_)
      rw [q1, q2]
      simp [s1, s2, t1, t2]
      have step : ∀ lo2 : Fr, lo2 = (if lessF lo (y - x - 1, (j : Int) + 1) = true then (y - x - 1, (j : Int) + 1) else lo) → SmF lo2 → N [some (D.tup (List.map D.int ns)), some (pairD lo2), some (pairD hi'), some (D.int i), some (D.int ((i : Int) + 1 + j)), some (pairD (y - x - 1, (j : Int) + 1)), some (pairD (y - x + 1, (j : Int) + 1))] G2 := by
        intro lo2 el sl
        refine hN _ _ ?_
        simp [s1, s2, t1, t2]
        rw [← el]
        cases c : lessF (y - x + 1, (j : Int) + 1) hi' with
        | true => exact .inr ⟨rfl, by simp⟩
        | false => exact .inl ⟨rfl, by simp⟩
      cases c : lessF lo (y - x - 1, (j : Int) + 1) with
      | true => exact .inr ⟨rfl, step _ (by rw [c]; rfl) t1⟩
      | false => exact .inl ⟨rfl, step _ (by rw [c]; rfl) s1⟩
    · rintro σ G2 ⟨rfl, o4, o5, o6, rfl⟩
      have : (innP ns i).take (List.range (ns.length - (i + 1))).length = innP ns i := List.take_of_length_le (by unfold innP; simp)
      rw [this, ← pre_succ]
      exact ⟨rfl, _, o4, o5, o6, rfl⟩
  · rintro σ G' ⟨rfl, o3, o4, o5, o6, rfl⟩
    rw [List.length_range]
    refine hN _ _ ?_
    rw [show preP ns ns.length = pairsP ns from rfl]
    have s1 := lowU_small fun q hq => pair_ok ok hq
    have s2 := highU_small fun q hq => pair_ok ok hq
    unfold canB at q
    simp [s1, s2]
    by_cases c1 : ns.length < 2
    · refine .inr ⟨by omega, ?_⟩
      simp [c1] at q
      exact fz q
    · refine .inl ⟨by omega, ?_⟩
      simp [c1] at q
      exact fz q
theorem pure__law_rough (p : Pm) (s a m : D) : Pure (t__law_rough p) (sp__law_rough p) 9 [s, a, m] := fun G Q E h => by
  simp only [sp__law_rough, sp3] at h
  obtain ⟨n, k, rfl, rfl, rfl, hn, hn2, hk, hk2, q⟩ := h
  have hb := line_big
  refine seqF fun N hN _ => ?_
  simp [start']
  intro b hG
  have p0 := pickF_range (ns := p.ns) (k := n) (many := 20) (by omega)
  refine ⟨by omega, by omega, hN _ _ ?_⟩
  refine seqF fun N hN hF => ?_
  have pm := pickF_range (ns := p.ns) (k := n + 1) (many := k + 1) (by omega)
  obtain ⟨many, hmany⟩ : ∃ many : Nat, pickF p.ns (n + 1) (k + 1) = many := ⟨(pickF p.ns (n + 1) (k + 1)).toNat, by omega⟩
  refine for_at (f := natD) (List.range many) (fun i σ G' => ∃ (ms : List Int) (here : Int) (o5 o6 o7 o8 : Option D), σ = [some .scr, some (.int n), some (.int k), some (.ref b), some (.int here), o5, o6, o7, o8] ∧ G' = gup G b (.lst (ms.map D.int)) ∧ ms.length = i ∧ (0 ≤ here ∧ here ≤ 20 + 40 * i) ∧ (∀ x ∈ ms, 0 ≤ x ∧ x ≤ 1000) ∧ (0 < i → ∃ up down rest : Int, o6 = some (.int up) ∧ o7 = some (.int down) ∧ o8 = some (.int rest) ∧ (3 ≤ up ∧ up ≤ 33) ∧ (1 ≤ down ∧ down ≤ 3) ∧ (0 ≤ rest ∧ rest < down))) (G1 := gup G b (.lst [])) (fun R r => ?_) ⟨[], _, none, none, none, none, rfl, rfl, rfl, by simp; omega, by simp, by omega⟩ ?_ ?_
  · simp
    refine ⟨by omega, by omega, by omega, by omega, by omega, ?_⟩
    rw [hmany]
    have e : natD = fun i : Nat => D.int i := rfl
    simpa [rangeD, e] using r
  · rintro i x σ G' hx ⟨ms, here, o5, o6, o7, o8, rfl, rfl, hl, hh, hm, hud⟩
    obtain ⟨hx1, hx2⟩ := List.getElem?_eq_some_iff.mp hx
    simp at hx1 hx2
    subst hx2
    simp [natD]
    refine seqF fun N hN _ => ?_
    have p7 := pickF_range (ns := p.ns) (k := n + 40 + i) (many := 7) (by omega)
    have main : ∀ up down rest : Int, (3 ≤ up ∧ up ≤ 33) → (1 ≤ down ∧ down ≤ 3) → (0 ≤ rest ∧ rest < down) → N [some .scr, some (.int n), some (.int k), some (.ref b), some (.int here), some (.int i), some (.int up), some (.int down), some (.int rest)] (gup G b (.lst (ms.map D.int))) := by
      intro up down rest hu hd hr
      refine hN _ _ ?_
      refine seqF fun N hN _ => ?_
      simp
      have fin : ∀ c : Int, (0 ≤ c ∧ c ≤ 1) → N [some .scr, some (.int n), some (.int k), some (.ref b), some (.int here), some (.int i), some (.int up), some (.int down), some (.int rest)] (gup G b (.lst ((ms ++ [here + c]).map D.int))) := by
        intro c hc
        refine hN _ _ ?_
        refine seqF fun N hN _ => ?_
        simp
        refine hN _ _ ?_
        refine seqF fun N hN _ => ?_
        have d1 : 0 ≤ (rest + up) / down := Int.ediv_nonneg (by omega) (by omega)
        have d2 : (rest + up) / down ≤ rest + up := Int.ediv_le_self _ (by omega)
        have m1 := Int.emod_nonneg (rest + up) (b := down) (by omega)
        have m2 := Int.emod_lt_of_pos (rest + up) (b := down) (by omega)
        simp
        refine ⟨by unfold CDiv; omega, ?_⟩
        refine hN _ _ ?_
        simp
        refine ⟨by omega, ms ++ [here + c], by simp, by simp; omega, by split <;> omega, by split <;> omega, ?_, by omega, by omega, by omega, by omega, m1, m2⟩
        · intro x hx
          rcases List.mem_append.mp hx with hx | hx
          · exact hm x hx
          · rw [List.mem_singleton.mp hx]; omega
      refine ⟨by omega, by omega, by omega, ?_⟩
      by_cases c : pickF p.ns (n + 40 + ↑i) 7 = 0
      · rw [if_pos c]; simpa using fin 1 (by omega)
      · rw [if_neg c]; simpa using fin 0 (by omega)
    simp
    have pu := pickF_range (ns := p.ns) (k := n + 2 + i) (many := 30) (by omega)
    have pd := pickF_range (ns := p.ns) (k := n + 3 + i) (many := 3) (by omega)
    by_cases c : (i : Int) % 6 = 0
    · exact .inr ⟨c, by omega, by omega, by omega, by omega, main _ _ _ (by omega) (by omega) (by omega)⟩
    · obtain ⟨up, down, rest, rfl, rfl, rfl, h1, h2, h3⟩ := hud (by omega)
      exact .inl ⟨c, main _ _ _ h1 h2 h3⟩
  · rintro σ G' ⟨ms, here, o5, o6, o7, o8, rfl, rfl, hl, hh, hm, hud⟩
    refine hN _ _ ?_
    simp
    refine sortset_ ?_
    simp
    rw [List.length_range] at hl
    refine ⟨ms, rfl, by omega, ?_⟩
    refine fz_drop hG (fz (q _ ⟨?_, fun x hx => ?_, sortD_up⟩ fun x hx => ?_))
    · have := sortD_len ms; omega
    · have := hm x (sortD_mem.mp hx); omega
    · exact (hm x (sortD_mem.mp hx)).2
end DL

namespace DL
open PySem PySem.Spec PyProof.Rows L2
/-- the least phase for a period -/
def phaseL (ns : List Int) (pe : Fr) : List Fr := ns.mapIdx fun i x => shareF (x * pe.2 - (i : Int) * pe.1) pe.2
def phaseF (ns : List Int) (pe : Fr) : Fr := upF (phaseL ns pe) (ns.getD 0 0, 1)
def phaseO (ns : List Int) : Option Fr := (simO ns).map (phaseF ns)
def canF (pe : Fr) (l : Int) : List Int := if l * pe.2 / pe.1 * pe.1 = l * pe.2 then [l * pe.2 / pe.1] else [l * pe.2 / pe.1, l * pe.2 / pe.1 + 1]
def stdB (a b m : D) : Option (List Int) := (phOf a).bind fun ph => (perOf b).bind fun pe => match m with
  | .int n => if 0 ≤ n ∧ n ≤ 40 ∧ RowOk (ticksF ph pe n.toNat) then some (ticksF ph pe n.toNat) else none
  | _ => none
def cntB (a l : D) : Ex ⊕ List Int := match l with
  | .int b => if 1 ≤ b ∧ b ≤ 9999 then match perOf a with
    | some pe => .inr (canF pe b)
    | none => .inl .period else .inl .gate
  | _ => .inl .gate
section
variable {p : Pm} {G : GH} {Q : QE} {E : EK'} {d s l : D} {i j lo hi : Int}
def sp_phase_for (p : Pm) : Sp' := sp1 fun r G Q E => rowAsk r ∧ withRow r E G fun ns => Q (ofrD (phaseO ns)) G
@[simp] theorem at_phase_for : sp_phase_for p [d] G Q E = (rowAsk d ∧ withRow d E G fun ns => Q (ofrD (phaseO ns)) G) := by simp [sp_phase_for]
def sp_can_count (p : Pm) : Sp' := sp2 fun a l G Q E => fracAsk a ∧ plain l = true ∧ match cntB a l with
  | .inr r => Q (.lst (r.map D.int)) G
  | .inl x => E x G
end
end DL

/-! DLRec: recursion to a depth: the def's promise for depth n + 1 leans on that for depth n; for depth 0 nothing is promised. -/
namespace DL
open PySem PySem.Spec PyProof.Rows L2
def spBot : Sp' := fun _ _ _ _ => False
theorem fn_bot {P : Program} {w : World} {K : PySem.W.Frag} {mg : Str → Option Value} {base : Heap} {CX : CXT} {k n : Nat} {p : Pm} {f : Addr} {fd : FuncData} {ps : List Str} : FnOk P w K mg base CX k f fd ps (liftSp p n spBot) :=
  ⟨fun _ _ _ _ ⟨_, _, _, _, _, _, _, h, _⟩ => h.elim, fun _ _ _ _ _ _ _ _ _ _ _ _ _ ⟨_, _, _, _, _, _, _, h, _⟩ => h.elim⟩
end DL

/-! DLLive: a loop over a list whose items are lists that are changed in the loop; == of lists of such lists; branches that are never reached. -/
namespace DL
open PySem PySem.Spec PyProof.Rows L2
section
variable {p : Pm} {B : Bs p} {X : Cx} {a b c e o : Expr} {es : List Expr} {ta tb tc : TE'} {t : TA'} {pos apos cpos : Pos}
/-! ### a loop over what may be changed: as long as P holds, the items are these -/
abbrev TL' := St' → GH → (List D → (GH → Prop) → GH → Prop) → Prop
def ItOkP (p : Pm) (J : It) (xs : List D) (P : GH → Prop) (G : GH) (H : Hp) : Prop :=
  ∀ G2 H2, Nxt p G H G2 H2 → P G2 → ∀ i, (∀ d, xs[i]? = some d → J.go i H2 ∧ ∀ v H3, J.yld i H2 v H3 → Nxt p G2 H2 G2 H3 ∧ Rep p G2 H3 d v) ∧ (xs.length ≤ i → J.stop i H2)
def liftIP (p : Pm) (B : Bs p) (t : TL') : TI := fun σ H R => ∃ σ' G R', At p B σ' G σ H ∧ t σ' G R' ∧ ∀ xs P G1 J H1, Nxt p G H G1 H1 → ItOkP p J xs P G1 H1 → R' xs P G1 → R J H1
theorem itp_of {J : It} {xs : List D} {P : GH → Prop} {G : GH} {H : Hp} (h : ItOk p J xs G H) : ItOkP p J xs P G H := fun G2 H2 n _ => h G2 H2 n
theorem itp_ref {K : PySem.W.Frag} {G : GH} {H : Hp} {ds : List D} {a : Addr} : ItOkP p (Itl K a) ds (fun G2 => G2 a = some (.lst ds)) G H := by
  intro G2 H2 n hg i
  obtain ⟨ws, hb, rr⟩ := n.rep.obj a _ hg
  refine ⟨fun d hd => ?_, fun hl => ⟨ws, SqL.of hb, by rw [← rr.length]; exact hl⟩⟩
  obtain ⟨v, hv, rv⟩ := rr.get hd
  refine ⟨⟨ws, v, SqL.of hb, hv⟩, fun v' H3 y => ?_⟩
  obtain ⟨e, y⟩ := y
  subst e
  have := y ws (SqL.of hb)
  rw [hv] at this; cases this
  exact ⟨.refl n.rep, rv⟩
@[simp] def iSeqL' : TE' → TL' := fun t σ G R => t σ G fun x G1 => ∃ ds, (x = .tup ds ∧ R ds (fun _ => True) G1) ∨ ∃ a, x = .ref a ∧ G1 a = some (.lst ds) ∧ R ds (fun G2 => G2 a = some (.lst ds)) G1
theorem dil_seq {tg : Expr} (he : DE p B X e ta) : PI X tg e (liftIP p B (iSeqL' ta)) := PI.weak (pi_seq he) fun σ H R h => by
  obtain ⟨σ', G, R', at_, q, k⟩ := h
  refine ⟨σ', G, _, at_, q, fun x G1 v H1 n1 r1 q1 => ?_⟩
  obtain ⟨ds, ⟨rfl, q1⟩ | ⟨b, rfl, hb, q1⟩⟩ := q1
  · obtain ⟨a, vs, e, ha, rr⟩ := r1
    exact ⟨a, e, .inl ⟨⟨vs, sqT_of ha⟩, k ds _ G1 _ H1 n1 (itp_of (it_tup ha rr)) q1⟩⟩
  · obtain ⟨vs, hv, rr⟩ := n1.rep.obj b _ hb
    exact ⟨b, r1, .inr ⟨⟨vs, SqL.of hv⟩, k ds _ G1 _ H1 n1 itp_ref q1⟩⟩
def tForL' (ti : TL') (g : TG') (tb : TS') : TS' := fun D σ G => ti σ G fun xs P G1 => ∃ W : Nat → St' → GH → Prop, W 0 σ G1 ∧ (∀ i σ G, W i σ G → P G) ∧
  (∀ i x σ G, xs[i]? = some x → W i σ G → g x σ G fun σ2 G2 => tb { D with nx := W (i + 1), ct := W (i + 1), bk := D.nx } σ2 G2) ∧ ∀ σ G, W xs.length σ G → D.nx σ G
theorem ds_forL {tg iter : Expr} {body : List Stmt} {ti : TL'} {g : TG'} {tb : TS'} (hp : PassesOwn (model X.prog X.w) X.A X.env X.xe) (hc : X.calm = true) (hi : PI X tg iter (liftIP p B ti)) (hg : ∀ B, DG p B X tg g) (hb : ∀ C, Bs.Le C B → DSs p C X body tb)
    (hs : ∀ x, foldedSetIterable iter X.env x = pure x := by intro _; rfl) : DS p B X (.For tg iter body [] pos) (tForL' ti g tb) := PS.weak (ps_for hp hc hi (pg_any hg) (pss_any hb) hs) fun D σ H h => by
  obtain ⟨σ', G, D', at_, q, k⟩ := h
  refine ⟨σ', G, _, at_, q, fun xs P G1 J H1 n1 it q1 => ?_⟩
  obtain ⟨W, w0, wp, turn, fin⟩ := q1
  have le : Bs.Le (B.and (Bs.from p G1 H1)) B := fun _ _ h => h.1
  have back : ∀ {σ2 G2 s2 H2}, At p (B.and (Bs.from p G1 H1)) σ2 G2 s2 H2 → At p B σ2 G2 s2 H2 := fun a => ⟨a.s, a.h, a.b.1⟩
  refine ⟨fun i m s H2 => m = xs.length - i ∧ i ≤ xs.length ∧ ∃ σ2 G2, At p (B.and (Bs.from p G1 H1)) σ2 G2 s H2 ∧ W i σ2 G2, ⟨xs.length, by simp, Nat.zero_le _, σ', G1, ⟨at_.s.step n1.st, n1.rep, B.step _ _ _ _ at_.b n1.st, Step.refl⟩, w0⟩, ?_⟩
  rintro i m s H2 ⟨rfl, hi, σ2, G2, a2, w2⟩
  obtain ⟨go, stop⟩ := it G2 H2 ⟨a2.h, a2.b.2⟩ (wp _ _ _ w2) i
  by_cases hlt : i < xs.length
  · have hx : xs[i]? = some xs[i] := by simp [hlt]
    obtain ⟨hgo, hy⟩ := go _ hx
    refine .inr ⟨hgo, fun s H3 => i + 1 ≤ xs.length ∧ ∃ σ3 G3, At p (B.and (Bs.from p G1 H1)) σ3 G3 s H3 ∧ W (i + 1) σ3 G3, fun s H3 ⟨h1, h2⟩ => ⟨xs.length - (i + 1), by omega, rfl, h1, h2⟩, fun v H3 yl => ?_⟩
    obtain ⟨n3, r3⟩ := hy v H3 yl
    refine ⟨_, xs[i], σ2, G2, _, r3, a2.nxt n3, turn i _ σ2 G2 hx w2, fun σ4 G4 s4 H4 a4 s4' q4 => ?_⟩
    refine ⟨_, le, σ4, G4, _, a4, q4, ⟨fun σ5 G5 s5 H5 a5 q5 => ⟨hlt, σ5, G5, a5, q5⟩, fun σ5 G5 s5 H5 a5 q5 => k.nx _ _ _ _ (back a5) q5, fun σ5 G5 s5 H5 a5 q5 => ⟨hlt, σ5, G5, a5, q5⟩, fun d G5 v5 H5 h5 b5 r5 q5 => k.rt _ _ _ _ h5 b5.1 r5 q5⟩⟩
  · have e : i = xs.length := by omega
    subst e
    exact .inl ⟨stop (Nat.le_refl _), k.nx _ _ _ _ (back a2) (fin _ _ w2)⟩
/-! ### == of lists of lists that may be changed -/
def deref2 (G : GH) : D → D
  | .ref a => match G a with
    | some (.lst ds) => .lst (ds.map (deref G))
    | _ => .ref a
  | d => d
theorem repL_deref {G : GH} {H : Hp} (h : RepH p G H) (n : Nat) : ∀ (ds : List D) (vs : List V), (∀ d ∈ ds.map (deref G), Dok n d) → RepL p G H ds vs → DpAll p.K H vs (toPs p (ds.map (deref G)))
  | [], _, _, r => by cases (show _ = _ from r); exact .nil
  | d :: ds, _, k, ⟨v, vr, e, r, t⟩ => by
    subst e
    exact .cons (rep_deref h (k _ (by simp)) r) (repL_deref h n ds vr (fun e he => k e (by rw [List.map_cons]; exact List.mem_cons_of_mem _ he)) t)
theorem rep_deref2 {G : GH} {H : Hp} (h : RepH p G H) {n : Nat} {d : D} {v : V} (k : Dok n (deref2 G d)) (r : Rep p G H d v) : Dp p.K H v (toP p (deref2 G d)) := by
  cases d with
  | ref a =>
    unfold deref2 at k ⊢
    dsimp only at k ⊢
    split at k
    · rename_i ds e
      obtain ⟨vs, q1, q2⟩ := h.obj a _ e
      cases (show _ = _ from r)
      cases n with
      | zero => exact k.elim
      | succ n =>
        refine .lst (SqL.of q1) ?_
        exact repL_deref h n ds vs k q2
    · cases n <;> exact k.elim
  | _ => exact rep_dp h n _ v k r
def rEq2' (p : Pm) (neg : Bool) : R2' := fun x y G Q => (∃ n, n ≤ 64 ∧ Dok n (deref2 G x) ∧ Dok n (deref2 G y)) ∧ Q (.bl (neg ^^ eqD p (deref2 G x) (deref2 G y))) G
theorem lft_eq2 : Lft2 p (rEqD p.K) (rEq2' p false) := by
  rintro x y G Q' u v H Q rx ry h ⟨⟨n, hn, hx, hy⟩, q⟩ k
  refine ⟨_, _, rep_deref2 h hx rx, rep_deref2 h hy ry, dok_shaped p hx hn, dok_shaped p hy hn, ?_⟩
  rw [Bool.false_xor] at q
  exact k _ G _ H (.refl h) (by exact rfl) q
theorem lft_ne2 : Lft2 p (rNeD p.K) (rEq2' p true) := by
  rintro x y G Q' u v H Q rx ry h ⟨⟨n, hn, hx, hy⟩, q⟩ k
  refine ⟨_, _, rep_deref2 h hx rx, rep_deref2 h hy ry, dok_shaped p hx hn, dok_shaped p hy hn, ?_⟩
  rw [Bool.true_xor] at q
  exact k _ G _ H (.refl h) (by exact rfl) q
theorem de_eq2 {k : Nat} (hr : Room k X.A) (hK : X.K = p.K) (ha : DE p B X a ta) (hb : DE p B X b tb) : DE p B X (.Compare a [.Eq] [b] pos) (tOp' (rEq2' p false) ta tb) := de_cmp (op_eqD hr.units) (hK ▸ lft_eq2) ha hb (nomark _)
theorem dt_ne2 {k : Nat} (hr : Room k X.A) (hK : X.K = p.K) (ha : DE p B X a ta) (hb : DE p B X b tb) : DT p B X (.Compare a [.NotEq] [b] pos) (tTest' (tOp' (rEq2' p true) ta tb)) := dt_cmp (op_neD hr.units) (hK ▸ lft_ne2) ha hb (nomark _)
/-- the same, by value on the right -/
theorem rEq2_same {neg : Bool} {x : D} {l : List D} {G : GH} {Q : QE} (h : Dok 8 (.lst l)) (e : deref2 G x = .lst l) (q : Q (.bl (neg ^^ true)) G) : rEq2' p neg x (.lst l) G Q := by
  have e2 : deref2 G (.lst l) = .lst l := rfl
  refine ⟨⟨8, by omega, by rw [e]; exact h, by rw [e2]; exact h⟩, ?_⟩
  rw [e, e2]
  unfold eqD
  rw [SeqAt.eqv_refl _ (dok_can p 8 _ h).1]
  exact q
/-! ### never reached -/
def tBad' : TS' := fun _ _ _ => False
theorem dss_bad {body : List Stmt} : DSs p B X body tBad' := ⟨fun pins s σ H D I q => by
  obtain ⟨_, _, _, _, z, _⟩ := q
  exact z.elim⟩
end
@[simp] theorem kit_int_dict : kitB "int" "dict" = some false := by decide +kernel
@[simp] theorem kit_bool_dict : kitB "bool" "dict" = some false := by decide +kernel
@[simp] theorem kit_str_dict : kitB "str" "dict" = some false := by decide +kernel
@[simp] theorem kit_tuple_dict : kitB "tuple" "dict" = some false := by decide +kernel
@[simp] theorem kit_list_dict : kitB "list" "dict" = some false := by decide +kernel
@[simp] theorem kit_NoneType_dict : kitB "NoneType" "dict" = some false := by decide +kernel
end DL

set_option maxHeartbeats 2000000
/-! DLVal: a call of a def that an expression tells. -/
namespace DL
open PySem PySem.Spec PyProof.Rows L2
/-- a def at f that keeps a promise -/
structure HeldV (P : Program) (w : World) (K : PySem.W.Frag) (mg : Str → Option Value) (base : Heap) (j : Nat) (f : Addr) (sp : Sp) : Prop where
  ex : ∃ (k : Nat) (fd : FuncData) (ps : List Str), k ≤ j ∧ FnOk P w K mg base (L2N.CX P w) k f fd ps sp ∧ PySem.W.keepIn K (.ref f) = true ∧ Binds K fd ps []
def tCallVr (S : Addr → Sp → Prop) (E : L2.St → XK) (tf : TE) (t : TA) : TE := fun σ H Q => tf σ H fun v H1 => ∃ f sp, v = .ref f ∧ S f sp ∧ t σ H1 fun vs H2 => sp vs H2 Q (E σ)
section
variable {X : Cx} {S : Addr → Sp → Prop} {E : L2.St → XK} {j : Nat} {tf : TE} {t : TA} {fe e : Expr} {es : List Expr} {pos : Pos}
theorem pe_callV (A : ∀ f sp, S f sp → HeldV X.prog X.w X.K X.mg X.base j f sp) (hr : Room j X.A) (hx : ∀ σ, PassesAt (L2N.CX X.prog X.w) X σ (E σ)) (hf : PE X fe tf) (ha : PA X (e :: es) t)
    (heq : eval (.Call fe (e :: es) [] pos) X.env = (do callWith pos (← eval fe X.env) [] (backTo pos (starEach (e :: es) X.env)) (backToKw pos (keywordEach [] X.env))))
    (he : starEach (e :: es) X.env = (false, eval e X.env) :: starEach es X.env := by rfl) (hpl : (backTo pos (starEach es X.env)).any (·.1) = false := by rfl) : PE X (.Call fe (e :: es) [] pos) (tCallVr S E tf t) := by
  constructor
  intro pins s σ H Q I h
  rw [heq]
  refine wpAny_bind (thn (hf.run pins s σ H _ I h) fun u s1 z => ?_)
  obtain ⟨v, H1, I1, r1, f, sp, e1, hS, q⟩ := z
  subst e1
  cases r1
  obtain ⟨k, fd, ps, hk, F, kp, bd⟩ := (A f sp hS).ex
  refine PySem.W.callWith_K (h₀ := X.base) I1.ok.mod.kin kp (thn (ha.run pos pins s1 σ H1 _ I1 q) fun us s2 z => ?_) he hpl
  obtain ⟨vs, H2, I2, r, q⟩ := z
  exact ⟨I2.kIn, run_fnS F (hr.mono hk) bd (hx σ) I2 r q⟩
end
/-! ### lifted -/
/-- one of these defs, by its name -/
def tCallV' (p : Pm) (fs : List (Str × Nat × Sp')) (W : WX') (tf : TE') (t : TA') : TE' := fun σ G Q => tf σ G fun x G1 => ∃ q ∈ fs, x = .ref (p.ca q.1) ∧ t σ G1 fun ds G2 => ds.length = q.2.1 ∧ q.2.2 ds G2 Q (fun x G3 => W x σ G3)
section
variable {p : Pm} {B : Bs p} {X : Cx} {fe e : Expr} {es : List Expr} {tf : TE'} {t : TA'} {pos : Pos} {W : WX'} {fs : List (Str × Nat × Sp')} {j : Nat}
theorem de_fn {x : Str} (hm : X.mg x = some (.ref (p.ca x))) (hg : Gl X x := by rfl) (hdb : (x == ("__debug__" : Str)) = false := by decide) : DE p B X (.Name x pos) (tC' (.ref (p.ca x))) :=
  PE.weak (pe_glob (v := .ref (p.ca x)) hg hm rfl hdb) fun σ H Q h => by
    obtain ⟨σ', G, Q', at_, q, k⟩ := h
    exact k _ G _ H (.refl at_.h) (by exact rfl) q
structure CalV (P : Program) (w : World) (K : PySem.W.Frag) (mg : Str → Option Value) (base : Heap) (p : Pm) (j : Nat) (q : Str × Nat × Sp') : Prop where
  ex : ∃ k, k ≤ j ∧ Cal P w K mg base p q.1 k q.2.1 q.2.2
  at_ : mg q.1 = some (.ref (p.ca q.1))
theorem de_callV (A : ∀ q ∈ fs, CalV X.prog X.w X.K X.mg X.base p j q) (hr : Room j X.A) (tk : L2N.Takes X (liftW p B W)) (hf : DE p B X fe tf) (ha : DA p B X (e :: es) t)
    (heq : eval (.Call fe (e :: es) [] pos) X.env = (do callWith pos (← eval fe X.env) [] (backTo pos (starEach (e :: es) X.env)) (backToKw pos (keywordEach [] X.env))) := by rfl)
    (he : starEach (e :: es) X.env = (false, eval e X.env) :: starEach es X.env := by rfl) (hpl : (backTo pos (starEach es X.env)).any (·.1) = false := by rfl) : DE p B X (.Call fe (e :: es) [] pos) (tCallV' p fs W tf t) :=
  PE.weak (pe_callV (S := fun f sp => ∃ q ∈ fs, f = p.ca q.1 ∧ sp = liftSp p q.2.1 q.2.2) (E := WE (liftW p B W)) (fun f sp hS => by
    obtain ⟨q, hq, rfl, rfl⟩ := hS
    obtain ⟨⟨k, hk, C⟩, hm⟩ := A q hq
    obtain ⟨f, fd, ps, hn, F, hm2, kp, hb⟩ := C.ex
    have e : f = p.ca q.1 := by
      rw [hm] at hm2
      cases hm2
      rfl
    rw [← e]
    exact ⟨k, fd, ps, hk, F, kp, hb⟩) hr (fun σ => L2N.passAt tk σ) hf ha heq he hpl) fun σ H Q h => by
    obtain ⟨σ', G, Q', at_, q, k⟩ := h
    refine ⟨σ', G, _, at_, q, fun x G1 v H1 n1 r1 q1 => ?_⟩
    obtain ⟨f, hf, rfl, q1⟩ := q1
    refine ⟨p.ca f.1, _, r1, ⟨f, hf, rfl, rfl⟩, σ', G1, _, at_.nxt n1, q1, fun ds G2 vs H2 n2 r2 q2 => ?_⟩
    refine ⟨ds, G2, Q', _, q2.1, r2, n2.rep, q2.2, fun d G3 v H3 n3 r3 q3 => k d G3 v H3 ((n1.trans n2).trans n3) r3 q3, fun x G3 H3 n3 q3 => ?_⟩
    exact ⟨x, σ', G3, rfl, rfl, at_.nxt ((n1.trans n2).trans n3), q3⟩
end
end DL

/-! DLRef: a comprehension over a list that may be changed later. -/
namespace DL
open PySem PySem.Spec PyProof.Rows L2
section
variable {p : Pm} {B : Bs p} {X : Cx} {a b c e o : Expr} {es : List Expr} {ta tb tc : TE'} {t : TA'} {pos apos cpos : Pos}
/-- the iterator yields these, as long as nothing known has been changed -/
def ItOkC (p : Pm) (J : It) (xs : List D) (G : GH) (H : Hp) : Prop :=
  ∀ G2 H2, Nxt p G H G2 H2 → (∀ a g, G a = some g → G2 a = some g) → ∀ i, (∀ d, xs[i]? = some d → J.go i H2 ∧ ∀ v H3, J.yld i H2 v H3 → Nxt p G2 H2 G2 H3 ∧ Rep p G2 H3 d v) ∧ (xs.length ≤ i → J.stop i H2)
def liftIC (p : Pm) (B : Bs p) (t : TI') : TI := fun σ H R => ∃ σ' G R', At p B σ' G σ H ∧ t σ' G R' ∧ ∀ xs G1 J H1, Nxt p G H G1 H1 → ItOkC p J xs G1 H1 → R' xs G1 → R J H1
theorem itc_of {J : It} {xs : List D} {G : GH} {H : Hp} (h : ItOk p J xs G H) : ItOkC p J xs G H := fun G2 H2 n _ => h G2 H2 n
theorem itc_ref {K : PySem.W.Frag} {G : GH} {H : Hp} {ds : List D} {a : Addr} (hg : G a = some (.lst ds)) : ItOkC p (Itl K a) ds G H := by
  intro G2 H2 n ext i
  obtain ⟨ws, hb, rr⟩ := n.rep.obj a _ (ext a _ hg)
  refine ⟨fun d hd => ?_, fun hl => ⟨ws, SqL.of hb, by rw [← rr.length]; exact hl⟩⟩
  obtain ⟨v, hv, rv⟩ := rr.get hd
  refine ⟨⟨ws, v, SqL.of hb, hv⟩, fun v' H3 y => ?_⟩
  obtain ⟨e, y⟩ := y
  subst e
  have := y ws (SqL.of hb)
  rw [hv] at this; cases this
  exact ⟨.refl n.rep, rv⟩
@[simp] def iSeqC' : TE' → TI' := fun t σ G R => t σ G fun x G1 => ∃ ds, (x = .tup ds ∨ x = .lst ds ∨ ∃ a, x = .ref a ∧ G1 a = some (.lst ds)) ∧ R ds G1
theorem dic_seq {tg : Expr} (he : DE p B X e ta) : PI X tg e (liftIC p B (iSeqC' ta)) := PI.weak (pi_seq he) fun σ H R h => by
  obtain ⟨σ', G, R', at_, q, k⟩ := h
  refine ⟨σ', G, _, at_, q, fun x G1 v H1 n1 r1 q1 => ?_⟩
  obtain ⟨ds, rfl | rfl | ⟨b, rfl, hb⟩, q1⟩ := q1
  · obtain ⟨a, vs, e, ha, rr⟩ := r1
    exact ⟨a, e, .inl ⟨⟨vs, sqT_of ha⟩, k ds G1 _ H1 n1 (itc_of (it_tup ha rr)) q1⟩⟩
  · obtain ⟨a, vs, e, ha, hg, rr⟩ := r1
    exact ⟨a, e, .inr ⟨⟨vs, SqL.of ha⟩, k ds G1 _ H1 n1 (itc_of (it_list ha hg rr)) q1⟩⟩
  · obtain ⟨vs, hv, rr⟩ := n1.rep.obj b _ hb
    exact ⟨b, r1, .inr ⟨⟨vs, SqL.of hv⟩, k ds G1 _ H1 n1 (itc_ref hb) q1⟩⟩
theorem lift_lcC {fresh : Bool} {ti : TI'} {g : TG} {g' : TG'} {tt : TT'} {te : TE'} {vs : List Nat} (mg : MonoG g) (lg : TgOk p vs g g') {σ H Q} (h : liftE p B (tLc' fresh ti g' tt te vs) σ H Q) : tLc (liftIC p B ti) g (liftT0 p tt) (liftE0 p te) vs σ H Q := by
  obtain ⟨σ', G, Q', at_, q, k⟩ := h
  refine ⟨σ', G, _, at_, q, fun xs G1 J H1 n1 it q1 => fun D hD => ?_⟩
  obtain ⟨hlen, F, turn, fin⟩ := q1
  have hGD : G1 D = none := n1.rep.free hD
  have n0 := rep_newM (ds := []) (vs := []) n1.rep hD (by exact rfl)
  refine ⟨fun i m H2 => m = xs.length - i ∧ i ≤ xs.length ∧ Nxt p G1 H1 (gup G1 D (.lst ((xs.take i).filterMap F))) H2, ⟨xs.length, by simp, Nat.zero_le _, n0⟩, ?_⟩
  rintro i m H2 ⟨rfl, hi, n2⟩
  obtain ⟨go, stop⟩ := it _ H2 n2 (fun a g e => by
    have : a ≠ D := fun z => by rw [z, hGD] at e; cases e
    rw [gup_ne this]; exact e) i
  by_cases hlt : i < xs.length
  · have hx : xs[i]? = some xs[i] := by simp [hlt]
    obtain ⟨hgo, hy⟩ := go _ hx
    refine .inr ⟨hgo, fun H3 => i + 1 ≤ xs.length ∧ Nxt p G1 H1 (gup G1 D (.lst ((xs.take (i + 1)).filterMap F))) H3, fun H3 ⟨h1, h2⟩ => ⟨xs.length - (i + 1), by omega, rfl, h1, h2⟩, fun v H3 yl => ?_⟩
    obtain ⟨n3, r3⟩ := hy v H3 yl
    have n23 := n2.trans n3
    have T := turn xs[i] (List.getElem_mem hlt) (gup G1 D (.lst ((xs.take i).filterMap F))) fun a g e => by
      have : a ≠ D := fun z => by rw [z, hGD] at e; cases e
      rw [gup_ne this]; exact e
    have aW : At p (Bs.from p G1 H1) (wipe' σ' vs) (gup G1 D (.lst ((xs.take i).filterMap F))) (wipe σ vs) H3 := ⟨(at_.s.step (n1.trans n23).st).wipe _, n23.rep, n23.st⟩
    refine mg _ _ _ _ _ (fun σ2 H4 h4 => ?_) (lg (Bs.from p G1 H1) xs[i] v _ _ _ H3 _ r3 aW T)
    obtain ⟨rfl, hw, σ2', a2, q2⟩ := h4
    refine ⟨hw.trans (wipe_idem σ _ _ fun _ h => h), Bs.from p G1 H1, σ2', _, _, a2, q2, fun b G5 H5 n5 q5 => ?_⟩
    cases hb : b with
    | true =>
      rw [hb, if_pos rfl] at q5
      rw [if_pos rfl]
      refine ⟨Bs.from p G1 H1, σ2', G5, _, a2.nxt n5, q5, fun y G6 w H6 n6 r6 q6 => ?_⟩
      obtain ⟨rfl, hF⟩ := q6
      obtain ⟨acc, hacc, racc⟩ := n6.rep.obj D _ gup_same
      refine ⟨acc, hacc, ?_, hlt, ?_⟩
      · rw [← racc.length]
        have h1 : ((xs.take i).filterMap F).length ≤ (xs.take i).length := List.length_filterMap_le _ _
        rw [List.length_take] at h1
        omega
      · have M := nxt_setL n6.rep gup_same hacc (racc.append (RepL.cons (ds := []) (vs := []) r6 (by exact rfl)))
        rw [gup_gup] at M
        rw [take_succ_filter hx, hF]
        exact ((n23.trans n5).trans n6).trans M
    | false =>
      rw [hb, if_neg Bool.false_ne_true] at q5
      rw [if_neg Bool.false_ne_true]
      obtain ⟨rfl, hF⟩ := q5
      refine ⟨hlt, ?_⟩
      rw [take_succ_filter hx, hF, List.append_nil]
      exact n23.trans n5
  · have e : i = xs.length := by omega
    subst e
    rw [List.take_length] at n2
    refine .inl ⟨stop (Nat.le_refl _), ?_⟩
    cases fresh with
    | true => exact k _ _ _ _ (n1.trans n2) (by exact rfl) (fin D hGD)
    | false =>
      have Z := nxt_freeze n2.rep hGD
      exact k _ _ _ _ ((n1.trans n2).trans Z.1) Z.2 fin
/-- name = [..] on one line -/
theorem ds_setLcC (fresh : Bool) (i : Nat) {y : Str} {py : Pos} {elt tg iter : Expr} {ifs : List Expr} {scope : Scope} {own : List (Str × Nat)} {spos : Pos} {ti : TI'} {g : TG} {g' : TG'} {tt : TT'} {te : TE'} (hc : X.calm = true) (hN : X.N.Nodup)
    (hi : PI X tg iter (liftIC p B ti)) (ok : BlkOk X.N X.env.scope scope own)
    (hg : ∀ (s : Shared) (H : Hp) (C : Addr) (cl : List (Str × Addr)) (fp : List Addr), PG (X.blk s H scope (compEnvC scope cl C X.env) fp) tg g) (mg : MonoG g) (lg : TgOk p (own.map (·.2)) g g')
    (ht : ∀ (s : Shared) (H : Hp) (C : Addr) (cl : List (Str × Addr)) (fp : List Addr), PTs (X.blk s H scope (compEnvC scope cl C X.env) fp) ifs (liftT0 p tt))
    (he : ∀ (s : Shared) (H : Hp) (C : Addr) (cl : List (Str × Addr)) (fp : List Addr), PE (X.blk s H scope (compEnvC scope cl C X.env) fp) elt (liftE0 p te))
    (hy : X.N[i]? = some y := by rfl) (hyl : X.env.scope.names.lookup y = some .local := by rfl)
    (hsw : swapsWith (.ListComp elt [⟨tg, iter, ifs, 0⟩] scope pos) (some (.Name y py)) spos.line X.env = pure true := by exact sw_true rfl rfl rfl (by decide +kernel)) (hs : ∀ x, foldedSetIterable iter X.env x = pure x := by intro _; rfl) :
    DS p B X (.Assign [.Name y py] (.ListComp elt [⟨tg, iter, ifs, 0⟩] scope pos) spos) (tAsg' (tLc' fresh ti g' tt te (own.map (·.2))) (gName' i)) :=
  PS.weak (ps_setLc hc hN hy hyl hsw hi ok hg ht he hs) fun D σ H ⟨σ', G, D', at_, q, k⟩ =>
    lift_lcC mg lg ⟨σ', G, _, at_, q, fun d G1 v H1 n1 r1 q1 => k.nx _ _ _ _ ((at_.nxt n1).set i r1) q1⟩
theorem de_lcC (fresh : Bool) {elt tg iter : Expr} {ifs : List Expr} {scope : Scope} {own : List (Str × Nat)} {ti : TI'} {g : TG} {g' : TG'} {tt : TT'} {te : TE'} (hc : X.calm = true) (hN : X.N.Nodup) (hi : PI X tg iter (liftIC p B ti)) (ok : BlkOk X.N X.env.scope scope own)
    (hg : ∀ (s : Shared) (H : Hp) (C : Addr) (cl : List (Str × Addr)) (fp : List Addr), PG (X.blk s H scope (compEnvC scope cl C X.env) fp) tg g) (mg : MonoG g) (lg : TgOk p (own.map (·.2)) g g')
    (ht : ∀ (s : Shared) (H : Hp) (C : Addr) (cl : List (Str × Addr)) (fp : List Addr), PTs (X.blk s H scope (compEnvC scope cl C X.env) fp) ifs (liftT0 p tt))
    (he : ∀ (s : Shared) (H : Hp) (C : Addr) (cl : List (Str × Addr)) (fp : List Addr), PE (X.blk s H scope (compEnvC scope cl C X.env) fp) elt (liftE0 p te)) (hs : ∀ x, foldedSetIterable iter X.env x = pure x := by intro _; rfl) :
    DE p B X (.ListComp elt [⟨tg, iter, ifs, 0⟩] scope pos) (tLc' fresh ti g' tt te (own.map (·.2))) := PE.weak (pe_lc hc hN hi ok hg ht he hs) fun σ H Q h => lift_lcC mg lg h
end
end DL

namespace DL
open PySem PySem.Spec PyProof.Rows L2
/-- a list is told that nobody else has -/
def freshL (Q : QE) (G : GH) (ds : List D) : Prop := ∀ r, G r = none → Q (.ref r) (gup G r (.lst ds))
/-- data without lists, no deeper than n -/
def PD : Nat → D → Prop
  | 0, _ => False
  | n + 1, .tup ds => ds.length ≤ 100 ∧ ∀ e ∈ ds, PD n e
  | _, .lst _ => False
  | _, .ref _ => False
  | _, .scr => False
  | _ + 1, _ => True
/-- a list of lists that nobody else has -/
structure Tree (G : GH) (t : Addr) (as : List Addr) (dss : List (List D)) : Prop where
  top : G t = some (.lst (as.map D.ref))
  len : as.length = dss.length
  at_ : ∀ q ∈ as.zip dss, G q.1 = some (.lst q.2)
  nd : (t :: as).Nodup
def PdL (dss : List (List D)) : Prop := dss.length ≤ 100 ∧ ∀ ds ∈ dss, ds.length ≤ 100 ∧ ∀ d ∈ ds, PD 3 d
def toldF (one other cs : List Int) : List (List D) :=
  [(gapsOf one).map D.int, (countsOf one 3 7 2 9).map D.int, (waitsOf one other).map optD, (betweenOf one other).map D.int, (canF (7, 3) 20).map D.int,
   [.int (cnt one 0 50).length, bndD (some (countF one 2 30)), bndD (timeF one 0 400), .int (lostOf one 3 7 2 9)],
   [pairD (shareF cs.sum cs.length), .int (maxL cs - minL cs)],
   [bndD (bndF one), ofrD (simO one), ofrD (phaseO one), .tup ((ticksF (1, 2) (7, 3) 9).map D.int)]]
def goOnN (x : D) (ns : List Int) (G : GH) (a b : Addr) (c : Ctr) (Q : QE) (E : EK') : Prop := match x with
  | .int t => if ∀ n ∈ ns, n < t then (if 0 ≤ t ∧ t ≤ 9999 then freshL Q (putC G a b (overC (goneC c ns t))) (toldC (goneC c ns t)) else E .gate G) else E .row G
  | _ => E .gate G
section
variable {p : Pm} {G : GH} {Q : QE} {E : EK'} {d s l x y : D} {i j lo hi : Int}
def sp_gaps_n (p : Pm) : Sp' := sp1 fun d G Q E => rowAsk d ∧ withRow d E G fun ns => freshL Q G ((gapsOf ns).map D.int)
@[simp] theorem at_gaps_n : sp_gaps_n p [d] G Q E = (rowAsk d ∧ withRow d E G fun ns => freshL Q G ((gapsOf ns).map D.int)) := by simp [sp_gaps_n]
def sp_counts_of_n (p : Pm) : Sp' := sp5 fun r s l c n G Q E => ∃ (ns : List Int) (a b e m : Int), r = .tup (ns.map D.int) ∧ s = .int a ∧ l = .int b ∧ c = .int e ∧ n = .int m ∧ ns.length ≤ sizeLine ∧ 0 ≤ m ∧ m ≤ 20 ∧ freshL Q G ((countsOf ns a b e m.toNat).map D.int)
theorem counts_of_n_i {ns : List Int} {a b e m : Int} (h0 : ns.length ≤ sizeLine) (h1 : 0 ≤ m) (h2 : m ≤ 20) (q : freshL Q G ((countsOf ns a b e m.toNat).map D.int)) : sp_counts_of_n p [.tup (ns.map D.int), .int a, .int b, .int e, .int m] G Q E := ⟨ns, a, b, e, m, rfl, rfl, rfl, rfl, rfl, h0, h1, h2, q⟩
def sp_in_gates_n (p : Pm) : Sp' := sp5 fun r s l c n G Q E => rowAsk r ∧ plain s = true ∧ plain l = true ∧ plain c = true ∧ plain n = true ∧ withRow r E G fun ns => withGates s l c n E G fun a b e m => freshL Q G ((countsOf ns a b e m.toNat).map D.int)
@[simp] theorem at_in_gates_n {r s l c n : D} : sp_in_gates_n p [r, s, l, c, n] G Q E = (rowAsk r ∧ plain s = true ∧ plain l = true ∧ plain c = true ∧ plain n = true ∧ withRow r E G fun ns => withGates s l c n E G fun a b e m => freshL Q G ((countsOf ns a b e m.toNat).map D.int)) := by simp [sp_in_gates_n]
def sp_lost_n (p : Pm) : Sp' := sp_lost p
@[simp] theorem at_lost_n : sp_lost_n p = sp_lost p := rfl
def sp_waits_n (p : Pm) : Sp' := sp2 fun r o G Q E => ∃ a b : List Int, r = .tup (a.map D.int) ∧ o = .tup (b.map D.int) ∧ a.length ≤ 40 ∧ b.length ≤ 40 ∧ freshL Q G ((waitsOf a b).map optD)
theorem waits_n_i {a b : List Int} (ha : a.length ≤ 40) (hb : b.length ≤ 40) (q : freshL Q G ((waitsOf a b).map optD)) : sp_waits_n p [.tup (a.map D.int), .tup (b.map D.int)] G Q E := ⟨a, b, rfl, rfl, ha, hb, q⟩
def sp_to_next_n (p : Pm) : Sp' := sp2 fun r o G Q E => rowAsk r ∧ rowAsk o ∧ withRow r E G fun a => withRow o E G fun b => freshL Q G ((waitsOf a b).map optD)
@[simp] theorem at_to_next_n : sp_to_next_n p [s, l] G Q E = (rowAsk s ∧ rowAsk l ∧ withRow s E G fun a => withRow l E G fun b => freshL Q G ((waitsOf a b).map optD)) := by simp [sp_to_next_n]
def sp_between_n (p : Pm) : Sp' := sp2 fun r o G Q E => rowAsk r ∧ rowAsk o ∧ withRow r E G fun a => withRow o E G fun b => freshL Q G ((betweenOf a b).map D.int)
@[simp] theorem at_between_n : sp_between_n p [s, l] G Q E = (rowAsk s ∧ rowAsk l ∧ withRow s E G fun a => withRow l E G fun b => freshL Q G ((betweenOf a b).map D.int)) := by simp [sp_between_n]
def canQ (a l : D) (G : GH) (Q : QE) (E : EK') : Prop := match cntB a l with
  | .inr r => freshL Q G (r.map D.int)
  | .inl x => E x G
def sp_can_count_n (p : Pm) : Sp' := sp2 fun a l G Q E => fracAsk a ∧ plain l = true ∧ canQ a l G Q E
@[simp] theorem at_can_count_n : sp_can_count_n p [s, l] G Q E = (fracAsk s ∧ plain l = true ∧ canQ s l G Q E) := by simp [sp_can_count_n]
def sp_Counter_go_on_n (p : Pm) : Sp' := sp3 fun s x r G Q E => ∃ (a b : Addr) (c : Ctr), s = .ref a ∧ CtrAt G a b c ∧ CtrOk c ∧ a ≠ b ∧ rowAsk r ∧ plain x = true ∧
  withRow r E G fun ns => goOnN x ns G a b c Q E
abbrev sp__law_copied_r0 (p : Pm) : Sp' := spBot
/-- a copy of data: itself -/
def spCp (n : Nat) : Sp' := sp1 fun d G Q E => PD n d ∧ Q d G
theorem at_cp {n : Nat} : spCp n [d] G Q E = (PD n d ∧ Q d G) := by simp [spCp]
def sp__law_copied_r1 (p : Pm) : Sp' := spCp 1
def sp__law_copied_r2 (p : Pm) : Sp' := spCp 2
def sp__law_copied_r3 (p : Pm) : Sp' := spCp 3
def sp__law_copied_r4 (p : Pm) : Sp' := sp1 fun d G Q E => ∃ a ds, d = .ref a ∧ G a = some (.lst ds) ∧ ds.length ≤ 100 ∧ (∀ e ∈ ds, PD 3 e) ∧ Q (.lst ds) G
def sp__law_copied_r5 (p : Pm) : Sp' := sp1 fun d G Q E => ∃ t as dss, d = .ref t ∧ Tree G t as dss ∧ PdL dss ∧ Q (.lst (dss.map D.lst)) G
abbrev sp__law_spoil_r0 (p : Pm) : Sp' := spBot
def spSl (n : Nat) : Sp' := sp1 fun d G Q E => PD n d ∧ Q .non G
theorem at_sl {n : Nat} : spSl n [d] G Q E = (PD n d ∧ Q .non G) := by simp [spSl]
def sp__law_spoil_r1 (p : Pm) : Sp' := spSl 1
def sp__law_spoil_r2 (p : Pm) : Sp' := spSl 2
def sp__law_spoil_r3 (p : Pm) : Sp' := spSl 3
def sp__law_spoil_r4 (p : Pm) : Sp' := sp1 fun d G Q E => ∃ a ds, d = .ref a ∧ G a = some (.lst ds) ∧ ds.length ≤ 100 ∧ (∀ e ∈ ds, PD 3 e) ∧ ∀ ds', Q .non (gup G a (.lst ds'))
def sp__law_spoil_r5 (p : Pm) : Sp' := sp1 fun d G Q E => ∃ t as dss, d = .ref t ∧ Tree G t as dss ∧ PdL dss ∧ ∀ G', (∀ x, x ∉ t :: as → G' x = G x) → Q .non G'
def sp__law_lists (p : Pm) : Sp' := sp3 fun a b c G Q E => ∃ one other cs : List Int, a = .tup (one.map D.int) ∧ b = .tup (other.map D.int) ∧ c = .lst (cs.map D.int) ∧ RowOk one ∧ RowOk other ∧ CountsOk cs ∧
  ∀ G' t as, Tree G' t as (toldF one other cs) → (∀ x g, G x = some g → G' x = some g) → (∀ x ∈ t :: as, G x = none) → Q (.ref t) G'
theorem lists_i {one other cs : List Int} (h1 : RowOk one) (h2 : RowOk other) (h3 : CountsOk cs) (q : ∀ G' t as, Tree G' t as (toldF one other cs) → (∀ x g, G x = some g → G' x = some g) → (∀ x ∈ t :: as, G x = none) → Q (.ref t) G') : sp__law_lists p [.tup (one.map D.int), .tup (other.map D.int), .lst (cs.map D.int)] G Q E := ⟨one, other, cs, rfl, rfl, rfl, h1, h2, h3, q⟩
/-- bad things at two places, and what is told first -/
def twelveW : List (Nat × D × D × D × Str) := [(0, .non, .int (-1), .int 1, "no row"), (0, .tup [], .int (-1), .int 1, "no gate"), (1, .lst [.int 1], .int 0, .int 0, "no row"), (2, .int 0, .non, .non, "no gate"), (2, .int 1, .non, .non, "no period"),
  (3, .tup [.int 2, .int 1], .int 0, .int 0, "no row"), (3, .tup [], .int 0, .int 0, "no gate"), (3, .tup [], .int 0, .int 1, "no gate"), (4, .lst [.int 1], .non, .non, "no row"), (4, .tup [], .non, .non, "no gate"), (4, .tup [.int 9], .int 3, .non, "no row"), (5, .int 5, .int 0, .int 0, "no row")]
def rowW (q : Nat × D × D × D × Str) : D := .tup [.int q.1, q.2.1, q.2.2.1, q.2.2.2.1, .str q.2.2.2.2]
def sp__law_do (p : Pm) : Sp' := sp4 fun w a b c G Q E => ∃ k x y z t, (k, x, y, z, t) ∈ twelveW ∧ w = .int (k : Nat) ∧ a = x ∧ b = y ∧ c = z ∧ Q (.str t) G
end
end DL

namespace DL
open PySem PySem.Spec PyProof.Rows L2
def t_gaps_n (p : Pm) (W : WX') : TS' :=
    (tSeq' (tDrop' (tCall' 1 (sp_look_row p) W (tCons' (tVar' 0) tNil')))
    (tRet' (tLc' true (iZip' (tCons' (tVar' 0) (tCons' (tSl' (rSl' false) (tVar' 0) (tPart' (tC' (.int 1))) tNo') tNil'))) (gTup' 2 (gCons' (gName' 1) (gCons' (gName' 2) gNil'))) tYes' (tOp' (rI' (fun _ _ => True) fun i j => .int (i - j)) (tVar' 2) (tVar' 1)) [1, 2])))

def t_counts_of_n (p : Pm) (W : WX') : TS' :=
    (tRet' (tLc' true (iSeq' (tCall' 4 (sp_starts_of p) W (tCons' (tVar' 1) (tCons' (tVar' 2) (tCons' (tVar' 3) (tCons' (tVar' 4) tNil')))))) (gName' 5) tYes' (tCB' (rLen' p) (tCons' (tCall' 3 (sp_in_gate p) Wno (tCons' (tVar' 0) (tCons' (tVar' 5) (tCons' (tVar' 2) tNil')))) tNil')) [5]))

def t_in_gates_n (p : Pm) (W : WX') : TS' :=
    (tSeq' (tDrop' (tCall' 1 (sp_look_row p) W (tCons' (tVar' 0) tNil')))
    (tSeq' (tDrop' (tCall' 4 (sp_look_gates p) W (tCons' (tVar' 1) (tCons' (tVar' 2) (tCons' (tVar' 3) (tCons' (tVar' 4) tNil'))))))
    (tRet' (tCall' 5 (sp_counts_of_n p) W (tCons' (tVar' 0) (tCons' (tVar' 1) (tCons' (tVar' 2) (tCons' (tVar' 3) (tCons' (tVar' 4) tNil')))))))))

def t_lost_n (p : Pm) (W : WX') : TS' :=
    (tSeq' (tDrop' (tCall' 1 (sp_look_row p) W (tCons' (tVar' 0) tNil')))
    (tSeq' (tDrop' (tCall' 4 (sp_look_gates p) W (tCons' (tVar' 1) (tCons' (tVar' 2) (tCons' (tVar' 3) (tCons' (tVar' 4) tNil'))))))
    (tSeq' (tAsg' (tOp' (rAdd' false) (tOp' (rMul' false) (tVar' 4) (tVar' 2)) (tOp' (rMul' false) (tOp' (rI' (fun _ _ => True) fun i j => .int (i - j)) (tVar' 4) (tC' (.int 1))) (tVar' 3))) (gName' 5))
    (tRet' (tOp' (rI' (fun _ _ => True) fun i j => .int (i - j)) (tCB' (rLen' p) (tCons' (tCall' 3 (sp_in_gate p) W (tCons' (tVar' 0) (tCons' (tVar' 1) (tCons' (tVar' 5) tNil')))) tNil')) (tCB' rSum' (tCons' (tCall' 5 (sp_counts_of_n p) W (tCons' (tVar' 0) (tCons' (tVar' 1) (tCons' (tVar' 2) (tCons' (tVar' 3) (tCons' (tVar' 4) tNil')))))) tNil')))))))

def t_waits_n (p : Pm) (W : WX') : TS' :=
    (tSeqF' (tAsg' (tLst' true tNil') (gName' 2))
    (tSeqF' (tFor' (iSeq' (tVar' 0)) (gName' 3) (tSeqF' (tAsg' (tLc' false (iSeq' (tVar' 1)) (gName' 5) (tTest' (tOp' (rCmp' fun i j => decide (j ≤ i)) (tVar' 5) (tVar' 3))) (tOp' (rI' (fun _ _ => True) fun i j => .int (i - j)) (tVar' 5) (tVar' 3)) [5]) (gName' 4))
    (tDrop' (tMut' rAppend' (tVar' 2) (tCons' (tIf' (tTest' (tOp' (rEq' p true) (tVar' 4) (tLst' false tNil'))) (tOp' (rIx' p) (tVar' 4) (tC' (.int 0))) (tC' .non)) tNil')))))
    (tRet' (tVar' 2))))

def t_to_next_n (p : Pm) (W : WX') : TS' :=
    (tSeq' (tDrop' (tCall' 1 (sp_look_row p) W (tCons' (tVar' 0) tNil')))
    (tSeq' (tDrop' (tCall' 1 (sp_look_row p) W (tCons' (tVar' 1) tNil')))
    (tRet' (tCall' 2 (sp_waits_n p) W (tCons' (tVar' 0) (tCons' (tVar' 1) tNil'))))))

def t_between_n (p : Pm) (W : WX') : TS' :=
    (tSeq' (tDrop' (tCall' 1 (sp_look_row p) W (tCons' (tVar' 0) tNil')))
    (tSeq' (tDrop' (tCall' 1 (sp_look_row p) W (tCons' (tVar' 1) tNil')))
    (tRet' (tLc' true (iZip' (tCons' (tVar' 0) (tCons' (tSl' (rSl' false) (tVar' 0) (tPart' (tC' (.int 1))) tNo') tNil'))) (gTup' 2 (gCons' (gName' 2) (gCons' (gName' 3) gNil'))) tYes' (tCB' (rLen' p) (tCons' (tLc' false (iSeq' (tVar' 1)) (gName' 4) (tTest' (tChain' (rCmp' fun i j => decide (i ≤ j)) (rCmp' fun i j => decide (i < j)) (tVar' 2) (tVar' 4) (tVar' 3))) (tVar' 4) [4]) tNil')) [2, 3]))))

def t_can_count_n (p : Pm) (W : WX') : TS' :=
    (tSeq' (tDrop' (tCall' 2 (sp_look_gate p) W (tCons' (tC' (.int 0)) (tCons' (tVar' 1) tNil'))))
    (tSeq' (tDrop' (tCall' 1 (sp_look_period p) W (tCons' (tVar' 0) tNil')))
    (tSeq' (tAsg' (tOp' (rI' CDiv fun i j => .int (i / j)) (tOp' (rMul' false) (tVar' 1) (tOp' (rIx' p) (tVar' 0) (tC' (.int 1)))) (tOp' (rIx' p) (tVar' 0) (tC' (.int 0)))) (gName' 2))
    (tRet' (tIf' (tTest' (tOp' (rEq' p false) (tOp' (rMul' false) (tVar' 2) (tOp' (rIx' p) (tVar' 0) (tC' (.int 0)))) (tOp' (rMul' false) (tVar' 1) (tOp' (rIx' p) (tVar' 0) (tC' (.int 1)))))) (tLst' true (tCons' (tVar' 2) tNil')) (tLst' true (tCons' (tVar' 2) (tCons' (tOp' (rAdd' false) (tVar' 2) (tC' (.int 1))) tNil'))))))))

def t_Counter_go_on_n (p : Pm) (W : WX') : TS' :=
    (tSeqF' (tDrop' (tCall' 1 (sp_look_row p) W (tCons' (tVar' 2) tNil')))
    (tSeqF' (tAsg' (tAndV' (rIsi' "int" (tVar' 1)) (tNotV' (rIsi' "bool" (tVar' 1)))) (gName' 3))
    (tSeqF' (tIfS' (tAnd' (tTest' (tVar' 3)) (tNot' (tTest' (tCB' rAll' (tCons' (tLc' false (iSeq' (tVar' 2)) (gName' 4) tYes' (tOp' (rCmp' fun i j => decide (i < j)) (tVar' 4) (tVar' 1)) [4]) tNil'))))) (tRaise' .row W) tNext')
    (tSeqF' (tIfS' (tNot' (tTest' (tCall' 3 (sp_is_whole p) W (tCons' (tVar' 1) (tCons' (tC' (.int 0)) (tCons' (tC' (.int 9999)) tNil')))))) (tRaise' .gate W) tNext')
    (tSeqF' (tFor' (iSeq' (tVar' 2)) (gName' 4) (tDrop' (tMeth' "Counter" "beat" 2 (sp_Counter_beat p) W (tVar' 0) (tCons' (tOp' (rAdd' false) (tFld' "Counter" "gone" (tVar' 0)) (tVar' 4)) tNil'))))
    (tSeqF' (tFset' "Counter" "gone" (tVar' 0) (tOp' (rAdd' false) (tFld' "Counter" "gone" (tVar' 0)) (tVar' 1)))
    (tSeqF' (tAsg' (tLst' true tNil') (gName' 5))
    (tSeqF' (tWhile' (tAnd' (tTest' (tOp' (rCmp' fun i j => decide (i < j)) (tFld' "Counter" "next" (tVar' 0)) (tCB' (rLen' p) (tCons' (tFld' "Counter" "starts" (tVar' 0)) tNil')))) (tTest' (tOp' (rCmp' fun i j => decide (i ≤ j)) (tOp' (rAdd' false) (tOp' (rIx' p) (tFld' "Counter" "starts" (tVar' 0)) (tFld' "Counter" "next" (tVar' 0))) (tFld' "Counter" "length" (tVar' 0))) (tFld' "Counter" "gone" (tVar' 0))))) (tSeqF' (tDrop' (tMut' rAppend' (tVar' 5) (tCons' (tTup' (tCons' (tFld' "Counter" "next" (tVar' 0)) (tCons' (tOp' (rIx' p) (tFld' "Counter" "found" (tVar' 0)) (tFld' "Counter" "next" (tVar' 0))) tNil'))) tNil')))
    (tFset' "Counter" "next" (tVar' 0) (tOp' (rAdd' false) (tFld' "Counter" "next" (tVar' 0)) (tC' (.int 1))))))
    (tRet' (tVar' 5))))))))))

def t__law_copied_r1 (p : Pm) (W : WX') : TS' :=
    (tSeq' (tIfS' (tTest' (rIsi' "list" (tVar' 0))) (tRet' (tLc' false (iSeqC' (tVar' 0)) (gName' 1) tYes' (tCall' 1 (sp__law_copied_r0 p) Wno (tCons' (tVar' 1) tNil')) [1])) tNext')
    (tSeq' (tIfS' (tTest' (rIsi' "tuple" (tVar' 0))) (tRet' (tCB' rTupOf' (tCons' (tLc' false (iSeqC' (tVar' 0)) (gName' 1) tYes' (tCall' 1 (sp__law_copied_r0 p) Wno (tCons' (tVar' 1) tNil')) [1]) tNil'))) tNext')
    (tSeq' (tIfS' (tTest' (rIsi' "dict" (tVar' 0))) tBad' tNext')
    (tRet' (tVar' 0)))))

def t__law_copied_r2 (p : Pm) (W : WX') : TS' :=
    (tSeq' (tIfS' (tTest' (rIsi' "list" (tVar' 0))) (tRet' (tLc' false (iSeqC' (tVar' 0)) (gName' 1) tYes' (tCall' 1 (sp__law_copied_r1 p) Wno (tCons' (tVar' 1) tNil')) [1])) tNext')
    (tSeq' (tIfS' (tTest' (rIsi' "tuple" (tVar' 0))) (tRet' (tCB' rTupOf' (tCons' (tLc' false (iSeqC' (tVar' 0)) (gName' 1) tYes' (tCall' 1 (sp__law_copied_r1 p) Wno (tCons' (tVar' 1) tNil')) [1]) tNil'))) tNext')
    (tSeq' (tIfS' (tTest' (rIsi' "dict" (tVar' 0))) tBad' tNext')
    (tRet' (tVar' 0)))))

def t__law_copied_r3 (p : Pm) (W : WX') : TS' :=
    (tSeq' (tIfS' (tTest' (rIsi' "list" (tVar' 0))) (tRet' (tLc' false (iSeqC' (tVar' 0)) (gName' 1) tYes' (tCall' 1 (sp__law_copied_r2 p) Wno (tCons' (tVar' 1) tNil')) [1])) tNext')
    (tSeq' (tIfS' (tTest' (rIsi' "tuple" (tVar' 0))) (tRet' (tCB' rTupOf' (tCons' (tLc' false (iSeqC' (tVar' 0)) (gName' 1) tYes' (tCall' 1 (sp__law_copied_r2 p) Wno (tCons' (tVar' 1) tNil')) [1]) tNil'))) tNext')
    (tSeq' (tIfS' (tTest' (rIsi' "dict" (tVar' 0))) tBad' tNext')
    (tRet' (tVar' 0)))))

def t__law_copied_r4 (p : Pm) (W : WX') : TS' :=
    (tSeq' (tIfS' (tTest' (rIsi' "list" (tVar' 0))) (tRet' (tLc' false (iSeqC' (tVar' 0)) (gName' 1) tYes' (tCall' 1 (sp__law_copied_r3 p) Wno (tCons' (tVar' 1) tNil')) [1])) tNext')
    (tSeq' (tIfS' (tTest' (rIsi' "tuple" (tVar' 0))) (tRet' (tCB' rTupOf' (tCons' (tLc' false (iSeqC' (tVar' 0)) (gName' 1) tYes' (tCall' 1 (sp__law_copied_r3 p) Wno (tCons' (tVar' 1) tNil')) [1]) tNil'))) tNext')
    (tSeq' (tIfS' (tTest' (rIsi' "dict" (tVar' 0))) tBad' tNext')
    (tRet' (tVar' 0)))))

def t__law_copied_r5 (p : Pm) (W : WX') : TS' :=
    (tSeq' (tIfS' (tTest' (rIsi' "list" (tVar' 0))) (tRet' (tLc' false (iSeqC' (tVar' 0)) (gName' 1) tYes' (tCall' 1 (sp__law_copied_r4 p) Wno (tCons' (tVar' 1) tNil')) [1])) tNext')
    (tSeq' (tIfS' (tTest' (rIsi' "tuple" (tVar' 0))) (tRet' (tCB' rTupOf' (tCons' (tLc' false (iSeqC' (tVar' 0)) (gName' 1) tYes' (tCall' 1 (sp__law_copied_r4 p) Wno (tCons' (tVar' 1) tNil')) [1]) tNil'))) tNext')
    (tSeq' (tIfS' (tTest' (rIsi' "dict" (tVar' 0))) tBad' tNext')
    (tRet' (tVar' 0)))))

def t__law_spoil_r1 (p : Pm) (W : WX') : TS' :=
    (tSeqF' (tIfS' (tTest' (rIsi2' "list" "tuple" (tVar' 0))) (tForL' (iSeqL' (tVar' 0)) (gName' 1) (tDrop' (tCall' 1 (sp__law_spoil_r0 p) W (tCons' (tVar' 1) tNil')))) tNext')
    (tSeqF' (tIfS' (tTest' (rIsi' "dict" (tVar' 0))) tBad' tNext')
    (tIfS' (tTest' (rIsi' "list" (tVar' 0))) (tSeqF' (tDrop' (tMut' rAppend' (tVar' 0) (tCons' (tC' .non) tNil')))
    (tDrop' (tMut' rReverse' (tVar' 0) tNil'))) tNext')))

def t__law_spoil_r2 (p : Pm) (W : WX') : TS' :=
    (tSeqF' (tIfS' (tTest' (rIsi2' "list" "tuple" (tVar' 0))) (tForL' (iSeqL' (tVar' 0)) (gName' 1) (tDrop' (tCall' 1 (sp__law_spoil_r1 p) W (tCons' (tVar' 1) tNil')))) tNext')
    (tSeqF' (tIfS' (tTest' (rIsi' "dict" (tVar' 0))) tBad' tNext')
    (tIfS' (tTest' (rIsi' "list" (tVar' 0))) (tSeqF' (tDrop' (tMut' rAppend' (tVar' 0) (tCons' (tC' .non) tNil')))
    (tDrop' (tMut' rReverse' (tVar' 0) tNil'))) tNext')))

def t__law_spoil_r3 (p : Pm) (W : WX') : TS' :=
    (tSeqF' (tIfS' (tTest' (rIsi2' "list" "tuple" (tVar' 0))) (tForL' (iSeqL' (tVar' 0)) (gName' 1) (tDrop' (tCall' 1 (sp__law_spoil_r2 p) W (tCons' (tVar' 1) tNil')))) tNext')
    (tSeqF' (tIfS' (tTest' (rIsi' "dict" (tVar' 0))) tBad' tNext')
    (tIfS' (tTest' (rIsi' "list" (tVar' 0))) (tSeqF' (tDrop' (tMut' rAppend' (tVar' 0) (tCons' (tC' .non) tNil')))
    (tDrop' (tMut' rReverse' (tVar' 0) tNil'))) tNext')))

def t__law_spoil_r4 (p : Pm) (W : WX') : TS' :=
    (tSeqF' (tIfS' (tTest' (rIsi2' "list" "tuple" (tVar' 0))) (tForL' (iSeqL' (tVar' 0)) (gName' 1) (tDrop' (tCall' 1 (sp__law_spoil_r3 p) W (tCons' (tVar' 1) tNil')))) tNext')
    (tSeqF' (tIfS' (tTest' (rIsi' "dict" (tVar' 0))) tBad' tNext')
    (tIfS' (tTest' (rIsi' "list" (tVar' 0))) (tSeqF' (tDrop' (tMut' rAppend' (tVar' 0) (tCons' (tC' .non) tNil')))
    (tDrop' (tMut' rReverse' (tVar' 0) tNil'))) tNext')))

def t__law_spoil_r5 (p : Pm) (W : WX') : TS' :=
    (tSeqF' (tIfS' (tTest' (rIsi2' "list" "tuple" (tVar' 0))) (tForL' (iSeqL' (tVar' 0)) (gName' 1) (tDrop' (tCall' 1 (sp__law_spoil_r4 p) W (tCons' (tVar' 1) tNil')))) tNext')
    (tSeqF' (tIfS' (tTest' (rIsi' "dict" (tVar' 0))) tBad' tNext')
    (tIfS' (tTest' (rIsi' "list" (tVar' 0))) (tSeqF' (tDrop' (tMut' rAppend' (tVar' 0) (tCons' (tC' .non) tNil')))
    (tDrop' (tMut' rReverse' (tVar' 0) tNil'))) tNext')))

def t__law_lists (p : Pm) (W : WX') : TS' :=
    (tSeqF' (tAsg' (tLst' true (tCons' (tCall' 1 (sp_gaps_n p) W (tCons' (tVar' 0) tNil')) (tCons' (tCall' 5 (sp_in_gates_n p) W (tCons' (tVar' 0) (tCons' (tC' (.int 3)) (tCons' (tC' (.int 7)) (tCons' (tC' (.int 2)) (tCons' (tC' (.int 9)) tNil')))))) (tCons' (tCall' 2 (sp_to_next_n p) W (tCons' (tVar' 0) (tCons' (tVar' 1) tNil'))) (tCons' (tCall' 2 (sp_between_n p) W (tCons' (tVar' 0) (tCons' (tVar' 1) tNil'))) (tCons' (tCall' 2 (sp_can_count_n p) W (tCons' (tTup' (tCons' (tC' (.int 7)) (tCons' (tC' (.int 3)) tNil'))) (tCons' (tC' (.int 20)) tNil'))) tNil')))))) (gName' 3))
    (tSeqF' (tDrop' (tMut' rAppend' (tVar' 3) (tCons' (tLst' true (tCons' (tCall' 3 (sp_counted p) W (tCons' (tVar' 0) (tCons' (tC' (.int 0)) (tCons' (tC' (.int 50)) tNil')))) (tCons' (tCall' 3 (sp_by_count p) W (tCons' (tVar' 0) (tCons' (tC' (.int 2)) (tCons' (tC' (.int 30)) tNil')))) (tCons' (tCall' 3 (sp_by_time p) W (tCons' (tVar' 0) (tCons' (tC' (.int 0)) (tCons' (tC' (.int 400)) tNil')))) (tCons' (tCall' 5 (sp_lost_n p) W (tCons' (tVar' 0) (tCons' (tC' (.int 3)) (tCons' (tC' (.int 7)) (tCons' (tC' (.int 2)) (tCons' (tC' (.int 9)) tNil')))))) tNil'))))) tNil')))
    (tSeqF' (tDrop' (tMut' rAppend' (tVar' 3) (tCons' (tLst' true (tCons' (tCall' 1 (sp_mean p) W (tCons' (tVar' 2) tNil')) (tCons' (tCall' 1 (sp_spread p) W (tCons' (tVar' 2) tNil')) tNil'))) tNil')))
    (tRet' (tOp' (rAdd' true) (tVar' 3) (tLst' true (tCons' (tLst' true (tCons' (tCall' 1 (sp_bounds p) W (tCons' (tVar' 0) tNil')) (tCons' (tCall' 1 (sp_simplest p) W (tCons' (tVar' 0) tNil')) (tCons' (tCall' 1 (sp_phase_for p) W (tCons' (tVar' 0) tNil')) (tCons' (tCall' 3 (sp_steady p) W (tCons' (tTup' (tCons' (tC' (.int 1)) (tCons' (tC' (.int 2)) tNil'))) (tCons' (tTup' (tCons' (tC' (.int 7)) (tCons' (tC' (.int 3)) tNil'))) (tCons' (tC' (.int 9)) tNil')))) tNil'))))) tNil')))))))

def t__law_do (p : Pm) (W : WX') : TS' :=
    (tSeq' (tAsg' (tC' .non) (gName' 4))
    (tSeq' (tAsg' (tC' .non) (gName' 5))
    (tSeq' (tTry' 6 4 fun W => (tIfS' (tTest' (tOp' (rCmp' fun i j => decide (i < j)) (tVar' 0) (tC' (.int 2)))) (tAsg' (tIf' (tTest' (tOp' (rEq' p false) (tVar' 0) (tC' (.int 0)))) (tCall' 3 (sp_counted p) W (tCons' (tVar' 1) (tCons' (tVar' 2) (tCons' (tVar' 3) tNil')))) (tCall' 3 (sp_by_count p) W (tCons' (tVar' 1) (tCons' (tVar' 2) (tCons' (tVar' 3) tNil'))))) (gName' 5)) (tIfS' (tTest' (tOp' (rCmp' fun i j => decide (i < j)) (tVar' 0) (tC' (.int 4)))) (tAsg' (tIf' (tTest' (tOp' (rEq' p false) (tVar' 0) (tC' (.int 2)))) (tCall' 2 (sp_can_count_n p) W (tCons' (tVar' 2) (tCons' (tVar' 1) tNil'))) (tCall' 5 (sp_in_gates_n p) W (tCons' (tVar' 1) (tCons' (tVar' 2) (tCons' (tVar' 3) (tCons' (tC' .non) (tCons' (tC' (.int 0)) tNil'))))))) (gName' 5)) (tAsg' (tIf' (tTest' (tOp' (rEq' p false) (tVar' 0) (tC' (.int 4)))) (tMeth' "Counter" "go_on" 3 (sp_Counter_go_on_n p) W (tMake' "Counter" 5 (sp_Counter___init__ p) W (tCons' (tC' (.int 0)) (tCons' (tC' (.int 5)) (tCons' (tC' (.int 0)) (tCons' (tC' (.int 1)) tNil'))))) (tCons' (tVar' 2) (tCons' (tVar' 1) tNil'))) (tCall' 3 (sp_by_time p) W (tCons' (tVar' 1) (tCons' (tVar' 2) (tCons' (tVar' 3) tNil'))))) (gName' 5)))))
    (tSeq' (tIfS' (tTest' (tOp' (rIsN' false) (tVar' 4) (tC' .non))) (tRet' (tVar' 5)) tNext')
    (tRet' (tCall' 1 (sp__law_word p) W (tCons' (tVar' 4) tNil')))))))

def t_law (p : Pm) (W : WX') : TS' :=
    (tSeqF' (tPar' 1 2 (tCons' (tCall' 3 (sp__law_row p) W (tCons' (tVar' 0) (tCons' (tC' (.int 10)) (tCons' (tC' (.int 9)) tNil')))) (tCons' (tCall' 3 (sp__law_row p) W (tCons' (tVar' 0) (tCons' (tC' (.int 40)) (tCons' (tC' (.int 9)) tNil')))) tNil')))
    (tSeqF' (tAsg' (tLc' false (iRng1' (tCons' (tOp' (rAdd' false) (tC' (.int 1)) (tCall' 3 (sp__law_pick p) W (tCons' (tVar' 0) (tCons' (tC' (.int 2)) (tCons' (tC' (.int 9)) tNil'))))) tNil')) (gName' 12) tYes' (tCall' 3 (sp__law_pick p) Wno (tCons' (tVar' 0) (tCons' (tOp' (rAdd' false) (tC' (.int 70)) (tVar' 12)) (tCons' (tC' (.int 100)) tNil')))) [12]) (gName' 3))
    (tSeqF' (tAsg' (tCB' (rLstOf' false) (tCons' (tVar' 3) tNil')) (gName' 4))
    (tSeqF' (tAsg' (tCall' 3 (sp__law_lists p) W (tCons' (tVar' 1) (tCons' (tVar' 2) (tCons' (tVar' 3) tNil')))) (gName' 5))
    (tSeqF' (tAsg' (tCall' 1 (sp__law_copied_r5 p) W (tCons' (tVar' 5) tNil')) (gName' 6))
    (tSeqF' (tDrop' (tCall' 1 (sp__law_spoil_r5 p) W (tCons' (tVar' 5) tNil')))
    (tSeqF' (tIfS' (tOr' (tTest' (tOp' (rEq2' p true) (tCall' 3 (sp__law_lists p) W (tCons' (tVar' 1) (tCons' (tVar' 2) (tCons' (tVar' 3) tNil')))) (tVar' 6))) (tTest' (tOp' (rEq' p true) (tVar' 3) (tVar' 4)))) (tRet' (tC' (.bl false))) tNext')
    (tSeqF' (tPar' 7 8 (tCons' (tMake' "Counter" 5 (sp_Counter___init__ p) W (tCons' (tC' (.int 1)) (tCons' (tC' (.int 3)) (tCons' (tC' (.int 1)) (tCons' (tC' (.int 4)) tNil'))))) (tCons' (tMake' "Counter" 5 (sp_Counter___init__ p) W (tCons' (tC' (.int 1)) (tCons' (tC' (.int 3)) (tCons' (tC' (.int 1)) (tCons' (tC' (.int 4)) tNil'))))) tNil')))
    (tSeqF' (tAsg' (tMeth' "Counter" "go_on" 3 (sp_Counter_go_on_n p) W (tVar' 7) (tCons' (tC' (.int 9)) (tCons' (tTup' (tCons' (tC' (.int 1)) (tCons' (tC' (.int 3)) (tCons' (tC' (.int 5)) tNil')))) tNil'))) (gName' 9))
    (tSeqF' (tAsg' (tCB' (rLstOf' false) (tCons' (tVar' 9) tNil')) (gName' 10))
    (tSeqF' (tDrop' (tMut' rAppend' (tVar' 9) (tCons' (tC' .non) tNil')))
    (tSeqF' (tIfS' (tOr' (tTest' (tOp' (rEq' p true) (tVar' 10) (tLst' false (tCons' (tTup' (tCons' (tC' (.int 0)) (tCons' (tC' (.int 2)) tNil'))) (tCons' (tTup' (tCons' (tC' (.int 1)) (tCons' (tC' (.int 1)) tNil'))) tNil'))))) (tOr' (tTest' (tOp' (rEq' p true) (tMeth' "Counter" "over" 1 (sp_Counter_over p) W (tVar' 8) tNil') (tC' (.int 0)))) (tOr' (tTest' (tOp' (rIsN' true) (tMeth' "Counter" "now" 1 (sp_Counter_now p) W (tVar' 8) tNil') (tC' .non))) (tTest' (tOp' (rEq' p true) (tMeth' "Counter" "now" 1 (sp_Counter_now p) W (tVar' 7) tNil') (tC' (.int 0))))))) (tRet' (tC' (.bl false))) tNext')
    (tSeqF' (tIfS' (tOr' (tTest' (tOp' (rEq' p true) (tMeth' "Counter" "go_on" 3 (sp_Counter_go_on_n p) W (tVar' 7) (tCons' (tC' (.int 0)) (tCons' (tTup' tNil') tNil'))) (tLst' false tNil'))) (tOr' (tTest' (tOp' (rEq' p true) (tMeth' "Counter" "go_on" 3 (sp_Counter_go_on_n p) W (tVar' 7) (tCons' (tC' (.int 3)) (tCons' (tTup' (tCons' (tC' (.int 0)) tNil')) tNil'))) (tLst' false (tCons' (tTup' (tCons' (tC' (.int 2)) (tCons' (tC' (.int 1)) tNil'))) tNil')))) (tTest' (tOp' (rEq' p true) (tMeth' "Counter" "go_on" 3 (sp_Counter_go_on_n p) W (tVar' 8) (tCons' (tC' (.int 9)) (tCons' (tTup' tNil') tNil'))) (tLst' false (tCons' (tTup' (tCons' (tC' (.int 0)) (tCons' (tC' (.int 0)) tNil'))) (tCons' (tTup' (tCons' (tC' (.int 1)) (tCons' (tC' (.int 0)) tNil'))) tNil'))))))) (tRet' (tC' (.bl false))) tNext')
    (tSeqF' (tAsg' (tLst' true (tCons' (tTup' (tCons' (tC' (.int 0)) (tCons' (tC' .non) (tCons' (tNeg' (tC' (.int 1))) (tCons' (tC' (.int 1)) (tCons' (tC' (.str "no row")) tNil')))))) (tCons' (tTup' (tCons' (tC' (.int 0)) (tCons' (tTup' tNil') (tCons' (tNeg' (tC' (.int 1))) (tCons' (tC' (.int 1)) (tCons' (tC' (.str "no gate")) tNil')))))) (tCons' (tTup' (tCons' (tC' (.int 1)) (tCons' (tLst' false (tCons' (tC' (.int 1)) tNil')) (tCons' (tC' (.int 0)) (tCons' (tC' (.int 0)) (tCons' (tC' (.str "no row")) tNil')))))) tNil')))) (gName' 11))
    (tSeqF' (tDrop' (tMut' rExtend' (tVar' 11) (tCons' (tLst' false (tCons' (tTup' (tCons' (tC' (.int 2)) (tCons' (tC' (.int 0)) (tCons' (tC' .non) (tCons' (tC' .non) (tCons' (tC' (.str "no gate")) tNil')))))) tNil')) tNil')))
    (tSeqF' (tDrop' (tMut' rExtend' (tVar' 11) (tCons' (tLst' false (tCons' (tTup' (tCons' (tC' (.int 2)) (tCons' (tC' (.int 1)) (tCons' (tC' .non) (tCons' (tC' .non) (tCons' (tC' (.str "no period")) tNil')))))) (tCons' (tTup' (tCons' (tC' (.int 3)) (tCons' (tTup' (tCons' (tC' (.int 2)) (tCons' (tC' (.int 1)) tNil'))) (tCons' (tC' (.int 0)) (tCons' (tC' (.int 0)) (tCons' (tC' (.str "no row")) tNil')))))) (tCons' (tTup' (tCons' (tC' (.int 3)) (tCons' (tTup' tNil') (tCons' (tC' (.int 0)) (tCons' (tC' (.int 0)) (tCons' (tC' (.str "no gate")) tNil')))))) tNil')))) tNil')))
    (tSeqF' (tDrop' (tMut' rExtend' (tVar' 11) (tCons' (tLst' false (tCons' (tTup' (tCons' (tC' (.int 3)) (tCons' (tTup' tNil') (tCons' (tC' (.int 0)) (tCons' (tC' (.int 1)) (tCons' (tC' (.str "no gate")) tNil')))))) tNil')) tNil')))
    (tSeqF' (tDrop' (tMut' rExtend' (tVar' 11) (tCons' (tLst' false (tCons' (tTup' (tCons' (tC' (.int 4)) (tCons' (tLst' false (tCons' (tC' (.int 1)) tNil')) (tCons' (tC' .non) (tCons' (tC' .non) (tCons' (tC' (.str "no row")) tNil')))))) (tCons' (tTup' (tCons' (tC' (.int 4)) (tCons' (tTup' tNil') (tCons' (tC' .non) (tCons' (tC' .non) (tCons' (tC' (.str "no gate")) tNil')))))) tNil'))) tNil')))
    (tSeqF' (tDrop' (tMut' rExtend' (tVar' 11) (tCons' (tLst' false (tCons' (tTup' (tCons' (tC' (.int 4)) (tCons' (tTup' (tCons' (tC' (.int 9)) tNil')) (tCons' (tC' (.int 3)) (tCons' (tC' .non) (tCons' (tC' (.str "no row")) tNil')))))) (tCons' (tTup' (tCons' (tC' (.int 5)) (tCons' (tC' (.int 5)) (tCons' (tC' (.int 0)) (tCons' (tC' (.int 0)) (tCons' (tC' (.str "no row")) tNil')))))) tNil'))) tNil')))
    (tSeqF' (tIfS' (tTest' (tOp' (rEq' p true) (tLc' false (iSeq' (tVar' 11)) (gName' 13) (tTest' (tOp' (rEq' p true) (tCall' 4 (sp__law_do p) Wno (tCons' (tOp' (rIx' p) (tVar' 13) (tC' (.int 0))) (tCons' (tOp' (rIx' p) (tVar' 13) (tC' (.int 1))) (tCons' (tOp' (rIx' p) (tVar' 13) (tC' (.int 2))) (tCons' (tOp' (rIx' p) (tVar' 13) (tC' (.int 3))) tNil'))))) (tOp' (rIx' p) (tVar' 13) (tC' (.int 4))))) (tVar' 13) [13]) (tLst' false tNil'))) (tRet' (tC' (.bl false))) tNext')
    (tRet' (tAndV' (tOp' (rEq2' p false) (tCall' 3 (sp__law_lists p) W (tCons' (tVar' 1) (tCons' (tVar' 2) (tCons' (tVar' 3) tNil')))) (tVar' 6)) (tOp' (rEq' p false) (tVar' 3) (tVar' 4))))))))))))))))))))))))

end DL

namespace DL
open PySem PySem.Spec PyProof.Rows L2
def t_Counter___init__ (p : Pm) (W : WX') : TS' :=
    (tSeq' (tDrop' (tCall' 4 (sp_look_gates p) W (tCons' (tVar' 1) (tCons' (tVar' 2) (tCons' (tVar' 3) (tCons' (tVar' 4) tNil'))))))
    (tSeq' (tFset' "Counter" "starts" (tVar' 0) (tCall' 4 (sp_starts_of p) W (tCons' (tVar' 1) (tCons' (tVar' 2) (tCons' (tVar' 3) (tCons' (tVar' 4) tNil'))))))
    (tSeq' (tFset' "Counter" "length" (tVar' 0) (tVar' 2))
    (tSeq' (tFset' "Counter" "found" (tVar' 0) (tOp' (rMul' true) (tLst' false (tCons' (tC' (.int 0)) tNil')) (tVar' 4)))
    (tSeq' (tFset' "Counter" "gone" (tVar' 0) (tC' (.int 0)))
    (tFset' "Counter" "next" (tVar' 0) (tC' (.int 0))))))))

def t_Counter_beat (p : Pm) (W : WX') : TS' :=
    (tFor' (iEnum' (tCons' (tFld' "Counter" "starts" (tVar' 0)) tNil')) (gTup' 2 (gCons' (gName' 2) (gCons' (gName' 3) gNil'))) (tIfS' (tTest' (tChain' (rCmp' fun i j => decide (i ≤ j)) (rCmp' fun i j => decide (i < j)) (tVar' 3) (tVar' 1) (tOp' (rAdd' false) (tVar' 3) (tFld' "Counter" "length" (tVar' 0))))) (tAsg' (tOp' (rAdd' false) (tOp' (rIx' p) (tFld' "Counter" "found" (tVar' 0)) (tVar' 2)) (tC' (.int 1))) (gSub' (tFld' "Counter" "found" (tVar' 0)) (tVar' 2))) tNext'))

def t_Counter_go_on (p : Pm) (W : WX') : TS' :=
    (tSeqF' (tDrop' (tCall' 1 (sp_look_row p) W (tCons' (tVar' 2) tNil')))
    (tSeqF' (tAsg' (tAndV' (rIsi' "int" (tVar' 1)) (tNotV' (rIsi' "bool" (tVar' 1)))) (gName' 3))
    (tSeqF' (tIfS' (tAnd' (tTest' (tVar' 3)) (tNot' (tTest' (tCB' rAll' (tCons' (tLc' false (iSeq' (tVar' 2)) (gName' 4) tYes' (tOp' (rCmp' fun i j => decide (i < j)) (tVar' 4) (tVar' 1)) [4]) tNil'))))) (tRaise' .row W) tNext')
    (tSeqF' (tIfS' (tNot' (tTest' (tCall' 3 (sp_is_whole p) W (tCons' (tVar' 1) (tCons' (tC' (.int 0)) (tCons' (tC' (.int 9999)) tNil')))))) (tRaise' .gate W) tNext')
    (tSeqF' (tFor' (iSeq' (tVar' 2)) (gName' 4) (tDrop' (tMeth' "Counter" "beat" 2 (sp_Counter_beat p) W (tVar' 0) (tCons' (tOp' (rAdd' false) (tFld' "Counter" "gone" (tVar' 0)) (tVar' 4)) tNil'))))
    (tSeqF' (tFset' "Counter" "gone" (tVar' 0) (tOp' (rAdd' false) (tFld' "Counter" "gone" (tVar' 0)) (tVar' 1)))
    (tSeqF' (tAsg' (tLst' true tNil') (gName' 5))
    (tSeqF' (tWhile' (tAnd' (tTest' (tOp' (rCmp' fun i j => decide (i < j)) (tFld' "Counter" "next" (tVar' 0)) (tCB' (rLen' p) (tCons' (tFld' "Counter" "starts" (tVar' 0)) tNil')))) (tTest' (tOp' (rCmp' fun i j => decide (i ≤ j)) (tOp' (rAdd' false) (tOp' (rIx' p) (tFld' "Counter" "starts" (tVar' 0)) (tFld' "Counter" "next" (tVar' 0))) (tFld' "Counter" "length" (tVar' 0))) (tFld' "Counter" "gone" (tVar' 0))))) (tSeqF' (tDrop' (tMut' rAppend' (tVar' 5) (tCons' (tTup' (tCons' (tFld' "Counter" "next" (tVar' 0)) (tCons' (tOp' (rIx' p) (tFld' "Counter" "found" (tVar' 0)) (tFld' "Counter" "next" (tVar' 0))) tNil'))) tNil')))
    (tFset' "Counter" "next" (tVar' 0) (tOp' (rAdd' false) (tFld' "Counter" "next" (tVar' 0)) (tC' (.int 1))))))
    (tRet' (tVar' 5))))))))))

def t_Counter_over (p : Pm) (W : WX') : TS' :=
    (tRet' (tFld' "Counter" "gone" (tVar' 0)))

def t_Counter_now (p : Pm) (W : WX') : TS' :=
    (tSeq' (tIfS' (tAnd' (tTest' (tOp' (rCmp' fun i j => decide (i < j)) (tFld' "Counter" "next" (tVar' 0)) (tCB' (rLen' p) (tCons' (tFld' "Counter" "starts" (tVar' 0)) tNil')))) (tTest' (tOp' (rCmp' fun i j => decide (i ≤ j)) (tOp' (rIx' p) (tFld' "Counter" "starts" (tVar' 0)) (tFld' "Counter" "next" (tVar' 0))) (tFld' "Counter" "gone" (tVar' 0))))) (tRet' (tOp' (rIx' p) (tFld' "Counter" "found" (tVar' 0)) (tFld' "Counter" "next" (tVar' 0)))) tNext')
    (tRet' (tC' .non)))

end DL

namespace DL
open PySem PySem.Spec PyProof.Rows L2
def t_Meter___init__ (p : Pm) (W : WX') : TS' :=
    (tSeq' (tDrop' (tCall' 2 (sp_look_gate p) W (tCons' (tC' (.int 0)) (tCons' (tVar' 1) tNil'))))
    (tSeq' (tIfS' (tOr' (tNot' (tTest' (tCall' 3 (sp_is_whole p) W (tCons' (tVar' 2) (tCons' (tC' (.int 0)) (tCons' (tC' (.int 9999)) tNil')))))) (tNot' (tTest' (tCall' 3 (sp_is_whole p) W (tCons' (tVar' 3) (tCons' (tVar' 2) (tCons' (tC' (.int 9999)) tNil'))))))) (tRaise' .gate W) tNext')
    (tSeq' (tFset' "Meter" "length" (tVar' 0) (tVar' 1))
    (tSeq' (tFset' "Meter" "low" (tVar' 0) (tVar' 2))
    (tSeq' (tFset' "Meter" "high" (tVar' 0) (tVar' 3))
    (tSeq' (tFset' "Meter" "here" (tVar' 0) (tTup' (tCons' (tC' (.int 0)) (tCons' (tTup' tNil') (tCons' (tC' (.str "")) tNil')))))
    (tSeq' (tFset' "Meter" "past" (tVar' 0) (tLst' true tNil'))
    (tFset' "Meter" "later" (tVar' 0) (tLst' true tNil')))))))))

def t_Meter_word_of (p : Pm) (W : WX') : TS' :=
    (tSeq' (tIfS' (tTest' (tOp' (rCmp' fun i j => decide (i < j)) (tCB' (rLen' p) (tCons' (tVar' 1) tNil')) (tFld' "Meter" "low" (tVar' 0)))) (tRet' (tC' (.str "few"))) tNext')
    (tRet' (tIf' (tTest' (tOp' (rCmp' fun i j => decide (j < i)) (tCB' (rLen' p) (tCons' (tVar' 1) tNil')) (tFld' "Meter" "high" (tVar' 0)))) (tC' (.str "many")) (tC' (.str "")))))

def t_Meter_step (p : Pm) (W : WX') : TS' :=
    (tSeqF' (tAsg' (tFld' "Meter" "here" (tVar' 0)) (gTup' 3 (gCons' (gName' 3) (gCons' (gName' 4) (gCons' (gName' 5) gNil')))))
    (tSeqF' (tAsg' (tLst' true tNil') (gName' 6))
    (tSeqF' (tFor' (iRng1' (tCons' (tVar' 2) tNil')) (gName' 7) (tSeqF' (tIfS' (tTest' (tOp' (rEq' p false) (tVar' 7) (tC' (.int 0)))) (tAsg' (tOp' (rAdd' false) (tVar' 4) (tOp' rMulT' (tTup' (tCons' (tVar' 3) tNil')) (tVar' 1))) (gName' 4)) tNext')
    (tSeqF' (tAsg' (tCB' rTupOf' (tCons' (tLc' false (iSeq' (tVar' 4)) (gName' 9) (tTest' (tOp' (rCmp' fun i j => decide (j < i)) (tVar' 9) (tOp' (rI' (fun _ _ => True) fun i j => .int (i - j)) (tVar' 3) (tFld' "Meter" "length" (tVar' 0))))) (tVar' 9) [9]) tNil')) (gName' 4))
    (tSeqF' (tAsg' (tMeth' "Meter" "word_of" 2 (sp_Meter_word_of p) W (tVar' 0) (tCons' (tVar' 4) tNil')) (gName' 8))
    (tSeqF' (tIfS' (tTest' (tOp' (rEq' p true) (tVar' 8) (tVar' 5))) (tDrop' (tMut' rAppend' (tVar' 6) (tCons' (tTup' (tCons' (tVar' 3) (tCons' (tVar' 8) tNil'))) tNil'))) tNext')
    (tSeqF' (tAsg' (tVar' 8) (gName' 5))
    (tAsg' (tOp' (rAdd' false) (tVar' 3) (tC' (.int 1))) (gName' 3))))))))
    (tSeqF' (tDrop' (tMut' rAppend' (tFld' "Meter" "past" (tVar' 0)) (tCons' (tTup' (tCons' (tIf' (tTest' (tOp' (rCmp' fun i j => decide (j < i)) (tVar' 1) (tC' (.int 0)))) (tC' (.str "beats")) (tC' (.str "rest"))) (tCons' (tFld' "Meter" "here" (tVar' 0)) tNil'))) tNil')))
    (tSeqF' (tFset' "Meter" "later" (tVar' 0) (tLst' true tNil'))
    (tSeqF' (tFset' "Meter" "here" (tVar' 0) (tTup' (tCons' (tVar' 3) (tCons' (tVar' 4) (tCons' (tVar' 5) tNil')))))
    (tRet' (tVar' 6))))))))

def t_Meter_beats (p : Pm) (W : WX') : TS' :=
    (tSeq' (tIfS' (tNot' (tTest' (tCall' 3 (sp_is_whole p) W (tCons' (tVar' 1) (tCons' (tC' (.int 1)) (tCons' (tC' (.int 9)) tNil')))))) (tRaise' .gate W) tNext')
    (tRet' (tMeth' "Meter" "step" 3 (sp_Meter_step p) W (tVar' 0) (tCons' (tVar' 1) (tCons' (tC' (.int 1)) tNil')))))

def t_Meter_rest (p : Pm) (W : WX') : TS' :=
    (tSeq' (tIfS' (tNot' (tTest' (tCall' 3 (sp_is_whole p) W (tCons' (tVar' 1) (tCons' (tC' (.int 1)) (tCons' (tC' (.int 99)) tNil')))))) (tRaise' .gate W) tNext')
    (tRet' (tMeth' "Meter" "step" 3 (sp_Meter_step p) W (tVar' 0) (tCons' (tC' (.int 0)) (tCons' (tVar' 1) tNil')))))

def t_Meter_clock (p : Pm) (W : WX') : TS' :=
    (tRet' (tOp' (rIx' p) (tFld' "Meter" "here" (tVar' 0)) (tC' (.int 0))))

def t_Meter_held (p : Pm) (W : WX') : TS' :=
    (tRet' (tCB' (rLen' p) (tCons' (tOp' (rIx' p) (tFld' "Meter" "here" (tVar' 0)) (tC' (.int 1))) tNil')))

def t_Meter_word (p : Pm) (W : WX') : TS' :=
    (tRet' (tOp' (rIx' p) (tFld' "Meter" "here" (tVar' 0)) (tC' (.int 2))))

end DL

namespace DL
open PySem PySem.Spec PyProof.Rows L2
theorem pure_Meter_clock (p : Pm) (s : D) : Pure (t_Meter_clock p) (sp_Meter_clock p) 1 [s] := fun G Q E h => by
  simp only [sp_Meter_clock, spM, sp1] at h
  obtain ⟨a, b, c, len, lo, hi, hh, rfl, hG, q⟩ := h
  simp [t_Meter_clock, start', tFld', hG, hereD]
  exact ⟨_, rfl, fz q⟩
theorem pure_Meter_held (p : Pm) (s : D) : Pure (t_Meter_held p) (sp_Meter_held p) 1 [s] := fun G Q E h => by
  simp only [sp_Meter_held, spM, sp1] at h
  obtain ⟨a, b, c, len, lo, hi, hh, rfl, hG, q⟩ := h
  simp [t_Meter_held, start', tFld', hG, hereD]
  refine ⟨_, rfl, ?_⟩
  simp
  exact fz q
theorem pure_Meter_word (p : Pm) (s : D) : Pure (t_Meter_word p) (sp_Meter_word p) 1 [s] := fun G Q E h => by
  simp only [sp_Meter_word, spM, sp1] at h
  obtain ⟨a, b, c, len, lo, hi, hh, rfl, hG, q⟩ := h
  simp [t_Meter_word, start', tFld', hG, hereD]
  exact ⟨_, rfl, fz q⟩
theorem pure_Meter_word_of (p : Pm) (s k : D) : Pure (t_Meter_word_of p) (sp_Meter_word_of p) 2 [s, k] := fun G Q E h => by
  simp only [sp_Meter_word_of, sp2] at h
  obtain ⟨a, len, lo, hi, hh, b, c, ks, rfl, rfl, hG, q⟩ := h
  unfold wordF at q
  refine seqN fun N hN => ?_
  simp [start', tFld', hG]
  by_cases c1 : (ks.length : Int) < lo
  · rw [if_pos c1] at q
    exact .inr ⟨c1, fz q⟩
  · rw [if_neg c1] at q
    refine .inl ⟨by omega, hN _ _ ?_⟩
    simp [tFld', hG]
    by_cases c2 : (ks.length : Int) > hi
    · rw [if_pos c2] at q
      exact .inr ⟨c2, fz q⟩
    · rw [if_neg c2] at q
      exact .inl ⟨by omega, fz q⟩
theorem pure_Meter_beats (p : Pm) (s k : D) : Pure (t_Meter_beats p) (sp_Meter_beats p) 2 [s, k] := fun G Q E h => by
  simp only [sp_Meter_beats, sp2] at h
  obtain ⟨a, b, c, m, rfl, hk, hM, hH, hp, q⟩ := h
  refine seqN fun N hN => ?_
  simp [start', hk]
  unfold withNum at q
  cases hw : isWhole 1 9 k with
  | false =>
    refine .inl ⟨rfl, fzE ?_⟩
    cases k with
    | int i => simp at hw; dsimp only at q; rw [if_neg (by omega)] at q; exact q
    | _ => exact q
  | true =>
    obtain ⟨n, rfl, n1, n2⟩ := isWhole_some hw
    dsimp only at q
    rw [if_pos ⟨n1, n2⟩] at q
    refine .inr ⟨rfl, hN _ _ ?_⟩
    simp [tMeth', hM.obj, sp_Meter_step, sp3]
    exact ⟨b, c, m, n.toNat, by omega, 1, rfl, hM, hH, by omega, by omega, by omega, hp, fun c2 h2 => fz (q c2 h2)⟩
theorem pure_Meter_rest (p : Pm) (s k : D) : Pure (t_Meter_rest p) (sp_Meter_rest p) 2 [s, k] := fun G Q E h => by
  simp only [sp_Meter_rest, sp2] at h
  obtain ⟨a, b, c, m, rfl, hk, hM, hH, hp, q⟩ := h
  refine seqN fun N hN => ?_
  simp [start', hk]
  unfold withNum at q
  cases hw : isWhole 1 99 k with
  | false =>
    refine .inl ⟨rfl, fzE ?_⟩
    cases k with
    | int i => simp at hw; dsimp only at q; rw [if_neg (by omega)] at q; exact q
    | _ => exact q
  | true =>
    obtain ⟨n, rfl, n1, n2⟩ := isWhole_some hw
    dsimp only at q
    rw [if_pos ⟨n1, n2⟩] at q
    refine .inr ⟨rfl, hN _ _ ?_⟩
    simp [tMeth', hM.obj, sp_Meter_step, sp3]
    exact ⟨b, c, m, 0, rfl, n.toNat, by omega, hM, hH, by omega, by omega, by omega, hp, fun c2 h2 => fz (q c2 h2)⟩
theorem fzE_del {E : EK'} {x : Ex} {σ : St'} {G : GH} {a : Addr} {o : GO} (hG : G a = some o) (q : E x (gdel G a)) : FzE E x σ G := by
  have f := FrzG.drop (g := o) (gdel_same (G := G) (a := a))
  rw [gdel_back hG] at f
  exact ⟨gdel G a, f, q⟩
theorem pure_Meter___init__ (p : Pm) (s l lo hi : D) : Pure (t_Meter___init__ p) (sp_Meter___init__ p) 4 [s, l, lo, hi] := fun G Q E h => by
  simp only [sp_Meter___init__, sp4] at h
  obtain ⟨a, rfl, hG, h1, h2, h3, q⟩ := h
  refine seqN fun N hN => ?_
  simp [start', h1]
  unfold withGate at q ⊢
  cases e : gateOf (.int 0) l with
  | none =>
    rw [e] at q
    exact fzE_del hG q
  | some st =>
    obtain ⟨z, len⟩ := st
    rw [e] at q
    dsimp only at q ⊢
    obtain ⟨_, rfl, _⟩ := gateOf_some e
    refine hN _ _ (seqN fun N hN => ?_)
    simp [h2, h3]
    unfold withNum at q
    cases hw : isWhole 0 9999 lo with
    | false =>
      simp
      refine fzE_del hG ?_
      cases lo with
      | int i => simp at hw; dsimp only at q; rw [if_neg (by omega)] at q; exact q
      | _ => exact q
    | true =>
      obtain ⟨x, rfl, x1, x2⟩ := isWhole_some hw
      dsimp only at q
      rw [if_pos ⟨x1, x2⟩] at q
      simp [h3]
      cases hw2 : isWhole x 9999 hi with
      | false =>
        simp
        refine fzE_del hG ?_
        cases hi with
        | int i => simp at hw2; dsimp only at q; rw [if_neg (by omega)] at q; exact q
        | _ => exact q
      | true =>
        obtain ⟨y, rfl, y1, y2⟩ := isWhole_some hw2
        dsimp only at q
        rw [if_pos ⟨y1, y2⟩] at q
        simp
        refine hN _ _ (seqN fun N hN => ?_)
        simp [tFset', hG]
        refine hN _ _ (seqN fun N hN => ?_)
        simp [tFset']
        refine hN _ _ (seqN fun N hN => ?_)
        simp [tFset']
        refine hN _ _ (seqN fun N hN => ?_)
        simp [tFset']
        refine hN _ _ (seqN fun N hN => ?_)
        simp [tFset']
        intro b hb
        have ba : b ≠ a := fun z => by rw [z, gup_same] at hb; cases hb
        rw [gup_ne ba] at hb
        rw [gup_ne (Ne.symm ba), gup_same]
        refine ⟨_, rfl, by simp, ?_⟩
        refine hN _ _ ?_
        simp [tFset']
        intro c hc
        have ca : c ≠ a := fun z => by rw [z, gup_same] at hc; cases hc
        rw [gup_ne ca] at hc
        have cb : c ≠ b := fun z => by rw [z, gup_same] at hc; cases hc
        rw [gup_ne cb, gup_ne ca] at hc
        rw [gup_ne (Ne.symm ca), gup_same]
        refine ⟨_, rfl, by simp, ?_⟩
        have q1 := fz (q b c hb hc (Ne.symm cb))
        rw [show D.tup [D.int 0, D.tup [], D.str ("" : Str)] = hereD ⟨0, [], ""⟩ from rfl, mi_6]
        refine (congrArg (fun g => Fz Q D.non g) (?_ : _ = _)).mpr q1
        funext z
        simp only [gup]
        by_cases z1 : z = a
        · simp [z1]
        · by_cases z2 : z = c
          · simp [z2, ca]
          · by_cases z3 : z = b
            · simp [z3, ba, Ne.symm cb]
            · simp [z1, z2, z3]
theorem pure_Meter_step (p : Pm) (s x n : D) : Pure (t_Meter_step p) (sp_Meter_step p) 10 [s, x, n] := fun G Q E h => by
  simp only [sp_Meter_step, sp3] at h
  obtain ⟨a, b, c, m, x, n, rfl, rfl, rfl, hM, hH, hx, hn, hn2, hp, q⟩ := h
  have big := line_big
  obtain ⟨ab, ac⟩ := hM.bc
  refine seqF fun N hN hF => ?_
  simp [start', tFld', hM.obj, hereD]
  refine hN _ _ (seqF fun N hN hF => ?_)
  simp
  intro r hr
  have ar : a ≠ r := fun z => by rw [← z, hM.obj] at hr; cases hr
  have br : b ≠ r := fun z => by rw [← z, hM.past] at hr; cases hr
  refine hN _ _ (seqF fun N hN hF => ?_)
  refine for_at (f := natD) (List.range n) (fun i σ G' => G' = gup G r (.lst ((runF m.len m.lo m.hi m.here x i).2.map toldD)) ∧ ∃ o7 o8 o9, σ = [some (.ref a), some (.int x), some (.int n), some (.int (runF m.len m.lo m.hi m.here x i).1.tick), some (.tup ((runF m.len m.lo m.hi m.here x i).1.known.map D.int)), some (.str (runF m.len m.lo m.hi m.here x i).1.word), some (.ref r), o7, o8, o9] ∧ PyData.strOk (runF m.len m.lo m.hi m.here x i).1.word = true ∧ (runF m.len m.lo m.hi m.here x i).1.known.length ≤ m.here.known.length + (if i = 0 then 0 else x) ∧ (runF m.len m.lo m.hi m.here x i).1.tick = m.here.tick + i ∧ (runF m.len m.lo m.hi m.here x i).2.length ≤ i) (G1 := gup G r (.lst [])) (fun R r => by simp; (simp [rangeD]; exact ⟨by omega, r⟩)) ⟨rfl, none, none, none, rfl, hH.2.2.2, by show m.here.known.length ≤ m.here.known.length + 0; omega, by show m.here.tick = m.here.tick + ((0 : Nat) : Int); omega, Nat.le_refl _⟩ ?_ ?_
  · rintro i z σ G' hz ⟨rfl, o7, o8, o9, rfl, w1, w2, w3, w4⟩
    obtain ⟨hi1, hi2⟩ := List.getElem?_eq_some_iff.mp hz
    simp at hi1 hi2
    subst hi2
    have hG' : (gup G r (.lst ((runF m.len m.lo m.hi m.here x i).2.map toldD))) a = some (.ins "Meter" (mfs m.len m.lo m.hi m.here b c)) := by rw [gup_ne ar]; exact hM.obj
    have es : runF m.len m.lo m.hi m.here x (i + 1) = (tickOn m.len m.lo m.hi (runF m.len m.lo m.hi m.here x i).1 (if i = 0 then x else 0), if (tickOn m.len m.lo m.hi (runF m.len m.lo m.hi m.here x i).1 (if i = 0 then x else 0)).word = (runF m.len m.lo m.hi m.here x i).1.word then (runF m.len m.lo m.hi m.here x i).2 else (runF m.len m.lo m.hi m.here x i).2 ++ [((runF m.len m.lo m.hi m.here x i).1.tick, (tickOn m.len m.lo m.hi (runF m.len m.lo m.hi m.here x i).1 (if i = 0 then x else 0)).word)]) := rfl
    rw [es]
    generalize runF m.len m.lo m.hi m.here x i = rr at *
    obtain ⟨⟨tk, kn, wd⟩, told⟩ := rr
    dsimp only at *
    simp [natD]
    refine seqF fun N hN hF => ?_
    have hH1 := hH.1
    have hH2 := hH.2.1
    have hH3 := hH.2.2.1
    have wk : ∀ n, PyData.strOk (wordF m.lo m.hi n) = true := fun n => by
      unfold wordF
      split
      · simp
      · split <;> simp
    have main : ∀ k2 : List Int, k2 = kn ++ List.replicate (if i = 0 then x else 0) tk → N [some (.ref a), some (.int x), some (.int n), some (.int tk), some (.tup (k2.map D.int)), some (.str wd), some (.ref r), some (.int i), o8, o9] (gup G r (.lst (told.map toldD))) := by
      intro k2 hk2
      have lk2 : k2.length ≤ 2100 := by
        rw [hk2, List.length_append, List.length_replicate]
        split <;> split at w2 <;> omega
      refine hN _ _ (seqF fun N hN hF => ?_)
      simp
      refine lc_filter (f := D.int) (fun x y h => D.int.inj h) k2 (fun one => decide (tk - m.len < one)) D.int (G1 := gup G r (.lst (told.map toldD))) (fun R r => by simp; exact r) (by omega) (fun z hz Gx hGx => ?_) ?_
      · have hx := hGx a _ hG'
        simp [tFld', hx]
        by_cases c1 : tk - m.len < z
        · simp [c1]
        · simp [c1]
          omega
      · have ek : (kn ++ List.replicate (if i = 0 then x else 0) tk).filter (fun one => decide (tk - m.len < one)) = (tickOn m.len m.lo m.hi ⟨tk, kn, wd⟩ (if i = 0 then x else 0)).known := rfl
        have ew : (tickOn m.len m.lo m.hi ⟨tk, kn, wd⟩ (if i = 0 then x else 0)).word = wordF m.lo m.hi (tickOn m.len m.lo m.hi ⟨tk, kn, wd⟩ (if i = 0 then x else 0)).known.length := rfl
        have et : (tickOn m.len m.lo m.hi ⟨tk, kn, wd⟩ (if i = 0 then x else 0)).tick = tk + 1 := rfl
        have el : (tickOn m.len m.lo m.hi ⟨tk, kn, wd⟩ (if i = 0 then x else 0)).known.length ≤ kn.length + (if i = 0 then x else 0) := by
          rw [← ek]
          refine Nat.le_trans (List.length_filter_le _ _) ?_
          rw [List.length_append, List.length_replicate]
          exact Nat.le_refl _
        rw [hk2, ek]
        have ewk := wk (tickOn m.len m.lo m.hi ⟨tk, kn, wd⟩ (if i = 0 then x else 0)).known.length
        rw [← ew] at ewk
        generalize tickOn m.len m.lo m.hi ⟨tk, kn, wd⟩ (if i = 0 then x else 0) = t2 at *
        simp
        refine hN _ _ (seqF fun N hN hF => ?_)
        simp [tMeth', hG']
        refine word_of_i hG' ?_
        simp
        rw [← ew]
        refine hN _ _ (seqF fun N hN hF => ?_)
        simp [ewk, w1]
        have tail : ∀ told2 : List (Int × Str), told2.length ≤ i + 1 → told2 = (if t2.word = wd then told else told ++ [(tk, t2.word)]) → N [some (.ref a), some (.int x), some (.int n), some (.int tk), some (.tup (t2.known.map D.int)), some (.str wd), some (.ref r), some (.int i), some (.str t2.word), o9] (gup G r (.lst (told2.map toldD))) := by
          intro told2 hl2 he2
          refine hN _ _ (seqF fun N hN hF => ?_)
          simp
          refine hN _ _ ?_
          simp
          rw [← he2]
          refine ⟨rfl, et.symm, ewk, ?_, by omega, hl2⟩
          split at w2 <;> split at el <;> omega
        by_cases cw : t2.word = wd
        · exact .inl ⟨cw, tail told (by omega) (by rw [if_pos cw])⟩
        · refine .inr ⟨cw, by omega, ?_⟩
          have := tail (told ++ [(tk, t2.word)]) (by simp; omega) (by rw [if_neg cw])
          rw [List.map_append] at this
          exact this
    simp
    by_cases hi0 : i = 0
    · subst hi0
      refine .inr ⟨rfl, ?_⟩
      simp
      simp at w2
      refine ⟨by omega, by omega, ?_⟩
      have := main (kn ++ List.replicate x tk) (by simp)
      rw [List.map_append, List.map_replicate] at this
      exact this
    · refine .inl ⟨by omega, main kn (by rw [if_neg hi0]; simp)⟩
  · rintro σ G' ⟨rfl, o7, o8, o9, rfl, w1, w2, w3, w4⟩
    rw [List.length_range] at *
    refine hN _ _ (seqF fun N hN hF => ?_)
    have hG' : (gup G r (.lst ((runF m.len m.lo m.hi m.here x n).2.map toldD))) a = some (.ins "Meter" (mfs m.len m.lo m.hi m.here b c)) := by rw [gup_ne ar]; exact hM.obj
    have hGb : (gup G r (.lst ((runF m.len m.lo m.hi m.here x n).2.map toldD))) b = some (.lst (m.past.map stepD)) := by rw [gup_ne br]; exact hM.past
    simp [tFld', hG']
    have next : N [some (.ref a), some (.int x), some (.int n), some (.int (runF m.len m.lo m.hi m.here x n).1.tick), some (.tup ((runF m.len m.lo m.hi m.here x n).1.known.map D.int)), some (.str (runF m.len m.lo m.hi m.here x n).1.word), some (.ref r), o7, o8, o9] (gup (gup G r (.lst ((runF m.len m.lo m.hi m.here x n).2.map toldD))) b (.lst ((stepM m x n).past.map stepD))) := by
      have em : (runF m.len m.lo m.hi m.here x n).1 = (stepM m x n).here := rfl
      rw [em]
      refine hN _ _ (seqF fun N hN hF => ?_)
      have hGa : (gup (gup G r (.lst ((runF m.len m.lo m.hi m.here x n).2.map toldD))) b (.lst ((stepM m x n).past.map stepD))) a = some (.ins "Meter" (mfs m.len m.lo m.hi m.here b c)) := by rw [gup_ne ab]; exact hG'
      simp [tFset']
      intro c2 hc2
      have c2a : c2 ≠ a := fun z => by rw [z, hGa] at hc2; cases hc2
      have c2b : c2 ≠ b := fun z => by rw [z, gup_same] at hc2; cases hc2
      rw [gup_ne c2b] at hc2
      have c2r : c2 ≠ r := fun z => by rw [z, gup_same] at hc2; cases hc2
      rw [gup_ne c2r] at hc2
      rw [gup_ne (Ne.symm c2a), hGa]
      refine ⟨_, rfl, by simp, ?_⟩
      refine hN _ _ (seqF fun N hN hF => ?_)
      simp [tFset']
      refine hN _ _ ?_
      simp
      have q1 := q c2 hc2
      have dr : (doneM G a b c2 (stepM m x n)) r = none := by
        unfold doneM
        rw [gup_ne (Ne.symm ar), gup_ne (Ne.symm br), gup_ne (Ne.symm c2r)]
        exact hr
      have q2 := fz_lst dr q1
      rw [show D.tup [D.int (stepM m x n).here.tick, D.tup ((stepM m x n).here.known.map D.int), D.str (stepM m x n).here.word] = hereD (stepM m x n).here from rfl]
      simp
      refine (congrArg (fun g => Fz Q (D.ref r) g) (?_ : _ = _)).mpr q2
      funext z
      simp only [gup, doneM]
      by_cases z1 : z = a
      · subst z1
        simp [ar]
        rfl
      · by_cases z2 : z = c2
        · subst z2
          simp [c2a, c2r, c2b]
        · by_cases z3 : z = b
          · subst z3
            simp [z1, z2, br]
          · simp [z1, z2, z3]
    refine ⟨⟨_, hGb⟩, ?_⟩
    have es : (stepM m x n).past.map stepD = m.past.map stepD ++ [D.tup [.str (if x > 0 then "beats" else "rest"), hereD m.here]] := by unfold stepM; simp; rfl
    rw [es] at next
    by_cases hx0 : x = 0
    · refine .inl ⟨hx0, _, hGb, by simp; omega, ?_⟩
      rw [if_neg (by omega)] at next
      exact next
    · refine .inr ⟨by omega, _, hGb, by simp; omega, ?_⟩
      rw [if_pos (by omega)] at next
      exact next
end DL

namespace DL
open PySem PySem.Spec PyProof.Rows L2
def nf2 (v1 v2 : D) : List (Str × D) := [("starts", v1), ("length", v2)]
def nf3 (v1 v2 v3 : D) : List (Str × D) := [("starts", v1), ("length", v2), ("found", v3)]
def nf4 (v1 v2 v3 v4 : D) : List (Str × D) := [("starts", v1), ("length", v2), ("found", v3), ("gone", v4)]
@[simp] theorem nc_2 {v1 v2 : D} : putFD "length" v2 (putFD "starts" v1 []) = nf2 v1 v2 := rfl
@[simp] theorem nc_3 {v1 v2 v3 : D} : putFD "found" v3 (nf2 v1 v2) = nf3 v1 v2 v3 := rfl
@[simp] theorem nc_4 {v1 v2 v3 v4 : D} : putFD "gone" v4 (nf3 v1 v2 v3) = nf4 v1 v2 v3 v4 := rfl
theorem nc_5 {ss : List Int} {len : Int} {b : Addr} : putFD "next" (.int 0) (nf4 (.lst (ss.map D.int)) (.int len) (.ref b) (.int 0)) = cfs ss len b 0 0 := rfl
@[simp] theorem nl_2 {v1 v2 : D} : (nf2 v1 v2).length = 2 := rfl
@[simp] theorem nl_3 {v1 v2 v3 : D} : (nf3 v1 v2 v3).length = 3 := rfl
@[simp] theorem nl_4 {v1 v2 v3 v4 : D} : (nf4 v1 v2 v3 v4).length = 4 := rfl
theorem pure_Counter_over (p : Pm) (s : D) : Pure (t_Counter_over p) (sp_Counter_over p) 1 [s] := fun G Q E h => by
  simp only [sp_Counter_over, sp1] at h
  obtain ⟨a, b, c, rfl, hG, q⟩ := h
  simp [t_Counter_over, start', tFld', hG.obj]
  exact fz q
theorem pure_Counter_now (p : Pm) (s : D) : Pure (t_Counter_now p) (sp_Counter_now p) 1 [s] := fun G Q E h => by
  simp only [sp_Counter_now, sp1] at h
  obtain ⟨a, b, c, rfl, hG, ok, q⟩ := h
  have e1 := ok.len
  have e2 := ok.most
  refine seqN fun N hN => ?_
  simp [start', tFld', hG.obj, hG.found]
  unfold nowC at q
  by_cases k : c.next < c.starts.length
  · rw [List.getElem?_eq_getElem k, List.getElem?_eq_getElem (by omega : c.next < c.found.length)] at q
    refine .inr ⟨k, _, (by rw [atI_nn _ _ (by omega) (by omega), Int.toNat_natCast, List.getElem?_eq_getElem k] : _ = some c.starts[c.next]), ?_⟩
    dsimp only at q
    by_cases z : c.starts[c.next] ≤ c.gone
    · rw [if_pos z] at q
      refine .inr ⟨z, ?_⟩
      rw [rIx_ref hG.found]
      refine ⟨.int (c.found[c.next]'(by omega)), ?_, fz q⟩
      rw [atI_ints, atI_nn _ _ (by omega) (by omega), Int.toNat_natCast, List.getElem?_eq_getElem (by omega)]
      rfl
    · rw [if_neg z] at q
      exact .inl ⟨by omega, hN _ _ (by simp; exact fz q)⟩
  · rw [List.getElem?_eq_none (by omega)] at q
    exact .inl ⟨by omega, hN _ _ (by simp; exact fz q)⟩
theorem pure_Counter___init__ (p : Pm) (s x l d m : D) : Pure (t_Counter___init__ p) (sp_Counter___init__ p) 5 [s, x, l, d, m] := fun G Q E h => by
  simp only [sp_Counter___init__, sp5] at h
  obtain ⟨a, rfl, hG, h1, h2, h3, h4, q⟩ := h
  refine seqN fun N hN => ?_
  simp [start', h1, h2, h3, h4]
  unfold withGates withGate at q ⊢
  cases e : gateOf x l with
  | none =>
    rw [e] at q
    exact fzE_del hG q
  | some st =>
    obtain ⟨st, len⟩ := st
    rw [e] at q
    dsimp only at q ⊢
    obtain ⟨rfl, rfl, _⟩ := gateOf_some e
    cases d with
    | int d =>
      cases m with
      | int m =>
        dsimp only at q ⊢
        by_cases z : gatesOk st len d m
        · rw [if_pos z] at q ⊢
          obtain ⟨z1, z2, z3, z4, z5⟩ := z
          refine hN _ _ (seqN fun N hN => ?_)
          simp [tFset', hG]
          refine ⟨by omega, by omega, ?_⟩
          refine hN _ _ (seqN fun N hN => ?_)
          simp [tFset']
          refine ⟨by simp [putFD], hN _ _ (seqN fun N hN => ?_)⟩
          simp [tFset']
          refine ⟨by omega, by omega, by simp [sizeLine]; omega, fun b hb => ?_⟩
          have ba : b ≠ a := fun z => by rw [z, gup_same] at hb; cases hb
          rw [gup_ne ba] at hb
          rw [gup_ne (Ne.symm ba), gup_same]
          refine ⟨_, rfl, by simp, ?_⟩
          refine hN _ _ (seqN fun N hN => ?_)
          simp [tFset']
          refine hN _ _ ?_
          simp [tFset']
          have q1 := fz (q b hb)
          rw [nc_5]
          refine (congrArg (fun g => Fz Q D.non g) (?_ : _ = _)).mpr q1
          unfold putC
          funext z
          simp only [gup]
          by_cases z1 : z = a
          · simp [z1]
          · by_cases z3 : z = b
            · simp [z3, ba]
            · simp [z1, z3]
        · rw [if_neg z] at q ⊢
          exact fzE_del hG q
      | _ => exact fzE_del hG q
    | _ => exact fzE_del hG q
end DL

namespace DL
open PySem PySem.Spec PyProof.Rows L2
/-- the counts, behind the first j gates -/
def bumpN (len tick : Int) (starts found : List Int) (j : Nat) : List Int := bumpF len tick (starts.take j) (found.take j) ++ found.drop j
theorem bumpN_len {len tick : Int} {s f : List Int} (h : f.length = s.length) (j : Nat) : (bumpN len tick s f j).length = f.length := by
  simp [bumpN, bumpF]; omega
theorem bumpN_all {len tick : Int} {s f : List Int} (h : f.length = s.length) : bumpN len tick s f s.length = bumpF len tick s f := by
  unfold bumpN
  rw [List.take_of_length_le (by omega), List.take_of_length_le (by omega), List.drop_eq_nil_of_le (by omega), List.append_nil]
theorem bumpN_at {len tick : Int} {s f : List Int} (h : f.length = s.length) {j : Nat} (hj : j < s.length) : (bumpN len tick s f j)[j]? = some (f[j]'(by omega)) := by
  unfold bumpN
  rw [List.getElem?_append_right (by simp [bumpF]; omega)]
  simp [bumpF]
  rw [show j + (j - min j (min s.length (min j f.length))) = j by omega]
  exact List.getElem?_eq_getElem (by omega)
theorem bumpN_step {len tick : Int} {s f : List Int} (h : f.length = s.length) {j : Nat} (hj : j < s.length) :
    bumpN len tick s f (j + 1) = (bumpN len tick s f j).set j (if s[j] ≤ tick ∧ tick < s[j] + len then f[j]'(by omega) + 1 else f[j]'(by omega)) := by
  have hf : j < f.length := by omega
  unfold bumpN
  rw [List.set_append_right _ _ (by simp [bumpF]; omega)]
  rw [show j - (bumpF len tick (s.take j) (f.take j)).length = 0 by simp [bumpF]; omega]
  rw [List.drop_eq_getElem_cons hf, List.set_cons_zero, List.take_succ_eq_append_getElem hj, List.take_succ_eq_append_getElem hf]
  unfold bumpF
  rw [List.zipWith_append (by simp; omega)]
  simp
theorem bumpN_same {len tick : Int} {s f : List Int} (h : f.length = s.length) {j : Nat} (hj : j < s.length) (z : ¬(s[j] ≤ tick ∧ tick < s[j] + len)) : bumpN len tick s f (j + 1) = bumpN len tick s f j := by
  rw [bumpN_step h hj, if_neg z]
  have := bumpN_at (len := len) (tick := tick) h hj
  obtain ⟨k, e⟩ := List.getElem?_eq_some_iff.mp this
  rw [← e, List.set_getElem_self]
theorem pure_Counter_beat (p : Pm) (s x : D) : Pure (t_Counter_beat p) (sp_Counter_beat p) 4 [s, x] := fun G Q E h => by
  simp only [sp_Counter_beat, sp2] at h
  obtain ⟨a, b, c, i, rfl, rfl, hG, ok, ab, q⟩ := h
  have e1 := ok.len
  have e2 := ok.most
  have ba : b ≠ a := Ne.symm ab
  unfold t_Counter_beat
  simp only [tFor', start', iEnum', tCons', tNil', tFld', tVar']
  simp [hG.obj]
  refine ⟨fun j σ H => (∃ u v, σ = [some (D.ref a), some (D.int i), u, v]) ∧ H = gup G b (.lst ((bumpN c.len i c.starts c.found j).map D.int)), ⟨⟨none, none, rfl⟩, ?_⟩, ?_, ?_⟩
  · funext z
    by_cases e : z = b
    · rw [e, gup_same, hG.found]; simp [bumpN, bumpF]
    · rw [gup_ne e]
  · intro j x σ H hx w
    obtain ⟨y, hy, rfl⟩ := enum_get hx
    rw [List.getElem?_map] at hy
    obtain ⟨hσ, rfl⟩ := w
    obtain ⟨s, hs, rfl⟩ := Option.map_eq_some_iff.mp hy
    obtain ⟨hj, es⟩ := List.getElem?_eq_some_iff.mp hs
    have hA : (gup G b (GO.lst ((bumpN c.len i c.starts c.found j).map D.int))) a = some (.ins "Counter" (cfs c.starts c.len b c.gone c.next)) := by rw [gup_ne ab]; exact hG.obj
    have nn := bumpN_same (len := c.len) (tick := i) e1 hj
    have ns := bumpN_step (len := c.len) (tick := i) e1 hj
    have na := bumpN_at (len := c.len) (tick := i) e1 hj
    have nl := bumpN_len (len := c.len) (tick := i) e1 j
    rw [es] at nn ns
    obtain ⟨u, v, rfl⟩ := hσ
    simp [tFld', hA]
    by_cases z1 : s ≤ i
    · by_cases z2 : i < s + c.len
      · refine .inr ⟨z1, .inr ⟨z2, c.found[j]'(by omega), ?_, ?_⟩⟩
        · rw [atI_nn _ _ (by omega) (by omega), Int.toNat_natCast]; exact na
        · simp [gSub', tFld', hA]
          refine ⟨j, by simp [ixN]; omega, ?_⟩
          rw [ns, if_pos ⟨z1, z2⟩, List.map_set]
      · exact .inr ⟨z1, .inl ⟨by omega, by rw [nn (by omega)]⟩⟩
    · exact .inl ⟨by omega, by rw [nn (by omega)]⟩
  · rintro σ H ⟨_, rfl⟩
    have q1 := fz q
    refine (congrArg (fun g => Fz Q D.non g) (?_ : _ = _)).mpr q1
    unfold putC beatC
    rw [show (enumD (List.map D.int c.starts)).length = c.starts.length by simp [enumD], bumpN_all e1]
    funext z
    by_cases z1 : z = a
    · rw [z1, gup_same, gup_ne ab, hG.obj]
    · rw [gup_ne z1]
end DL

namespace DL
open PySem PySem.Spec PyProof.Rows L2
theorem ctr_put {G : GH} {a b : Addr} (ab : a ≠ b) (c : Ctr) : CtrAt (putC G a b c) a b c := ⟨by unfold putC; rw [gup_same], by unfold putC; rw [gup_ne (Ne.symm ab), gup_same]⟩
theorem put_put {G : GH} {a b : Addr} (c d : Ctr) : putC (putC G a b c) a b d = putC G a b d := by
  unfold putC
  funext z
  simp only [gup]
  by_cases z1 : z = a
  · simp [z1]
  · by_cases z2 : z = b <;> simp [z1, z2]
theorem put_self {G : GH} {a b : Addr} {c : Ctr} (h : CtrAt G a b c) : putC G a b c = G := by
  unfold putC
  funext z
  simp only [gup]
  by_cases z1 : z = a
  · rw [z1, h.obj]; simp
  · by_cases z2 : z = b
    · rw [z2] at z1 ⊢; simp [z1, h.found]
    · simp [z1, z2]
theorem beatC_ok {c : Ctr} (h : CtrOk c) (i : Int) : CtrOk (beatC c i) := ⟨by simp [beatC, bumpF, h.len], h.most⟩
theorem beatsC_ok {c : Ctr} (h : CtrOk c) (ns : List Int) : CtrOk (beatsC c ns) := by
  unfold beatsC
  induction ns generalizing c with
  | nil => exact h
  | cons n ns ih => exact ih (beatC_ok h _)
theorem beatsC_same (c : Ctr) (ns : List Int) : (beatsC c ns).gone = c.gone ∧ (beatsC c ns).starts = c.starts ∧ (beatsC c ns).len = c.len ∧ (beatsC c ns).next = c.next := by
  unfold beatsC
  induction ns generalizing c with
  | nil => exact ⟨rfl, rfl, rfl, rfl⟩
  | cons n ns ih => exact ih _
theorem beatsC_snoc (c : Ctr) (ns : List Int) (n : Int) : beatsC c (ns ++ [n]) = beatC (beatsC c ns) ((beatsC c ns).gone + n) := by
  simp [beatsC, List.foldl_append]
/-- the gate that is k on has ended -/
def endAt (c : Ctr) (k : Nat) : Prop := ∃ s, c.starts[c.next + k]? = some s ∧ s + c.len ≤ c.gone
theorem endsC_at : ∀ (n : Nat) (c : Ctr), n = c.starts.length - c.next → (∀ k < endsC c n, endAt c k) ∧ ¬endAt c (endsC c n)
  | 0, c, h => ⟨fun k z => by simp [endsC] at z, fun ⟨s, e, _⟩ => by simp [endsC] at e; obtain ⟨z, _⟩ := List.getElem?_eq_some_iff.mp e; omega⟩
  | n + 1, c, h => by
    obtain ⟨i1, i2⟩ := endsC_at n { c with next := c.next + 1 } (by show n = c.starts.length - (c.next + 1); omega)
    have hn : c.next < c.starts.length := by omega
    unfold endsC
    rw [List.getElem?_eq_getElem hn]
    dsimp only
    by_cases z : c.starts[c.next] + c.len ≤ c.gone
    · rw [if_pos z]
      refine ⟨fun k hk => ?_, fun ⟨s, e, f⟩ => i2 ⟨s, by show c.starts[c.next + 1 + _]? = _; rw [← e]; congr 1; omega, f⟩⟩
      cases k with
      | zero => exact ⟨_, List.getElem?_eq_getElem hn, z⟩
      | succ k =>
        obtain ⟨s, e, f⟩ := i1 k (by omega)
        exact ⟨s, by rw [← e]; show c.starts[_]? = c.starts[c.next + 1 + k]?; congr 1; omega, f⟩
    · rw [if_neg z]
      refine ⟨fun k hk => by omega, fun ⟨s, e, f⟩ => z ?_⟩
      rw [show c.next + 0 = c.next from rfl, List.getElem?_eq_getElem hn] at e
      cases e
      exact f
/-- what is told of the gate that is i on -/
def tellC (c : Ctr) (i : Nat) : D := .tup [.int ((c.next + i : Nat) : Int), .int (c.found[c.next + i]?.getD 0)]
theorem pure_Counter_go_on (p : Pm) (s x r : D) : Pure (t_Counter_go_on p) (sp_Counter_go_on p) 6 [s, x, r] := fun G Q E h => by
  simp only [sp_Counter_go_on, sp3] at h
  obtain ⟨a, b, c, rfl, hG, ok, ab, hr, hpl, q⟩ := h
  have e1 := ok.len
  have e2 := ok.most
  refine seqF fun N hN hF => ?_
  simp [start', hr]
  refine wr_step q fun ns hns hrow qq => ?_
  subst hns
  clear q
  have q := qq
  clear qq
  by_cases hx : ∃ t, x = .int t
  · obtain ⟨t, rfl⟩ := hx
    simp only [goOn] at q
    refine hN _ _ (seqF fun N hN hF => ?_)
    simp [rIsi']
    refine hN _ _ (seqF fun N hN hF => ?_)
    simp
    have rl : ns.length ≤ sizeLine := by have := hrow.1; have := line_big; omega
    refine lc_map int_inj ns (fun y => .bl (decide (y < t))) (fun R r => by simp; exact r) rl (fun y _ Gy _ => by simp) ?_
    refine ⟨_, ns.map fun y => decide (y < t), rfl, by simp [asL], ?_⟩
    by_cases z : ∀ n ∈ ns, n < t
    · rw [if_pos z] at q
      show _ ∨ _
      refine .inr ⟨by simpa using z, hN _ _ (seqF fun N hN hF => ?_)⟩
      simp
      by_cases z2 : 0 ≤ t ∧ t ≤ 9999
      · rw [if_pos z2] at q
        obtain ⟨z2, z3⟩ := z2
        refine .inr ⟨z2, z3, hN _ _ (seqF fun N hN hF => ?_)⟩
        refine for_at (f := D.int) ns (fun j σ H => (∃ u, σ = [some (D.ref a), some (D.int t), some (D.tup (ns.map D.int)), some (D.bl true), u, none]) ∧ H = putC G a b (beatsC c (ns.take j))) (fun R r => by simp; exact r) ⟨⟨none, rfl⟩, by rw [List.take_zero]; exact (put_self hG).symm⟩ ?_ ?_
        · rintro j y σ H hj ⟨⟨u, rfl⟩, rfl⟩
          obtain ⟨hj1, hj2⟩ := List.getElem?_eq_some_iff.mp hj
          have hC := ctr_put (G := G) ab (beatsC c (ns.take j))
          have ok2 := beatsC_ok ok (ns.take j)
          simp [tFld', hC.obj, tMeth', sp_Counter_beat, sp2]
          refine ⟨b, _, hC, ok2, ab, ?_⟩
          rw [put_put, List.take_succ_eq_append_getElem hj1, beatsC_snoc, hj2]
        · rintro σ H ⟨⟨u, rfl⟩, rfl⟩
          rw [List.take_length]
          refine hN _ _ (seqF fun N hN hF => ?_)
          have hC := ctr_put (G := G) ab (beatsC c ns)
          simp [tFset', tFld', hC.obj]
          refine hN _ _ (seqF fun N hN hF => ?_)
          obtain ⟨k1, k2, k3, k4⟩ := beatsC_same c ns
          have okg : CtrOk (goneC c ns t) := ⟨(beatsC_ok ok ns).len, (beatsC_ok ok ns).most⟩
          rw [show gup (putC G a b (beatsC c ns)) a (.ins "Counter" (cfs (beatsC c ns).starts (beatsC c ns).len b ((beatsC c ns).gone + t) (beatsC c ns).next)) = putC G a b (goneC c ns t) from ?_]
          rotate_left
          · rw [← put_put (beatsC c ns) (goneC c ns t)]
            rw [k1]
            funext z
            simp only [putC, gup, goneC]
            by_cases z1 : z = a
            · simp [z1]
            · by_cases z2 : z = b <;> simp [z1, z2, Ne.symm ab]
          generalize goneC c ns t = c at q okg ⊢
          simp
          intro m hm
          refine hN _ _ (seqF fun N hN hF => ?_)
          obtain ⟨en1, en2⟩ := endsC_at _ c rfl
          unfold toldC overC at q
          generalize endsC c (c.starts.length - c.next) = e at q en1 en2
          have am : a ≠ m := fun z => by rw [← z, (ctr_put (G := G) ab c).obj] at hm; cases hm
          have bm : b ≠ m := fun z => by rw [← z, (ctr_put (G := G) ab c).found] at hm; cases hm
          refine ⟨fun n σ H => ∃ k, k ≤ e ∧ n = e - k ∧ (∃ u, σ = [some (D.ref a), some (D.int t), some (D.tup (ns.map D.int)), some (D.bl true), u, some (D.ref m)]) ∧ H = gup (putC G a b { c with next := c.next + k }) m (.lst ((List.range k).map (tellC c))), ⟨e, 0, by omega, by omega, ⟨u, rfl⟩, rfl⟩, ?_⟩
          rintro n σ H ⟨k, hk, rfl, ⟨u, rfl⟩, hH⟩
          have hC := ctr_put (G := G) ab { c with next := c.next + k }
          have hA : H a = some (.ins "Counter" (cfs c.starts c.len b c.gone ((c.next + k : Nat)))) := by rw [hH, gup_ne am]; exact hC.obj
          have hB : H b = some (.lst (c.found.map D.int)) := by rw [hH, gup_ne bm]; exact hC.found
          have hM : H m = some (.lst ((List.range k).map (tellC c))) := by rw [hH, gup_same]
          generalize hx : c.next + k = x at hA hH
          simp [tFld', hA]
          have fin : e = k → N [some (D.ref a), some (D.int t), some (D.tup (ns.map D.int)), some (D.bl true), u, some (D.ref m)] H := fun z => by
            subst z
            refine hN _ _ ?_
            simp
            rw [hH]
            have hm2 : putC G a b { c with next := x } m = none := by
              unfold putC at hm ⊢
              rw [gup_ne (Ne.symm am), gup_ne (Ne.symm bm)] at hm ⊢
              exact hm
            rw [← hx] at hm2 ⊢
            exact fz_lst hm2 q
          by_cases zz : k < e
          · obtain ⟨s, es, fs⟩ := en1 k zz
            rw [hx] at es
            obtain ⟨hj, es2⟩ := List.getElem?_eq_some_iff.mp es
            refine .inr ⟨hj, s, by rw [atI_nn _ _ (by omega) (by omega), Int.toNat_natCast]; exact es, .inr ⟨fs, ?_⟩⟩
            refine seqF fun N hN hF => ?_
            simp [tFld', hA, tMut']
            refine ⟨⟨_, hM⟩, ?_⟩
            rw [rIx_ref hB]
            have hf : x < c.found.length := by have := okg.len; omega
            refine ⟨.int c.found[x], by rw [atI_ints, atI_nn _ _ (by omega) (by omega), Int.toNat_natCast, List.getElem?_eq_getElem hf]; rfl, _, hM, by have := line_big; have := okg.most; simp; omega, ?_⟩
            refine hN _ _ ?_
            simp [tFset', tFld', gup_ne am, hA]
            refine ⟨e - (k + 1), by omega, k + 1, by omega, rfl, ?_⟩
            rw [show (D.int (↑x + 1) : D) = .int ((x + 1 : Nat) : Int) from rfl, cp_next, List.range_succ, List.map_append, hH]
            subst hx
            have hf2 : c.next + k < c.found.length := by omega
            funext z
            simp only [gup, putC, List.map_cons, List.map_nil, tellC, List.getElem?_eq_getElem hf2, Option.getD_some]
            by_cases y1 : z = a
            · simp [y1, am, Nat.add_assoc]
            · by_cases y2 : z = m
              · simp [y2, Ne.symm am]
              · simp [y1, y2]
          · have ke : e = k := by omega
            have nd := en2
            rw [ke] at nd
            by_cases hj : x < c.starts.length
            · refine .inr ⟨hj, c.starts[x], by rw [atI_nn _ _ (by omega) (by omega), Int.toNat_natCast, List.getElem?_eq_getElem hj], .inl ⟨?_, fin ke⟩⟩
              by_cases l : c.starts[x] + c.len ≤ c.gone
              · exact absurd ⟨_, by rw [hx]; exact List.getElem?_eq_getElem hj, l⟩ nd
              · omega
            · exact .inl ⟨by omega, fin ke⟩
      · rw [if_neg z2] at q
        exact .inl ⟨by omega, fzE q⟩
    · rw [if_neg z] at q
      show _ ∨ _
      exact .inl ⟨by simpa using z, fzE q⟩
  · have nx : goOn x ns G a b c Q E = E .gate G := by cases x <;> first | rfl | exact (hx ⟨_, rfl⟩).elim
    rw [nx] at q
    have nw : isWhole 0 9999 x = false := by cases x <;> first | rfl | exact (hx ⟨_, rfl⟩).elim
    refine hN _ _ (seqF fun N hN hF => ?_)
    have key : N [some (.ref a), some x, some (.tup (ns.map D.int)), some (.bl false), none, none] G := by
      refine hN _ _ (seqF fun N hN hF => ?_)
      simp
      refine hN _ _ (seqF fun N hN hF => ?_)
      simp [hpl, nw]
      exact fzE q
    cases x with
    | int t => exact (hx ⟨_, rfl⟩).elim
    | ref r => simp [plain] at hpl
    | scr => simp [plain] at hpl
    | bl b => simp [rIsi']; exact key
    | non => simp [rIsi']; exact key
    | str s => simp [rIsi']; exact key
    | tup l => simp [rIsi']; exact key
    | lst l => simp [rIsi']; exact key
end DL

namespace DL
open PySem PySem.Spec PyProof.Rows L2
def t_phase_for (p : Pm) (W : WX') : TS' :=
    (tSeq' (tDrop' (tCall' 1 (sp_look_row p) W (tCons' (tVar' 0) tNil')))
    (tSeq' (tAsg' (tCall' 1 (sp_simplest_of p) W (tCons' (tVar' 0) tNil')) (gName' 1))
    (tSeq' (tIfS' (tTest' (tOp' (rIsN' false) (tVar' 1) (tC' .non))) (tRet' (tC' .non)) tNext')
    (tSeq' (tAsg' (tTup' (tCons' (tOp' (rIx' p) (tVar' 0) (tC' (.int 0))) (tCons' (tC' (.int 1)) tNil'))) (gName' 2))
    (tSeq' (tFor' (iEnum' (tCons' (tVar' 0) tNil')) (gTup' 2 (gCons' (gName' 3) (gCons' (gName' 4) gNil'))) (tSeq' (tAsg' (tCall' 2 (sp_share p) W (tCons' (tOp' (rI' (fun _ _ => True) fun i j => .int (i - j)) (tOp' (rMul' false) (tVar' 4) (tOp' (rIx' p) (tVar' 1) (tC' (.int 1)))) (tOp' (rMul' false) (tVar' 3) (tOp' (rIx' p) (tVar' 1) (tC' (.int 0))))) (tCons' (tOp' (rIx' p) (tVar' 1) (tC' (.int 1))) tNil'))) (gName' 5))
    (tAsg' (tIf' (tTest' (tCall' 2 (sp_is_less p) W (tCons' (tVar' 2) (tCons' (tVar' 5) tNil')))) (tVar' 5) (tVar' 2)) (gName' 2))))
    (tRet' (tVar' 2)))))))

def t_can_count (p : Pm) (W : WX') : TS' :=
    (tSeq' (tDrop' (tCall' 2 (sp_look_gate p) W (tCons' (tC' (.int 0)) (tCons' (tVar' 1) tNil'))))
    (tSeq' (tDrop' (tCall' 1 (sp_look_period p) W (tCons' (tVar' 0) tNil')))
    (tSeq' (tAsg' (tOp' (rI' CDiv fun i j => .int (i / j)) (tOp' (rMul' false) (tVar' 1) (tOp' (rIx' p) (tVar' 0) (tC' (.int 1)))) (tOp' (rIx' p) (tVar' 0) (tC' (.int 0)))) (gName' 2))
    (tRet' (tIf' (tTest' (tOp' (rEq' p false) (tOp' (rMul' false) (tVar' 2) (tOp' (rIx' p) (tVar' 0) (tC' (.int 0)))) (tOp' (rMul' false) (tVar' 1) (tOp' (rIx' p) (tVar' 0) (tC' (.int 1)))))) (tLst' false (tCons' (tVar' 2) tNil')) (tLst' false (tCons' (tVar' 2) (tCons' (tOp' (rAdd' false) (tVar' 2) (tC' (.int 1))) tNil'))))))))

end DL

namespace DL
open PySem PySem.Spec PyProof.Rows L2
def t_by_count (p : Pm) (W : WX') : TS' :=
    (tSeq' (tDrop' (tCall' 1 (sp_look_row p) W (tCons' (tVar' 0) tNil')))
    (tSeq' (tDrop' (tCall' 2 (sp_look_gate p) W (tCons' (tVar' 1) (tCons' (tVar' 2) tNil'))))
    (tSeq' (tAsg' (tCB' (rLen' p) (tCons' (tCall' 3 (sp_in_gate p) W (tCons' (tVar' 0) (tCons' (tVar' 1) (tCons' (tVar' 2) tNil')))) tNil')) (gName' 3))
    (tRet' (tTup' (tCons' (tCall' 2 (sp_share p) W (tCons' (tCB' rMax2' (tCons' (tC' (.int 0)) (tCons' (tOp' (rI' (fun _ _ => True) fun i j => .int (i - j)) (tVar' 3) (tC' (.int 1))) tNil'))) (tCons' (tVar' 2) tNil'))) (tCons' (tCall' 2 (sp_share p) W (tCons' (tOp' (rAdd' false) (tVar' 3) (tC' (.int 1))) (tCons' (tVar' 2) tNil'))) tNil')))))))

def t_time_of (p : Pm) (W : WX') : TS' :=
    (tSeq' (tAsg' (tCall' 3 (sp_in_gate p) W (tCons' (tVar' 0) (tCons' (tVar' 1) (tCons' (tVar' 2) tNil')))) (gName' 3))
    (tSeq' (tIfS' (tOr' (tTest' (tOp' (rCmp' fun i j => decide (i < j)) (tCB' (rLen' p) (tCons' (tVar' 3) tNil')) (tC' (.int 2)))) (tTest' (tOp' (rCmp' fun i j => decide (i < j)) (tOp' (rI' (fun _ _ => True) fun i j => .int (i - j)) (tOp' (rIx' p) (tVar' 3) (tNeg' (tC' (.int 1)))) (tOp' (rIx' p) (tVar' 3) (tC' (.int 0)))) (tC' (.int 2))))) (tRet' (tC' .non)) tNext')
    (tSeq' (tPar' 4 5 (tCons' (tOp' (rI' (fun _ _ => True) fun i j => .int (i - j)) (tCB' (rLen' p) (tCons' (tVar' 3) tNil')) (tC' (.int 1))) (tCons' (tOp' (rI' (fun _ _ => True) fun i j => .int (i - j)) (tOp' (rIx' p) (tVar' 3) (tNeg' (tC' (.int 1)))) (tOp' (rIx' p) (tVar' 3) (tC' (.int 0)))) tNil')))
    (tRet' (tTup' (tCons' (tCall' 2 (sp_share p) W (tCons' (tVar' 4) (tCons' (tOp' (rAdd' false) (tVar' 5) (tC' (.int 1))) tNil'))) (tCons' (tCall' 2 (sp_share p) W (tCons' (tVar' 4) (tCons' (tOp' (rI' (fun _ _ => True) fun i j => .int (i - j)) (tVar' 5) (tC' (.int 1))) tNil'))) tNil')))))))

def t_by_time (p : Pm) (W : WX') : TS' :=
    (tSeq' (tDrop' (tCall' 1 (sp_look_row p) W (tCons' (tVar' 0) tNil')))
    (tSeq' (tDrop' (tCall' 2 (sp_look_gate p) W (tCons' (tVar' 1) (tCons' (tVar' 2) tNil'))))
    (tRet' (tCall' 3 (sp_time_of p) W (tCons' (tVar' 0) (tCons' (tVar' 1) (tCons' (tVar' 2) tNil')))))))

def t_bounds (p : Pm) (W : WX') : TS' :=
    (tSeq' (tDrop' (tCall' 1 (sp_look_row p) W (tCons' (tVar' 0) tNil')))
    (tRet' (tCall' 1 (sp_bounds_of p) W (tCons' (tVar' 0) tNil'))))

def t_simplest_between (p : Pm) (W : WX') : TS' :=
    (tSeq' (tAsg' (tC' (.int 1)) (gName' 2))
    (tWhile' (tTest' (tC' (.bl true))) (tSeq' (tAsg' (tOp' (rAdd' false) (tOp' (rI' CDiv fun i j => .int (i / j)) (tOp' (rMul' false) (tOp' (rIx' p) (tVar' 0) (tC' (.int 0))) (tVar' 2)) (tOp' (rIx' p) (tVar' 0) (tC' (.int 1)))) (tC' (.int 1))) (gName' 3))
    (tSeq' (tIfS' (tTest' (tOp' (rCmp' fun i j => decide (i < j)) (tOp' (rMul' false) (tVar' 3) (tOp' (rIx' p) (tVar' 1) (tC' (.int 1)))) (tOp' (rMul' false) (tOp' (rIx' p) (tVar' 1) (tC' (.int 0))) (tVar' 2)))) (tRet' (tTup' (tCons' (tVar' 3) (tCons' (tVar' 2) tNil')))) tNext')
    (tAsg' (tOp' (rAdd' false) (tVar' 2) (tC' (.int 1))) (gName' 2))))))

def t_simplest_of (p : Pm) (W : WX') : TS' :=
    (tSeq' (tAsg' (tCall' 1 (sp_bounds_of p) W (tCons' (tVar' 0) tNil')) (gName' 1))
    (tRet' (tIf' (tTest' (tOp' (rIsN' true) (tVar' 1) (tC' .non))) (tCall' 2 (sp_simplest_between p) W (tCons' (tOp' (rIx' p) (tVar' 1) (tC' (.int 0))) (tCons' (tOp' (rIx' p) (tVar' 1) (tC' (.int 1))) tNil'))) (tC' .non))))

def t_simplest (p : Pm) (W : WX') : TS' :=
    (tSeq' (tDrop' (tCall' 1 (sp_look_row p) W (tCons' (tVar' 0) tNil')))
    (tRet' (tCall' 1 (sp_simplest_of p) W (tCons' (tVar' 0) tNil'))))

end DL

namespace DL
open PySem PySem.Spec PyProof.Rows L2
theorem pure_bounds (p : Pm) (d : D) : Pure (t_bounds p) (sp_bounds p) 1 [d] := fun G Q E h => by
  simp only [sp_bounds, sp1] at h
  obtain ⟨hd, q⟩ := h
  refine seqN fun N hN => ?_
  simp [start', hd]
  refine wr_step q fun ns e1 ok q1 => hN _ _ ?_
  subst e1
  simp [ok]
  exact fz q1
theorem pure_simplest (p : Pm) (d : D) : Pure (t_simplest p) (sp_simplest p) 1 [d] := fun G Q E h => by
  simp only [sp_simplest, sp1] at h
  obtain ⟨hd, q⟩ := h
  refine seqN fun N hN => ?_
  simp [start', hd]
  refine wr_step q fun ns e1 ok q1 => hN _ _ ?_
  subst e1
  simp [ok]
  exact fz q1
theorem up_down : ∀ (l : List Fr) (i : Fr) (B : Int), 0 < i.2 ∧ i.2 ≤ B → (∀ q ∈ l, 0 < q.2 ∧ q.2 ≤ B) → 0 < (upF l i).2 ∧ (upF l i).2 ≤ B := fun l i B hi hl => by
  have := upF_spec l i hi.1 fun q hq => (hl q hq).1
  rcases this.2.1 with e | e
  · rw [e]; exact hi
  · exact hl _ e
theorem dn_down : ∀ (l : List Fr) (i : Fr) (B : Int), 0 < i.2 ∧ i.2 ≤ B → (∀ q ∈ l, 0 < q.2 ∧ q.2 ≤ B) → 0 < (dnF l i).2 ∧ (dnF l i).2 ≤ B := fun l i B hi hl => by
  have := dnF_spec l i hi.1 fun q hq => (hl q hq).1
  rcases this.2.1 with e | e
  · rw [e]; exact hi
  · exact hl _ e
theorem share_le (u : Int) {d : Int} (h : 0 < d) : (shareF u d).2 ≤ d := by
  unfold shareF
  exact Int.ediv_le_self _ (by omega)
theorem bnd_facts {ns : List Int} (ok : RowOk ns) {a b : Fr} (h : bndF ns = some (a, b)) : SmF a ∧ SmF b ∧ (0 < a.2 ∧ a.2 ≤ 100) ∧ (0 < b.2 ∧ b.2 ≤ 100) ∧ ltF a b := by
  unfold bndF at h
  split at h
  · rename_i c
    have e1 : a = lowS (pairsP ns) := by cases h; rfl
    have e2 : b = highS (pairsP ns) := by cases h; rfl
    rw [e1, e2]
    have po : ∀ q ∈ pairsP ns, PairOk q := fun q hq => pair_ok ok hq
    refine ⟨low_small po, high_small po, ?_, ?_, lessF_iff.mp c.2⟩
    · refine up_down _ _ _ (by dsimp only; omega) fun q hq => ?_
      obtain ⟨x, hx, rfl⟩ := List.mem_map.mp hq
      have := po x hx
      unfold PairOk at this
      have := share_le (x.1 - 1) (show 0 < x.2 by omega)
      exact ⟨share_pos _ (by omega), by omega⟩
    · refine dn_down _ _ _ (by dsimp only; omega) fun q hq => ?_
      obtain ⟨x, hx, rfl⟩ := List.mem_map.mp hq
      have := po x hx
      unfold PairOk at this
      have := share_le (x.1 + 1) (show 0 < x.2 by omega)
      exact ⟨share_pos _ (by omega), by omega⟩
  · cases h
theorem pure_simplest_of (p : Pm) (d : D) : Pure (t_simplest_of p) (sp_simplest_of p) 2 [d] := fun G Q E h => by
  simp only [sp_simplest_of, spRow, sp1] at h
  obtain ⟨ns, rfl, ok, q⟩ := h
  refine seqN fun N hN => ?_
  simp [start', ok]
  refine hN _ _ ?_
  unfold simO at q
  cases e : bndF ns with
  | none => rw [e] at q; simp [bndD]; exact fz q
  | some ab =>
    obtain ⟨a, b⟩ := ab
    rw [e] at q
    obtain ⟨h1, h2, h3, h4, h5⟩ := bnd_facts ok e
    simp [bndD]
    refine ⟨_, rfl, _, rfl, ?_⟩
    simp [h1, h2, h5]
    exact ⟨by omega, by omega, by omega, by omega, fz q⟩
theorem pure_simplest_between (p : Pm) (x y : D) : Pure (t_simplest_between p) (sp_simplest_between p) 4 [x, y] := fun G Q E h => by
  simp only [sp_simplest_between, sp2] at h
  obtain ⟨a, b, rfl, rfl, sa, sb, pa, pb, hab, q⟩ := h
  have big := line_big
  have ss := sim_spec pa.1 pb.1 hab
  refine seqN fun N hN => ?_
  simp [start']
  refine hN _ _ ?_
  refine ⟨fun k σ G' => G' = G ∧ ∃ (d : Int) (o : Option D), k = ((simF a b).2 - d).toNat ∧ 1 ≤ d ∧ d ≤ (simF a b).2 ∧ σ = [some (pairD a), some (pairD b), some (.int d), o], ⟨_, rfl, 1, none, rfl, by omega, ss.pos, rfl⟩, ?_⟩
  rintro k σ G' ⟨rfl, d, o, rfl, h1, h2, rfl⟩
  have hl := ss.le
  simp
  refine seqN fun N hN => ?_
  simp
  unfold SmF at sa sb
  refine ⟨.inl (by omega), ⟨pa.1, by omega⟩, hN _ _ (seqN fun N hN => ?_)⟩
  have eu : a.1 * d / a.2 + 1 = upAt a d := rfl
  rw [eu]
  simp
  refine ⟨.inr (by omega), .inl (by omega), ?_⟩
  have eb : (upAt a d * b.2 < b.1 * d) ↔ simB a b d = true := by unfold simB; rw [decide_eq_true_iff]
  by_cases c : d = (simF a b).2
  · refine .inr ⟨eb.mpr (by rw [c]; exact ss.ok), ?_⟩
    have : D.tup [.int (upAt a d), .int d] = pairD (simF a b) := by
      unfold pairD
      rw [ss.up, ← c]
    rw [this]
    exact fz q
  · have hf := ss.least d h1 (by omega)
    refine .inl ⟨?_, hN _ _ ?_⟩
    · apply Classical.byContradiction
      intro z
      have := eb.mp (by omega)
      rw [hf] at this
      cases this
    · simp
      exact ⟨((simF a b).2 - (d + 1)).toNat, by omega, d + 1, rfl, by omega, by omega, rfl⟩
theorem pure_by_count (p : Pm) (d s l : D) : Pure (t_by_count p) (sp_by_count p) 4 [d, s, l] := fun G Q E h => by
  simp only [sp_by_count, sp3] at h
  obtain ⟨hd, hs, hl, q⟩ := h
  have big := line_big
  refine seqN fun N hN => ?_
  simp [start', hd]
  refine wr_step q fun ns e1 ok q1 => hN _ _ (seqN fun N hN => ?_)
  subst e1
  have la := ok.1
  simp [hs, hl]
  refine wg_step q1 fun a b e1 e2 hab q2 => hN _ _ (seqN fun N hN => ?_)
  subst e1 e2
  have lc : (cnt ns a b).length ≤ ns.length := List.length_filter_le _ _
  simp
  refine ⟨by omega, hN _ _ ?_⟩
  simp
  refine ⟨by omega, by omega, by omega, by omega, ?_⟩
  have e : (if 1 < ((cnt ns a b).length : Int) then ((cnt ns a b).length : Int) - 1 else 0) = max 0 (((cnt ns a b).length : Int) - 1) := by split <;> omega
  rw [e]
  exact fz q2
theorem pure_time_of (p : Pm) (d s l : D) : Pure (t_time_of p) (sp_time_of p) 6 [d, s, l] := fun G Q E h => by
  simp only [sp_time_of, sp3] at h
  obtain ⟨ns, a, b, rfl, rfl, rfl, ok, ha, hb, q⟩ := h
  have big := line_big
  have la := ok.1
  have lc : (cnt ns a b).length ≤ ns.length := List.length_filter_le _ _
  have hm : ∀ x ∈ cnt ns a b, 0 ≤ x ∧ x ≤ 9999 := fun x hx => ok.2.1 x (List.mem_filter.mp hx).1
  refine seqN fun N hN => ?_
  simp [start']
  refine ⟨by omega, hN _ _ (seqN fun N hN => ?_)⟩
  unfold timeF at q
  generalize cnt ns a b = c at *
  cases c with
  | nil =>
    simp
    exact fz q
  | cons x r =>
    have hx := hm x (by simp)
    have a0 : atI (x :: r) 0 = some x := by rw [atI_nn _ _ (by omega) (by simp)]; rfl
    by_cases hr : r = []
    · subst hr
      simp
      exact fz (by simpa [timeO, bndD] using q)
    · obtain ⟨z, hz⟩ : ∃ z, r.getLastD x = z := ⟨_, rfl⟩
      have al : atI (x :: r) (-1) = some z := by
        rw [atI_last _ (by simp), ← hz]
        congr 1
        cases r with
        | nil => cases hr rfl
        | cons y t => simp [List.getLastD]
      have hzr : 0 ≤ z ∧ z ≤ 9999 := hm z (by
        rw [← hz]
        cases r with
        | nil => cases hr rfl
        | cons y t => simp [List.getLastD])
      have lr : 0 < r.length := List.length_pos_iff.mpr hr
      unfold timeO at q
      dsimp only at q
      rw [hz] at q
      have a0 : atI (D.int x :: r.map D.int) 0 = some (D.int x) := by rw [show (D.int x :: r.map D.int) = (x :: r).map D.int from rfl, atI_map, a0]; rfl
      have al : atI (D.int x :: r.map D.int) (-1) = some (D.int z) := by rw [show (D.int x :: r.map D.int) = (x :: r).map D.int from rfl, atI_map, al]; rfl
      simp
      refine .inl ⟨by omega, _, al, _, a0, ?_⟩
      simp
      by_cases c2 : z - x < 2
      · rw [if_pos (.inr c2)] at q
        exact .inr ⟨c2, fz q⟩
      · rw [if_neg fun y => y.elim hr c2] at q
        refine .inl ⟨by omega, hN _ _ (seqN fun N hN => ?_)⟩
        simp
        refine ⟨_, al, _, a0, ?_⟩
        simp
        refine hN _ _ ?_
        simp at lc
        simp
        refine ⟨by omega, by omega, by omega, by omega, ?_⟩
        exact fz q
theorem pure_by_time (p : Pm) (d s l : D) : Pure (t_by_time p) (sp_by_time p) 3 [d, s, l] := fun G Q E h => by
  simp only [sp_by_time, sp3] at h
  obtain ⟨hd, hs, hl, q⟩ := h
  refine seqN fun N hN => ?_
  simp [start', hd]
  refine wr_step q fun ns e1 ok q1 => hN _ _ (seqN fun N hN => ?_)
  subst e1
  simp [hs, hl]
  refine wg_step q1 fun a b e1 e2 hab q2 => hN _ _ ?_
  subst e1 e2
  simp [ok]
  exact ⟨by omega, by omega, by omega, by omega, fz q2⟩
end DL

namespace DL
open PySem PySem.Spec PyProof.Rows L2
theorem ticks_row {ph pe : Fr} {n : Nat} (hn : n ≤ 40) (h0 : 0 ≤ ph.1) (h1 : 0 < ph.2) (h2 : 0 < pe.2) (h3 : pe.2 ≤ pe.1) (hb : ph.1 * pe.2 + n * pe.1 * ph.2 < 10000 * (ph.2 * pe.2)) : RowOk (ticksF ph pe n) := by
  have D0 : 0 < ph.2 * pe.2 := Int.mul_pos h1 h2
  have s0 : 0 ≤ pe.1 * ph.2 := Int.mul_nonneg (by omega) (by omega)
  have sD : ph.2 * pe.2 ≤ pe.1 * ph.2 := by rw [Int.mul_comm pe.1]; exact Int.mul_le_mul_of_nonneg_left h3 (by omega)
  have p0 : 0 ≤ ph.1 * pe.2 := Int.mul_nonneg h0 (by omega)
  unfold ticksF
  refine ⟨by simpa using hn, fun x hx => ?_, ?_⟩
  · obtain ⟨i, hi, rfl⟩ := List.mem_map.mp hx
    rw [List.mem_range] at hi
    have e1 : (i : Int) * pe.1 * ph.2 ≤ n * pe.1 * ph.2 := by
      rw [Int.mul_assoc, Int.mul_assoc]
      exact Int.mul_le_mul_of_nonneg_right (by omega) s0
    have e2 : 0 ≤ (i : Int) * pe.1 * ph.2 := by rw [Int.mul_assoc]; exact Int.mul_nonneg (by omega) s0
    refine ⟨Int.ediv_nonneg (by omega) (by omega), ?_⟩
    have : (ph.1 * pe.2 + (i : Int) * pe.1 * ph.2) / (ph.2 * pe.2) < 10000 := Int.ediv_lt_of_lt_mul D0 (by omega)
    omega
  · rw [List.pairwise_map]
    refine List.pairwise_lt_range.imp fun {i j} h => ?_
    have e1 : ((i : Int) + 1) * pe.1 * ph.2 ≤ j * pe.1 * ph.2 := by
      rw [Int.mul_assoc, Int.mul_assoc]
      exact Int.mul_le_mul_of_nonneg_right (by omega) s0
    have e2 : ((i : Int) + 1) * pe.1 * ph.2 = (i : Int) * pe.1 * ph.2 + pe.1 * ph.2 := by rw [Int.add_mul, Int.add_mul, Int.one_mul]
    have e3 : (ph.1 * pe.2 + (i : Int) * pe.1 * ph.2 + 1 * (ph.2 * pe.2)) / (ph.2 * pe.2) ≤ (ph.1 * pe.2 + (j : Int) * pe.1 * ph.2) / (ph.2 * pe.2) := Int.ediv_le_ediv D0 (by omega)
    rw [Int.add_mul_ediv_right _ _ (by omega)] at e3
    omega
/-- every other one -/
theorem ticks_step (ph pe : Fr) (n : Nat) : stepL (ticksF ph pe n) 2 = ticksF ph (2 * pe.1, pe.2) ((n + 1) / 2) := by
  apply List.ext_getElem?
  intro i
  unfold stepL
  rw [fm_range_cut (k := (n + 1) / 2) (n := (ticksF ph pe n).length) _ (by rw [ticks_len]; omega)]
  · have key : ∀ l : List Nat, (∀ i ∈ l, i * 2 < n) → l.filterMap (fun m => (ticksF ph pe n)[m * 2]?) = l.map fun i : Nat => (ph.1 * pe.2 + (i : Int) * (2 * pe.1) * ph.2) / (ph.2 * pe.2) := by
      intro l
      induction l with
      | nil => intro _; rfl
      | cons x l ih =>
        intro h
        have hx := h x (by simp)
        have : (ticksF ph pe n)[x * 2]? = some ((ph.1 * pe.2 + (x : Int) * (2 * pe.1) * ph.2) / (ph.2 * pe.2)) := by
          unfold ticksF
          rw [List.getElem?_map, List.getElem?_range hx]
          simp only [Option.map_some]
          congr 3
          rw [show ((x * 2 : Nat) : Int) = (x : Int) * 2 by omega, Int.mul_assoc (x : Int) 2]
        rw [List.filterMap_cons, this, List.map_cons, ih fun y hy => h y (by simp [hy])]
    rw [key _ fun i hi => by have := List.mem_range.mp hi; omega]
    rfl
  · intro m hm
    rw [List.getElem?_eq_none]
    rw [ticks_len]; omega
theorem low_lt {l : List (Int × Int)} {m : Fr} (hm : 0 < m.2) (hp : ∀ q ∈ l, 0 < q.2) (h0 : ltF (0, 1) m) (h : ∀ q ∈ l, ltF (q.1 - 1, q.2) m) : ltF (lowS l) m := by
  have := upF_spec (l.map fun q => shareF (q.1 - 1) q.2) (0, 1) (by decide) (fun q hq => by
    obtain ⟨x, hx, rfl⟩ := List.mem_map.mp hq
    exact share_pos _ (hp x hx))
  unfold lowS
  rcases this.2.1 with e | e
  · rw [e]; exact h0
  · obtain ⟨x, hx, e⟩ := List.mem_map.mp e
    rw [← e]
    exact ltF_of_le_lt (share_pos _ (hp x hx)) (by exact hp x hx) hm (eqF_le (share_eqF _ (hp x hx))) (h x hx)
theorem high_lt {l : List (Int × Int)} {m : Fr} (hm : 0 < m.2) (hp : ∀ q ∈ l, 0 < q.2) (h0 : ltF m (10001, 1)) (h : ∀ q ∈ l, ltF m (q.1 + 1, q.2)) : ltF m (highS l) := by
  have := dnF_spec (l.map fun q => shareF (q.1 + 1) q.2) (10001, 1) (by decide) (fun q hq => by
    obtain ⟨x, hx, rfl⟩ := List.mem_map.mp hq
    exact share_pos _ (hp x hx))
  unfold highS
  rcases this.2.1 with e | e
  · rw [e]; exact h0
  · obtain ⟨x, hx, e⟩ := List.mem_map.mp e
    rw [← e]
    exact ltF_of_lt_le hm (by exact hp x hx) (share_pos _ (hp x hx)) (h x hx) (eqF_le (eqF_symm (share_eqF _ (hp x hx))))
/-- bounds of steady beats -/
theorem steady_bnd {ph pe : Fr} {n : Nat} (hn : 2 ≤ n) (h1 : 0 < ph.2) (h2 : 0 < pe.2) (h3 : 0 < pe.1) (h4 : pe.1 ≤ 9999 * pe.2) : ∃ a b, bndF (ticksF ph pe n) = some (a, b) ∧ ltF a pe ∧ ltF pe b := by
  have ag := steady_can (ph := ph) n h1 h2 h3 h4
  have hb : bndF (ticksF ph pe n) = some (lowS (pairsP (ticksF ph pe n)), highS (pairsP (ticksF ph pe n))) := by
    unfold bndF
    rw [if_pos ⟨by rw [ticks_len]; omega, (agree_S _).mpr ag⟩]
  refine ⟨_, _, hb, ?_, ?_⟩
  · exact low_lt h2 (fun q hq => pairs_pos hq) (by unfold ltF; dsimp only; omega) fun q hq => (ticks_pair h1 h2 hq).1
  · exact high_lt h2 (fun q hq => pairs_pos hq) (by unfold ltF; dsimp only; omega) fun q hq => (ticks_pair h1 h2 hq).2
theorem share_leL {u d : Int} {q : Fr} (hd : 0 < d) (hq : 0 < q.2) (h : u * q.2 ≤ q.1 * d) : leF (shareF u d) q :=
  leF_trans (b := (u, d)) (share_pos _ hd) hd hq (eqF_le (share_eqF u hd)) h
theorem share_leR {u d : Int} {q : Fr} (hd : 0 < d) (hq : 0 < q.2) (h : q.1 * d ≤ u * q.2) : leF q (shareF u d) :=
  leF_trans (b := (u, d)) hq hd (share_pos _ hd) h (eqF_le (eqF_symm (share_eqF u hd)))
theorem at_int' (ns : List Int) (i : Nat) (h : i < ns.length) : atI ns i = some (ns.getD i 0) := by
  rw [atI_nn _ _ (by omega) (by omega)]
  simp [List.getD_eq_getElem?_getD, List.getElem?_eq_getElem h]
theorem row_ends {ns : List Int} (ok : RowOk ns) {x : Int} (hx : x ∈ ns) : ns.getD 0 0 ≤ x ∧ x ≤ ns.getD (ns.length - 1) 0 := by
  obtain ⟨i, hi, rfl⟩ := List.getElem_of_mem hx
  have hp := List.pairwise_iff_getElem.mp ok.2.2
  rw [List.getD_eq_getElem?_getD, List.getD_eq_getElem?_getD, List.getElem?_eq_getElem (by omega), List.getElem?_eq_getElem (by omega), Option.getD_some, Option.getD_some]
  constructor
  · by_cases z : i = 0
    · subst z; exact Int.le_refl _
    · exact Int.le_of_lt (hp 0 i (by omega) hi (by omega))
  · by_cases z : i = ns.length - 1
    · subst z; exact Int.le_refl _
    · exact Int.le_of_lt (hp i (ns.length - 1) hi (by omega) (by omega))
theorem timeO_row {ns : List Int} {n : Nat} {a b : Int} (hn : ns.length = n) (h : 2 ≤ n) (ha : ns.getD 0 0 = a) (hb : ns.getD (n - 1) 0 = b) (hw : 2 ≤ b - a) : timeO ns = some (shareF ((n : Int) - 1) (b - a + 1), shareF ((n : Int) - 1) (b - a - 1)) := by
  cases ns with
  | nil => simp at hn; omega
  | cons x r =>
    have ea : x = a := by simpa using ha
    have hr : r ≠ [] := by intro z; subst z; simp at hn; omega
    have lr : r.length = n - 1 := by simp at hn; omega
    have el : r.getLastD x = b := by
      rw [← hb]
      obtain ⟨k, hk⟩ : ∃ k, n - 1 = k + 1 := ⟨n - 2, by omega⟩
      rw [hk, List.getD_eq_getElem?_getD, List.getElem?_cons_succ]
      cases r with
      | nil => cases hr rfl
      | cons y t =>
        simp [List.getLastD, List.getLast_eq_getElem]
        rw [List.getElem?_eq_getElem (by simp at lr ⊢; omega), Option.getD_some]
        congr 1
        simp at lr
        omega
    unfold timeO
    dsimp only
    rw [el, ea, if_neg fun z => z.elim hr fun z => by omega, lr, show ((n - 1 : Nat) : Int) = (n : Int) - 1 by omega]
theorem share_idem (u : Int) {d : Int} (hd : 0 < d) : shareF (shareF u d).1 (shareF u d).2 = shareF u d := by
  have hg := gcdF_pos u hd
  obtain ⟨a, ha⟩ := gcdF_dvd_up u d
  obtain ⟨b, hb⟩ := gcdF_dvd_down u d
  have e : shareF u d = (a, b) := by
    unfold shareF
    generalize gcdF u d = g at *
    have e1 : u / g = a := by rw [ha]; exact Int.mul_ediv_cancel_left a (by omega)
    have e2 : d / g = b := by rw [hb]; exact Int.mul_ediv_cancel_left b (by omega)
    rw [e1, e2]
  rw [e]
  have hb0 : 0 < b := by
    have := share_pos u hd
    rw [e] at this
    exact this
  have g1 : gcdF a b = 1 := by
    have hg2 := gcdF_pos a hb0
    obtain ⟨a2, ha2⟩ := gcdF_dvd_up a b
    obtain ⟨b2, hb2⟩ := gcdF_dvd_down a b
    have d1 : (gcdF u d * gcdF a b).natAbs ∣ u.natAbs := by
      rw [Int.natAbs_dvd_natAbs]
      exact ⟨a2, by rw [Int.mul_assoc, ← ha2]; exact ha⟩
    have d2 : (gcdF u d * gcdF a b).natAbs ∣ d.natAbs := by
      rw [Int.natAbs_dvd_natAbs]
      exact ⟨b2, by rw [Int.mul_assoc, ← hb2]; exact hb⟩
    have d3 := Nat.dvd_gcd d1 d2
    have e3 : Nat.gcd u.natAbs d.natAbs = (gcdF u d).natAbs := by unfold gcdF; simp
    rw [e3] at d3
    have := Nat.le_of_dvd (by omega) d3
    rw [Int.natAbs_mul] at this
    have h4 : (gcdF a b).natAbs ≤ 1 := by
      apply Classical.byContradiction
      intro z
      have := Nat.mul_le_mul_left (gcdF u d).natAbs (show 2 ≤ (gcdF a b).natAbs by omega)
      omega
    omega
  unfold shareF
  rw [g1, Int.ediv_one, Int.ediv_one]
theorem getD_last {ns : List Int} {n : Nat} (hn : ns.length = n) (h : 0 < n) : atI ns (-1) = some (ns.getD (n - 1) 0) := by
  rw [atI_last _ (by intro z; rw [z] at hn; simp at hn; omega), List.getLast_eq_getElem, List.getD_eq_getElem?_getD, List.getElem?_eq_getElem (by omega)]
  simp only [hn, Option.getD_some]
theorem timeO_any {ns : List Int} {n : Nat} {a b : Int} (hn : ns.length = n) (h : 2 ≤ n) (ha : ns.getD 0 0 = a) (hb : ns.getD (n - 1) 0 = b) : timeO ns = none ∨ (2 ≤ b - a ∧ timeO ns = some (shareF ((n : Int) - 1) (b - a + 1), shareF ((n : Int) - 1) (b - a - 1))) := by
  by_cases hw : 2 ≤ b - a
  · exact .inr ⟨hw, timeO_row hn h ha hb hw⟩
  · left
    cases ns with
    | nil => rfl
    | cons x r =>
      have ea : x = a := by simpa using ha
      have hr : r ≠ [] := by intro z; subst z; simp at hn; omega
      have lr : r.length = n - 1 := by simp at hn; omega
      have el : r.getLastD x = b := by
        rw [← hb]
        obtain ⟨k, hk⟩ : ∃ k, n - 1 = k + 1 := ⟨n - 2, by omega⟩
        rw [hk, List.getD_eq_getElem?_getD, List.getElem?_cons_succ]
        cases r with
        | nil => cases hr rfl
        | cons y t =>
          simp [List.getLastD, List.getLast_eq_getElem]
          rw [List.getElem?_eq_getElem (by simp at lr ⊢; omega), Option.getD_some]
          congr 1
          simp at lr
          omega
      unfold timeO
      dsimp only
      rw [el, ea, if_pos (.inr (by omega))]
/-- the beats from one on -/
theorem cnt_from {ns : List Int} (ok : RowOk ns) {i : Nat} (hi : i < ns.length) {l : Int} (hl : ns.getD (ns.length - 1) 0 < ns.getD i 0 + l) : cnt ns (ns.getD i 0) l = ns.drop i := by
  have hp := List.pairwise_iff_getElem.mp ok.2.2
  have e : cnt ns (ns.getD i 0) l = cnt (ns.take i ++ ns.drop i) (ns.getD i 0) l := by rw [List.take_append_drop]
  rw [e]
  unfold cnt
  have gi : ns.getD i 0 = ns[i] := by rw [List.getD_eq_getElem?_getD, List.getElem?_eq_getElem hi, Option.getD_some]
  rw [List.filter_append, List.filter_eq_nil_iff.mpr, List.filter_eq_self.mpr, List.nil_append]
  · intro x hx
    have hm := (row_ends ok (List.mem_of_mem_drop hx)).2
    obtain ⟨j, hj, rfl⟩ := List.getElem_of_mem hx
    rw [List.length_drop] at hj
    rw [List.getElem_drop] at hm ⊢
    have : ns[i] ≤ ns[i + j] := by
      by_cases z : j = 0
      · subst z; exact Int.le_refl _
      · exact Int.le_of_lt (hp i (i + j) hi (by omega) (by omega))
    rw [gi] at hl ⊢
    simp
    omega
  · intro x hx
    obtain ⟨j, hj, rfl⟩ := List.getElem_of_mem hx
    rw [List.length_take] at hj
    rw [List.getElem_take]
    have := hp j i (by omega) hi (by omega)
    rw [gi]
    simp
    omega
theorem share_step (u d : Int) (hd : 0 < d) : shareF (u * d + 1) d = (u * d + 1, d) := by
  have hg := gcdF_pos (u * d + 1) hd
  obtain ⟨a, ha⟩ := gcdF_dvd_up (u * d + 1) d
  obtain ⟨b, hb⟩ := gcdF_dvd_down (u * d + 1) d
  have g1 : gcdF (u * d + 1) d = 1 := by
    generalize gcdF (u * d + 1) d = g at *
    have : g * (a - u * b) = 1 := by
      rw [Int.mul_sub, ← ha]
      have : g * (u * b) = u * d := by rw [hb, Int.mul_left_comm]
      rw [this]
      omega
    generalize a - u * b = x at this
    by_cases hx : x ≤ 0
    · have := Int.mul_nonpos_of_nonneg_of_nonpos (show 0 ≤ g by omega) hx
      omega
    · have := Int.mul_le_mul_of_nonneg_left (show 1 ≤ x by omega) (show 0 ≤ g by omega)
      rw [Int.mul_one] at this
      omega
  unfold shareF
  rw [g1, Int.ediv_one, Int.ediv_one]
end DL

namespace DL
open PySem PySem.Spec PyProof.Rows L2
theorem bnd_some {ns : List Int} {lo hi : Fr} (h : bndF ns = some (lo, hi)) : ns.length > 1 ∧ lessF lo hi = true ∧ lo = lowS (pairsP ns) ∧ hi = highS (pairsP ns) := by
  unfold bndF at h
  split at h
  · rename_i c
    cases h
    exact ⟨c.1, c.2, rfl, rfl⟩
  · cases h
theorem low_facts (ns : List Int) : 0 < (lowS (pairsP ns)).2 ∧ ∀ q ∈ pairsP ns, leF (q.1 - 1, q.2) (lowS (pairsP ns)) := by
  have := upF_spec ((pairsP ns).map fun q => shareF (q.1 - 1) q.2) (0, 1) (by decide) (fun q hq => by
    obtain ⟨x, hx, rfl⟩ := List.mem_map.mp hq
    exact share_pos _ (pairs_pos hx))
  refine ⟨this.1, fun q hq => ?_⟩
  have h2 := this.2.2.2 _ (List.mem_map.mpr ⟨q, hq, rfl⟩)
  exact leF_trans (a := (q.1 - 1, q.2)) (b := shareF (q.1 - 1) q.2) (show 0 < q.2 from pairs_pos hq) (share_pos _ (pairs_pos hq)) this.1 (eqF_le (eqF_symm (share_eqF _ (pairs_pos hq)))) h2
theorem high_facts (ns : List Int) : 0 < (highS (pairsP ns)).2 ∧ ∀ q ∈ pairsP ns, leF (highS (pairsP ns)) (q.1 + 1, q.2) := by
  have := dnF_spec ((pairsP ns).map fun q => shareF (q.1 + 1) q.2) (10001, 1) (by decide) (fun q hq => by
    obtain ⟨x, hx, rfl⟩ := List.mem_map.mp hq
    exact share_pos _ (pairs_pos hx))
  refine ⟨this.1, fun q hq => ?_⟩
  have h2 := this.2.2.2 _ (List.mem_map.mpr ⟨q, hq, rfl⟩)
  exact leF_trans (b := shareF (q.1 + 1) q.2) this.1 (share_pos _ (pairs_pos hq)) (show 0 < q.2 from pairs_pos hq) h2 (eqF_le (share_eqF _ (pairs_pos hq)))
/-- a period between the bounds, seen at two beats -/
structure Fits (ns : List Int) (pe : Fr) : Prop where
  pos : 0 < pe.2
  pair : ∀ i k, 1 ≤ k → i + k < ns.length → (ns.getD (i + k) 0 - ns.getD i 0 - 1) * pe.2 < pe.1 * (k : Int) ∧ pe.1 * (k : Int) < (ns.getD (i + k) 0 - ns.getD i 0 + 1) * pe.2
theorem fits_of {ns : List Int} {pe : Fr} (hp : 0 < pe.2) (h1 : ltF (lowS (pairsP ns)) pe) (h2 : ltF pe (highS (pairsP ns))) : Fits ns pe := ⟨hp, fun i k hk hi => by
  have hm : (ns.getD (i + k) 0 - ns.getD i 0, (k : Int)) ∈ pairsP ns := mem_pairs.mpr ⟨i, k, hk, hi, rfl⟩
  obtain ⟨l1, l2⟩ := low_facts ns
  obtain ⟨u1, u2⟩ := high_facts ns
  have k0 : (0 : Int) < k := by omega
  exact ⟨ltF_of_le_lt (a := (ns.getD (i + k) 0 - ns.getD i 0 - 1, (k : Int))) k0 l1 hp (l2 _ hm) h1, ltF_of_lt_le (c := (ns.getD (i + k) 0 - ns.getD i 0 + 1, (k : Int))) hp u1 k0 h2 (u2 _ hm)⟩⟩
theorem sim_fits {ns : List Int} {pe : Fr} (h : simO ns = some pe) : ∃ lo hi, bndF ns = some (lo, hi) ∧ 0 < lo.2 ∧ 0 < hi.2 ∧ IsSim lo hi pe ∧ ltF lo pe ∧ ltF pe hi ∧ Fits ns pe := by
  unfold simO at h
  cases e : bndF ns with
  | none => rw [e] at h; cases h
  | some q =>
    obtain ⟨lo, hi⟩ := q
    rw [e] at h
    cases h
    obtain ⟨b1, b2, b3, b4⟩ := bnd_some e
    have l1 := (low_facts ns).1
    have u1 := (high_facts ns).1
    rw [← b3] at l1
    rw [← b4] at u1
    have sp := sim_spec l1 u1 (lessF_iff.mp b2)
    have sb := sim_between l1 sp
    have hp : 0 < (simF lo hi).2 := by have := sp.pos; omega
    exact ⟨lo, hi, rfl, l1, u1, sp, sb.1, sb.2, fits_of hp (b3 ▸ sb.1) (b4 ▸ sb.2)⟩
theorem getD_at {ns : List Int} {i : Nat} (h : i < ns.length) : ns.getD i 0 = ns[i] := by rw [List.getD_eq_getElem?_getD, List.getElem?_eq_getElem h]; rfl
/-- the phase: a beat's, and not below any beat's -/
theorem phase_spec {ns : List Int} {pe : Fr} (hp : 0 < pe.2) (hn : 0 < ns.length) : 0 < (phaseF ns pe).2 ∧ (∃ j, j < ns.length ∧ eqF (phaseF ns pe) (ns.getD j 0 * pe.2 - (j : Int) * pe.1, pe.2)) ∧ (∀ i, i < ns.length → leF (ns.getD i 0 * pe.2 - (i : Int) * pe.1, pe.2) (phaseF ns pe)) ∧ (phaseF ns pe = (ns.getD 0 0, 1) ∨ ∃ j, j < ns.length ∧ phaseF ns pe = shareF (ns.getD j 0 * pe.2 - (j : Int) * pe.1) pe.2) := by
  have hl : ∀ q ∈ phaseL ns pe, ∃ j, j < ns.length ∧ q = shareF (ns.getD j 0 * pe.2 - (j : Int) * pe.1) pe.2 := fun q hq => by
    unfold phaseL at hq
    obtain ⟨j, hj, rfl⟩ := List.mem_mapIdx.mp hq
    exact ⟨j, hj, by rw [getD_at hj]⟩
  have := upF_spec (phaseL ns pe) (ns.getD 0 0, 1) (show (0 : Int) < 1 by decide) (fun q hq => by
    obtain ⟨j, _, rfl⟩ := hl q hq
    exact share_pos _ hp)
  refine ⟨this.1, ?_, fun i hi => ?_, ?_⟩
  · rcases this.2.1 with e | e
    · refine ⟨0, hn, ?_⟩
      unfold phaseF
      rw [e]
      unfold eqF
      dsimp only
      rw [show ((0 : Nat) : Int) * pe.1 = 0 by simp]
      omega
    · obtain ⟨j, hj, e⟩ := hl _ e
      refine ⟨j, hj, ?_⟩
      unfold phaseF
      rw [e]
      exact share_eqF _ hp
  · have hm : shareF (ns.getD i 0 * pe.2 - (i : Int) * pe.1) pe.2 ∈ phaseL ns pe := by
      unfold phaseL
      exact List.mem_mapIdx.mpr ⟨i, hi, by rw [getD_at hi]⟩
    exact leF_trans (b := shareF (ns.getD i 0 * pe.2 - (i : Int) * pe.1) pe.2) hp (share_pos _ hp) this.1 (eqF_le (eqF_symm (share_eqF _ hp))) (this.2.2.2 _ hm)
  · rcases this.2.1 with e | e
    · exact .inl e
    · exact .inr (hl _ e)
theorem phase_low {ns : List Int} {pe : Fr} (hp : 0 < pe.2) (hn : 0 < ns.length) : shareF (phaseF ns pe).1 (phaseF ns pe).2 = phaseF ns pe := by
  rcases (phase_spec hp hn).2.2.2 with e | ⟨j, _, e⟩
  · rw [e]
    exact share_one _
  · rw [e]
    exact share_idem _ hp
/-- steady beats from the phase on are the row -/
theorem phase_ticks {ns : List Int} {pe : Fr} (F : Fits ns pe) (hn : 0 < ns.length) : ticksF (phaseF ns pe) pe ns.length = ns := by
  obtain ⟨p1, ⟨j, hj, p2⟩, p3, _⟩ := phase_spec F.pos hn
  generalize phaseF ns pe = ph at p1 p2 p3
  have hp := F.pos
  refine List.ext_getElem (by simp [ticksF]) fun i h1 h2 => ?_
  have hi : i < ns.length := h2
  rw [show (ticksF ph pe ns.length)[i] = (ph.1 * pe.2 + (i : Int) * pe.1 * ph.2) / (ph.2 * pe.2) by simp [ticksF]]
  have D0 : 0 < ph.2 * pe.2 := Int.mul_pos p1 hp
  have le := p3 i hi
  unfold leF at le
  unfold eqF at p2
  dsimp only at le p2
  have xi := getD_at hi
  rw [xi] at le
  -- below
  have lo : ns[i] * (ph.2 * pe.2) ≤ ph.1 * pe.2 + (i : Int) * pe.1 * ph.2 := by
    have e1 : (ns[i] * pe.2 - (i : Int) * pe.1) * ph.2 = ns[i] * (ph.2 * pe.2) - (i : Int) * pe.1 * ph.2 := by
      rw [Int.sub_mul, Int.mul_assoc, Int.mul_comm pe.2]
    rw [e1] at le
    omega
  have key : ns.getD j 0 * pe.2 - (j : Int) * pe.1 + (i : Int) * pe.1 < (ns[i] + 1) * pe.2 := by
    rw [Int.add_mul, Int.one_mul]
    rcases Nat.lt_trichotomy i j with c | c | c
    · have := (F.pair i (j - i) (by omega) (by omega)).1
      rw [show i + (j - i) = j by omega, xi, Int.sub_mul, Int.sub_mul, Int.one_mul] at this
      have e : (j : Int) * pe.1 = (i : Int) * pe.1 + pe.1 * ((j - i : Nat) : Int) := by
        rw [show (j : Int) = (i : Int) + ((j - i : Nat) : Int) by omega, Int.add_mul, Int.mul_comm pe.1]
      omega
    · subst c
      rw [xi]
      omega
    · have := (F.pair j (i - j) (by omega) (by omega)).2
      rw [show j + (i - j) = i by omega, xi, Int.add_mul, Int.sub_mul, Int.one_mul] at this
      have e : (i : Int) * pe.1 = (j : Int) * pe.1 + pe.1 * ((i - j : Nat) : Int) := by
        rw [show (i : Int) = (j : Int) + ((i - j : Nat) : Int) by omega, Int.add_mul, Int.mul_comm pe.1]
      omega
  have up : ph.1 * pe.2 + (i : Int) * pe.1 * ph.2 < (ns[i] + 1) * (ph.2 * pe.2) := by
    have k2 := (mul_cancel p1).mpr key
    rw [Int.add_mul] at k2
    rw [p2, Int.mul_comm ph.2, ← Int.mul_assoc]
    exact k2
  have a1 := Int.le_ediv_of_mul_le D0 lo
  have a2 := Int.ediv_lt_of_lt_mul D0 up
  omega
/-- from any earlier phase they are not -/
theorem early_ticks {ns : List Int} {pe : Fr} (hp : 0 < pe.2) (hn : 0 < ns.length) : ticksF ((phaseF ns pe).1 * 1000 - 1, (phaseF ns pe).2 * 1000) pe ns.length ≠ ns := by
  obtain ⟨p1, ⟨j, hj, p2⟩, _, _⟩ := phase_spec hp hn
  generalize phaseF ns pe = ph at p1 p2
  unfold eqF at p2
  dsimp only at p2
  intro z
  have xj := getD_at hj
  have e : (ticksF (ph.1 * 1000 - 1, ph.2 * 1000) pe ns.length)[j]? = ns[j]? := by rw [z]
  rw [List.getElem?_eq_getElem hj] at e
  unfold ticksF at e
  rw [List.getElem?_map, List.getElem?_range hj] at e
  have e := Option.some.inj e
  dsimp only at e
  have D0 : 0 < ph.2 * 1000 * pe.2 := Int.mul_pos (by omega) hp
  have lt : (ph.1 * 1000 - 1) * pe.2 + (j : Int) * pe.1 * (ph.2 * 1000) < ns[j] * (ph.2 * 1000 * pe.2) := by
    rw [xj, Int.sub_mul] at p2
    have e1 : (ph.1 * 1000 - 1) * pe.2 = ph.1 * pe.2 * 1000 - pe.2 := by
      rw [Int.sub_mul, Int.one_mul, Int.mul_right_comm]
    have e2 : (j : Int) * pe.1 * (ph.2 * 1000) = (j : Int) * pe.1 * ph.2 * 1000 := by rw [Int.mul_assoc ((j : Int) * pe.1)]
    have e3 : ns[j] * (ph.2 * 1000 * pe.2) = ns[j] * pe.2 * ph.2 * 1000 := by
      rw [Int.mul_right_comm ph.2, ← Int.mul_assoc, Int.mul_comm ph.2, ← Int.mul_assoc]
    rw [e1, e2, e3]
    omega
  have := Int.ediv_lt_of_lt_mul D0 lt
  omega
/-- the simplest period: no lower, in lowest terms -/
theorem sim_tight {lo pe hi : Fr} (hl : 0 < lo.2) (h : IsSim lo hi pe) : lessF lo (pe.1 - 1, pe.2) = false := by
  unfold lessF
  rw [decide_eq_false_iff_not, h.up]
  unfold upAt
  dsimp only
  have := Int.ediv_mul_le (lo.1 * pe.2) (show lo.2 ≠ 0 by omega)
  rw [show lo.1 * pe.2 / lo.2 + 1 - 1 = lo.1 * pe.2 / lo.2 by omega]
  omega
theorem sim_share {lo pe hi : Fr} (hl : 0 < lo.2) (hh : 0 < hi.2) (h : IsSim lo hi pe) (h1 : ltF lo pe) (h2 : ltF pe hi) : shareF pe.1 pe.2 = pe := by
  have hp : 0 < pe.2 := by have := h.pos; omega
  have s1 := share_pos pe.1 hp
  have se := share_eqF pe.1 hp
  have b1 : ltF lo (shareF pe.1 pe.2) := ltF_of_lt_le hl hp s1 h1 (eqF_le (eqF_symm se))
  have b2 : ltF (shareF pe.1 pe.2) hi := ltF_of_le_lt s1 hp hh (eqF_le se) h2
  have hs := simB_at hl hh s1 b1 b2
  have hle : (shareF pe.1 pe.2).2 ≤ pe.2 := by
    unfold shareF
    exact Int.ediv_le_self _ (by omega)
  have e2 : (shareF pe.1 pe.2).2 = pe.2 := by
    rcases Int.lt_or_eq_of_le hle with c | c
    · have := h.least _ (by omega) c
      rw [hs] at this
      cases this
    · exact c
  refine Prod.ext ?_ e2
  unfold eqF at se
  dsimp only at se
  rw [e2] at se
  exact Int.eq_of_mul_eq_mul_right (by omega) se
/-- the bounds, begun at one tick less -/
theorem share_dbl {d : Int} (hd : 0 < d) : shareF (10000 * d) d = (10000, 1) := by
  have hg : gcdF (10000 * d) d = d := by
    unfold gcdF
    rw [Int.natAbs_mul, Nat.gcd_mul_left_left]
    omega
  unfold shareF
  rw [hg, Int.mul_ediv_cancel _ (by omega), Int.ediv_self (by omega)]
theorem high_less : ∀ (l : List (Int × Int)), l ≠ [] → (∀ q ∈ l, 0 < q.2 ∧ q.1 + 1 ≤ 10000 * q.2) → dnF (l.map fun q => shareF (q.1 + 1) q.2) (10000, 1) = highS l
  | [], h, _ => (h rfl).elim
  | q :: l, _, h => by
    obtain ⟨h1, h2⟩ := h q (by simp)
    have s1 := share_pos (q.1 + 1) h1
    have se := share_eqF (q.1 + 1) h1
    have hle : leF (shareF (q.1 + 1) q.2) (10000, 1) := leF_trans (b := (q.1 + 1, q.2)) s1 h1 (show (0 : Int) < 1 by decide) (eqF_le se) (by unfold leF; dsimp only; omega)
    unfold highS
    show dnF (l.map fun q => shareF (q.1 + 1) q.2) (if lessF (shareF (q.1 + 1) q.2) (10000, 1) = true then shareF (q.1 + 1) q.2 else (10000, 1)) = dnF (l.map fun q => shareF (q.1 + 1) q.2) (if lessF (shareF (q.1 + 1) q.2) (10001, 1) = true then shareF (q.1 + 1) q.2 else (10001, 1))
    have c1 : lessF (shareF (q.1 + 1) q.2) (10001, 1) = true := by
      rw [lessF_iff]
      unfold leF at hle
      unfold ltF
      dsimp only at hle ⊢
      omega
    rw [if_pos c1]
    congr 1
    by_cases c2 : lessF (shareF (q.1 + 1) q.2) (10000, 1) = true
    · rw [if_pos c2]
    · rw [if_neg c2]
      have hge := lessF_not.mp (by simpa using c2)
      have eq : (shareF (q.1 + 1) q.2).1 = 10000 * (shareF (q.1 + 1) q.2).2 := by
        unfold leF at hle hge
        dsimp only at hle hge
        omega
      have := share_idem (q.1 + 1) h1
      rw [eq, share_dbl s1] at this
      exact this
theorem pairs_small {ns : List Int} (ok : RowOk ns) : ∀ q ∈ pairsP ns, 0 < q.2 ∧ q.1 + 1 ≤ 10000 * q.2 := fun q hq => by
  refine ⟨pairs_pos hq, ?_⟩
  obtain ⟨i, k, h1, h2, rfl⟩ := mem_pairs.mp hq
  have e1 := ok.2.1 _ (List.getElem_mem (show i + k < ns.length from h2))
  have e2 := ok.2.1 _ (List.getElem_mem (show i < ns.length by omega))
  rw [getD_at h2, getD_at (by omega)]
  dsimp only
  omega
theorem pairs_some {ns : List Int} (h : ns.length > 1) : pairsP ns ≠ [] := fun z => by
  have : (ns.getD (0 + 1) 0 - ns.getD 0 0, ((1 : Nat) : Int)) ∈ pairsP ns := mem_pairs.mpr ⟨0, 1, by omega, by omega, rfl⟩
  rw [z] at this
  cases this
end DL

namespace DL
open PySem PySem.Spec PyProof.Rows L2
theorem high_top (ns : List Int) : leF (highS (pairsP ns)) (10001, 1) := by
  have := dnF_spec ((pairsP ns).map fun q => shareF (q.1 + 1) q.2) (10001, 1) (by decide) (fun q hq => by
    obtain ⟨x, hx, rfl⟩ := List.mem_map.mp hq
    exact share_pos _ (pairs_pos hx))
  exact this.2.2.1
theorem low_bottom (ns : List Int) : leF (0, 1) (lowS (pairsP ns)) := by
  have := upF_spec ((pairsP ns).map fun q => shareF (q.1 - 1) q.2) (0, 1) (by decide) (fun q hq => by
    obtain ⟨x, hx, rfl⟩ := List.mem_map.mp hq
    exact share_pos _ (pairs_pos hx))
  exact this.2.2.1
theorem sim_size {ns : List Int} (ok : RowOk ns) {pe : Fr} (h : simO ns = some pe) : (1 ≤ pe.2 ∧ pe.2 ≤ 200) ∧ (1 ≤ pe.1 ∧ pe.1 ≤ 2000200) := by
  obtain ⟨lo, hi, e, l1, u1, sp, h1, h2, F⟩ := sim_fits h
  obtain ⟨_, _, b3, b4, _⟩ := bnd_facts ok e
  obtain ⟨_, _, e1, e2⟩ := bnd_some e
  have p1 := sp.pos
  have p2 := sp.le
  have t := ltF_of_lt_le (c := (10001, 1)) (by omega) u1 (show (0 : Int) < 1 by decide) h2 (e2 ▸ high_top ns)
  have b := ltF_of_le_lt (a := (0, 1)) (show (0 : Int) < 1 by decide) l1 (by omega) (e1 ▸ low_bottom ns) h1
  unfold ltF at t b
  dsimp only at t b
  omega
theorem phase_term {ns : List Int} (ok : RowOk ns) {pe : Fr} (h : simO ns = some pe) {i : Nat} (hi : i < ns.length) : -100000000 ≤ ns.getD i 0 * pe.2 - (i : Int) * pe.1 ∧ ns.getD i 0 * pe.2 - (i : Int) * pe.1 ≤ 100000000 := by
  obtain ⟨⟨a1, a2⟩, b1, b2⟩ := sim_size ok h
  have hx := ok.2.1 _ (List.getElem_mem hi)
  rw [← getD_at hi] at hx
  have := ok.1
  have m1 : ns.getD i 0 * pe.2 ≤ 9999 * 200 := Int.mul_le_mul hx.2 a2 (by omega) (by omega)
  have m2 : 0 ≤ ns.getD i 0 * pe.2 := Int.mul_nonneg hx.1 (by omega)
  have m3 : (i : Int) * pe.1 ≤ 40 * 2000200 := Int.mul_le_mul (by omega) b2 (by omega) (by omega)
  have m4 : 0 ≤ (i : Int) * pe.1 := Int.mul_nonneg (by omega) (by omega)
  omega
theorem phaseL_get {ns : List Int} {pe : Fr} {i : Nat} (hi : i < ns.length) : (phaseL ns pe)[i]? = some (shareF (ns.getD i 0 * pe.2 - (i : Int) * pe.1) pe.2) := by
  unfold phaseL
  rw [List.getElem?_mapIdx, List.getElem?_eq_getElem hi, getD_at hi]
  rfl
theorem phase_small {ns : List Int} (ok : RowOk ns) {pe : Fr} (h : simO ns = some pe) (hn : 0 < ns.length) (l : List Fr) (hl : ∀ q ∈ l, q ∈ phaseL ns pe) : SmF (upF l (ns.getD 0 0, 1)) := by
  obtain ⟨⟨a1, a2⟩, b1, b2⟩ := sim_size ok h
  have hq : ∀ q ∈ l, ∃ i, i < ns.length ∧ q = shareF (ns.getD i 0 * pe.2 - (i : Int) * pe.1) pe.2 := fun q hq => by
    have := hl q hq
    unfold phaseL at this
    obtain ⟨j, hj, rfl⟩ := List.mem_mapIdx.mp this
    exact ⟨j, hj, by rw [getD_at hj]⟩
  have := upF_spec l (ns.getD 0 0, 1) (show (0 : Int) < 1 by decide) (fun q hq' => by
    obtain ⟨j, _, rfl⟩ := hq q hq'
    exact share_pos _ (by omega))
  rcases this.2.1 with e | e
  · rw [e]
    have hx := ok.2.1 _ (List.getElem_mem hn)
    rw [← getD_at hn] at hx
    unfold SmF
    dsimp only
    omega
  · obtain ⟨j, hj, e⟩ := hq _ e
    rw [e]
    have := phase_term ok h hj
    exact share_small (by omega) (by omega)
theorem pure_phase_for (p : Pm) (d : D) : Pure (t_phase_for p) (sp_phase_for p) 6 [d] := fun G Q E h => by
  simp only [sp_phase_for, sp1] at h
  obtain ⟨hd, q⟩ := h
  have big := line_big
  refine seqN fun N hN => ?_
  simp [start', hd]
  refine wr_step q fun ns e1 ok q1 => hN _ _ (seqN fun N hN => ?_)
  subst e1
  simp [ok]
  refine hN _ _ (seqN fun N hN => ?_)
  unfold phaseO at q1
  cases es : simO ns with
  | none =>
    rw [es] at q1
    simp [ofrD]
    exact fz q1
  | some pe =>
    rw [es] at q1
    obtain ⟨⟨a1, a2⟩, b1, b2⟩ := sim_size ok es
    have hn : 0 < ns.length := by
      obtain ⟨lo, hi, e, _⟩ := sim_fits es
      have := (bnd_some e).1
      omega
    have la := ok.1
    simp [ofrD, pairD]
    refine hN _ _ (seqN fun N hN => ?_)
    simp
    refine ⟨ns.getD 0 0, by rw [atI_nn _ _ (by omega) (by omega), getD_at hn]; exact List.getElem?_eq_getElem hn, ?_⟩
    refine hN _ _ (seqN fun N hN => ?_)
    refine for_at (f := pairD) (enI ns) (fun i σ G' => G' = G ∧ ∃ o3 o4 o5, σ = [some (.tup (ns.map D.int)), some (pairD pe), some (pairD (upF ((phaseL ns pe).take i) (ns.getD 0 0, 1))), o3, o4, o5]) (G1 := G) (fun R r => by simp; rw [en_ints]; exact r) ⟨rfl, none, none, none, rfl⟩ ?_ ?_
    · rintro i x σ G' hx ⟨rfl, o3, o4, o5, rfl⟩
      obtain ⟨hi, rfl⟩ := en_get hx
      have tk : (phaseL ns pe).take (i + 1) = (phaseL ns pe).take i ++ [shareF (ns.getD i 0 * pe.2 - (i : Int) * pe.1) pe.2] := by rw [List.take_add_one, phaseL_get hi]; rfl
      have s1 := phase_small ok es hn ((phaseL ns pe).take i) (fun q hq => List.mem_of_mem_take hq)
      have pt := phase_term ok es hi
      have s2 : SmF (shareF (ns.getD i 0 * pe.2 - (i : Int) * pe.1) pe.2) := share_small (by omega) (by omega)
      rw [tk]
      have us : upF ((phaseL ns pe).take i ++ [shareF (ns.getD i 0 * pe.2 - (i : Int) * pe.1) pe.2]) (ns.getD 0 0, 1) = if lessF (upF ((phaseL ns pe).take i) (ns.getD 0 0, 1)) (shareF (ns.getD i 0 * pe.2 - (i : Int) * pe.1) pe.2) = true then shareF (ns.getD i 0 * pe.2 - (i : Int) * pe.1) pe.2 else upF ((phaseL ns pe).take i) (ns.getD 0 0, 1) := by
        unfold upF
        rw [List.foldl_append]
        rfl
      rw [us]
      generalize upF ((phaseL ns pe).take i) (ns.getD 0 0, 1) = m at s1 us ⊢
      generalize ns.getD i 0 = y at *
      simp
      refine seqN fun N hN => ?_
      simp
      refine ⟨.inr (by omega), .inr (by omega), by omega, by omega, hN _ _ ?_⟩
      generalize shareF (y * pe.2 - (i : Int) * pe.1) pe.2 = t at s2 ⊢
      simp [s1, s2]
      cases c : lessF m t with
      | true => exact .inr ⟨rfl, by simp⟩
      | false => exact .inl ⟨rfl, by simp⟩
    · rintro σ G' ⟨rfl, o3, o4, o5, rfl⟩
      rw [en_len]
      refine hN _ _ ?_
      rw [show (phaseL ns pe).take ns.length = phaseL ns pe from List.take_of_length_le (by unfold phaseL; simp)]
      simp
      exact fz q1
theorem pure_can_count (p : Pm) (a l : D) : Pure (t_can_count p) (sp_can_count p) 3 [a, l] := fun G Q E h => by
  simp only [sp_can_count, sp2] at h
  obtain ⟨ha, hl, q⟩ := h
  have big := line_big
  refine seqN fun N hN => ?_
  simp [start', hl]
  unfold withGate gateOf
  have bad : cntB a l = .inl .gate → FzE E .gate [some a, some l, none] G := fun e => by
    rw [e] at q
    exact fzE q
  cases l with
  | int b =>
    dsimp only
    by_cases cb : 1 ≤ b ∧ b ≤ 9999
    · rw [if_pos (by omega)]
      refine hN _ _ (seqN fun N hN => ?_)
      simp [ha]
      unfold cntB at q
      dsimp only at q
      rw [if_pos cb] at q
      unfold withPer
      cases e2 : perOf a with
      | none =>
        rw [e2] at q
        exact fzE q
      | some pe =>
        rw [e2] at q
        obtain ⟨rfl, h1, h2, h3, h4, h5⟩ := per_some e2
        have h5' : pe.1 ≤ 9999 * 99 := Int.le_trans h5 (by omega)
        dsimp only at q ⊢
        refine hN _ _ (seqN fun N hN => ?_)
        simp
        refine ⟨.inl (by omega), ⟨h4, by omega⟩, hN _ _ ?_⟩
        simp
        have lo0 : 0 ≤ b * pe.2 / pe.1 := Int.ediv_nonneg (Int.mul_nonneg (by omega) (by omega)) (by omega)
        refine ⟨.inr (by omega), .inl (by omega), ?_⟩
        unfold canF at q
        by_cases c : b * pe.2 / pe.1 * pe.1 = b * pe.2
        · rw [if_pos c] at q
          exact .inr ⟨c, fz q⟩
        · rw [if_neg c] at q
          exact .inl ⟨c, fz q⟩
    · rw [if_neg (by omega)]
      exact bad (by unfold cntB; dsimp only; rw [if_neg cb])
  | _ => exact bad rfl
end DL

namespace DL
open PySem PySem.Spec PyProof.Rows L2
theorem pure_gaps_n (p : Pm) (d : D) : Pure (t_gaps_n p) (sp_gaps_n p) 3 [d] := fun G Q E h => by
  simp only [sp_gaps_n, sp1] at h
  obtain ⟨hd, q⟩ := h
  refine seqN fun N hN => ?_
  simp [start', hd]
  refine wr_step q fun ns e1 hr q1 => hN _ _ ?_
  subst e1
  simp
  refine lc_mapM pair_inj (ns.zip ns.tail) (fun q => .int (q.2 - q.1)) (G1 := G) (fun R r => by simp; exact r) (by have := line_big; have := hr.1; simp; omega) (fun q _ Gx _ => by simp [pairD]) ?_
  intro a ha
  refine fz ?_
  have := q1 a ha
  simpa [gapsOf, Function.comp_def] using this
theorem pure_counts_of_n (p : Pm) (r s l c n : D) : Pure (t_counts_of_n p) (sp_counts_of_n p) 6 [r, s, l, c, n] := fun G Q E h => by
  simp only [sp_counts_of_n, sp5] at h
  obtain ⟨ns, a, b, e, m, rfl, rfl, rfl, rfl, rfl, h0, h1, h2, q⟩ := h
  have big := line_big
  simp [t_counts_of_n, start']
  refine lc_mapM int_inj (startsOf a b e m.toNat) (fun x => .int (cnt ns x b).length) (G1 := G) (fun R r => by simp; exact ⟨by omega, by omega, r⟩) (by simp [startsOf]; omega) (fun x _ Gx _ => by simp [h0]) ?_
  intro r hr
  have := q r hr
  exact fz (by simpa [countsOf, Function.comp_def] using this)
theorem pure_in_gates_n (p : Pm) (r s l c n : D) : Pure (t_in_gates_n p) (sp_in_gates_n p) 5 [r, s, l, c, n] := fun G Q E h => by
  simp only [sp_in_gates_n, sp5] at h
  obtain ⟨h0, h1, h2, h3, h4, q⟩ := h
  refine seqN fun N hN => ?_
  simp [start', h0]
  refine wr_step q fun ns e1 ha q1 => hN _ _ (seqN fun N hN => ?_)
  subst e1
  simp [h1, h2, h3, h4]
  refine wgs_step q1 fun a b e m e1 e2 e3 e4 hg hk q2 => hN _ _ ?_
  subst e1 e2 e3 e4
  unfold gatesOk at hk
  simp
  exact counts_of_n_i (row_line ha) (by omega) (by omega) fun r hr => fz (q2 r hr)
theorem pure_lost_n (p : Pm) (r s l c n : D) : Pure (t_lost_n p) (sp_lost_n p) 6 [r, s, l, c, n] := fun G Q E h => by
  simp only [sp_lost_n, sp_lost, sp5] at h
  obtain ⟨h0, h1, h2, h3, h4, q⟩ := h
  refine seqN fun N hN => ?_
  simp [start', h0]
  refine wr_step q fun ns e1 ha q1 => hN _ _ (seqN fun N hN => ?_)
  subst e1
  simp [h1, h2, h3, h4]
  refine wgs_step q1 fun a b e m e1 e2 e3 e4 hg hk q2 => hN _ _ (seqN fun N hN => ?_)
  subst e1 e2 e3 e4
  unfold gatesOk at hk
  simp
  refine ⟨.inr (by omega), .inr (by omega), hN _ _ ?_⟩
  simp
  refine ⟨row_line ha, counts_of_n_i (row_line ha) (by omega) (by omega) fun r hr => ?_⟩
  refine ⟨_, countsOf ns a b e m.toNat, rfl, by simp [asT, asL, gup_same], ?_⟩
  simp
  exact fz_drop hr (fz q2)
theorem pure_waits_n (p : Pm) (d e : D) : Pure (t_waits_n p) (sp_waits_n p) 6 [d, e] := fun G Q E h => by
  simp only [sp_waits_n, sp2] at h
  obtain ⟨a, b, rfl, rfl, la, lb, q⟩ := h
  have big := line_big
  refine seqF fun N hN _ => ?_
  simp [start']
  intro r hr
  refine hN _ _ (seqF fun N hN hF => ?_)
  refine for_at a (fun i σ G' => G' = gup G r (.lst (((a.take i).map (waitOf b)).map optD)) ∧ ∃ o o2, σ = [some (.tup (a.map D.int)), some (.tup (b.map D.int)), some (.ref r), o, o2, none]) (f := D.int) (G1 := gup G r (.lst [])) (fun R r => by simp; exact r) ⟨rfl, none, none, rfl⟩ ?_ ?_
  · rintro i x σ G' hx ⟨rfl, o, o2, rfl⟩
    have hil := (List.getElem?_eq_some_iff.mp hx).1
    refine seqF fun N hN _ => ?_
    simp
    refine lc_filter int_inj b (fun y => decide (x ≤ y)) (fun y => .int (y - x)) (fun R r => by simp; exact r) (by omega) (fun y _ Gx _ => by by_cases c : x ≤ y <;> simp [c]) ?_
    have hw := wait_head b x
    have e1 : (b.filter fun y => decide (x ≤ y)).map (fun y => D.int (y - x)) = ((b.filter fun y => decide (x ≤ y)).map (· - x)).map D.int := by simp
    rw [e1]
    generalize ((b.filter fun y => decide (x ≤ y)).map (· - x)) = beh at hw ⊢
    refine hN _ _ ?_
    have st : (a.take (i + 1)).map (waitOf b) = (a.take i).map (waitOf b) ++ [waitOf b x] := by
      rw [List.take_add_one, hx]; simp
    simp only [st]
    have hz : ((a.take i).map (waitOf b)).length < sizeLine := by rw [List.length_map, List.length_take]; omega
    simp
    cases beh with
    | nil =>
      simp at hw
      refine .inl ⟨rfl, ?_, by simp [hw, optD]⟩
      simpa using hz
    | cons y l =>
      simp at hw
      refine .inr ⟨by simp, y, atI_head y l, ?_, by simp [hw, optD]⟩
      simpa using hz
  · rintro σ G' ⟨rfl, o, o2, rfl⟩
    refine hN _ _ ?_
    simp
    exact fz (by simpa [waitsOf] using q r hr)
theorem pure_to_next_n (p : Pm) (d e : D) : Pure (t_to_next_n p) (sp_to_next_n p) 2 [d, e] := fun G Q E h => by
  simp only [sp_to_next_n, sp2] at h
  obtain ⟨h1, h2, q⟩ := h
  refine seqN fun N hN => ?_
  simp [start', h1]
  refine wr_step q fun a e1 ha q1 => hN _ _ (seqN fun N hN => ?_)
  simp [h2]
  refine wr_step q1 fun b e2 hb q2 => hN _ _ ?_
  subst e1 e2
  simp
  exact waits_n_i ha.1 hb.1 fun r hr => fz (q2 r hr)
theorem pure_between_n (p : Pm) (d e : D) : Pure (t_between_n p) (sp_between_n p) 5 [d, e] := fun G Q E h => by
  simp only [sp_between_n, sp2] at h
  obtain ⟨h1, h2, q⟩ := h
  refine seqN fun N hN => ?_
  simp [start', h1]
  refine wr_step q fun a e1 ha q1 => hN _ _ (seqN fun N hN => ?_)
  simp [h2]
  refine wr_step q1 fun b e2 hb q2 => hN _ _ ?_
  subst e1 e2
  have la := ha.1
  have lb := row_line hb
  have big := line_big
  simp
  refine lc_mapM pair_inj (a.zip a.tail) (fun q => .int (b.filter fun z => decide (q.1 ≤ z) && decide (z < q.2)).length) (G1 := G) (fun R r => by simp; exact r) (by simp; omega) (fun q _ Gx _ => ?_) ?_
  · simp [pairD]
    refine lc_filter int_inj b (fun z => decide (q.1 ≤ z) && decide (z < q.2)) .int (fun R r => by simp; exact r) lb (fun y _ Gy _ => by by_cases c : q.1 ≤ y <;> by_cases c2 : y < q.2 <;> simp [c, c2]) ?_
    simp
  · intro r hr
    exact fz (by simpa [betweenOf, Function.comp_def] using q2 r hr)
end DL

namespace DL
open PySem PySem.Spec PyProof.Rows L2
theorem pure_can_count_n (p : Pm) (a l : D) : Pure (t_can_count_n p) (sp_can_count_n p) 3 [a, l] := fun G Q E h => by
  simp only [sp_can_count_n, sp2] at h
  obtain ⟨ha, hl, q⟩ := h
  unfold canQ at q
  have big := line_big
  refine seqN fun N hN => ?_
  simp [start', hl]
  unfold withGate gateOf
  have bad : cntB a l = .inl .gate → FzE E .gate [some a, some l, none] G := fun e => by
    rw [e] at q
    exact fzE q
  cases l with
  | int b =>
    dsimp only
    by_cases cb : 1 ≤ b ∧ b ≤ 9999
    · rw [if_pos (by omega)]
      refine hN _ _ (seqN fun N hN => ?_)
      simp [ha]
      unfold cntB at q
      dsimp only at q
      rw [if_pos cb] at q
      unfold withPer
      cases e2 : perOf a with
      | none =>
        rw [e2] at q
        exact fzE q
      | some pe =>
        rw [e2] at q
        obtain ⟨rfl, h1, h2, h3, h4, h5⟩ := per_some e2
        have h5' : pe.1 ≤ 9999 * 99 := Int.le_trans h5 (by omega)
        dsimp only at q ⊢
        refine hN _ _ (seqN fun N hN => ?_)
        simp
        refine ⟨.inl (by omega), ⟨h4, by omega⟩, hN _ _ ?_⟩
        simp
        have lo0 : 0 ≤ b * pe.2 / pe.1 := Int.ediv_nonneg (Int.mul_nonneg (by omega) (by omega)) (by omega)
        refine ⟨.inr (by omega), .inl (by omega), ?_⟩
        unfold canF at q
        by_cases c : b * pe.2 / pe.1 * pe.1 = b * pe.2
        · rw [if_pos c] at q
          exact .inr ⟨c, fun r hr => fz (q r hr)⟩
        · rw [if_neg c] at q
          exact .inl ⟨c, fun r hr => fz (q r hr)⟩
    · rw [if_neg (by omega)]
      exact bad (by unfold cntB; dsimp only; rw [if_neg cb])
  | _ => exact bad rfl
theorem pure_Counter_go_on_n (p : Pm) (s x r : D) : Pure (t_Counter_go_on_n p) (sp_Counter_go_on_n p) 6 [s, x, r] := fun G Q E h => by
  simp only [sp_Counter_go_on_n, sp3] at h
  obtain ⟨a, b, c, rfl, hG, ok, ab, hr, hpl, q⟩ := h
  have e1 := ok.len
  have e2 := ok.most
  refine seqF fun N hN hF => ?_
  simp [start', hr]
  refine wr_step q fun ns hns hrow qq => ?_
  subst hns
  clear q
  have q := qq
  clear qq
  by_cases hx : ∃ t, x = .int t
  · obtain ⟨t, rfl⟩ := hx
    simp only [goOnN, freshL] at q
    refine hN _ _ (seqF fun N hN hF => ?_)
    simp [rIsi']
    refine hN _ _ (seqF fun N hN hF => ?_)
    simp
    have rl : ns.length ≤ sizeLine := by have := hrow.1; have := line_big; omega
    refine lc_map int_inj ns (fun y => .bl (decide (y < t))) (fun R r => by simp; exact r) rl (fun y _ Gy _ => by simp) ?_
    refine ⟨_, ns.map fun y => decide (y < t), rfl, by simp [asL], ?_⟩
    by_cases z : ∀ n ∈ ns, n < t
    · rw [if_pos z] at q
      show _ ∨ _
      refine .inr ⟨by simpa using z, hN _ _ (seqF fun N hN hF => ?_)⟩
      simp
      by_cases z2 : 0 ≤ t ∧ t ≤ 9999
      · rw [if_pos z2] at q
        obtain ⟨z2, z3⟩ := z2
        refine .inr ⟨z2, z3, hN _ _ (seqF fun N hN hF => ?_)⟩
        refine for_at (f := D.int) ns (fun j σ H => (∃ u, σ = [some (D.ref a), some (D.int t), some (D.tup (ns.map D.int)), some (D.bl true), u, none]) ∧ H = putC G a b (beatsC c (ns.take j))) (fun R r => by simp; exact r) ⟨⟨none, rfl⟩, by rw [List.take_zero]; exact (put_self hG).symm⟩ ?_ ?_
        · rintro j y σ H hj ⟨⟨u, rfl⟩, rfl⟩
          obtain ⟨hj1, hj2⟩ := List.getElem?_eq_some_iff.mp hj
          have hC := ctr_put (G := G) ab (beatsC c (ns.take j))
          have ok2 := beatsC_ok ok (ns.take j)
          simp [tFld', hC.obj, tMeth', sp_Counter_beat, sp2]
          refine ⟨b, _, hC, ok2, ab, ?_⟩
          rw [put_put, List.take_succ_eq_append_getElem hj1, beatsC_snoc, hj2]
        · rintro σ H ⟨⟨u, rfl⟩, rfl⟩
          rw [List.take_length]
          refine hN _ _ (seqF fun N hN hF => ?_)
          have hC := ctr_put (G := G) ab (beatsC c ns)
          simp [tFset', tFld', hC.obj]
          refine hN _ _ (seqF fun N hN hF => ?_)
          obtain ⟨k1, k2, k3, k4⟩ := beatsC_same c ns
          have okg : CtrOk (goneC c ns t) := ⟨(beatsC_ok ok ns).len, (beatsC_ok ok ns).most⟩
          rw [show gup (putC G a b (beatsC c ns)) a (.ins "Counter" (cfs (beatsC c ns).starts (beatsC c ns).len b ((beatsC c ns).gone + t) (beatsC c ns).next)) = putC G a b (goneC c ns t) from ?_]
          rotate_left
          · rw [← put_put (beatsC c ns) (goneC c ns t)]
            rw [k1]
            funext z
            simp only [putC, gup, goneC]
            by_cases z1 : z = a
            · simp [z1]
            · by_cases z2 : z = b <;> simp [z1, z2, Ne.symm ab]
          generalize goneC c ns t = c at q okg ⊢
          simp
          intro m hm
          refine hN _ _ (seqF fun N hN hF => ?_)
          obtain ⟨en1, en2⟩ := endsC_at _ c rfl
          unfold toldC overC at q
          generalize endsC c (c.starts.length - c.next) = e at q en1 en2
          have am : a ≠ m := fun z => by rw [← z, (ctr_put (G := G) ab c).obj] at hm; cases hm
          have bm : b ≠ m := fun z => by rw [← z, (ctr_put (G := G) ab c).found] at hm; cases hm
          refine ⟨fun n σ H => ∃ k, k ≤ e ∧ n = e - k ∧ (∃ u, σ = [some (D.ref a), some (D.int t), some (D.tup (ns.map D.int)), some (D.bl true), u, some (D.ref m)]) ∧ H = gup (putC G a b { c with next := c.next + k }) m (.lst ((List.range k).map (tellC c))), ⟨e, 0, by omega, by omega, ⟨u, rfl⟩, rfl⟩, ?_⟩
          rintro n σ H ⟨k, hk, rfl, ⟨u, rfl⟩, hH⟩
          have hC := ctr_put (G := G) ab { c with next := c.next + k }
          have hA : H a = some (.ins "Counter" (cfs c.starts c.len b c.gone ((c.next + k : Nat)))) := by rw [hH, gup_ne am]; exact hC.obj
          have hB : H b = some (.lst (c.found.map D.int)) := by rw [hH, gup_ne bm]; exact hC.found
          have hM : H m = some (.lst ((List.range k).map (tellC c))) := by rw [hH, gup_same]
          generalize hx : c.next + k = x at hA hH
          simp [tFld', hA]
          have fin : e = k → N [some (D.ref a), some (D.int t), some (D.tup (ns.map D.int)), some (D.bl true), u, some (D.ref m)] H := fun z => by
            subst z
            refine hN _ _ ?_
            simp
            rw [hH]
            have hm2 : putC G a b { c with next := x } m = none := by
              unfold putC at hm ⊢
              rw [gup_ne (Ne.symm am), gup_ne (Ne.symm bm)] at hm ⊢
              exact hm
            rw [← hx] at hm2 ⊢
            have hm0 : G m = none := by
              unfold putC at hm
              rw [gup_ne (Ne.symm am), gup_ne (Ne.symm bm)] at hm
              exact hm
            exact fz (q m hm2)
          by_cases zz : k < e
          · obtain ⟨s, es, fs⟩ := en1 k zz
            rw [hx] at es
            obtain ⟨hj, es2⟩ := List.getElem?_eq_some_iff.mp es
            refine .inr ⟨hj, s, by rw [atI_nn _ _ (by omega) (by omega), Int.toNat_natCast]; exact es, .inr ⟨fs, ?_⟩⟩
            refine seqF fun N hN hF => ?_
            simp [tFld', hA, tMut']
            refine ⟨⟨_, hM⟩, ?_⟩
            rw [rIx_ref hB]
            have hf : x < c.found.length := by have := okg.len; omega
            refine ⟨.int c.found[x], by rw [atI_ints, atI_nn _ _ (by omega) (by omega), Int.toNat_natCast, List.getElem?_eq_getElem hf]; rfl, _, hM, by have := line_big; have := okg.most; simp; omega, ?_⟩
            refine hN _ _ ?_
            simp [tFset', tFld', gup_ne am, hA]
            refine ⟨e - (k + 1), by omega, k + 1, by omega, rfl, ?_⟩
            rw [show (D.int (↑x + 1) : D) = .int ((x + 1 : Nat) : Int) from rfl, cp_next, List.range_succ, List.map_append, hH]
            subst hx
            have hf2 : c.next + k < c.found.length := by omega
            funext z
            simp only [gup, putC, List.map_cons, List.map_nil, tellC, List.getElem?_eq_getElem hf2, Option.getD_some]
            by_cases y1 : z = a
            · simp [y1, am, Nat.add_assoc]
            · by_cases y2 : z = m
              · simp [y2, Ne.symm am]
              · simp [y1, y2]
          · have ke : e = k := by omega
            have nd := en2
            rw [ke] at nd
            by_cases hj : x < c.starts.length
            · refine .inr ⟨hj, c.starts[x], by rw [atI_nn _ _ (by omega) (by omega), Int.toNat_natCast, List.getElem?_eq_getElem hj], .inl ⟨?_, fin ke⟩⟩
              by_cases l : c.starts[x] + c.len ≤ c.gone
              · exact absurd ⟨_, by rw [hx]; exact List.getElem?_eq_getElem hj, l⟩ nd
              · omega
            · exact .inl ⟨by omega, fin ke⟩
      · rw [if_neg z2] at q
        exact .inl ⟨by omega, fzE q⟩
    · rw [if_neg z] at q
      show _ ∨ _
      exact .inl ⟨by simpa using z, fzE q⟩
  · have nx : goOnN x ns G a b c Q E = E .gate G := by cases x <;> first | rfl | exact (hx ⟨_, rfl⟩).elim
    rw [nx] at q
    have nw : isWhole 0 9999 x = false := by cases x <;> first | rfl | exact (hx ⟨_, rfl⟩).elim
    refine hN _ _ (seqF fun N hN hF => ?_)
    have key : N [some (.ref a), some x, some (.tup (ns.map D.int)), some (.bl false), none, none] G := by
      refine hN _ _ (seqF fun N hN hF => ?_)
      simp
      refine hN _ _ (seqF fun N hN hF => ?_)
      simp [hpl, nw]
      exact fzE q
    cases x with
    | int t => exact (hx ⟨_, rfl⟩).elim
    | ref r => simp [plain] at hpl
    | scr => simp [plain] at hpl
    | bl b => simp [rIsi']; exact key
    | non => simp [rIsi']; exact key
    | str s => simp [rIsi']; exact key
    | tup l => simp [rIsi']; exact key
    | lst l => simp [rIsi']; exact key
end DL

namespace DL
open PySem PySem.Spec PyProof.Rows L2
def tCp (p : Pm) (R : Sp') (W : WX') : TS' :=
    (tSeq' (tIfS' (tTest' (rIsi' "list" (tVar' 0))) (tRet' (tLc' false (iSeqC' (tVar' 0)) (gName' 1) tYes' (tCall' 1 R Wno (tCons' (tVar' 1) tNil')) [1])) tNext')
    (tSeq' (tIfS' (tTest' (rIsi' "tuple" (tVar' 0))) (tRet' (tCB' rTupOf' (tCons' (tLc' false (iSeqC' (tVar' 0)) (gName' 1) tYes' (tCall' 1 R Wno (tCons' (tVar' 1) tNil')) [1]) tNil'))) tNext')
    (tSeq' (tIfS' (tTest' (rIsi' "dict" (tVar' 0))) tBad' tNext')
    (tRet' (tVar' 0)))))
theorem cp_data {p : Pm} {n : Nat} {R : Sp'} (hR : ∀ d G Q E, PD n d → Q d G → R [d] G Q E) (d : D) : Pure (tCp p R) (spCp (n + 1)) 3 [d] := fun G Q E h => by
  rw [at_cp] at h
  obtain ⟨hd, q⟩ := h
  have big := line_big
  refine seqN fun N hN => ?_
  cases d with
  | tup ds =>
    obtain ⟨hl, hx⟩ := hd
    simp [start']
    refine hN _ _ (seqN fun N hN => ?_)
    simp
    refine lc_map (f := id) (fun _ _ h => h) ds id (G1 := G) (fun R r => by simp; rw [List.map_id] at r; exact r) (by omega) (fun x hxs Gx _ => ?_) ?_
    · simp
      exact hR _ _ _ _ (hx x hxs) ⟨rfl, rfl⟩
    · simp
      exact fz q
  | lst ds => exact hd.elim
  | ref a => exact hd.elim
  | scr => exact hd.elim
  | _ =>
    simp [start']
    refine hN _ _ (seqN fun N hN => ?_)
    simp
    refine hN _ _ (seqN fun N hN => ?_)
    simp
    refine hN _ _ ?_
    simp
    exact fz q
theorem cp_R {n : Nat} : ∀ d G Q E, PD n d → Q d G → spCp n [d] G Q E := fun d G Q E h q => by rw [at_cp]; exact ⟨h, q⟩
theorem pure__law_copied_r1 (p : Pm) (d : D) : Pure (t__law_copied_r1 p) (sp__law_copied_r1 p) 3 [d] := cp_data (p := p) (n := 0) (R := spBot) (fun _ _ _ _ h => h.elim) d
theorem pure__law_copied_r2 (p : Pm) (d : D) : Pure (t__law_copied_r2 p) (sp__law_copied_r2 p) 3 [d] := cp_data (p := p) (n := 1) (R := spCp 1) cp_R d
theorem pure__law_copied_r3 (p : Pm) (d : D) : Pure (t__law_copied_r3 p) (sp__law_copied_r3 p) 3 [d] := cp_data (p := p) (n := 2) (R := spCp 2) cp_R d
theorem pure__law_copied_r4 (p : Pm) (d : D) : Pure (t__law_copied_r4 p) (sp__law_copied_r4 p) 3 [d] := fun G Q E h => by
  simp only [sp__law_copied_r4, sp1] at h
  obtain ⟨a, ds, rfl, hG, hl, hx, q⟩ := h
  have big := line_big
  refine seqN fun N hN => ?_
  simp [start', hG]
  refine lc_map (f := id) (fun _ _ h => h) ds id (G1 := G) (fun R r => by simp; rw [List.map_id] at r; exact ⟨ds, hG, r⟩) (by omega) (fun x hxs Gx _ => ?_) ?_
  · simp
    exact cp_R _ _ _ _ (hx x hxs) ⟨rfl, rfl⟩
  · simp
    exact fz q
def heldD (G : GH) (a : Addr) : D := match G a with
  | some (.lst ds) => .lst ds
  | _ => .non
theorem held_all {G : GH} : ∀ {as : List Addr} {dss : List (List D)}, as.length = dss.length → (∀ q ∈ as.zip dss, G q.1 = some (.lst q.2)) → as.map (heldD G) = dss.map D.lst
  | [], [], _, _ => rfl
  | a :: as, ds :: dss, h, k => by
    have e : heldD G a = .lst ds := by unfold heldD; rw [k (a, ds) (by simp)]
    rw [List.map_cons, List.map_cons, e, held_all (by simpa using h) fun q hq => k q (by simp [hq])]
theorem zip_of {as : List Addr} {dss : List (List D)} (h : as.length = dss.length) {a : Addr} (ha : a ∈ as) : ∃ ds ∈ dss, (a, ds) ∈ as.zip dss := by
  obtain ⟨i, hi, rfl⟩ := List.getElem_of_mem ha
  exact ⟨dss[i]'(by omega), List.getElem_mem _, by rw [List.mem_iff_getElem]; exact ⟨i, by simp; omega, by simp⟩⟩
theorem pure__law_copied_r5 (p : Pm) (d : D) : Pure (t__law_copied_r5 p) (sp__law_copied_r5 p) 3 [d] := fun G Q E h => by
  simp only [sp__law_copied_r5, sp1] at h
  obtain ⟨t, as, dss, rfl, hT, hP, q⟩ := h
  have big := line_big
  have hl := hP.1
  refine seqN fun N hN => ?_
  simp [start', hT.top]
  refine lc_map (f := D.ref) (fun _ _ h => by cases h; rfl) as (heldD G) (G1 := G) (fun R r => by simp; exact ⟨_, hT.top, r⟩) (by rw [hT.len]; omega) (fun a ha Gx ex => ?_) ?_
  · obtain ⟨ds, hds, hz⟩ := zip_of hT.len ha
    have hg := hT.at_ _ hz
    simp
    refine ⟨a, ds, rfl, ex _ _ hg, (hP.2 ds hds).1, (hP.2 ds hds).2, rfl, ?_⟩
    unfold heldD
    rw [hg]
  · rw [held_all hT.len hT.at_]
    exact fz q
end DL

namespace DL
open PySem PySem.Spec PyProof.Rows L2
def tSl (p : Pm) (R : Sp') (W : WX') : TS' :=
    (tSeqF' (tIfS' (tTest' (rIsi2' "list" "tuple" (tVar' 0))) (tForL' (iSeqL' (tVar' 0)) (gName' 1) (tDrop' (tCall' 1 R W (tCons' (tVar' 1) tNil')))) tNext')
    (tSeqF' (tIfS' (tTest' (rIsi' "dict" (tVar' 0))) tBad' tNext')
    (tIfS' (tTest' (rIsi' "list" (tVar' 0))) (tSeqF' (tDrop' (tMut' rAppend' (tVar' 0) (tCons' (tC' .non) tNil')))
    (tDrop' (tMut' rReverse' (tVar' 0) tNil'))) tNext')))
theorem forL_at (xs : List D) (P : GH → Prop) (W : Nat → St' → GH → Prop) {ti : TL'} {g : TG'} {tb : TS'} {E : Ends'} {σ : St'} {G G1 : GH}
    (hi : ∀ R : List D → (GH → Prop) → GH → Prop, R xs P G1 → ti σ G R) (w0 : W 0 σ G1) (wp : ∀ i σ G, W i σ G → P G)
    (turn : ∀ i x σ G, xs[i]? = some x → W i σ G → g x σ G fun σ2 G2 => tb { E with nx := W (i + 1), ct := W (i + 1), bk := E.nx } σ2 G2)
    (fin : ∀ σ G, W xs.length σ G → E.nx σ G) : tForL' ti g tb E σ G := hi _ ⟨W, w0, wp, turn, fin⟩
theorem sl_data {p : Pm} {n : Nat} {R : Sp'} (hR : ∀ d G Q E, PD n d → Q .non G → R [d] G Q E) (d : D) : Pure (tSl p R) (spSl (n + 1)) 3 [d] := fun G Q E h => by
  rw [at_sl] at h
  obtain ⟨hd, q⟩ := h
  have big := line_big
  refine seqF fun N hN hF => ?_
  cases d with
  | tup ds =>
    obtain ⟨hl, hx⟩ := hd
    simp [start']
    refine forL_at ds (fun _ => True) (fun i σ G' => G' = G ∧ ∃ o, σ = [some (.tup ds), o, none]) (G1 := G) (fun R r => ⟨_, rfl, ds, .inl ⟨rfl, r⟩⟩) ⟨rfl, _, rfl⟩ (fun _ _ _ _ => trivial) ?_ ?_
    · rintro i x σ G' hx2 ⟨rfl, o, rfl⟩
      have hm := List.mem_of_getElem? hx2
      simp
      exact hR _ _ _ _ (hx x hm) rfl
    · rintro σ G' ⟨rfl, o, rfl⟩
      refine hN _ _ (seqF fun N hN hF => ?_)
      simp
      refine hN _ _ ?_
      simp
      exact fz q
  | lst ds => exact hd.elim
  | ref a => exact hd.elim
  | scr => exact hd.elim
  | _ =>
    simp [start']
    refine hN _ _ (seqF fun N hN hF => ?_)
    simp
    refine hN _ _ ?_
    simp
    exact fz q
theorem sl_R {n : Nat} : ∀ d G Q E, PD n d → Q .non G → spSl n [d] G Q E := fun d G Q E h q => by rw [at_sl]; exact ⟨h, q⟩
theorem pure__law_spoil_r1 (p : Pm) (d : D) : Pure (t__law_spoil_r1 p) (sp__law_spoil_r1 p) 3 [d] := sl_data (p := p) (n := 0) (R := spBot) (fun _ _ _ _ h => h.elim) d
theorem pure__law_spoil_r2 (p : Pm) (d : D) : Pure (t__law_spoil_r2 p) (sp__law_spoil_r2 p) 3 [d] := sl_data (p := p) (n := 1) (R := spSl 1) sl_R d
theorem pure__law_spoil_r3 (p : Pm) (d : D) : Pure (t__law_spoil_r3 p) (sp__law_spoil_r3 p) 3 [d] := sl_data (p := p) (n := 2) (R := spSl 2) sl_R d
theorem pure__law_spoil_r4 (p : Pm) (d : D) : Pure (t__law_spoil_r4 p) (sp__law_spoil_r4 p) 3 [d] := fun G Q E h => by
  simp only [sp__law_spoil_r4, sp1] at h
  obtain ⟨a, ds, rfl, hG, hl, hx, q⟩ := h
  have big := line_big
  refine seqF fun N hN hF => ?_
  simp [start', hG]
  refine forL_at ds (fun G2 => G2 a = some (.lst ds)) (fun i σ G' => G' = G ∧ ∃ o, σ = [some (.ref a), o, none]) (G1 := G) (fun R r => ⟨_, rfl, ds, .inr ⟨a, rfl, hG, r⟩⟩) ⟨rfl, _, rfl⟩ (fun _ _ _ h => h.1 ▸ hG) ?_ ?_
  · rintro i x σ G' hx2 ⟨rfl, o, rfl⟩
    have hm := List.mem_of_getElem? hx2
    simp
    exact sl_R _ _ _ _ (hx x hm) rfl
  · rintro σ G' ⟨rfl, o, rfl⟩
    refine hN _ _ (seqF fun N hN hF => ?_)
    simp [hG]
    refine hN _ _ ?_
    simp [hG]
    refine seqF fun N hN hF => ?_
    simp [hG]
    refine ⟨by omega, hN _ _ ?_⟩
    simp
    refine ⟨rfl, ?_⟩
    rw [gup_gup]
    exact fz (q _)
theorem pure__law_spoil_r5 (p : Pm) (d : D) : Pure (t__law_spoil_r5 p) (sp__law_spoil_r5 p) 3 [d] := fun G Q E h => by
  simp only [sp__law_spoil_r5, sp1] at h
  obtain ⟨t, as, dss, rfl, hT, hP, q⟩ := h
  have big := line_big
  have hl := hP.1
  have hlen := hT.len
  obtain ⟨nt, nd⟩ := List.nodup_cons.mp hT.nd
  refine seqF fun N hN hF => ?_
  simp [start', hT.top]
  refine forL_at (as.map D.ref) (fun G2 => G2 t = some (.lst (as.map D.ref))) (fun i σ G' => (∀ x, x ∉ as.take i → G' x = G x) ∧ ∃ o, σ = [some (.ref t), o, none]) (G1 := G) (fun R r => ⟨_, rfl, _, .inr ⟨t, rfl, hT.top, r⟩⟩) ⟨fun _ _ => rfl, _, rfl⟩ (fun i _ G' h => ?_) ?_ ?_
  · rw [h.1 t fun z => nt (List.mem_of_mem_take z)]
    exact hT.top
  · rintro i x σ G' hx2 ⟨hk, o, rfl⟩
    rw [List.getElem?_map] at hx2
    obtain ⟨a, ea, rfl⟩ := Option.map_eq_some_iff.mp hx2
    obtain ⟨hi, ea2⟩ := List.getElem?_eq_some_iff.mp ea
    have hds : (dss[i]'(by omega)) ∈ dss := List.getElem_mem _
    have hg := hT.at_ (a, dss[i]'(by omega)) (by rw [List.mem_iff_getElem]; exact ⟨i, by simp; omega, by simp [ea2]⟩)
    have hna : a ∉ as.take i := fun z => by
      have e : as = as.take i ++ a :: as.drop (i + 1) := by rw [← ea2, List.getElem_cons_drop hi, List.take_append_drop]
      rw [e] at nd
      exact (List.nodup_append.mp nd).2.2 a z a (by simp) rfl
    simp
    refine ⟨a, _, rfl, by rw [hk a hna]; exact hg, (hP.2 _ hds).1, (hP.2 _ hds).2, fun ds' x hx => ?_⟩
    have e : as.take (i + 1) = as.take i ++ [a] := by rw [List.take_add_one, ea]; rfl
    rw [e] at hx
    simp at hx
    rw [gup_ne hx.2]
    exact hk x hx.1
  · rintro σ G' ⟨hk, o, rfl⟩
    rw [List.length_map, List.take_length] at hk
    have ht : G' t = some (.lst (as.map D.ref)) := by rw [hk t nt]; exact hT.top
    refine hN _ _ (seqF fun N hN hF => ?_)
    simp [ht]
    refine hN _ _ ?_
    simp [ht]
    refine seqF fun N hN hF => ?_
    simp [ht]
    refine ⟨by omega, hN _ _ ?_⟩
    simp
    refine ⟨rfl, ?_⟩
    refine fz (q _ fun x hx => ?_)
    simp at hx
    rw [gup_ne hx.1, gup_ne hx.1]
    exact hk x hx.2
end DL

namespace DL
open PySem PySem.Spec PyProof.Rows L2
theorem ctr_new {p : Pm} {G : GH} {Q : QE} {E : EK'} {a : Addr} {st len dead many : Int} (h : 0 ≤ st ∧ st ≤ 9999 ∧ 1 ≤ len ∧ len ≤ 9999) (h2 : gatesOk st len dead many) (ha : G a = none)
    (q : ∀ b, G b = none → a ≠ b → Q .non (putC G a b ⟨startsOf st len dead many.toNat, len, List.replicate many.toNat 0, 0, 0⟩)) : sp_Counter___init__ p [.ref a, .int st, .int len, .int dead, .int many] (gup G a (.ins "Counter" [])) Q E := by
  simp only [sp_Counter___init__, sp5]
  refine ⟨a, rfl, gup_same, rfl, rfl, rfl, rfl, ?_⟩
  rw [gdel_up ha, on_gates h h2]
  intro b hb
  have ba : b ≠ a := fun z => by rw [z, gup_same] at hb; cases hb
  have hb0 : G b = none := by rwa [gup_ne ba] at hb
  have e : putC (gup G a (.ins "Counter" [])) a b ⟨startsOf st len dead many.toNat, len, List.replicate many.toNat 0, 0, 0⟩ = putC G a b ⟨startsOf st len dead many.toNat, len, List.replicate many.toNat 0, 0, 0⟩ := by
    unfold putC
    rw [gup_comm (Ne.symm ba), gup_gup]
  rw [e]
  exact q b hb0 (Ne.symm ba)
theorem pure__law_do (p : Pm) (w a b c : D) : Pure (t__law_do p) (sp__law_do p) 7 [w, a, b, c] := fun G Q E h => by
  simp only [sp__law_do, sp4] at h
  obtain ⟨k, x, y, z, t, hm, rfl, rfl, rfl, rfl, q⟩ := h
  refine seqN fun N hN => ?_
  simp [start']
  refine hN _ _ (seqN fun N hN => ?_)
  simp
  refine hN _ _ (seqN fun N hN => ?_)
  have kept : ∀ (e : Ex) (o : Option D) (G2 : GH), e ≠ .back → Fz Q (.str (exName e)) G2 → ∀ y', G2 y' = none → N [some (.int (k : Nat)), some a, some b, some c, some (.ref y'), o, none] (gup G2 y' (.exc e)) := by
    intro e o G2 he hq y' hy
    refine hN _ _ (seqN fun N hN => ?_)
    simp
    refine hN _ _ ?_
    simp
    simp only [sp__law_word, sp1]
    exact ⟨y', e, rfl, gup_same, he, fz_drop hy hq⟩
  unfold tTry'
  have big := line_big
  have drop : ∀ (e : Ex) (a' b' : Addr) (c' : Ctr), G a' = none → G b' = none → a' ≠ b' → Fz Q (.str (exName e)) G → Fz Q (.str (exName e)) (putC G a' b' c') := fun e a' b' c' h1 h2 h3 hq => by
    unfold putC
    exact fz_drop (by rw [gup_ne h3]; exact h1) (fz_drop h2 hq)
  simp only [twelveW, List.mem_cons, List.not_mem_nil, or_false, Prod.mk.injEq] at hm
  rcases hm with ⟨rfl, rfl, rfl, rfl, rfl⟩ | ⟨rfl, rfl, rfl, rfl, rfl⟩ | ⟨rfl, rfl, rfl, rfl, rfl⟩ | ⟨rfl, rfl, rfl, rfl, rfl⟩ | ⟨rfl, rfl, rfl, rfl, rfl⟩ | ⟨rfl, rfl, rfl, rfl, rfl⟩ | ⟨rfl, rfl, rfl, rfl, rfl⟩ | ⟨rfl, rfl, rfl, rfl, rfl⟩ | ⟨rfl, rfl, rfl, rfl, rfl⟩ | ⟨rfl, rfl, rfl, rfl, rfl⟩ | ⟨rfl, rfl, rfl, rfl, rfl⟩ | ⟨rfl, rfl, rfl, rfl, rfl⟩
  · simp
    refine ⟨by simp [rowAsk], ?_⟩
    rw [on_norow (by rfl)]
    exact ⟨by decide, kept .row _ _ (by decide) (fz q)⟩
  · simp
    rw [on_nogate (by simp [gateOf])]
    exact ⟨by decide, kept .gate _ _ (by decide) (fz q)⟩
  · simp
    refine ⟨by simp [rowAsk], ?_⟩
    rw [on_norow (by rfl)]
    exact ⟨by decide, kept .row _ _ (by decide) (fz q)⟩
  · simp
    refine ⟨rfl, ?_⟩
    exact ⟨by decide, kept .gate _ _ (by decide) (fz q)⟩
  · simp
    refine ⟨rfl, ?_⟩
    exact ⟨by decide, kept .period _ _ (by decide) (fz q)⟩
  · simp
    refine ⟨by simp [rowAsk], ?_⟩
    rw [on_norow (by simp [rowOf, intsOf, RowOk])]
    exact ⟨by decide, kept .row _ _ (by decide) (fz q)⟩
  · simp
    unfold withGates
    rw [on_nogate (by simp [gateOf])]
    exact ⟨by decide, kept .gate _ _ (by decide) (fz q)⟩
  · simp
    unfold withGates
    rw [on_gate (by omega)]
    exact ⟨by decide, kept .gate _ _ (by decide) (fz q)⟩
  · simp [tMeth', tMake']
    intro a' ha
    refine ctr_new (by omega) (by decide) ha fun b' hb ab => ⟨rfl, _, (ctr_put ab _).obj, by simp, a', b', _, rfl, ctr_put ab _, ⟨by simp [startsOf], by simp [startsOf]⟩, ab, by simp [rowAsk], rfl, ?_⟩
    rw [on_norow (by rfl)]
    exact ⟨by decide, kept .row _ _ (by decide) (drop .row _ _ _ ha hb ab (fz q))⟩
  · simp [tMeth', tMake']
    intro a' ha
    refine ctr_new (by omega) (by decide) ha fun b' hb ab => ⟨rfl, _, (ctr_put ab _).obj, by simp, a', b', _, rfl, ctr_put ab _, ⟨by simp [startsOf], by simp [startsOf]⟩, ab, by simp, rfl, ?_⟩
    rw [on_row0]
    exact ⟨by decide, kept .gate _ _ (by decide) (drop .gate _ _ _ ha hb ab (fz q))⟩
  · simp [tMeth', tMake']
    intro a' ha
    refine ctr_new (by omega) (by decide) ha fun b' hb ab => ⟨rfl, _, (ctr_put ab _).obj, by simp, a', b', _, rfl, ctr_put ab _, ⟨by simp [startsOf], by simp [startsOf]⟩, ab, by simp [rowAsk], rfl, ?_⟩
    rw [show D.tup [D.int 9] = .tup (([9] : List Int).map D.int) from rfl, on_row (by decide)]
    exact ⟨by decide, kept .row _ _ (by decide) (drop .row _ _ _ ha hb ab (fz q))⟩
  · simp
    refine ⟨by simp [rowAsk], ?_⟩
    rw [on_norow (by rfl)]
    exact ⟨by decide, kept .row _ _ (by decide) (fz q)⟩
end DL

namespace DL
open PySem PySem.Spec PyProof.Rows L2
def t_apart (p : Pm) (W : WX') : TS' :=
    (tSeq' (tAsg' (tVar' 0) (gTup' 2 (gCons' (gName' 1) (gCons' (gName' 2) gNil'))))
    (tRet' (tTup' (tCons' (tOp' (rI' (fun _ _ => True) fun i j => .int (i - j)) (tOp' (rMul' false) (tOp' (rIx' p) (tVar' 2) (tC' (.int 0))) (tOp' (rIx' p) (tVar' 1) (tC' (.int 1)))) (tOp' (rMul' false) (tOp' (rIx' p) (tVar' 1) (tC' (.int 0))) (tOp' (rIx' p) (tVar' 2) (tC' (.int 1))))) (tCons' (tOp' (rMul' false) (tOp' (rIx' p) (tVar' 1) (tC' (.int 1))) (tOp' (rIx' p) (tVar' 2) (tC' (.int 1)))) tNil')))))

def t_sharper (p : Pm) (W : WX') : TS' :=
    (tSeq' (tPar' 3 4 (tCons' (tCall' 3 (sp_by_count p) W (tCons' (tVar' 0) (tCons' (tVar' 1) (tCons' (tVar' 2) tNil')))) (tCons' (tCall' 3 (sp_time_of p) W (tCons' (tVar' 0) (tCons' (tVar' 1) (tCons' (tVar' 2) tNil')))) tNil')))
    (tSeq' (tIfS' (tTest' (tOp' (rIsN' false) (tVar' 4) (tC' .non))) (tRet' (tC' (.str "count"))) tNext')
    (tSeq' (tPar' 5 6 (tCons' (tCall' 1 (sp_apart p) W (tCons' (tVar' 3) tNil')) (tCons' (tCall' 1 (sp_apart p) W (tCons' (tVar' 4) tNil')) tNil')))
    (tRet' (tIf' (tTest' (tOp' (rCmp' fun i j => decide (i < j)) (tOp' (rMul' false) (tOp' (rIx' p) (tVar' 6) (tC' (.int 0))) (tOp' (rIx' p) (tVar' 5) (tC' (.int 1)))) (tOp' (rMul' false) (tOp' (rIx' p) (tVar' 5) (tC' (.int 0))) (tOp' (rIx' p) (tVar' 6) (tC' (.int 1)))))) (tC' (.str "time")) (tC' (.str "count")))))))

def t__law_due (p : Pm) (W : WX') : TS' :=
    (tSeq' (tAsg' (tLc' false (iSeq' (tVar' 0)) (gName' 5) (tAnd' (tTest' (tOp' (rCmp' fun i j => decide (i ≤ j)) (tVar' 1) (tVar' 5))) (tTest' (tOp' (rCmp' fun i j => decide (i < j)) (tVar' 5) (tOp' (rAdd' false) (tVar' 1) (tVar' 2))))) (tVar' 5) [5]) (gName' 3))
    (tSeq' (tAsg' (tTup' (tCons' (tCall' 2 (sp__law_low p) W (tCons' (tCB' rMax2' (tCons' (tOp' (rI' (fun _ _ => True) fun i j => .int (i - j)) (tCB' (rLen' p) (tCons' (tVar' 3) tNil')) (tC' (.int 1))) (tCons' (tC' (.int 0)) tNil'))) (tCons' (tVar' 2) tNil'))) (tCons' (tCall' 2 (sp__law_low p) W (tCons' (tOp' (rAdd' false) (tCB' (rLen' p) (tCons' (tVar' 3) tNil')) (tC' (.int 1))) (tCons' (tVar' 2) tNil'))) tNil'))) (gName' 4))
    (tSeq' (tIfS' (tOr' (tTest' (tOp' (rCmp' fun i j => decide (i < j)) (tCB' (rLen' p) (tCons' (tVar' 3) tNil')) (tC' (.int 2)))) (tTest' (tOp' (rEq' p false) (tOp' (rIx' p) (tVar' 3) (tNeg' (tC' (.int 1)))) (tOp' (rAdd' false) (tOp' (rIx' p) (tVar' 3) (tC' (.int 0))) (tC' (.int 1)))))) (tRet' (tTup' (tCons' (tVar' 4) (tCons' (tC' .non) tNil')))) tNext')
    (tRet' (tTup' (tCons' (tVar' 4) (tCons' (tTup' (tCons' (tCall' 2 (sp__law_low p) W (tCons' (tOp' (rI' (fun _ _ => True) fun i j => .int (i - j)) (tCB' (rLen' p) (tCons' (tVar' 3) tNil')) (tC' (.int 1))) (tCons' (tOp' (rAdd' false) (tOp' (rI' (fun _ _ => True) fun i j => .int (i - j)) (tOp' (rIx' p) (tVar' 3) (tNeg' (tC' (.int 1)))) (tOp' (rIx' p) (tVar' 3) (tC' (.int 0)))) (tC' (.int 1))) tNil'))) (tCons' (tCall' 2 (sp__law_low p) W (tCons' (tOp' (rI' (fun _ _ => True) fun i j => .int (i - j)) (tCB' (rLen' p) (tCons' (tVar' 3) tNil')) (tC' (.int 1))) (tCons' (tOp' (rI' (fun _ _ => True) fun i j => .int (i - j)) (tOp' (rI' (fun _ _ => True) fun i j => .int (i - j)) (tOp' (rIx' p) (tVar' 3) (tNeg' (tC' (.int 1)))) (tOp' (rIx' p) (tVar' 3) (tC' (.int 0)))) (tC' (.int 1))) tNil'))) tNil'))) tNil')))))))

def t__law_apart (p : Pm) (W : WX') : TS' :=
    (tRet' (tCall' 2 (sp__law_low p) W (tCons' (tOp' (rI' (fun _ _ => True) fun i j => .int (i - j)) (tOp' (rMul' false) (tOp' (rIx' p) (tOp' (rIx' p) (tVar' 0) (tC' (.int 1))) (tC' (.int 0))) (tOp' (rIx' p) (tOp' (rIx' p) (tVar' 0) (tC' (.int 0))) (tC' (.int 1)))) (tOp' (rMul' false) (tOp' (rIx' p) (tOp' (rIx' p) (tVar' 0) (tC' (.int 0))) (tC' (.int 0))) (tOp' (rIx' p) (tOp' (rIx' p) (tVar' 0) (tC' (.int 1))) (tC' (.int 1))))) (tCons' (tOp' (rMul' false) (tOp' (rIx' p) (tOp' (rIx' p) (tVar' 0) (tC' (.int 0))) (tC' (.int 1))) (tOp' (rIx' p) (tOp' (rIx' p) (tVar' 0) (tC' (.int 1))) (tC' (.int 1)))) tNil'))))

def t__law_low (p : Pm) (W : WX') : TS' :=
    (tSeq' (tPar' 2 3 (tCons' (tCB' rAbs' (tCons' (tVar' 0) tNil')) (tCons' (tVar' 1) tNil')))
    (tSeq' (tWhile' (tTest' (tOp' (rEq' p true) (tVar' 3) (tC' (.int 0)))) (tPar' 2 3 (tCons' (tVar' 3) (tCons' (tOp' (rI' (fun _ j => 0 < j) fun i j => .int (i % j)) (tVar' 2) (tVar' 3)) tNil'))))
    (tRet' (tTup' (tCons' (tOp' (rI' CDiv fun i j => .int (i / j)) (tVar' 0) (tVar' 2)) (tCons' (tOp' (rI' CDiv fun i j => .int (i / j)) (tVar' 1) (tVar' 2)) tNil'))))))

end DL

namespace DL
open PySem PySem.Spec PyProof.Rows L2
theorem pure_apart (p : Pm) (d : D) : Pure (t_apart p) (sp_apart p) 3 [d] := fun G Q E h => by
  simp only [sp_apart, sp1] at h
  obtain ⟨⟨a, b⟩, rfl, ⟨sa, sb⟩, q⟩ := h
  unfold SmG at sa sb
  dsimp only at sa sb
  refine seqN fun N hN => ?_
  simp [start', pairsD]
  refine hN _ _ ?_
  simp
  exact ⟨.inl (by omega), .inl (by omega), .inl (by omega), fz q⟩
theorem mul_box (x y : Int) (hx : -20000 ≤ x ∧ x ≤ 20000) (hy : -20000 ≤ y ∧ y ≤ 20000) : -400000000 ≤ x * y ∧ x * y ≤ 400000000 := by
  have h1 : (x * y).natAbs = x.natAbs * y.natAbs := Int.natAbs_mul x y
  have h2 : x.natAbs * y.natAbs ≤ 20000 * 20000 := Nat.mul_le_mul (by omega) (by omega)
  omega
theorem smg_share {u d : Int} (hu : 0 ≤ u ∧ u ≤ 20000) (hd : 0 < d ∧ d ≤ 20000) : SmG (shareF u d) := by
  have hp := share_pos u hd.1
  have hl := share_le u hd.1
  have h0 : 0 ≤ (shareF u d).1 ∧ (shareF u d).1 ≤ u := by
    unfold shareF
    have hg := gcdF_pos u hd.1
    exact ⟨Int.ediv_nonneg hu.1 (by omega), Int.ediv_le_self _ hu.1⟩
  unfold SmG
  omega
theorem count_sm {ns : List Int} (ok : RowOk ns) (a : Int) {b : Int} (hb : 1 ≤ b ∧ b ≤ 9999) : SmF2 (countF ns a b) ∧ 0 < (countF ns a b).1.2 ∧ 0 < (countF ns a b).2.2 := by
  have la := ok.1
  have lc : (cnt ns a b).length ≤ ns.length := List.length_filter_le _ _
  unfold countF
  dsimp only
  exact ⟨⟨smg_share (by omega) (by omega), smg_share (by omega) (by omega)⟩, share_pos _ (by omega), share_pos _ (by omega)⟩
theorem time_sm {ns : List Int} (ok : RowOk ns) {a b : Int} {t : Fr × Fr} (h : timeF ns a b = some t) : SmF2 t ∧ 0 < t.1.2 ∧ 0 < t.2.2 := by
  have la := ok.1
  have lc : (cnt ns a b).length ≤ ns.length := List.length_filter_le _ _
  have hm : ∀ x ∈ cnt ns a b, 0 ≤ x ∧ x ≤ 9999 := fun x hx => ok.2.1 x (List.mem_filter.mp hx).1
  unfold timeF timeO at h
  generalize cnt ns a b = c at *
  cases c with
  | nil => cases h
  | cons x r =>
    dsimp only at h
    split at h
    · cases h
    · rename_i hn
      have e := (Option.some.inj h).symm
      have hx := hm x (by simp)
      have hz : 0 ≤ r.getLastD x ∧ r.getLastD x ≤ 9999 := by
        cases r with
        | nil => exact hx
        | cons y t => exact hm _ (by simp [List.getLastD])
      have : ¬ r.getLastD x - x < 2 := fun z => hn (.inr z)
      simp at lc
      subst e
      dsimp only
      exact ⟨⟨smg_share (by omega) (by omega), smg_share (by omega) (by omega)⟩, share_pos _ (by omega), share_pos _ (by omega)⟩
theorem pure_sharper (p : Pm) (d s l : D) : Pure (t_sharper p) (sp_sharper p) 7 [d, s, l] := fun G Q E h => by
  simp only [sp_sharper, sp3] at h
  obtain ⟨hd, hs, hl, q⟩ := h
  have big := line_big
  refine seqN fun N hN => ?_
  simp [start', hd, hs, hl]
  refine wr_step q fun ns e1 ok q1 => wg_step q1 fun a b e1' e2' hab q2 => ?_
  subst e1 e1' e2'
  simp [ok]
  refine ⟨by omega, by omega, by omega, by omega, hN _ _ (seqN fun N hN => ?_)⟩
  have cs := count_sm ok a (b := b) (by omega)
  unfold sharperF at q2
  cases e : timeF ns a b with
  | none =>
    rw [e] at q2
    simp [bndD]
    exact fz q2
  | some t =>
    rw [e] at q2
    have ts := time_sm ok e
    have e1 : bndD (some (countF ns a b)) = pairsD (countF ns a b) := rfl
    have e2 : bndD (some t) = pairsD t := rfl
    rw [e1, e2]
    generalize countF ns a b = c at *
    simp [pairsD]
    refine hN _ _ (seqN fun N hN => ?_)
    rw [show D.tup [pairD c.1, pairD c.2] = pairsD c from rfl, show D.tup [pairD t.1, pairD t.2] = pairsD t from rfl]
    simp [cs.1, ts.1]
    refine hN _ _ ?_
    have b1 : ∀ q : Fr × Fr, SmF2 q → -1000000000 ≤ (apartF q).1 ∧ (apartF q).1 ≤ 1000000000 ∧ -1000000000 ≤ (apartF q).2 ∧ (apartF q).2 ≤ 1000000000 := by
      rintro ⟨a, b⟩ ⟨sa, sb⟩
      unfold SmG at sa sb
      unfold apartF
      dsimp only at sa sb ⊢
      have m : ∀ x y : Int, -20000 ≤ x ∧ x ≤ 20000 → -20000 ≤ y ∧ y ≤ 20000 → -400000000 ≤ x * y ∧ x * y ≤ 400000000 := mul_box
      have := m b.1 a.2 ⟨sb.1, sb.2.1⟩ ⟨sa.2.2.1, sa.2.2.2⟩
      have := m a.1 b.2 ⟨sa.1, sa.2.1⟩ ⟨sb.2.2.1, sb.2.2.2⟩
      have := m a.2 b.2 ⟨sa.2.2.1, sa.2.2.2⟩ ⟨sb.2.2.1, sb.2.2.2⟩
      omega
    have c1 := b1 _ cs.1
    have c2 := b1 _ ts.1
    dsimp only at q2
    generalize apartF c = x at *
    generalize apartF t = y at *
    simp
    by_cases z : y.1 * x.2 < x.1 * y.2
    · rw [if_pos z] at q2
      exact ⟨.inl (by omega), .inl (by omega), .inr ⟨z, fz q2⟩⟩
    · rw [if_neg z] at q2
      exact ⟨.inl (by omega), .inl (by omega), .inl ⟨by omega, fz q2⟩⟩
theorem pure__law_apart (p : Pm) (d : D) : Pure (t__law_apart p) (sp__law_apart p) 1 [d] := fun G Q E h => by
  simp only [sp__law_apart, sp1] at h
  obtain ⟨⟨a, b⟩, rfl, ⟨sa, sb⟩, hp, q⟩ := h
  unfold SmG at sa sb
  dsimp only at sa sb hp
  simp [t__law_apart, start', pairsD]
  have m3 := mul_box a.2 b.2 ⟨sa.2.2.1, sa.2.2.2⟩ ⟨sb.2.2.1, sb.2.2.2⟩
  have m4 : 0 < a.2 * b.2 := Int.mul_pos hp.1 hp.2
  refine ⟨_, rfl, ?_⟩
  simp
  refine ⟨_, rfl, ?_⟩
  simp
  refine ⟨.inl (by omega), _, rfl, ?_⟩
  simp
  refine ⟨_, rfl, ?_⟩
  simp
  refine ⟨.inl (by omega), _, rfl, ?_⟩
  simp
  refine ⟨_, rfl, ?_⟩
  simp
  refine ⟨.inl (by omega), m4, by omega, fz q⟩
theorem pure__law_due (p : Pm) (d s l : D) : Pure (t__law_due p) (sp__law_due p) 6 [d, s, l] := fun G Q E h => by
  simp only [sp__law_due, sp3] at h
  obtain ⟨ns, a, b, rfl, rfl, rfl, ok, ha, hb, q⟩ := h
  have big := line_big
  have la := ok.1
  refine seqN fun N hN => ?_
  simp [start']
  refine lc_filter (f := D.int) (fun x y h => D.int.inj h) ns (fun x => decide (a ≤ x) && decide (x < a + b)) D.int (G1 := G) (fun R r => by simp; exact r) (by omega) (fun x hx Gx _ => ?_) ?_
  · simp
    by_cases c1 : a ≤ x
    · by_cases c2 : x < a + b
      · simp [c1, c2]
      · simp [c1, c2]
        omega
    · simp [c1]
      omega
  · have lc : (cnt ns a b).length ≤ ns.length := List.length_filter_le _ _
    have hm : ∀ x ∈ cnt ns a b, 0 ≤ x ∧ x ≤ 9999 := fun x hx => ok.2.1 x (List.mem_filter.mp hx).1
    have hp : (cnt ns a b).Pairwise (· < ·) := ok.2.2.filter _
    rw [show (ns.filter fun x => decide (a ≤ x) && decide (x < a + b)) = cnt ns a b from rfl]
    refine hN _ _ (seqN fun N hN => ?_)
    simp
    refine ⟨by omega, by omega, by omega, by omega, hN _ _ (seqN fun N hN => ?_)⟩
    have e : (if ((cnt ns a b).length : Int) - 1 < 0 then 0 else ((cnt ns a b).length : Int) - 1) = max 0 (((cnt ns a b).length : Int) - 1) := by split <;> omega
    have e1 : D.tup [pairD (shareF (if ((cnt ns a b).length : Int) - 1 < 0 then 0 else ((cnt ns a b).length : Int) - 1) b), pairD (shareF (((cnt ns a b).length : Int) + 1) b)] = pairsD (countF ns a b) := by rw [e]; rfl
    rw [e1]
    unfold timeF at q
    generalize countF ns a b = cf at *
    generalize cnt ns a b = c at *
    cases c with
    | nil =>
      simp
      exact fz q
    | cons x r =>
      have hx := hm x (by simp)
      have a0 : atI (x :: r) 0 = some x := by rw [atI_nn _ _ (by omega) (by simp)]; rfl
      by_cases hr : r = []
      · subst hr
        simp
        exact fz (by simpa [timeO, bndD] using q)
      · obtain ⟨z, hz⟩ : ∃ z, r.getLastD x = z := ⟨_, rfl⟩
        have al : atI (x :: r) (-1) = some z := by
          rw [atI_last _ (by simp), ← hz]
          congr 1
          cases r with
          | nil => cases hr rfl
          | cons y t => simp [List.getLastD]
        have hzm : z ∈ r := by
          rw [← hz]
          cases r with
          | nil => cases hr rfl
          | cons y t => simp [List.getLastD]
        have hzr : 0 ≤ z ∧ z ≤ 9999 := hm z (by simp [hzm])
        have hxz : x < z := (List.pairwise_cons.mp hp).1 z hzm
        have lr : 0 < r.length := List.length_pos_iff.mpr hr
        unfold timeO at q
        dsimp only at q
        rw [hz] at q
        have a0 : atI (D.int x :: r.map D.int) 0 = some (D.int x) := by rw [show (D.int x :: r.map D.int) = (x :: r).map D.int from rfl, atI_map, a0]; rfl
        have al : atI (D.int x :: r.map D.int) (-1) = some (D.int z) := by rw [show (D.int x :: r.map D.int) = (x :: r).map D.int from rfl, atI_map, al]; rfl
        simp at lc
        simp
        refine .inl ⟨by omega, _, al, _, a0, ?_⟩
        simp
        by_cases c2 : z = x + 1
        · rw [if_pos (.inr (by omega))] at q
          exact .inr ⟨c2, fz q⟩
        · rw [if_neg fun y => y.elim hr fun y => by omega] at q
          refine .inl ⟨c2, hN _ _ ?_⟩
          simp
          refine ⟨_, al, _, a0, ?_⟩
          simp
          refine ⟨by omega, by omega, _, al, _, a0, ?_⟩
          simp
          refine ⟨by omega, by omega, ?_⟩
          exact fz q
theorem pure__law_low (p : Pm) (d e : D) : Pure (t__law_low p) (sp__law_low p) 4 [d, e] := pure_share p d e
end DL

namespace DL
open PySem PySem.Spec PyProof.Rows L2
/-- lists made since G0 -/
structure Al (G0 G : GH) (l : List (Addr × List D)) : Prop where
  ext : ∀ x g, G0 x = some g → G x = some g
  at_ : ∀ q ∈ l, G q.1 = some (.lst q.2)
  new : ∀ q ∈ l, G0 q.1 = none
  nd : (l.map (·.1)).Nodup
theorem Al.nil {G : GH} : Al G G [] := ⟨fun _ _ h => h, by simp, by simp, by simp⟩
theorem Al.ne {G0 G : GH} {l : List (Addr × List D)} (A : Al G0 G l) {r : Addr} (h : G r = none) : ∀ q ∈ l, q.1 ≠ r := fun q hq z => by
  have := A.at_ q hq
  rw [z, h] at this
  cases this
theorem Al.free {G0 G : GH} {l : List (Addr × List D)} (A : Al G0 G l) {r : Addr} (h : G r = none) : G0 r = none := by
  cases e : G0 r with
  | none => rfl
  | some g => rw [A.ext _ _ e] at h; cases h
theorem Al.cons {G0 G : GH} {l : List (Addr × List D)} (A : Al G0 G l) {r : Addr} {d : List D} (h : G r = none) : Al G0 (gup G r (.lst d)) (l ++ [(r, d)]) where
  ext := fun x g e => by rw [gup_ne fun z => by rw [z, A.free h] at e; cases e]; exact A.ext _ _ e
  at_ := fun q hq => by
    rcases List.mem_append.mp hq with hq | hq
    · rw [gup_ne (A.ne h q hq)]; exact A.at_ q hq
    · rw [List.mem_singleton.mp hq]; exact gup_same
  new := fun q hq => by
    rcases List.mem_append.mp hq with hq | hq
    · exact A.new q hq
    · rw [List.mem_singleton.mp hq]; exact A.free h
  nd := by
    rw [List.map_append, List.nodup_append]
    refine ⟨A.nd, by simp, fun a ha b hb => ?_⟩
    obtain ⟨q, hq, rfl⟩ := List.mem_map.mp ha
    simp at hb
    rw [hb]
    exact A.ne h q hq
/-- another thing, made since, is changed -/
theorem Al.put {G0 G : GH} {l : List (Addr × List D)} (A : Al G0 G l) {m : Addr} {g : GO} (h : G0 m = none) (hm : ∀ q ∈ l, q.1 ≠ m) : Al G0 (gup G m g) l where
  ext := fun x g e => by rw [gup_ne fun z => by rw [z, h] at e; cases e]; exact A.ext _ _ e
  at_ := fun q hq => by rw [gup_ne (hm q hq)]; exact A.at_ q hq
  new := A.new
  nd := A.nd
structure AlM (G0 G : GH) (m : Addr) (refs : List D) (l : List (Addr × List D)) : Prop where
  a : Al G0 G l
  top : G m = some (.lst refs)
  m0 : G0 m = none
  ne : ∀ q ∈ l, q.1 ≠ m
theorem Al.made {G0 G : GH} {l : List (Addr × List D)} (A : Al G0 G l) {m : Addr} {refs : List D} (h : G m = none) : AlM G0 (gup G m (.lst refs)) m refs l := ⟨A.put (A.free h) (A.ne h), gup_same, A.free h, A.ne h⟩
theorem AlM.cons {G0 G : GH} {m : Addr} {refs : List D} {l : List (Addr × List D)} (A : AlM G0 G m refs l) {r : Addr} {d : List D} (h : G r = none) : AlM G0 (gup G r (.lst d)) m refs (l ++ [(r, d)]) := by
  have mr : m ≠ r := fun z => by rw [← z, A.top] at h; cases h
  refine ⟨A.a.cons h, by rw [gup_ne mr]; exact A.top, A.m0, fun q hq => ?_⟩
  rcases List.mem_append.mp hq with hq | hq
  · exact A.ne q hq
  · rw [List.mem_singleton.mp hq]; exact Ne.symm mr
theorem AlM.put {G0 G : GH} {m : Addr} {refs refs2 : List D} {l : List (Addr × List D)} (A : AlM G0 G m refs l) : AlM G0 (gup G m (.lst refs2)) m refs2 l := ⟨A.a.put A.m0 A.ne, gup_same, A.m0, A.ne⟩
theorem pure__law_lists (p : Pm) (a b c : D) : Pure (t__law_lists p) (sp__law_lists p) 4 [a, b, c] := fun G Q E h => by
  simp only [sp__law_lists, sp3] at h
  obtain ⟨one, other, cs, rfl, rfl, rfl, ho, ht, hc, q⟩ := h
  have big := line_big
  have k1 := rowAsk_row ho
  have k2 := rowAsk_row ht
  refine seqF fun N hN hF => ?_
  simp [start']
  refine ⟨k1, ?_⟩
  rw [on_row ho]
  intro a1 h1
  have A := (Al.nil (G := G)).cons (d := (gapsOf one).map D.int) h1
  generalize gup G a1 _ = G1 at A ⊢
  refine ⟨k1, ?_⟩
  rw [on_row ho, on_gates (by omega) (by decide)]
  intro a2 h2
  have A := A.cons (d := (countsOf one 3 7 2 (Int.toNat 9)).map D.int) h2
  generalize gup G1 a2 _ = G2 at A ⊢
  refine ⟨k1, k2, ?_⟩
  rw [on_row ho, on_row ht]
  intro a3 h3
  have A := A.cons (d := (waitsOf one other).map optD) h3
  generalize gup G2 a3 _ = G3 at A ⊢
  refine ⟨k1, k2, ?_⟩
  rw [on_row ho, on_row ht]
  intro a4 h4
  have A := A.cons (d := (betweenOf one other).map D.int) h4
  generalize gup G3 a4 _ = G4 at A ⊢
  intro a5 h5
  have A := A.cons (d := (canF (7, 3) 20).map D.int) h5
  generalize gup G4 a5 _ = G5 at A ⊢
  intro m hm
  have A := A.made (refs := [D.ref a1, D.ref a2, D.ref a3, D.ref a4, D.ref a5]) hm
  generalize gup G5 m _ = G6 at A ⊢
  refine hN _ _ (seqF fun N hN hF => ?_)
  simp [A.top]
  refine ⟨k1, ?_⟩
  rw [on_row ho, on_gate (by omega)]
  refine ⟨k1, ?_⟩
  rw [on_row ho, on_gate (by omega)]
  refine ⟨k1, ?_⟩
  rw [on_row ho, on_gate (by omega)]
  refine ⟨k1, ?_⟩
  rw [on_row ho, on_gates (by omega) (by decide)]
  intro a6 h6
  have A := A.cons (d := [.int (cnt one 0 50).length, bndD (some (countF one 2 30)), bndD (timeF one 0 400), .int (lostOf one 3 7 2 9)]) h6
  generalize gup G6 a6 _ = G7 at A ⊢
  refine ⟨_, A.top, by simp, ?_⟩
  have A := A.put (refs2 := [D.ref a1, D.ref a2, D.ref a3, D.ref a4, D.ref a5] ++ [D.ref a6])
  generalize gup G7 m _ = G8 at A ⊢
  refine hN _ _ (seqF fun N hN hF => ?_)
  simp [A.top]
  have kc : countsAsk (.lst (cs.map D.int)) := ⟨by rw [List.length_map]; have := hc.2.1; omega, fun d hd => by obtain ⟨n, _, rfl⟩ := List.mem_map.mp hd; rfl⟩
  refine ⟨kc, ?_⟩
  rw [on_counts hc]
  refine ⟨kc, ?_⟩
  rw [on_counts hc]
  intro a7 h7
  have A := A.cons (d := [pairD (shareF cs.sum cs.length), .int (maxL cs - minL cs)]) h7
  generalize gup G8 a7 _ = G9 at A ⊢
  refine ⟨_, A.top, by simp, ?_⟩
  have A := A.put (refs2 := [D.ref a1, D.ref a2, D.ref a3, D.ref a4, D.ref a5] ++ [D.ref a6] ++ [D.ref a7])
  generalize gup G9 m _ = G10 at A ⊢
  refine hN _ _ ?_
  simp [A.top]
  refine ⟨k1, ?_⟩
  rw [on_row ho]
  refine ⟨k1, ?_⟩
  rw [on_row ho]
  refine ⟨k1, ?_⟩
  rw [on_row ho]
  have e1 : phOf (.tup [.int 1, .int 2]) = some (1, 2) := by decide +kernel
  have e2 : perOf (.tup [.int 7, .int 3]) = some (7, 3) := by decide +kernel
  unfold withPh
  rw [e1]
  dsimp only
  unfold withPer
  rw [e2]
  dsimp only
  unfold withNum
  dsimp only
  rw [if_pos (by omega), if_pos (by decide)]
  intro a8 h8
  have A := A.cons (d := [bndD (bndF one), ofrD (simO one), ofrD (phaseO one), .tup ((ticksF (1, 2) (7, 3) (Int.toNat 9)).map D.int)]) h8
  generalize gup G10 a8 _ = G11 at A ⊢
  intro j hj
  have A := A.cons (d := [D.ref a8]) hj
  have hJ := gup_same (G := G11) (a := j) (o := .lst [D.ref a8])
  generalize gup G11 j _ = G12 at A hJ ⊢
  simp [rAdd', asL, A.top, hJ]
  intro t ht'
  have A := A.cons (d := [D.ref a1, D.ref a2, D.ref a3, D.ref a4, D.ref a5, D.ref a6, D.ref a7, D.ref a8]) ht'
  have hT := gup_same (G := G12) (a := t) (o := .lst [D.ref a1, D.ref a2, D.ref a3, D.ref a4, D.ref a5, D.ref a6, D.ref a7, D.ref a8])
  generalize gup G12 t _ = G13 at A hT ⊢
  obtain ⟨⟨ext, at_, new, nd⟩, _, _, _⟩ := A
  refine fz (q _ t [a1, a2, a3, a4, a5, a6, a7, a8] ⟨hT, rfl, fun z hz => at_ z ?_, ?_⟩ ext fun x hx => ?_)
  · simp [toldF] at hz
    simp
    rcases hz with rfl | rfl | rfl | rfl | rfl | rfl | rfl | rfl <;> simp
  · simp at nd ⊢
    grind
  · simp at new hx
    rcases hx with rfl | rfl | rfl | rfl | rfl | rfl | rfl | rfl | rfl <;> simp [new]
end DL

namespace DL
open PySem PySem.Spec PyProof.Rows L2
theorem tree_same {G : GH} {t : Addr} {as : List Addr} {dss : List (List D)} (h : Tree G t as dss) : deref2 G (.ref t) = .lst (dss.map D.lst) := by
  have e : (as.map D.ref).map (deref G) = dss.map D.lst := by
    have h1 := h.len
    have h2 := h.at_
    generalize as = l at h1 h2 ⊢
    clear h
    induction l generalizing dss with
    | nil => cases dss with
      | nil => rfl
      | cons _ _ => simp at h1
    | cons a r ih => cases dss with
      | nil => simp at h1
      | cons ds dss =>
        have := h2 (a, ds) (by simp)
        simp only [List.map_cons]
        rw [ih (by simpa using h1) fun q hq => h2 q (by simp [hq])]
        simp [deref, this]
  unfold deref2
  dsimp only
  rw [h.top]
  dsimp only
  rw [e]
theorem pd_int {n : Nat} (i : Int) : PD (n + 1) (.int i) := True.intro
theorem pd_pair (n : Nat) (q : Int × Int) : PD (n + 2) (pairD q) := by
  refine ⟨by simp, fun e he => ?_⟩
  simp at he
  rcases he with rfl | rfl <;> exact pd_int _
theorem pd_bnd (n : Nat) (o : Option (Fr × Fr)) : PD (n + 3) (bndD o) := by
  cases o with
  | none => exact True.intro
  | some q =>
    refine ⟨by simp, fun e he => ?_⟩
    simp at he
    rcases he with rfl | rfl <;> exact pd_pair n _
theorem pd_ofr (n : Nat) (o : Option Fr) : PD (n + 2) (ofrD o) := by
  cases o with
  | none => exact True.intro
  | some q => exact pd_pair n q
theorem pd_opt (n : Nat) (o : Option Int) : PD (n + 1) (optD o) := by cases o <;> exact True.intro
/-- all that is told is numbers, None, tuples of such -/
inductive TI : D → Prop where
  | int (i : Int) : TI (.int i)
  | opt (o : Option Int) : TI (optD o)
  | pair (q : Int × Int) : TI (pairD q)
  | bnd (o : Option (Fr × Fr)) : TI (bndD o)
  | ofr (o : Option Fr) : TI (ofrD o)
  | row (ns : List Int) (h : ns.length ≤ 100) : TI (.tup (ns.map D.int))
theorem TI.pd {d : D} (h : TI d) : PD 3 d := by
  cases h with
  | int i => exact pd_int i
  | opt o => exact pd_opt 2 o
  | pair q => exact pd_pair 1 q
  | bnd o => exact pd_bnd 0 o
  | ofr o => exact pd_ofr 1 o
  | row ns h =>
    refine ⟨by simpa using h, fun e he => ?_⟩
    obtain ⟨n, _, rfl⟩ := List.mem_map.mp he
    exact pd_int n
theorem TI.dok {d : D} (h : TI d) : Dok 3 d := by
  cases h with
  | int i => exact True.intro
  | opt o => cases o <;> exact True.intro
  | pair q => simp [pairD]
  | bnd o => cases o <;> simp [bndD, pairD]
  | ofr o => cases o <;> simp [ofrD, pairD]
  | row ns h => simp
theorem TI.noref {d : D} (h : TI d) : ∀ a, d ≠ .ref a := by
  intro a z
  have := h.pd
  rw [z] at this
  exact this
theorem told_ti (one other cs : List Int) : ∀ ds ∈ toldF one other cs, ∀ d ∈ ds, TI d := by
  intro ds hds d hd
  simp only [toldF, List.mem_cons, List.not_mem_nil, or_false] at hds
  rcases hds with rfl | rfl | rfl | rfl | rfl | rfl | rfl | rfl
  · obtain ⟨n, _, rfl⟩ := List.mem_map.mp hd; exact .int n
  · obtain ⟨n, _, rfl⟩ := List.mem_map.mp hd; exact .int n
  · obtain ⟨n, _, rfl⟩ := List.mem_map.mp hd; exact .opt n
  · obtain ⟨n, _, rfl⟩ := List.mem_map.mp hd; exact .int n
  · obtain ⟨n, _, rfl⟩ := List.mem_map.mp hd; exact .int n
  · simp only [List.mem_cons, List.not_mem_nil, or_false] at hd
    rcases hd with rfl | rfl | rfl | rfl
    · exact .int _
    · exact .bnd _
    · exact .bnd _
    · exact .int _
  · simp only [List.mem_cons, List.not_mem_nil, or_false] at hd
    rcases hd with rfl | rfl
    · exact .pair _
    · exact .int _
  · simp only [List.mem_cons, List.not_mem_nil, or_false] at hd
    rcases hd with rfl | rfl | rfl | rfl
    · exact .bnd _
    · exact .ofr _
    · exact .ofr _
    · exact .row _ (by simp [ticksF])
theorem told_ok {one other cs : List Int} (h1 : RowOk one) : PdL (toldF one other cs) := by
  have l1 := h1.1
  refine ⟨by simp [toldF], fun ds hds => ⟨?_, fun d hd => (told_ti one other cs ds hds d hd).pd⟩⟩
  simp only [toldF, List.mem_cons, List.not_mem_nil, or_false] at hds
  rcases hds with rfl | rfl | rfl | rfl | rfl | rfl | rfl | rfl
  · simp [gapsOf]; omega
  · simp [countsOf, startsOf]
  · simp [waitsOf]; omega
  · simp [betweenOf]; omega
  · unfold canF; split <;> simp
  · simp
  · simp
  · simp
theorem told_dok (one other cs : List Int) : Dok 8 (.lst ((toldF one other cs).map D.lst)) := by
  have mono : ∀ d, TI d → Dok 6 d := fun d h => by
    cases h with
    | int i => exact True.intro
    | opt o => cases o <;> exact True.intro
    | pair q => simp [pairD]
    | bnd o => cases o <;> simp [bndD, pairD]
    | ofr o => cases o <;> simp [ofrD, pairD]
    | row ns h => simp
  intro d hd
  obtain ⟨ds, hds, rfl⟩ := List.mem_map.mp hd
  exact fun e he => mono e (told_ti one other cs ds hds e he)
structure TwoC (G : GH) (a b : Addr) (c : Ctr) (a2 b2 : Addr) (c2 : Ctr) : Prop where
  one : CtrAt G a b c
  two : CtrAt G a2 b2 c2
  nd : [a, b, a2, b2].Nodup
theorem TwoC.swap {G : GH} {a b a2 b2 : Addr} {c c2 : Ctr} (h : TwoC G a b c a2 b2 c2) : TwoC G a2 b2 c2 a b c := ⟨h.two, h.one, by have := h.nd; simp at this ⊢; grind⟩
theorem TwoC.put {G : GH} {a b a2 b2 : Addr} {c c2 c' : Ctr} (h : TwoC G a b c a2 b2 c2) : TwoC (putC G a b c') a b c' a2 b2 c2 := by
  have := h.nd
  simp at this
  obtain ⟨n1, n2, n3, n4, n5, n6⟩ := this
  refine ⟨ctr_put n1 _, ⟨?_, ?_⟩, h.nd⟩
  · unfold putC
    rw [gup_ne (Ne.symm n2), gup_ne (Ne.symm n4)]
    exact h.two.obj
  · unfold putC
    rw [gup_ne (Ne.symm n3), gup_ne (Ne.symm n5)]
    exact h.two.found
theorem TwoC.up {G : GH} {a b a2 b2 r : Addr} {c c2 : Ctr} {g : GO} (h : TwoC G a b c a2 b2 c2) (hr : r ≠ a ∧ r ≠ b ∧ r ≠ a2 ∧ r ≠ b2) : TwoC (gup G r g) a b c a2 b2 c2 :=
  ⟨⟨by rw [gup_ne (Ne.symm hr.1)]; exact h.one.obj, by rw [gup_ne (Ne.symm hr.2.1)]; exact h.one.found⟩, ⟨by rw [gup_ne (Ne.symm hr.2.2.1)]; exact h.two.obj, by rw [gup_ne (Ne.symm hr.2.2.2)]; exact h.two.found⟩, h.nd⟩
theorem TwoC.free {G : GH} {a b a2 b2 r : Addr} {c c2 : Ctr} (h : TwoC G a b c a2 b2 c2) (hr : G r = none) : r ≠ a ∧ r ≠ b ∧ r ≠ a2 ∧ r ≠ b2 :=
  ⟨fun z => (by rw [z, h.one.obj] at hr; cases hr), fun z => (by rw [z, h.one.found] at hr; cases hr), fun z => (by rw [z, h.two.obj] at hr; cases hr), fun z => (by rw [z, h.two.found] at hr; cases hr)⟩
theorem gon_i {p : Pm} {G : GH} {Q : QE} {E : EK'} {a b a2 b2 : Addr} {c c2 : Ctr} {t : Int} {ns : List Int} (h : TwoC G a b c a2 b2 c2) (ok : CtrOk c) (hr : RowOk ns) (hn : ∀ n ∈ ns, n < t) (ht : 0 ≤ t ∧ t ≤ 9999)
    (q : ∀ r G', TwoC G' a b (overC (goneC c ns t)) a2 b2 c2 → G' r = some (.lst (toldC (goneC c ns t))) → (r ≠ a ∧ r ≠ b ∧ r ≠ a2 ∧ r ≠ b2) → Q (.ref r) G') : sp_Counter_go_on_n p [.ref a, .int t, .tup (ns.map D.int)] G Q E := by
  have ab : a ≠ b := by have := h.nd; simp at this; exact this.1
  refine ⟨a, b, c, rfl, h.one, ok, ab, rowAsk_row hr, rfl, ?_⟩
  rw [on_row hr]
  show if _ then _ else _
  rw [if_pos hn, if_pos ht]
  intro r hr2
  have h2 := h.put (c' := overC (goneC c ns t))
  have f := h2.free hr2
  exact q r _ (h2.up f) gup_same f
abbrev c00 : Ctr := ⟨[1, 5, 9, 13], 3, [0, 0, 0, 0], 0, 0⟩
abbrev c01 : Ctr := ⟨[1, 5, 9, 13], 3, [2, 1, 0, 0], 9, 2⟩
abbrev c02 : Ctr := ⟨[1, 5, 9, 13], 3, [2, 1, 1, 0], 12, 3⟩
abbrev c10 : Ctr := ⟨[1, 5, 9, 13], 3, [0, 0, 0, 0], 9, 2⟩
theorem step1 : overC (goneC c00 [1, 3, 5] 9) = c01 ∧ toldC (goneC c00 [1, 3, 5] 9) = [.tup [.int 0, .int 2], .tup [.int 1, .int 1]] := ⟨rfl, rfl⟩
theorem step2 : overC (goneC c01 [] 0) = c01 ∧ toldC (goneC c01 [] 0) = [] := ⟨rfl, rfl⟩
theorem step3 : overC (goneC c01 [0] 3) = c02 ∧ toldC (goneC c01 [0] 3) = [.tup [.int 2, .int 1]] := ⟨rfl, rfl⟩
theorem step4 : overC (goneC c00 [] 9) = c10 ∧ toldC (goneC c00 [] 9) = [.tup [.int 0, .int 0], .tup [.int 1, .int 0]] := ⟨rfl, rfl⟩
theorem rEq_refl3 {p : Pm} {neg : Bool} {r : Addr} {l : List D} {G : GH} {Q : QE} (h : Dok 8 (.lst l)) (hG : G r = some (.lst l)) : rEq' p neg (.ref r) (.lst l) G Q = Q (.bl (neg ^^ true)) G := by
  have e : deref G (.ref r) = .lst l := by simp [deref, hG]
  have e2 : deref G (.lst l) = .lst l := rfl
  rw [rEq_iff (by rw [e]; exact h) (by rw [e2]; exact h), e, e2]
  unfold eqD
  rw [SeqAt.eqv_refl _ (dok_can p 8 _ h).1]
theorem rowW_inj {x y : Nat × D × D × D × Str} (h : rowW x = rowW y) : x = y := by
  obtain ⟨k, a, b, c, t⟩ := x
  obtain ⟨k2, a2, b2, c2, t2⟩ := y
  simp only [rowW, D.tup.injEq, List.cons.injEq, D.int.injEq, D.str.injEq, and_true] at h
  obtain ⟨h1, h2, h3, h4, h5⟩ := h
  have : k = k2 := by omega
  rw [this, h2, h3, h4, h5]
theorem pure_law (p : Pm) (s : D) : Pure (t_law p) (sp_law p) 14 [s] := fun G Q E h => by
  obtain ⟨e, hG, q⟩ := h
  cases e
  have big := line_big
  have hr := lrow_ok p.ns 10 9 (by omega) (by omega)
  have hs := lrow_ok p.ns 40 9 (by omega) (by omega)
  refine seqF fun N hN hF => ?_
  simp [start']
  generalize lrow p.ns 10 9 = one at hr ⊢
  generalize lrow p.ns 40 9 = other at hs ⊢
  refine hN _ _ (seqF fun N hN hF => ?_)
  have kp := pickF_range (ns := p.ns) (k := 2) (many := 9) (by omega)
  refine lc_map (f := natD) (fun _ _ h => by unfold natD at h; cases h; rfl) (List.range (1 + pickF p.ns 2 9).toNat) (fun i => .int (pickF p.ns (70 + i) 100)) (G1 := G) (fun R r' => by simp [rangeD]; refine ⟨by omega, by omega, ?_⟩; exact r') (by simp; omega) (fun i hi Gx ex => ?_) ?_
  · simp at hi
    simp [natD]
    omega
  obtain ⟨cs, hcs⟩ : ∃ cs : List Int, cs = (List.range (1 + pickF p.ns 2 9).toNat).map fun i : Nat => pickF p.ns (70 + (i : Int)) 100 := ⟨_, rfl⟩
  have hc : CountsOk cs := by
    subst hcs
    refine ⟨by simp; omega, by simp; omega, fun n hn => ?_⟩
    obtain ⟨i, _, rfl⟩ := List.mem_map.mp hn
    have := pickF_range (ns := p.ns) (k := 70 + i) (many := 100) (by omega)
    omega
  have e1 : (List.range (1 + pickF p.ns 2 9).toNat).map (fun i : Nat => D.int (pickF p.ns (70 + (i : Int)) 100)) = cs.map D.int := by rw [hcs, List.map_map]; rfl
  rw [e1]
  clear e1 hcs
  refine hN _ _ (seqF fun N hN hF => ?_)
  simp
  refine hN _ _ (seqF fun N hN hF => ?_)
  simp
  refine lists_i hr hs hc fun G1 t as hT ex1 hn1 => ?_
  have hP := told_ok (other := other) (cs := cs) hr
  have hD := told_dok one other cs
  generalize hd : toldF one other cs = dss at hT hP hD ⊢
  refine hN _ _ (seqF fun N hN hF => ?_)
  simp
  refine ⟨t, as, dss, rfl, hT, hP, hN _ _ (seqF fun N hN hF => ?_)⟩
  simp
  refine ⟨t, as, dss, rfl, hT, hP, fun G2 ex2 => hN _ _ (seqF fun N hN hF => ?_)⟩
  simp
  refine lists_i hr hs hc fun G3 t3 as3 hT3 ex3 hn3 => ?_
  rw [hd] at hT3
  refine rEq2_same hD (tree_same hT3) ?_
  refine .inl ⟨rfl, hN _ _ (seqF fun N hN hF => ?_)⟩
  clear hT3 ex3 hn3 ex2 hn1 ex1 hT
  generalize D.ref t = dt
  simp [tMake']
  intro a ha
  refine ctr_new (by omega) (by decide) ha fun b hb ab => ⟨rfl, ?_⟩
  intro a2 ha2
  have hC0 := ctr_put (G := G3) ab ⟨startsOf 1 3 1 (Int.toNat 4), 3, List.replicate (Int.toNat 4) 0, 0, 0⟩
  generalize putC G3 a b _ = G4 at hC0 ha2 ⊢
  refine ctr_new (by omega) (by decide) ha2 fun b2 hb2 ab2 => ⟨rfl, ?_⟩
  have hT0 : TwoC (putC G4 a2 b2 c00) a2 b2 c00 a b c00 := by
    have n1 : a ≠ a2 := fun z => by rw [← z, hC0.obj] at ha2; cases ha2
    have n2 : b ≠ a2 := fun z => by rw [← z, hC0.found] at ha2; cases ha2
    have n3 : a ≠ b2 := fun z => by rw [← z, hC0.obj] at hb2; cases hb2
    have n4 : b ≠ b2 := fun z => by rw [← z, hC0.found] at hb2; cases hb2
    refine ⟨ctr_put ab2 _, ⟨?_, ?_⟩, by simp; grind⟩
    · unfold putC
      rw [gup_ne n1, gup_ne n3]
      exact hC0.obj
    · unfold putC
      rw [gup_ne n2, gup_ne n4]
      exact hC0.found
  have hT0 := hT0.swap
  show N _ (putC G4 a2 b2 c00)
  generalize putC G4 a2 b2 c00 = G5 at hT0 ⊢
  have ok00 : CtrOk c00 := ⟨rfl, by decide⟩
  have ok01 : CtrOk c01 := ⟨rfl, by decide⟩
  refine hN _ _ (seqF fun N hN hF => ?_)
  simp [tMeth', hT0.one.obj]
  refine gon_i (ns := [1, 3, 5]) hT0 ok00 (by decide) (by decide) (by decide) fun r G6 hT1 hR fr => ?_
  rw [step1.1] at hT1
  rw [step1.2] at hR
  refine hN _ _ (seqF fun N hN hF => ?_)
  simp [rLstOf_ref hR]
  refine hN _ _ (seqF fun N hN hF => ?_)
  simp [hR]
  have hT1 := hT1.up (r := r) (g := .lst [.tup [.int 0, .int 2], .tup [.int 1, .int 1], .non]) fr
  generalize gup G6 r _ = G7 at hT1 ⊢
  refine hN _ _ (seqF fun N hN hF => ?_)
  simp [tMeth', hT1.two.obj, hT1.one.obj]
  rw [rEq_self (by simp [deref])]
  refine .inl ⟨rfl, _, hT1.two.obj, by simp, a2, b2, _, rfl, hT1.two, ?_⟩
  simp
  refine ⟨_, hT1.two.obj, by simp, a2, b2, _, rfl, hT1.two, ok00, ?_⟩
  rw [show nowC c00 = .non from rfl]
  refine .inl ⟨rfl, _, hT1.one.obj, by simp, a, b, _, rfl, hT1.one, ok01, ?_⟩
  rw [show nowC c01 = .int 0 from rfl]
  simp
  refine hN _ _ (seqF fun N hN hF => ?_)
  simp [tMeth', hT1.two.obj, hT1.one.obj]
  refine gon_i (ns := []) hT1 ok01 (by decide) (by simp) (by decide) fun r2 G8 hT2 hR2 fr2 => ?_
  rw [step2.1] at hT2
  rw [step2.2] at hR2
  rw [rEq_refl3 (by simp) hR2]
  refine .inl ⟨rfl, ?_⟩
  simp [hT2.one.obj]
  refine gon_i (ns := [0]) hT2 ok01 (by decide) (by decide) (by decide) fun r3 G9 hT3 hR3 fr3 => ?_
  rw [step3.1] at hT3
  rw [step3.2] at hR3
  rw [rEq_refl3 (by simp) hR3]
  refine .inl ⟨rfl, ?_⟩
  simp [hT3.two.obj]
  refine gon_i (ns := []) hT3.swap ok00 (by decide) (by simp) (by decide) fun r4 G10 hT4 hR4 fr4 => ?_
  rw [step4.1] at hT4
  rw [step4.2] at hR4
  rw [rEq_refl3 (by simp) hR4]
  refine .inl ⟨rfl, ?_⟩
  refine hN _ _ (seqF fun N hN hF => ?_)
  simp
  intro m hm
  refine hN _ _ (seqF fun N hN hF => ?_)
  simp
  refine hN _ _ (seqF fun N hN hF => ?_)
  simp
  refine hN _ _ (seqF fun N hN hF => ?_)
  simp
  refine hN _ _ (seqF fun N hN hF => ?_)
  simp
  refine hN _ _ (seqF fun N hN hF => ?_)
  simp
  refine hF _ _ _ _ (FrzS.lst 11 hm (by rfl)) (seqF fun N hN hF => ?_)
  simp
  refine lc_filter (f := rowW) (fun x y h => rowW_inj h) twelveW (fun _ => false) rowW (G1 := G10) (fun R r' => by simp; exact r') (by simp [twelveW]) (fun x hx Gx ex => ?_) ?_
  · obtain ⟨k, a', b', c', t'⟩ := x
    have ht : PyData.strOk t' = true := by
      have h3 : t' = "no row" ∨ t' = "no gate" ∨ t' = "no period" := by
        simp only [twelveW, List.mem_cons, List.not_mem_nil, or_false, Prod.mk.injEq] at hx
        grind
      rcases h3 with rfl | rfl | rfl
      · exact sok_0
      · exact sok_1
      · exact sok_2
    simp [rowW]
    refine ⟨_, rfl, _, rfl, _, rfl, _, rfl, k, a', b', c', t', hx, rfl, rfl, rfl, rfl, _, rfl, ?_⟩
    rw [rEq_self (by simpa [deref] using ht)]
    exact ⟨rfl, rfl⟩
  rw [show (twelveW.filter fun _ => false).map rowW = [] from rfl, rEq_self (by simp [deref])]
  refine .inl ⟨rfl, hN _ _ ?_⟩
  simp
  refine lists_i hr hs hc fun GZ tz az hTZ _ _ => ?_
  rw [hd] at hTZ
  refine rEq2_same hD (tree_same hTZ) ?_
  exact .inr ⟨rfl, fz (q _)⟩
end DL

namespace DL
open PySem PySem.Spec PyProof.Rows L2
def topS (i : Nat) : Stmt := PySem.Challenge.pw_gatebeats_k70_whole_again.main.body.getD i (.Pass ⟨0, 0, 0, 0⟩)
abbrev s_is_whole : Stmt := topS 9
abbrev s_is_row : Stmt := topS 10
abbrev s_look_row : Stmt := topS 11
abbrev s_look_gate : Stmt := topS 12
abbrev s_in_gate : Stmt := topS 13
abbrev s_counted : Stmt := topS 14
abbrev s_gaps_n : Stmt := topS 15
abbrev s_share : Stmt := topS 16
abbrev s_look_gates : Stmt := topS 20
abbrev s_starts_of : Stmt := topS 21
abbrev s_counts_of_n : Stmt := topS 22
abbrev s_in_gates_n : Stmt := topS 23
abbrev s_lost_n : Stmt := topS 24
abbrev s_look_counts : Stmt := topS 25
abbrev s_mean : Stmt := topS 26
abbrev s_spread : Stmt := topS 27
abbrev s_Counter___init__ : Stmt := inClass (topS 29) 0
abbrev s_Counter_beat : Stmt := inClass (topS 29) 1
abbrev s_Counter_go_on_n : Stmt := inClass (topS 29) 2
abbrev s_Counter_over : Stmt := inClass (topS 29) 3
abbrev s_Counter_now : Stmt := inClass (topS 29) 4
abbrev s_waits_n : Stmt := topS 31
abbrev s_to_next_n : Stmt := topS 32
abbrev s_between_n : Stmt := topS 33
abbrev s_is_fraction : Stmt := topS 36
abbrev s_look_period : Stmt := topS 37
abbrev s_ticks_of : Stmt := topS 38
abbrev s_steady : Stmt := topS 39
abbrev s_can_count_n : Stmt := topS 40
abbrev s_is_less : Stmt := topS 41
abbrev s_bounds_of : Stmt := topS 42
abbrev s_bounds : Stmt := topS 43
abbrev s_simplest_between : Stmt := topS 44
abbrev s_simplest_of : Stmt := topS 45
abbrev s_simplest : Stmt := topS 46
abbrev s_phase_for : Stmt := topS 47
abbrev s_by_count : Stmt := topS 49
abbrev s_time_of : Stmt := topS 50
abbrev s_by_time : Stmt := topS 51
abbrev s__law_cell : Stmt := topS 53
abbrev s__law_pick : Stmt := topS 54
abbrev s__law_word : Stmt := topS 55
abbrev s__law_row : Stmt := topS 56
abbrev s__law_do : Stmt := topS 60
abbrev s__law_lists : Stmt := topS 61
abbrev s_law : Stmt := topS 62
abbrev s__law_copied_r0 : Stmt := topS 58
abbrev s__law_copied_r1 : Stmt := topS 58
abbrev s__law_copied_r2 : Stmt := topS 58
abbrev s__law_copied_r3 : Stmt := topS 58
abbrev s__law_copied_r4 : Stmt := topS 58
abbrev s__law_copied_r5 : Stmt := topS 58
abbrev s__law_spoil_r0 : Stmt := topS 59
abbrev s__law_spoil_r1 : Stmt := topS 59
abbrev s__law_spoil_r2 : Stmt := topS 59
abbrev s__law_spoil_r3 : Stmt := topS 59
abbrev s__law_spoil_r4 : Stmt := topS 59
abbrev s__law_spoil_r5 : Stmt := topS 59
section
variable {P : Program} {w : World} {K : PySem.W.Frag} {mg : Str → Option Value} {base : Heap} {p : Pm}
theorem sc_is_whole : FnScope ["thing", "low", "high"] ["thing", "low", "high"] (defScope s_is_whole) := ⟨rfl, rfl, rfl, by decide +kernel, rfl, by decide +kernel, by decide +kernel⟩
theorem ok_is_whole {f : Addr} {fd : FuncData} (F : Fun K "is_whole" "is_whole" s_is_whole f fd) (hK : K = p.K) (b_bool : mg "bool" = none) (b_int : mg "int" = none) (b_isinstance : mg "isinstance" = none) :
    FnOk P w K mg base (L2N.CX P w) 1 f fd ["thing", "low", "high"] (liftSp p 3 (sp_is_whole p)) :=
  fn_ok (t := fun W => t_is_whole p W) F sc_is_whole (fun cdv A outer s H E B W hr tk pw =>
    (dss_one (ds_ret (de_and (de_isi (T := "int") hK b_isinstance b_int (by decide +kernel) (de_var 0)) (de_and (de_not (de_isi (T := "bool") hK b_isinstance b_bool (by decide +kernel) (de_var 0))) (de_one (de_chain op_le op_le Lft2.bl0 Lft2.bl0 (de_var 1) (de_var 0) (de_var 2))))))))
    (fun ds G Q E hl h => match ds, hl, h with | [x0, x1, x2], _, h => pure_is_whole p x0 x1 x2 G Q E h)

theorem sc_in_gate : FnScope ["row", "start", "length", "one"] ["row", "start", "length"] (defScope s_in_gate) := ⟨rfl, rfl, rfl, by decide +kernel, rfl, by decide +kernel, by decide +kernel⟩
theorem ok_in_gate {f : Addr} {fd : FuncData} (F : Fun K "in_gate" "in_gate" s_in_gate f fd) (hK : K = p.K)  :
    FnOk P w K mg base (L2N.CX P w) 1 f fd ["row", "start", "length"] (liftSp p 3 (sp_in_gate p)) :=
  fn_ok (t := fun W => t_in_gate p W) F sc_in_gate (fun cdv A outer s H E B W hr tk pw =>
    (dss_one (ds_ret (de_lc false rfl sc_in_gate.nd (di_seq (de_var 0)) (blkOk_by (own := [("one", 3)]) (by show blkC ["row", "start", "length", "one"] (defScope s_in_gate) _ _ = true; decide +kernel)) (fun _ _ _ _ _ => (pg_name (i := 3) sc_in_gate.nd rfl (by first | exact Or.inl rfl | exact Or.inr rfl))) (mono_name _) (tg_name 3) (fun _ _ _ _ _ => (dts_one fun _ => (dt_chain op_le op_lt Lft2.bl0 Lft2.bl0 (de_var 1) (de_var 3) (de_add false (de_var 1) (de_var 2))))) (fun _ _ _ _ _ => de_any fun _ => (de_var 3))))))
    (fun ds G Q E hl h => match ds, hl, h with | [x0, x1, x2], _, h => pure_in_gate p x0 x1 x2 G Q E h)

theorem sc_share : FnScope ["up", "down", "one", "other"] ["up", "down"] (defScope s_share) := ⟨rfl, rfl, rfl, by decide +kernel, rfl, by decide +kernel, by decide +kernel⟩
theorem ok_share {f : Addr} {fd : FuncData} (F : Fun K "share" "share" s_share f fd) (hK : K = p.K) (b_abs : mg "abs" = none) :
    FnOk P w K mg base (L2N.CX P w) 1 f fd ["up", "down"] (liftSp p 2 (sp_share p)) :=
  fn_ok (t := fun W => t_share p W) F sc_share (fun cdv A outer s H E B W hr tk pw =>
    (dss_cons (ds_par 2 3 rfl sc_share.nd (da_cons (de_callB call_abs lft_abs (by rfl) b_abs (by decide +kernel) (da_cons (de_var 0) da_nil)) (da_cons (de_var 1) da_nil)))
    (dss_cons (ds_while pw (dt_ne hr hK (de_var 3) de_int) (dss_one (ds_par 2 3 rfl sc_share.nd (da_cons (de_var 3) (da_cons (de_mod (de_var 2) (de_var 3)) da_nil)))))
    (dss_one (ds_ret (de_tup (da_cons (de_fdiv (de_var 0) (de_var 2)) (da_cons (de_fdiv (de_var 1) (de_var 2)) da_nil))))))))
    (fun ds G Q E hl h => match ds, hl, h with | [x0, x1], _, h => pure_share p x0 x1 G Q E h)

theorem sc_starts_of : FnScope ["start", "length", "dead", "many", "at"] ["start", "length", "dead", "many"] (defScope s_starts_of) := ⟨rfl, rfl, rfl, by decide +kernel, rfl, by decide +kernel, by decide +kernel⟩
theorem ok_starts_of {f : Addr} {fd : FuncData} (F : Fun K "starts_of" "starts_of" s_starts_of f fd) (hK : K = p.K) (b_range : mg "range" = none) :
    FnOk P w K mg base (L2N.CX P w) 1 f fd ["start", "length", "dead", "many"] (liftSp p 4 (sp_starts_of p)) :=
  fn_ok (t := fun W => t_starts_of p W) F sc_starts_of (fun cdv A outer s H E B W hr tk pw =>
    (dss_one (ds_ret (de_lc false rfl sc_starts_of.nd (di_range1 b_range (da_cons (de_var 3) da_nil)) (blkOk_by (own := [("at", 4)]) (by show blkC ["start", "length", "dead", "many", "at"] (defScope s_starts_of) _ _ = true; decide +kernel)) (fun _ _ _ _ _ => (pg_name (i := 4) sc_starts_of.nd rfl (by first | exact Or.inl rfl | exact Or.inr rfl))) (mono_name _) (tg_name 4) (fun _ _ _ _ _ => dts_nil) (fun _ _ _ _ _ => de_any fun _ => (de_add false (de_var 0) (de_mul false (de_var 4) (de_add false (de_var 1) (de_var 2)))))))))
    (fun ds G Q E hl h => match ds, hl, h with | [x0, x1, x2, x3], _, h => pure_starts_of p x0 x1 x2 x3 G Q E h)

theorem sc_Counter_beat : FnScope ["self", "tick", "number", "start"] ["self", "tick"] (defScope s_Counter_beat) := ⟨rfl, rfl, rfl, by decide +kernel, rfl, by decide +kernel, by decide +kernel⟩
theorem ok_Counter_beat {f : Addr} {fd : FuncData} (F : Fun K "beat" "Counter.beat" s_Counter_beat f fd) (hK : K = p.K) (b_enumerate : mg "enumerate" = none) (cl_Counter : Cls p.K (p.ca "Counter")) (na_found : NoAttr p.K (p.ca "Counter") "found") (na_length : NoAttr p.K (p.ca "Counter") "length") (na_starts : NoAttr p.K (p.ca "Counter") "starts") :
    FnOk P w K mg base (L2N.CX P w) 1 f fd ["self", "tick"] (liftSp p 2 (sp_Counter_beat p)) :=
  fn_ok (t := fun W => t_Counter_beat p W) F sc_Counter_beat (fun cdv A outer s H E B W hr tk pw =>
    (dss_one (ds_for pw rfl (di_enum b_enumerate (da_cons (de_fld hK cl_Counter na_starts (de_var 0)) da_nil)) (fun _ => (dg_tup rfl (dgs_cons (dg_name 2 sc_Counter_beat.nd) (dgs_cons (dg_name 3 sc_Counter_beat.nd) dgs_nil)))) (fun _ le1 => (dss_one (ds_if (dt_chain op_le op_lt Lft2.bl0 Lft2.bl0 (de_var 3) (de_var 1) (de_add false (de_var 3) (de_fld hK cl_Counter na_length (de_var 0)))) (dss_one (ds_asg (de_add false (de_ix hK (de_fld hK cl_Counter na_found (de_var 0)) (de_var 2)) de_int) (dg_sub (de_fld hK cl_Counter na_found (de_var 0)) (de_var 2)))) dss_nil))))))
    (fun ds G Q E hl h => match ds, hl, h with | [x0, x1], _, h => pure_Counter_beat p x0 x1 G Q E h)

theorem sc_Counter_over : FnScope ["self"] ["self"] (defScope s_Counter_over) := ⟨rfl, rfl, rfl, by decide +kernel, rfl, by decide +kernel, by decide +kernel⟩
theorem ok_Counter_over {f : Addr} {fd : FuncData} (F : Fun K "over" "Counter.over" s_Counter_over f fd) (hK : K = p.K) (cl_Counter : Cls p.K (p.ca "Counter")) (na_gone : NoAttr p.K (p.ca "Counter") "gone") :
    FnOk P w K mg base (L2N.CX P w) 1 f fd ["self"] (liftSp p 1 (sp_Counter_over p)) :=
  fn_ok (t := fun W => t_Counter_over p W) F sc_Counter_over (fun cdv A outer s H E B W hr tk pw =>
    (dss_one (ds_ret (de_fld hK cl_Counter na_gone (de_var 0)))))
    (fun ds G Q E hl h => match ds, hl, h with | [x0], _, h => pure_Counter_over p x0 G Q E h)

theorem sc_Counter_now : FnScope ["self"] ["self"] (defScope s_Counter_now) := ⟨rfl, rfl, rfl, by decide +kernel, rfl, by decide +kernel, by decide +kernel⟩
theorem ok_Counter_now {f : Addr} {fd : FuncData} (F : Fun K "now" "Counter.now" s_Counter_now f fd) (hK : K = p.K) (b_len : mg "len" = none) (cl_Counter : Cls p.K (p.ca "Counter")) (na_found : NoAttr p.K (p.ca "Counter") "found") (na_gone : NoAttr p.K (p.ca "Counter") "gone") (na_next : NoAttr p.K (p.ca "Counter") "next") (na_starts : NoAttr p.K (p.ca "Counter") "starts") :
    FnOk P w K mg base (L2N.CX P w) 1 f fd ["self"] (liftSp p 1 (sp_Counter_now p)) :=
  fn_ok (t := fun W => t_Counter_now p W) F sc_Counter_now (fun cdv A outer s H E B W hr tk pw =>
    (dss_cons (ds_if (PW.pt (dw_and (dt_lt (de_fld hK cl_Counter na_next (de_var 0)) (de_callB call_len (by exact (hK ▸ lft_len)) (by rfl) b_len PySem.boot_len (da_cons (de_fld hK cl_Counter na_starts (de_var 0)) da_nil))) (dw_and1 (dt_le (de_ix hK (de_fld hK cl_Counter na_starts (de_var 0)) (de_fld hK cl_Counter na_next (de_var 0))) (de_fld hK cl_Counter na_gone (de_var 0)))))) (dss_one (ds_ret (de_ix hK (de_fld hK cl_Counter na_found (de_var 0)) (de_fld hK cl_Counter na_next (de_var 0))))) dss_nil)
    (dss_one (ds_ret de_non))))
    (fun ds G Q E hl h => match ds, hl, h with | [x0], _, h => pure_Counter_now p x0 G Q E h)

theorem sc_waits_n : FnScope ["one", "other", "made", "here", "behind", "there"] ["one", "other"] (defScope s_waits_n) := ⟨rfl, rfl, rfl, by decide +kernel, rfl, by decide +kernel, by decide +kernel⟩
theorem ok_waits_n {f : Addr} {fd : FuncData} (F : Fun K "waits" "waits" s_waits_n f fd) (hK : K = p.K)  :
    FnOk P w K mg base (L2N.CX P w) 1 f fd ["one", "other"] (liftSp p 2 (sp_waits_n p)) :=
  fn_ok (t := fun W => t_waits_n p W) F sc_waits_n (fun cdv A outer s H E B W hr tk pw =>
    (dss_consF (ds_set 2 sc_waits_n.nd (de_lst true da_nil))
    (dss_consF (ds_for pw rfl (di_seq (de_var 0)) (fun _ => (dg_name 3 sc_waits_n.nd)) (fun _ le1 => (dss_consF (ds_setLc false 4 rfl sc_waits_n.nd (di_seq (de_var 1)) (blkOk_by (own := [("there", 5)]) (by show blkC ["one", "other", "made", "here", "behind", "there"] (defScope s_waits_n) _ _ = true; decide +kernel)) (fun _ _ _ _ _ => (pg_name (i := 5) sc_waits_n.nd rfl (by first | exact Or.inl rfl | exact Or.inr rfl))) (mono_name _) (tg_name 5) (fun _ _ _ _ _ => (dts_one fun _ => (dt_ge (de_var 5) (de_var 3)))) (fun _ _ _ _ _ => de_any fun _ => (de_sub (de_var 5) (de_var 3))))
    (dss_one (ds_expr (de_append (de_var 2) (da_cons (de_if (dt_ne hr hK (de_var 4) (de_lst false da_nil)) (de_ix hK (de_var 4) de_int) de_non) da_nil)))))))
    (dss_one (ds_ret (de_var 2))))))
    (fun ds G Q E hl h => match ds, hl, h with | [x0, x1], _, h => pure_waits_n p x0 x1 G Q E h)

theorem sc_ticks_of : FnScope ["phase", "period", "many", "up", "down", "at"] ["phase", "period", "many"] (defScope s_ticks_of) := ⟨rfl, rfl, rfl, by decide +kernel, rfl, by decide +kernel, by decide +kernel⟩
theorem ok_ticks_of {f : Addr} {fd : FuncData} (F : Fun K "ticks_of" "ticks_of" s_ticks_of f fd) (hK : K = p.K) (b_range : mg "range" = none) (b_tuple : mg "tuple" = none) :
    FnOk P w K mg base (L2N.CX P w) 1 f fd ["phase", "period", "many"] (liftSp p 3 (sp_ticks_of p)) :=
  fn_ok (t := fun W => t_ticks_of p W) F sc_ticks_of (fun cdv A outer s H E B W hr tk pw =>
    (dss_cons (ds_asg (de_tup (da_cons (de_mul false (de_ix hK (de_var 0) de_int) (de_ix hK (de_var 1) de_int)) (da_cons (de_mul false (de_ix hK (de_var 0) de_int) (de_ix hK (de_var 1) de_int)) da_nil))) (dg_tup rfl (dgs_cons (dg_name 3 sc_ticks_of.nd) (dgs_cons (dg_name 4 sc_ticks_of.nd) dgs_nil))))
    (dss_one (ds_ret (de_callTy call_tuple_of lft_tupOf (by rfl) b_tuple (by decide +kernel) (da_cons (de_lc false rfl sc_ticks_of.nd (di_range1 b_range (da_cons (de_var 2) da_nil)) (blkOk_by (own := [("at", 5)]) (by show blkC ["phase", "period", "many", "up", "down", "at"] (defScope s_ticks_of) _ _ = true; decide +kernel)) (fun _ _ _ _ _ => (pg_name (i := 5) sc_ticks_of.nd rfl (by first | exact Or.inl rfl | exact Or.inr rfl))) (mono_name _) (tg_name 5) (fun _ _ _ _ _ => dts_nil) (fun _ _ _ _ _ => de_any fun _ => (de_fdiv (de_add false (de_var 3) (de_mul false (de_mul false (de_var 5) (de_ix hK (de_var 1) de_int)) (de_ix hK (de_var 0) de_int))) (de_var 4)))) da_nil))))))
    (fun ds G Q E hl h => match ds, hl, h with | [x0, x1, x2], _, h => pure_ticks_of p x0 x1 x2 G Q E h)

theorem sc_is_less : FnScope ["one", "other"] ["one", "other"] (defScope s_is_less) := ⟨rfl, rfl, rfl, by decide +kernel, rfl, by decide +kernel, by decide +kernel⟩
theorem ok_is_less {f : Addr} {fd : FuncData} (F : Fun K "is_less" "is_less" s_is_less f fd) (hK : K = p.K)  :
    FnOk P w K mg base (L2N.CX P w) 1 f fd ["one", "other"] (liftSp p 2 (sp_is_less p)) :=
  fn_ok (t := fun W => t_is_less p W) F sc_is_less (fun cdv A outer s H E B W hr tk pw =>
    (dss_one (ds_ret (de_lt (de_mul false (de_ix hK (de_var 0) de_int) (de_ix hK (de_var 1) de_int)) (de_mul false (de_ix hK (de_var 1) de_int) (de_ix hK (de_var 0) de_int))))))
    (fun ds G Q E hl h => match ds, hl, h with | [x0, x1], _, h => pure_is_less p x0 x1 G Q E h)

theorem sc_simplest_between : FnScope ["low", "high", "down", "up"] ["low", "high"] (defScope s_simplest_between) := ⟨rfl, rfl, rfl, by decide +kernel, rfl, by decide +kernel, by decide +kernel⟩
theorem ok_simplest_between {f : Addr} {fd : FuncData} (F : Fun K "simplest_between" "simplest_between" s_simplest_between f fd) (hK : K = p.K)  :
    FnOk P w K mg base (L2N.CX P w) 1 f fd ["low", "high"] (liftSp p 2 (sp_simplest_between p)) :=
  fn_ok (t := fun W => t_simplest_between p W) F sc_simplest_between (fun cdv A outer s H E B W hr tk pw =>
    (dss_cons (ds_set 2 sc_simplest_between.nd de_int)
    (dss_one (ds_while pw (dt_val de_bl) (dss_cons (ds_set 3 sc_simplest_between.nd (de_add false (de_fdiv (de_mul false (de_ix hK (de_var 0) de_int) (de_var 2)) (de_ix hK (de_var 0) de_int)) de_int))
    (dss_cons (ds_if (dt_lt (de_mul false (de_var 3) (de_ix hK (de_var 1) de_int)) (de_mul false (de_ix hK (de_var 1) de_int) (de_var 2))) (dss_one (ds_ret (de_tup (da_cons (de_var 3) (da_cons (de_var 2) da_nil))))) dss_nil)
    (dss_one (ds_set 2 sc_simplest_between.nd (de_add false (de_var 2) de_int)))))))))
    (fun ds G Q E hl h => match ds, hl, h with | [x0, x1], _, h => pure_simplest_between p x0 x1 G Q E h)

theorem sc__law_cell : FnScope ["_law_script", "_law_k"] ["_law_script", "_law_k"] (defScope s__law_cell) := ⟨rfl, rfl, rfl, by decide +kernel, rfl, by decide +kernel, by decide +kernel⟩
theorem ok__law_cell {f : Addr} {fd : FuncData} (F : Fun K "_law_cell" "_law_cell" s__law_cell f fd) (hK : K = p.K) (b_len : mg "len" = none) :
    FnOk P w K mg base (L2N.CX P w) 1 f fd ["_law_script", "_law_k"] (liftSp p 2 (sp__law_cell p)) :=
  fn_ok (t := fun W => t__law_cell p W) F sc__law_cell (fun cdv A outer s H E B W hr tk pw =>
    (dss_cons (ds_if (dt_lt (de_var 1) (de_callB call_len (by exact (hK ▸ lft_len)) (by rfl) b_len PySem.boot_len (da_cons (de_var 0) da_nil))) (dss_one (ds_ret (de_ix hK (de_var 0) (de_var 1)))) dss_nil)
    (dss_cons (ds_if (dt_eq hr hK (de_var 0) (de_lst false da_nil)) (dss_one (ds_ret de_int)) dss_nil)
    (dss_one (ds_ret (de_add false (de_mul false (de_ix hK (de_var 0) (de_mod (de_var 1) (de_callB call_len (by exact (hK ▸ lft_len)) (by rfl) b_len PySem.boot_len (da_cons (de_var 0) da_nil)))) de_int) (de_var 1)))))))
    (fun ds G Q E hl h => match ds, hl, h with | [x0, x1], _, h => pure__law_cell p x0 x1 G Q E h)

theorem sc__law_word : FnScope ["_law_kept", "_law_kinds"] ["_law_kept"] (defScope s__law_word) := ⟨rfl, rfl, rfl, by decide +kernel, rfl, by decide +kernel, by decide +kernel⟩
theorem ok__law_word {f : Addr} {fd : FuncData} (F : Fun K "_law_word" "_law_word" s__law_word f fd) (hK : K = p.K) (b_ValueError : mg "ValueError" = none) (b_isinstance : mg "isinstance" = none) (ew : ExcsW K mg p (p.ca "BeatError")) :
    FnOk P w K mg base (L2N.CX P w) 1 f fd ["_law_kept"] (liftSp p 1 (sp__law_word p)) :=
  fn_ok (t := fun W => t__law_word p W) F sc__law_word (fun cdv A outer s H E B W hr tk pw =>
    have hu := Nat.lt_of_le_of_lt (Nat.add_le_add_left (by omega : 1 ≤ 64) _) hr.units
    (ds_word ew (pss_cons (ps_set (i := 1) sc__law_word.nd rfl (.inl rfl) (pe_lst (pa_cons (pe_isw b_isinstance rfl (pv 0) rfl (ew.gl .gate (by decide)) (by decide)) (pa_cons (pe_isw b_isinstance rfl (pv 0) rfl (ew.gl .period (by decide)) (by decide)) (pa_cons (pe_isw b_isinstance rfl (pv 0) rfl (ew.gl .row (by decide)) (by decide)) (pa_cons (pe_isw b_isinstance rfl (pv 0) rfl (ew.gl .text (by decide)) (by decide)) pa_nil))))))
    (pss_cons (ps_if (PW.pt (pw_or (pt_cmpR op_ne (pe_bm PySem.F.plainAttrs_list PySem.F.slot_list_count PySem.F.type_list_count (mt_countB hu) (pv 1) (pa_cons pe_bl pa_nil)) pe_int (nomark _)) (pw_or (pt_not (pt_val (pe_isv b_isinstance b_ValueError rfl rfl (pv 0)))) (pw_or1 (pt_not (pt_val (pe_isw b_isinstance rfl (pv 0) rfl ew.base (by decide)))))))) (pss_one (ps_ret pe_str)) pss_nil)
    (pss_one (ps_ret (pe_ix ix_seq (pe_lst (pa_cons pe_str (pa_cons pe_str (pa_cons pe_str (pa_cons pe_str pa_nil))))) (pe_bm PySem.F.plainAttrs_list PySem.F.slot_list_index PySem.F.type_list_index mt_index (pv 1) (pa_cons pe_bl pa_nil)) (fun _ _ => rfl))))))))
    (fun ds G Q E hl h => match ds, hl, h with | [x0], _, h => pure__law_word p x0 G Q E h)



theorem sc_is_row : FnScope ["thing", "one", "other"] ["thing"] (defScope s_is_row) := ⟨rfl, rfl, rfl, by decide +kernel, rfl, by decide +kernel, by decide +kernel⟩
theorem ok_is_row {f : Addr} {fd : FuncData} (F : Fun K "is_row" "is_row" s_is_row f fd) (hK : K = p.K) (b_all : mg "all" = none) (b_isinstance : mg "isinstance" = none) (b_len : mg "len" = none) (b_tuple : mg "tuple" = none) (b_zip : mg "zip" = none) (g_LAST : ∃ t, mg "LAST" = some (.int 9999 t)) (g_MOST : ∃ t, mg "MOST" = some (.int 40 t)) (c_is_whole : Cal P w K mg base p "is_whole" 1 3 (sp_is_whole p)) :
    FnOk P w K mg base (L2N.CX P w) 2 f fd ["thing"] (liftSp p 1 (sp_is_row p)) :=
  fn_ok (t := fun W => t_is_row p W) F sc_is_row (fun cdv A outer s H E B W hr tk pw =>
    (dss_cons (ds_if (PW.pt (dw_or (dt_not (dt_val (de_isi (T := "tuple") hK b_isinstance b_tuple (by decide +kernel) (de_var 0)))) (dw_or (dt_gt (de_callB call_len (by exact (hK ▸ lft_len)) (by rfl) b_len PySem.boot_len (da_cons (de_var 0) da_nil)) (de_globI rfl g_MOST.choose_spec)) (dw_or1 (dt_not (dt_val (de_callB (cr_all rfl) lft_all (by rfl) b_all (by decide +kernel) (da_cons (de_lc false rfl sc_is_row.nd (di_seq (de_var 0)) (blkOk_by (own := [("one", 1)]) (by show blkC ["thing", "one", "other"] (defScope s_is_row) _ _ = true; decide +kernel)) (fun _ _ _ _ _ => (pg_name (i := 1) sc_is_row.nd rfl (by first | exact Or.inl rfl | exact Or.inr rfl))) (mono_name _) (tg_name 1) (fun _ _ _ _ _ => dts_nil) (fun _ _ _ _ _ => de_any fun _ => (de_call c_is_whole hr takesNo (da_cons (de_var 1) (da_cons de_int (da_cons (de_globI rfl g_LAST.choose_spec) da_nil)))))) da_nil)))))))) (dss_one (ds_ret de_bl)) dss_nil)
    (dss_one (ds_ret (de_callB (cr_all rfl) lft_all (by rfl) b_all (by decide +kernel) (da_cons (de_lc false rfl sc_is_row.nd (di_zip b_zip (da_cons (de_var 0) (da_cons (de_slice false (de_var 0) (do_some de_int) do_none) da_nil))) (blkOk_by (own := [("one", 1), ("other", 2)]) (by show blkC ["thing", "one", "other"] (defScope s_is_row) _ _ = true; decide +kernel)) (fun _ _ _ _ _ => (pg_tup rfl (pgs_cons (pg_name (i := 1) sc_is_row.nd rfl (by first | exact Or.inl rfl | exact Or.inr rfl)) (pgs_cons (pg_name (i := 2) sc_is_row.nd rfl (by first | exact Or.inl rfl | exact Or.inr rfl)) pgs_nil)))) (mono_tup (mono_cons (mono_name _) (mono_cons (mono_name _) mono_nil))) (tg_tup (tgs_cons (mono_name _) (mono_cons (mono_name _) mono_nil) (tg_name 1) (tgs_cons (mono_name _) mono_nil (tg_name 2) tgs_nil))) (fun _ _ _ _ _ => dts_nil) (fun _ _ _ _ _ => de_any fun _ => (de_lt (de_var 1) (de_var 2)))) da_nil))))))
    (fun ds G Q E hl h => match ds, hl, h with | [x0], _, h => pure_is_row p x0 G Q E h)

theorem sc_look_gate : FnScope ["start", "length"] ["start", "length"] (defScope s_look_gate) := ⟨rfl, rfl, rfl, by decide +kernel, rfl, by decide +kernel, by decide +kernel⟩
theorem ok_look_gate {f : Addr} {fd : FuncData} (F : Fun K "look_gate" "look_gate" s_look_gate f fd) (hK : K = p.K) (g_LAST : ∃ t, mg "LAST" = some (.int 9999 t)) (e_NoGate : ExcF K mg p "NoGate" .gate) (c_is_whole : Cal P w K mg base p "is_whole" 1 3 (sp_is_whole p)) :
    FnOk P w K mg base (L2N.CX P w) 2 f fd ["start", "length"] (liftSp p 2 (sp_look_gate p)) :=
  fn_ok (t := fun W => t_look_gate p W) F sc_look_gate (fun cdv A outer s H E B W hr tk pw =>
    (dss_one (ds_if (PW.pt (dw_or (dt_not (dt_val (de_call c_is_whole hr tk (da_cons (de_var 0) (da_cons de_int (da_cons (de_globI rfl g_LAST.choose_spec) da_nil)))))) (dw_or1 (dt_not (dt_val (de_call c_is_whole hr tk (da_cons (de_var 1) (da_cons de_int (da_cons (de_globI rfl g_LAST.choose_spec) da_nil))))))))) (dss_one (ds_raise e_NoGate rfl tk)) dss_nil)))
    (fun ds G Q E hl h => match ds, hl, h with | [x0, x1], _, h => pure_look_gate p x0 x1 G Q E h)

theorem sc_counts_of_n : FnScope ["row", "start", "length", "dead", "many", "here"] ["row", "start", "length", "dead", "many"] (defScope s_counts_of_n) := ⟨rfl, rfl, rfl, by decide +kernel, rfl, by decide +kernel, by decide +kernel⟩
theorem ok_counts_of_n {f : Addr} {fd : FuncData} (F : Fun K "counts_of" "counts_of" s_counts_of_n f fd) (hK : K = p.K) (b_len : mg "len" = none) (c_starts_of : Cal P w K mg base p "starts_of" 1 4 (sp_starts_of p)) (c_in_gate : Cal P w K mg base p "in_gate" 1 3 (sp_in_gate p)) :
    FnOk P w K mg base (L2N.CX P w) 2 f fd ["row", "start", "length", "dead", "many"] (liftSp p 5 (sp_counts_of_n p)) :=
  fn_ok (t := fun W => t_counts_of_n p W) F sc_counts_of_n (fun cdv A outer s H E B W hr tk pw =>
    (dss_one (ds_ret (de_lc true rfl sc_counts_of_n.nd (di_seq (de_call c_starts_of hr tk (da_cons (de_var 1) (da_cons (de_var 2) (da_cons (de_var 3) (da_cons (de_var 4) da_nil)))))) (blkOk_by (own := [("here", 5)]) (by show blkC ["row", "start", "length", "dead", "many", "here"] (defScope s_counts_of_n) _ _ = true; decide +kernel)) (fun _ _ _ _ _ => (pg_name (i := 5) sc_counts_of_n.nd rfl (by first | exact Or.inl rfl | exact Or.inr rfl))) (mono_name _) (tg_name 5) (fun _ _ _ _ _ => dts_nil) (fun _ _ _ _ _ => de_any fun _ => (de_callB call_len (by exact (hK ▸ lft_len)) (by rfl) b_len PySem.boot_len (da_cons (de_call c_in_gate hr takesNo (da_cons (de_var 0) (da_cons (de_var 5) (da_cons (de_var 2) da_nil)))) da_nil)))))))
    (fun ds G Q E hl h => match ds, hl, h with | [x0, x1, x2, x3, x4], _, h => pure_counts_of_n p x0 x1 x2 x3 x4 G Q E h)

theorem sc_look_counts : FnScope ["counts", "one"] ["counts"] (defScope s_look_counts) := ⟨rfl, rfl, rfl, by decide +kernel, rfl, by decide +kernel, by decide +kernel⟩
theorem ok_look_counts {f : Addr} {fd : FuncData} (F : Fun K "look_counts" "look_counts" s_look_counts f fd) (hK : K = p.K) (b_all : mg "all" = none) (b_isinstance : mg "isinstance" = none) (b_len : mg "len" = none) (b_list : mg "list" = none) (b_tuple : mg "tuple" = none) (g_MOST_GATES : ∃ t, mg "MOST_GATES" = some (.int 20 t)) (e_NoGate : ExcF K mg p "NoGate" .gate) (c_is_whole : Cal P w K mg base p "is_whole" 1 3 (sp_is_whole p)) :
    FnOk P w K mg base (L2N.CX P w) 2 f fd ["counts"] (liftSp p 1 (sp_look_counts p)) :=
  fn_ok (t := fun W => t_look_counts p W) F sc_look_counts (fun cdv A outer s H E B W hr tk pw =>
    (dss_cons (ds_if (PW.pt (dw_or (dt_not (dt_val (de_isi2 (T := "list") (U := "tuple") hK b_isinstance b_list b_tuple (by decide +kernel) (by decide +kernel) (de_var 0)))) (dw_or1 (dt_not (dt_chain op_le op_le Lft2.bl0 Lft2.bl0 de_int (de_callB call_len (by exact (hK ▸ lft_len)) (by rfl) b_len PySem.boot_len (da_cons (de_var 0) da_nil)) (de_globI rfl g_MOST_GATES.choose_spec)))))) (dss_one (ds_raise e_NoGate rfl tk)) dss_nil)
    (dss_one (ds_if (dt_not (dt_val (de_callB (cr_all rfl) lft_all (by rfl) b_all (by decide +kernel) (da_cons (de_lc false rfl sc_look_counts.nd (di_seq (de_var 0)) (blkOk_by (own := [("one", 1)]) (by show blkC ["counts", "one"] (defScope s_look_counts) _ _ = true; decide +kernel)) (fun _ _ _ _ _ => (pg_name (i := 1) sc_look_counts.nd rfl (by first | exact Or.inl rfl | exact Or.inr rfl))) (mono_name _) (tg_name 1) (fun _ _ _ _ _ => dts_nil) (fun _ _ _ _ _ => de_any fun _ => (de_call c_is_whole hr takesNo (da_cons (de_var 1) (da_cons de_int (da_cons de_int da_nil)))))) da_nil)))) (dss_one (ds_raise e_NoGate rfl tk)) dss_nil))))
    (fun ds G Q E hl h => match ds, hl, h with | [x0], _, h => pure_look_counts p x0 G Q E h)

theorem sc_is_fraction : FnScope ["thing"] ["thing"] (defScope s_is_fraction) := ⟨rfl, rfl, rfl, by decide +kernel, rfl, by decide +kernel, by decide +kernel⟩
theorem ok_is_fraction {f : Addr} {fd : FuncData} (F : Fun K "is_fraction" "is_fraction" s_is_fraction f fd) (hK : K = p.K) (b_bool : mg "bool" = none) (b_int : mg "int" = none) (b_isinstance : mg "isinstance" = none) (b_len : mg "len" = none) (b_tuple : mg "tuple" = none) (g_MOST_DOWN : ∃ t, mg "MOST_DOWN" = some (.int 99 t)) (c_is_whole : Cal P w K mg base p "is_whole" 1 3 (sp_is_whole p)) (c_share : Cal P w K mg base p "share" 1 2 (sp_share p)) :
    FnOk P w K mg base (L2N.CX P w) 2 f fd ["thing"] (liftSp p 1 (sp_is_fraction p)) :=
  fn_ok (t := fun W => t_is_fraction p W) F sc_is_fraction (fun cdv A outer s H E B W hr tk pw =>
    (dss_cons (ds_if (PW.pt (dw_or (dt_not (dt_val (de_isi (T := "tuple") hK b_isinstance b_tuple (by decide +kernel) (de_var 0)))) (dw_or (dt_ne hr hK (de_callB call_len (by exact (hK ▸ lft_len)) (by rfl) b_len PySem.boot_len (da_cons (de_var 0) da_nil)) de_int) (dw_or1 (dt_not (dt_val (de_call c_is_whole hr tk (da_cons (de_ix hK (de_var 0) de_int) (da_cons de_int (da_cons (de_globI rfl g_MOST_DOWN.choose_spec) da_nil)))))))))) (dss_one (ds_ret de_bl)) dss_nil)
    (dss_one (ds_ret (de_and (de_isi (T := "int") hK b_isinstance b_int (by decide +kernel) (de_ix hK (de_var 0) de_int)) (de_and (de_not (de_isi (T := "bool") hK b_isinstance b_bool (by decide +kernel) (de_ix hK (de_var 0) de_int))) (de_one (de_eq hr hK (de_call c_share hr tk (da_cons (de_ix hK (de_var 0) de_int) (da_cons (de_ix hK (de_var 0) de_int) da_nil))) (de_var 0)))))))))
    (fun ds G Q E hl h => match ds, hl, h with | [x0], _, h => pure_is_fraction p x0 G Q E h)

theorem sc_bounds_of : FnScope ["row", "low", "high", "at", "one", "far", "other", "least", "most"] ["row"] (defScope s_bounds_of) := ⟨rfl, rfl, rfl, by decide +kernel, rfl, by decide +kernel, by decide +kernel⟩
theorem ok_bounds_of {f : Addr} {fd : FuncData} (F : Fun K "bounds_of" "bounds_of" s_bounds_of f fd) (hK : K = p.K) (b_enumerate : mg "enumerate" = none) (b_len : mg "len" = none) (g_LAST : ∃ t, mg "LAST" = some (.int 9999 t)) (c_share : Cal P w K mg base p "share" 1 2 (sp_share p)) (c_is_less : Cal P w K mg base p "is_less" 1 2 (sp_is_less p)) :
    FnOk P w K mg base (L2N.CX P w) 2 f fd ["row"] (liftSp p 1 (sp_bounds_of p)) :=
  fn_ok (t := fun W => t_bounds_of p W) F sc_bounds_of (fun cdv A outer s H E B W hr tk pw =>
    (dss_cons (ds_par 1 2 rfl sc_bounds_of.nd (da_cons (de_tup (da_cons de_int (da_cons de_int da_nil))) (da_cons (de_tup (da_cons (de_add false (de_globI rfl g_LAST.choose_spec) de_int) (da_cons de_int da_nil))) da_nil)))
    (dss_cons (ds_for pw rfl (di_enum b_enumerate (da_cons (de_var 0) da_nil)) (fun _ => (dg_tup rfl (dgs_cons (dg_name 3 sc_bounds_of.nd) (dgs_cons (dg_name 4 sc_bounds_of.nd) dgs_nil)))) (fun _ le1 => (dss_one (ds_for pw rfl (di_enum b_enumerate (da_cons (de_slice false (de_var 0) (do_some (de_add false (de_var 3) de_int)) do_none) da_nil)) (fun _ => (dg_tup rfl (dgs_cons (dg_name 5 sc_bounds_of.nd) (dgs_cons (dg_name 6 sc_bounds_of.nd) dgs_nil)))) (fun _ le2 => (dss_cons (ds_par 7 8 rfl sc_bounds_of.nd (da_cons (de_call c_share hr (takesLe le2 (takesLe le1 tk)) (da_cons (de_sub (de_sub (de_var 6) (de_var 4)) de_int) (da_cons (de_add false (de_var 5) de_int) da_nil))) (da_cons (de_call c_share hr (takesLe le2 (takesLe le1 tk)) (da_cons (de_add false (de_sub (de_var 6) (de_var 4)) de_int) (da_cons (de_add false (de_var 5) de_int) da_nil))) da_nil)))
    (dss_cons (ds_set 1 sc_bounds_of.nd (de_if (dt_val (de_call c_is_less hr (takesLe le2 (takesLe le1 tk)) (da_cons (de_var 1) (da_cons (de_var 7) da_nil)))) (de_var 7) (de_var 1)))
    (dss_one (ds_set 2 sc_bounds_of.nd (de_if (dt_val (de_call c_is_less hr (takesLe le2 (takesLe le1 tk)) (da_cons (de_var 8) (da_cons (de_var 2) da_nil)))) (de_var 8) (de_var 2)))))))))))
    (dss_one (ds_ret (de_if (PW.pt (dw_and (dt_gt (de_callB call_len (by exact (hK ▸ lft_len)) (by rfl) b_len PySem.boot_len (da_cons (de_var 0) da_nil)) de_int) (dw_and1 (dt_val (de_call c_is_less hr tk (da_cons (de_var 1) (da_cons (de_var 2) da_nil))))))) (de_tup (da_cons (de_var 1) (da_cons (de_var 2) da_nil))) de_non))))))
    (fun ds G Q E hl h => match ds, hl, h with | [x0], _, h => pure_bounds_of p x0 G Q E h)

theorem sc_time_of : FnScope ["row", "start", "length", "some", "many", "ticks"] ["row", "start", "length"] (defScope s_time_of) := ⟨rfl, rfl, rfl, by decide +kernel, rfl, by decide +kernel, by decide +kernel⟩
theorem ok_time_of {f : Addr} {fd : FuncData} (F : Fun K "time_of" "time_of" s_time_of f fd) (hK : K = p.K) (b_len : mg "len" = none) (c_in_gate : Cal P w K mg base p "in_gate" 1 3 (sp_in_gate p)) (c_share : Cal P w K mg base p "share" 1 2 (sp_share p)) :
    FnOk P w K mg base (L2N.CX P w) 2 f fd ["row", "start", "length"] (liftSp p 3 (sp_time_of p)) :=
  fn_ok (t := fun W => t_time_of p W) F sc_time_of (fun cdv A outer s H E B W hr tk pw =>
    (dss_cons (ds_set 3 sc_time_of.nd (de_call c_in_gate hr tk (da_cons (de_var 0) (da_cons (de_var 1) (da_cons (de_var 2) da_nil)))))
    (dss_cons (ds_if (PW.pt (dw_or (dt_lt (de_callB call_len (by exact (hK ▸ lft_len)) (by rfl) b_len PySem.boot_len (da_cons (de_var 3) da_nil)) de_int) (dw_or1 (dt_lt (de_sub (de_ix hK (de_var 3) (de_neg de_int)) (de_ix hK (de_var 3) de_int)) de_int)))) (dss_one (ds_ret de_non)) dss_nil)
    (dss_cons (ds_par 4 5 rfl sc_time_of.nd (da_cons (de_sub (de_callB call_len (by exact (hK ▸ lft_len)) (by rfl) b_len PySem.boot_len (da_cons (de_var 3) da_nil)) de_int) (da_cons (de_sub (de_ix hK (de_var 3) (de_neg de_int)) (de_ix hK (de_var 3) de_int)) da_nil)))
    (dss_one (ds_ret (de_tup (da_cons (de_call c_share hr tk (da_cons (de_var 4) (da_cons (de_add false (de_var 5) de_int) da_nil))) (da_cons (de_call c_share hr tk (da_cons (de_var 4) (da_cons (de_sub (de_var 5) de_int) da_nil))) da_nil)))))))))
    (fun ds G Q E hl h => match ds, hl, h with | [x0, x1, x2], _, h => pure_time_of p x0 x1 x2 G Q E h)

theorem sc__law_pick : FnScope ["_law_script", "_law_k", "_law_many", "_law_drawn"] ["_law_script", "_law_k", "_law_many"] (defScope s__law_pick) := ⟨rfl, rfl, rfl, by decide +kernel, rfl, by decide +kernel, by decide +kernel⟩
theorem ok__law_pick {f : Addr} {fd : FuncData} (F : Fun K "_law_pick" "_law_pick" s__law_pick f fd) (hK : K = p.K) (c__law_cell : Cal P w K mg base p "_law_cell" 1 2 (sp__law_cell p)) :
    FnOk P w K mg base (L2N.CX P w) 2 f fd ["_law_script", "_law_k", "_law_many"] (liftSp p 3 (sp__law_pick p)) :=
  fn_ok (t := fun W => t__law_pick p W) F sc__law_pick (fun cdv A outer s H E B W hr tk pw =>
    (dss_cons (ds_set 3 sc__law_pick.nd (de_mod (de_mul false (de_add false (de_call c__law_cell hr tk (da_cons (de_var 0) (da_cons (de_var 1) da_nil))) (de_mul false de_int (de_add false (de_var 1) de_int))) de_int) de_int))
    (dss_one (ds_ret (de_mod (de_mod (de_add false (de_mul false (de_var 3) (de_var 3)) (de_fdiv (de_var 3) de_int)) de_int) (de_var 2))))))
    (fun ds G Q E hl h => match ds, hl, h with | [x0, x1, x2], _, h => pure__law_pick p x0 x1 x2 G Q E h)

theorem sc__law_copied_r1 : FnScope ["_law_thing", "_law_one", "_law_key"] ["_law_thing"] (defScope s__law_copied_r1) := ⟨rfl, rfl, rfl, by decide +kernel, rfl, by decide +kernel, by decide +kernel⟩
theorem ok__law_copied_r1 {f : Addr} {fd : FuncData} (F : Fun K "_law_copied" "_law_copied" s__law_copied_r1 f fd) (hK : K = p.K) (b_dict : mg "dict" = none) (b_isinstance : mg "isinstance" = none) (b_list : mg "list" = none) (b_tuple : mg "tuple" = none) (c__law_copied_r0 : Cal P w K mg base p "_law_copied" 1 1 (sp__law_copied_r0 p)) :
    FnOk P w K mg base (L2N.CX P w) 2 f fd ["_law_thing"] (liftSp p 1 (sp__law_copied_r1 p)) :=
  fn_ok (t := fun W => t__law_copied_r1 p W) F sc__law_copied_r1 (fun cdv A outer s H E B W hr tk pw =>
    (dss_cons (ds_if (dt_val (de_isi (T := "list") hK b_isinstance b_list (by decide +kernel) (de_var 0))) (dss_one (ds_ret (de_lcC false rfl sc__law_copied_r1.nd (dic_seq (de_var 0)) (blkOk_by (own := [("_law_one", 1)]) (by show blkC ["_law_thing", "_law_one", "_law_key"] (defScope s__law_copied_r1) _ _ = true; decide +kernel)) (fun _ _ _ _ _ => (pg_name (i := 1) sc__law_copied_r1.nd rfl (by first | exact Or.inl rfl | exact Or.inr rfl))) (mono_name _) (tg_name 1) (fun _ _ _ _ _ => dts_nil) (fun _ _ _ _ _ => de_any fun _ => (de_call c__law_copied_r0 hr takesNo (da_cons (de_var 1) da_nil)))))) dss_nil)
    (dss_cons (ds_if (dt_val (de_isi (T := "tuple") hK b_isinstance b_tuple (by decide +kernel) (de_var 0))) (dss_one (ds_ret (de_callTy call_tuple_of lft_tupOf (by rfl) b_tuple (by decide +kernel) (da_cons (de_lcC false rfl sc__law_copied_r1.nd (dic_seq (de_var 0)) (blkOk_by (own := [("_law_one", 1)]) (by show blkC ["_law_thing", "_law_one", "_law_key"] (defScope s__law_copied_r1) _ _ = true; decide +kernel)) (fun _ _ _ _ _ => (pg_name (i := 1) sc__law_copied_r1.nd rfl (by first | exact Or.inl rfl | exact Or.inr rfl))) (mono_name _) (tg_name 1) (fun _ _ _ _ _ => dts_nil) (fun _ _ _ _ _ => de_any fun _ => (de_call c__law_copied_r0 hr takesNo (da_cons (de_var 1) da_nil)))) da_nil)))) dss_nil)
    (dss_cons (ds_if (dt_val (de_isi (T := "dict") hK b_isinstance b_dict (by decide +kernel) (de_var 0))) dss_bad dss_nil)
    (dss_one (ds_ret (de_var 0)))))))
    (fun ds G Q E hl h => match ds, hl, h with | [x0], _, h => pure__law_copied_r1 p x0 G Q E h)

theorem sc__law_spoil_r1 : FnScope ["_law_thing", "_law_one", "_law_key"] ["_law_thing"] (defScope s__law_spoil_r1) := ⟨rfl, rfl, rfl, by decide +kernel, rfl, by decide +kernel, by decide +kernel⟩
theorem ok__law_spoil_r1 {f : Addr} {fd : FuncData} (F : Fun K "_law_spoil" "_law_spoil" s__law_spoil_r1 f fd) (hK : K = p.K) (b_dict : mg "dict" = none) (b_isinstance : mg "isinstance" = none) (b_list : mg "list" = none) (b_tuple : mg "tuple" = none) (c__law_spoil_r0 : Cal P w K mg base p "_law_spoil" 1 1 (sp__law_spoil_r0 p)) :
    FnOk P w K mg base (L2N.CX P w) 2 f fd ["_law_thing"] (liftSp p 1 (sp__law_spoil_r1 p)) :=
  fn_ok (t := fun W => t__law_spoil_r1 p W) F sc__law_spoil_r1 (fun cdv A outer s H E B W hr tk pw =>
    (dss_consF (ds_if (dt_val (de_isi2 (T := "list") (U := "tuple") hK b_isinstance b_list b_tuple (by decide +kernel) (by decide +kernel) (de_var 0))) (dss_one (ds_forL pw rfl (dil_seq (de_var 0)) (fun _ => (dg_name 1 sc__law_spoil_r1.nd)) (fun _ le1 => (dss_one (ds_expr (de_call c__law_spoil_r0 hr (takesLe le1 tk) (da_cons (de_var 1) da_nil))))))) dss_nil)
    (dss_consF (ds_if (dt_val (de_isi (T := "dict") hK b_isinstance b_dict (by decide +kernel) (de_var 0))) dss_bad dss_nil)
    (dss_one (ds_if (dt_val (de_isi (T := "list") hK b_isinstance b_list (by decide +kernel) (de_var 0))) (dss_consF (ds_expr (de_append (de_var 0) (da_cons de_non da_nil)))
    (dss_one (ds_expr (de_reverse (de_var 0))))) dss_nil)))))
    (fun ds G Q E hl h => match ds, hl, h with | [x0], _, h => pure__law_spoil_r1 p x0 G Q E h)

theorem sc_look_row : FnScope ["row"] ["row"] (defScope s_look_row) := ⟨rfl, rfl, rfl, by decide +kernel, rfl, by decide +kernel, by decide +kernel⟩
theorem ok_look_row {f : Addr} {fd : FuncData} (F : Fun K "look_row" "look_row" s_look_row f fd) (hK : K = p.K) (e_NoRow : ExcF K mg p "NoRow" .row) (c_is_row : Cal P w K mg base p "is_row" 2 1 (sp_is_row p)) :
    FnOk P w K mg base (L2N.CX P w) 3 f fd ["row"] (liftSp p 1 (sp_look_row p)) :=
  fn_ok (t := fun W => t_look_row p W) F sc_look_row (fun cdv A outer s H E B W hr tk pw =>
    (dss_one (ds_if (dt_not (dt_val (de_call c_is_row hr tk (da_cons (de_var 0) da_nil)))) (dss_one (ds_raise e_NoRow rfl tk)) dss_nil)))
    (fun ds G Q E hl h => match ds, hl, h with | [x0], _, h => pure_look_row p x0 G Q E h)

theorem sc_look_gates : FnScope ["start", "length", "dead", "many"] ["start", "length", "dead", "many"] (defScope s_look_gates) := ⟨rfl, rfl, rfl, by decide +kernel, rfl, by decide +kernel, by decide +kernel⟩
theorem ok_look_gates {f : Addr} {fd : FuncData} (F : Fun K "look_gates" "look_gates" s_look_gates f fd) (hK : K = p.K) (g_FARTHEST : ∃ t, mg "FARTHEST" = some (.int 99999 t)) (g_LAST : ∃ t, mg "LAST" = some (.int 9999 t)) (g_MOST_GATES : ∃ t, mg "MOST_GATES" = some (.int 20 t)) (e_NoGate : ExcF K mg p "NoGate" .gate) (c_look_gate : Cal P w K mg base p "look_gate" 2 2 (sp_look_gate p)) (c_is_whole : Cal P w K mg base p "is_whole" 1 3 (sp_is_whole p)) :
    FnOk P w K mg base (L2N.CX P w) 3 f fd ["start", "length", "dead", "many"] (liftSp p 4 (sp_look_gates p)) :=
  fn_ok (t := fun W => t_look_gates p W) F sc_look_gates (fun cdv A outer s H E B W hr tk pw =>
    (dss_cons (ds_expr (de_call c_look_gate hr tk (da_cons (de_var 0) (da_cons (de_var 1) da_nil))))
    (dss_cons (ds_if (PW.pt (dw_or (dt_not (dt_val (de_call c_is_whole hr tk (da_cons (de_var 2) (da_cons de_int (da_cons (de_globI rfl g_LAST.choose_spec) da_nil)))))) (dw_or1 (dt_not (dt_val (de_call c_is_whole hr tk (da_cons (de_var 3) (da_cons de_int (da_cons (de_globI rfl g_MOST_GATES.choose_spec) da_nil))))))))) (dss_one (ds_raise e_NoGate rfl tk)) dss_nil)
    (dss_one (ds_if (dt_gt (de_sub (de_add false (de_add false (de_var 0) (de_mul false (de_var 3) (de_var 1))) (de_mul false (de_sub (de_var 3) de_int) (de_var 2))) de_int) (de_globI rfl g_FARTHEST.choose_spec)) (dss_one (ds_raise e_NoGate rfl tk)) dss_nil)))))
    (fun ds G Q E hl h => match ds, hl, h with | [x0, x1, x2, x3], _, h => pure_look_gates p x0 x1 x2 x3 G Q E h)

theorem sc_mean : FnScope ["counts"] ["counts"] (defScope s_mean) := ⟨rfl, rfl, rfl, by decide +kernel, rfl, by decide +kernel, by decide +kernel⟩
theorem ok_mean {f : Addr} {fd : FuncData} (F : Fun K "mean" "mean" s_mean f fd) (hK : K = p.K) (b_len : mg "len" = none) (b_sum : mg "sum" = none) (c_look_counts : Cal P w K mg base p "look_counts" 2 1 (sp_look_counts p)) (c_share : Cal P w K mg base p "share" 1 2 (sp_share p)) :
    FnOk P w K mg base (L2N.CX P w) 3 f fd ["counts"] (liftSp p 1 (sp_mean p)) :=
  fn_ok (t := fun W => t_mean p W) F sc_mean (fun cdv A outer s H E B W hr tk pw =>
    (dss_cons (ds_expr (de_call c_look_counts hr tk (da_cons (de_var 0) da_nil)))
    (dss_one (ds_ret (de_call c_share hr tk (da_cons (de_callB (DLMax.cr_sumA rfl) lft_sum (by rfl) b_sum (by decide +kernel) (da_cons (de_var 0) da_nil)) (da_cons (de_callB call_len (by exact (hK ▸ lft_len)) (by rfl) b_len PySem.boot_len (da_cons (de_var 0) da_nil)) da_nil)))))))
    (fun ds G Q E hl h => match ds, hl, h with | [x0], _, h => pure_mean p x0 G Q E h)

theorem sc_spread : FnScope ["counts"] ["counts"] (defScope s_spread) := ⟨rfl, rfl, rfl, by decide +kernel, rfl, by decide +kernel, by decide +kernel⟩
theorem ok_spread {f : Addr} {fd : FuncData} (F : Fun K "spread" "spread" s_spread f fd) (hK : K = p.K) (b_max : mg "max" = none) (b_min : mg "min" = none) (c_look_counts : Cal P w K mg base p "look_counts" 2 1 (sp_look_counts p)) :
    FnOk P w K mg base (L2N.CX P w) 3 f fd ["counts"] (liftSp p 1 (sp_spread p)) :=
  fn_ok (t := fun W => t_spread p W) F sc_spread (fun cdv A outer s H E B W hr tk pw =>
    (dss_cons (ds_expr (de_call c_look_counts hr tk (da_cons (de_var 0) da_nil)))
    (dss_one (ds_ret (de_sub (de_callB (DLMax.cr_maxA rfl) lft_maxL (by rfl) b_max (by decide +kernel) (da_cons (de_var 0) da_nil)) (de_callB (DLMax.cr_minA rfl) lft_minL (by rfl) b_min (by decide +kernel) (da_cons (de_var 0) da_nil)))))))
    (fun ds G Q E hl h => match ds, hl, h with | [x0], _, h => pure_spread p x0 G Q E h)

theorem sc_look_period : FnScope ["period"] ["period"] (defScope s_look_period) := ⟨rfl, rfl, rfl, by decide +kernel, rfl, by decide +kernel, by decide +kernel⟩
theorem ok_look_period {f : Addr} {fd : FuncData} (F : Fun K "look_period" "look_period" s_look_period f fd) (hK : K = p.K) (g_LAST : ∃ t, mg "LAST" = some (.int 9999 t)) (e_NoPeriod : ExcF K mg p "NoPeriod" .period) (c_is_fraction : Cal P w K mg base p "is_fraction" 2 1 (sp_is_fraction p)) :
    FnOk P w K mg base (L2N.CX P w) 3 f fd ["period"] (liftSp p 1 (sp_look_period p)) :=
  fn_ok (t := fun W => t_look_period p W) F sc_look_period (fun cdv A outer s H E B W hr tk pw =>
    (dss_one (ds_if (PW.pt (dw_or (dt_not (dt_val (de_call c_is_fraction hr tk (da_cons (de_var 0) da_nil)))) (dw_or1 (dt_not (dt_chain op_lt op_le Lft2.bl0 Lft2.bl0 de_int (de_ix hK (de_var 0) de_int) (de_mul false (de_globI rfl g_LAST.choose_spec) (de_ix hK (de_var 0) de_int))))))) (dss_one (ds_raise e_NoPeriod rfl tk)) dss_nil)))
    (fun ds G Q E hl h => match ds, hl, h with | [x0], _, h => pure_look_period p x0 G Q E h)

theorem sc_simplest_of : FnScope ["row", "some"] ["row"] (defScope s_simplest_of) := ⟨rfl, rfl, rfl, by decide +kernel, rfl, by decide +kernel, by decide +kernel⟩
theorem ok_simplest_of {f : Addr} {fd : FuncData} (F : Fun K "simplest_of" "simplest_of" s_simplest_of f fd) (hK : K = p.K) (c_bounds_of : Cal P w K mg base p "bounds_of" 2 1 (sp_bounds_of p)) (c_simplest_between : Cal P w K mg base p "simplest_between" 1 2 (sp_simplest_between p)) :
    FnOk P w K mg base (L2N.CX P w) 3 f fd ["row"] (liftSp p 1 (sp_simplest_of p)) :=
  fn_ok (t := fun W => t_simplest_of p W) F sc_simplest_of (fun cdv A outer s H E B W hr tk pw =>
    (dss_cons (ds_set 1 sc_simplest_of.nd (de_call c_bounds_of hr tk (da_cons (de_var 0) da_nil)))
    (dss_one (ds_ret (de_if (dt_notN (de_var 1) de_non) (de_call c_simplest_between hr tk (da_cons (de_ix hK (de_var 1) de_int) (da_cons (de_ix hK (de_var 1) de_int) da_nil))) de_non)))))
    (fun ds G Q E hl h => match ds, hl, h with | [x0], _, h => pure_simplest_of p x0 G Q E h)

theorem sc__law_row : FnScope ["_law_script", "_law_at", "_law_most", "_law_made", "_law_here", "_law_top", "_law_k"] ["_law_script", "_law_at", "_law_most"] (defScope s__law_row) := ⟨rfl, rfl, rfl, by decide +kernel, rfl, by decide +kernel, by decide +kernel⟩
theorem ok__law_row {f : Addr} {fd : FuncData} (F : Fun K "_law_row" "_law_row" s__law_row f fd) (hK : K = p.K) (b_range : mg "range" = none) (b_tuple : mg "tuple" = none) (c__law_pick : Cal P w K mg base p "_law_pick" 2 3 (sp__law_pick p)) :
    FnOk P w K mg base (L2N.CX P w) 3 f fd ["_law_script", "_law_at", "_law_most"] (liftSp p 3 (sp__law_row p)) :=
  fn_ok (t := fun W => t__law_row p W) F sc__law_row (fun cdv A outer s H E B W hr tk pw =>
    (dss_consF (ds_par 3 4 rfl sc__law_row.nd (da_cons (de_lst true da_nil) (da_cons (de_call c__law_pick hr tk (da_cons (de_var 0) (da_cons (de_var 1) (da_cons de_int da_nil)))) da_nil)))
    (dss_consF (ds_set 5 sc__law_row.nd (de_ix hK (de_lst false (da_cons de_int (da_cons de_int (da_cons de_int (da_cons de_int da_nil))))) (de_call c__law_pick hr tk (da_cons (de_var 0) (da_cons (de_add false (de_var 1) de_int) (da_cons de_int da_nil))))))
    (dss_consF (ds_for pw rfl (di_range1 b_range (da_cons (de_call c__law_pick hr tk (da_cons (de_var 0) (da_cons (de_add false (de_var 1) de_int) (da_cons (de_add false (de_var 2) de_int) da_nil)))) da_nil)) (fun _ => (dg_name 6 sc__law_row.nd)) (fun _ le1 => (dss_consF (ds_expr (de_append (de_var 3) (da_cons (de_var 4) da_nil)))
    (dss_one (ds_set 4 sc__law_row.nd (de_add false (de_add false (de_var 4) de_int) (de_call c__law_pick hr (takesLe le1 tk) (da_cons (de_var 0) (da_cons (de_add false (de_add false (de_var 1) de_int) (de_var 6)) (da_cons (de_var 5) da_nil))))))))))
    (dss_one (ds_ret (de_callTy call_tuple_of lft_tupOf (by rfl) b_tuple (by decide +kernel) (da_cons (de_var 3) da_nil))))))))
    (fun ds G Q E hl h => match ds, hl, h with | [x0, x1, x2], _, h => pure__law_row p x0 x1 x2 G Q E h)

theorem sc__law_copied_r2 : FnScope ["_law_thing", "_law_one", "_law_key"] ["_law_thing"] (defScope s__law_copied_r2) := ⟨rfl, rfl, rfl, by decide +kernel, rfl, by decide +kernel, by decide +kernel⟩
theorem ok__law_copied_r2 {f : Addr} {fd : FuncData} (F : Fun K "_law_copied" "_law_copied" s__law_copied_r2 f fd) (hK : K = p.K) (b_dict : mg "dict" = none) (b_isinstance : mg "isinstance" = none) (b_list : mg "list" = none) (b_tuple : mg "tuple" = none) (c__law_copied_r1 : Cal P w K mg base p "_law_copied" 2 1 (sp__law_copied_r1 p)) :
    FnOk P w K mg base (L2N.CX P w) 3 f fd ["_law_thing"] (liftSp p 1 (sp__law_copied_r2 p)) :=
  fn_ok (t := fun W => t__law_copied_r2 p W) F sc__law_copied_r2 (fun cdv A outer s H E B W hr tk pw =>
    (dss_cons (ds_if (dt_val (de_isi (T := "list") hK b_isinstance b_list (by decide +kernel) (de_var 0))) (dss_one (ds_ret (de_lcC false rfl sc__law_copied_r2.nd (dic_seq (de_var 0)) (blkOk_by (own := [("_law_one", 1)]) (by show blkC ["_law_thing", "_law_one", "_law_key"] (defScope s__law_copied_r2) _ _ = true; decide +kernel)) (fun _ _ _ _ _ => (pg_name (i := 1) sc__law_copied_r2.nd rfl (by first | exact Or.inl rfl | exact Or.inr rfl))) (mono_name _) (tg_name 1) (fun _ _ _ _ _ => dts_nil) (fun _ _ _ _ _ => de_any fun _ => (de_call c__law_copied_r1 hr takesNo (da_cons (de_var 1) da_nil)))))) dss_nil)
    (dss_cons (ds_if (dt_val (de_isi (T := "tuple") hK b_isinstance b_tuple (by decide +kernel) (de_var 0))) (dss_one (ds_ret (de_callTy call_tuple_of lft_tupOf (by rfl) b_tuple (by decide +kernel) (da_cons (de_lcC false rfl sc__law_copied_r2.nd (dic_seq (de_var 0)) (blkOk_by (own := [("_law_one", 1)]) (by show blkC ["_law_thing", "_law_one", "_law_key"] (defScope s__law_copied_r2) _ _ = true; decide +kernel)) (fun _ _ _ _ _ => (pg_name (i := 1) sc__law_copied_r2.nd rfl (by first | exact Or.inl rfl | exact Or.inr rfl))) (mono_name _) (tg_name 1) (fun _ _ _ _ _ => dts_nil) (fun _ _ _ _ _ => de_any fun _ => (de_call c__law_copied_r1 hr takesNo (da_cons (de_var 1) da_nil)))) da_nil)))) dss_nil)
    (dss_cons (ds_if (dt_val (de_isi (T := "dict") hK b_isinstance b_dict (by decide +kernel) (de_var 0))) dss_bad dss_nil)
    (dss_one (ds_ret (de_var 0)))))))
    (fun ds G Q E hl h => match ds, hl, h with | [x0], _, h => pure__law_copied_r2 p x0 G Q E h)

theorem sc__law_spoil_r2 : FnScope ["_law_thing", "_law_one", "_law_key"] ["_law_thing"] (defScope s__law_spoil_r2) := ⟨rfl, rfl, rfl, by decide +kernel, rfl, by decide +kernel, by decide +kernel⟩
theorem ok__law_spoil_r2 {f : Addr} {fd : FuncData} (F : Fun K "_law_spoil" "_law_spoil" s__law_spoil_r2 f fd) (hK : K = p.K) (b_dict : mg "dict" = none) (b_isinstance : mg "isinstance" = none) (b_list : mg "list" = none) (b_tuple : mg "tuple" = none) (c__law_spoil_r1 : Cal P w K mg base p "_law_spoil" 2 1 (sp__law_spoil_r1 p)) :
    FnOk P w K mg base (L2N.CX P w) 3 f fd ["_law_thing"] (liftSp p 1 (sp__law_spoil_r2 p)) :=
  fn_ok (t := fun W => t__law_spoil_r2 p W) F sc__law_spoil_r2 (fun cdv A outer s H E B W hr tk pw =>
    (dss_consF (ds_if (dt_val (de_isi2 (T := "list") (U := "tuple") hK b_isinstance b_list b_tuple (by decide +kernel) (by decide +kernel) (de_var 0))) (dss_one (ds_forL pw rfl (dil_seq (de_var 0)) (fun _ => (dg_name 1 sc__law_spoil_r2.nd)) (fun _ le1 => (dss_one (ds_expr (de_call c__law_spoil_r1 hr (takesLe le1 tk) (da_cons (de_var 1) da_nil))))))) dss_nil)
    (dss_consF (ds_if (dt_val (de_isi (T := "dict") hK b_isinstance b_dict (by decide +kernel) (de_var 0))) dss_bad dss_nil)
    (dss_one (ds_if (dt_val (de_isi (T := "list") hK b_isinstance b_list (by decide +kernel) (de_var 0))) (dss_consF (ds_expr (de_append (de_var 0) (da_cons de_non da_nil)))
    (dss_one (ds_expr (de_reverse (de_var 0))))) dss_nil)))))
    (fun ds G Q E hl h => match ds, hl, h with | [x0], _, h => pure__law_spoil_r2 p x0 G Q E h)

theorem sc_counted : FnScope ["row", "start", "length"] ["row", "start", "length"] (defScope s_counted) := ⟨rfl, rfl, rfl, by decide +kernel, rfl, by decide +kernel, by decide +kernel⟩
theorem ok_counted {f : Addr} {fd : FuncData} (F : Fun K "counted" "counted" s_counted f fd) (hK : K = p.K) (b_len : mg "len" = none) (c_look_row : Cal P w K mg base p "look_row" 3 1 (sp_look_row p)) (c_look_gate : Cal P w K mg base p "look_gate" 2 2 (sp_look_gate p)) (c_in_gate : Cal P w K mg base p "in_gate" 1 3 (sp_in_gate p)) :
    FnOk P w K mg base (L2N.CX P w) 4 f fd ["row", "start", "length"] (liftSp p 3 (sp_counted p)) :=
  fn_ok (t := fun W => t_counted p W) F sc_counted (fun cdv A outer s H E B W hr tk pw =>
    (dss_cons (ds_expr (de_call c_look_row hr tk (da_cons (de_var 0) da_nil)))
    (dss_cons (ds_expr (de_call c_look_gate hr tk (da_cons (de_var 1) (da_cons (de_var 2) da_nil))))
    (dss_one (ds_ret (de_callB call_len (by exact (hK ▸ lft_len)) (by rfl) b_len PySem.boot_len (da_cons (de_call c_in_gate hr tk (da_cons (de_var 0) (da_cons (de_var 1) (da_cons (de_var 2) da_nil)))) da_nil)))))))
    (fun ds G Q E hl h => match ds, hl, h with | [x0, x1, x2], _, h => pure_counted p x0 x1 x2 G Q E h)

theorem sc_gaps_n : FnScope ["row", "one", "other"] ["row"] (defScope s_gaps_n) := ⟨rfl, rfl, rfl, by decide +kernel, rfl, by decide +kernel, by decide +kernel⟩
theorem ok_gaps_n {f : Addr} {fd : FuncData} (F : Fun K "gaps" "gaps" s_gaps_n f fd) (hK : K = p.K) (b_zip : mg "zip" = none) (c_look_row : Cal P w K mg base p "look_row" 3 1 (sp_look_row p)) :
    FnOk P w K mg base (L2N.CX P w) 4 f fd ["row"] (liftSp p 1 (sp_gaps_n p)) :=
  fn_ok (t := fun W => t_gaps_n p W) F sc_gaps_n (fun cdv A outer s H E B W hr tk pw =>
    (dss_cons (ds_expr (de_call c_look_row hr tk (da_cons (de_var 0) da_nil)))
    (dss_one (ds_ret (de_lc true rfl sc_gaps_n.nd (di_zip b_zip (da_cons (de_var 0) (da_cons (de_slice false (de_var 0) (do_some de_int) do_none) da_nil))) (blkOk_by (own := [("one", 1), ("other", 2)]) (by show blkC ["row", "one", "other"] (defScope s_gaps_n) _ _ = true; decide +kernel)) (fun _ _ _ _ _ => (pg_tup rfl (pgs_cons (pg_name (i := 1) sc_gaps_n.nd rfl (by first | exact Or.inl rfl | exact Or.inr rfl)) (pgs_cons (pg_name (i := 2) sc_gaps_n.nd rfl (by first | exact Or.inl rfl | exact Or.inr rfl)) pgs_nil)))) (mono_tup (mono_cons (mono_name _) (mono_cons (mono_name _) mono_nil))) (tg_tup (tgs_cons (mono_name _) (mono_cons (mono_name _) mono_nil) (tg_name 1) (tgs_cons (mono_name _) mono_nil (tg_name 2) tgs_nil))) (fun _ _ _ _ _ => dts_nil) (fun _ _ _ _ _ => de_any fun _ => (de_sub (de_var 2) (de_var 1))))))))
    (fun ds G Q E hl h => match ds, hl, h with | [x0], _, h => pure_gaps_n p x0 G Q E h)

theorem sc_in_gates_n : FnScope ["row", "start", "length", "dead", "many"] ["row", "start", "length", "dead", "many"] (defScope s_in_gates_n) := ⟨rfl, rfl, rfl, by decide +kernel, rfl, by decide +kernel, by decide +kernel⟩
theorem ok_in_gates_n {f : Addr} {fd : FuncData} (F : Fun K "in_gates" "in_gates" s_in_gates_n f fd) (hK : K = p.K) (c_look_row : Cal P w K mg base p "look_row" 3 1 (sp_look_row p)) (c_look_gates : Cal P w K mg base p "look_gates" 3 4 (sp_look_gates p)) (c_counts_of_n : Cal P w K mg base p "counts_of" 2 5 (sp_counts_of_n p)) :
    FnOk P w K mg base (L2N.CX P w) 4 f fd ["row", "start", "length", "dead", "many"] (liftSp p 5 (sp_in_gates_n p)) :=
  fn_ok (t := fun W => t_in_gates_n p W) F sc_in_gates_n (fun cdv A outer s H E B W hr tk pw =>
    (dss_cons (ds_expr (de_call c_look_row hr tk (da_cons (de_var 0) da_nil)))
    (dss_cons (ds_expr (de_call c_look_gates hr tk (da_cons (de_var 1) (da_cons (de_var 2) (da_cons (de_var 3) (da_cons (de_var 4) da_nil))))))
    (dss_one (ds_ret (de_call c_counts_of_n hr tk (da_cons (de_var 0) (da_cons (de_var 1) (da_cons (de_var 2) (da_cons (de_var 3) (da_cons (de_var 4) da_nil)))))))))))
    (fun ds G Q E hl h => match ds, hl, h with | [x0, x1, x2, x3, x4], _, h => pure_in_gates_n p x0 x1 x2 x3 x4 G Q E h)

theorem sc_lost_n : FnScope ["row", "start", "length", "dead", "many", "whole"] ["row", "start", "length", "dead", "many"] (defScope s_lost_n) := ⟨rfl, rfl, rfl, by decide +kernel, rfl, by decide +kernel, by decide +kernel⟩
theorem ok_lost_n {f : Addr} {fd : FuncData} (F : Fun K "lost" "lost" s_lost_n f fd) (hK : K = p.K) (b_len : mg "len" = none) (b_sum : mg "sum" = none) (c_look_row : Cal P w K mg base p "look_row" 3 1 (sp_look_row p)) (c_look_gates : Cal P w K mg base p "look_gates" 3 4 (sp_look_gates p)) (c_in_gate : Cal P w K mg base p "in_gate" 1 3 (sp_in_gate p)) (c_counts_of_n : Cal P w K mg base p "counts_of" 2 5 (sp_counts_of_n p)) :
    FnOk P w K mg base (L2N.CX P w) 4 f fd ["row", "start", "length", "dead", "many"] (liftSp p 5 (sp_lost_n p)) :=
  fn_ok (t := fun W => t_lost_n p W) F sc_lost_n (fun cdv A outer s H E B W hr tk pw =>
    (dss_cons (ds_expr (de_call c_look_row hr tk (da_cons (de_var 0) da_nil)))
    (dss_cons (ds_expr (de_call c_look_gates hr tk (da_cons (de_var 1) (da_cons (de_var 2) (da_cons (de_var 3) (da_cons (de_var 4) da_nil))))))
    (dss_cons (ds_set 5 sc_lost_n.nd (de_add false (de_mul false (de_var 4) (de_var 2)) (de_mul false (de_sub (de_var 4) de_int) (de_var 3))))
    (dss_one (ds_ret (de_sub (de_callB call_len (by exact (hK ▸ lft_len)) (by rfl) b_len PySem.boot_len (da_cons (de_call c_in_gate hr tk (da_cons (de_var 0) (da_cons (de_var 1) (da_cons (de_var 5) da_nil)))) da_nil)) (de_callB (DLMax.cr_sumA rfl) lft_sum (by rfl) b_sum (by decide +kernel) (da_cons (de_call c_counts_of_n hr tk (da_cons (de_var 0) (da_cons (de_var 1) (da_cons (de_var 2) (da_cons (de_var 3) (da_cons (de_var 4) da_nil)))))) da_nil)))))))))
    (fun ds G Q E hl h => match ds, hl, h with | [x0, x1, x2, x3, x4], _, h => pure_lost_n p x0 x1 x2 x3 x4 G Q E h)

theorem sc_Counter___init__ : FnScope ["self", "start", "length", "dead", "many"] ["self", "start", "length", "dead", "many"] (defScope s_Counter___init__) := ⟨rfl, rfl, rfl, by decide +kernel, rfl, by decide +kernel, by decide +kernel⟩
theorem ok_Counter___init__ {f : Addr} {fd : FuncData} (F : Fun K "__init__" "Counter.__init__" s_Counter___init__ f fd) (hK : K = p.K) (c_look_gates : Cal P w K mg base p "look_gates" 3 4 (sp_look_gates p)) (c_starts_of : Cal P w K mg base p "starts_of" 1 4 (sp_starts_of p)) (cl_Counter : Cls p.K (p.ca "Counter")) (na_found : NoAttr p.K (p.ca "Counter") "found") (na_gone : NoAttr p.K (p.ca "Counter") "gone") (na_length : NoAttr p.K (p.ca "Counter") "length") (na_next : NoAttr p.K (p.ca "Counter") "next") (na_starts : NoAttr p.K (p.ca "Counter") "starts") :
    FnOk P w K mg base (L2N.CX P w) 4 f fd ["self", "start", "length", "dead", "many"] (liftSp p 5 (sp_Counter___init__ p)) :=
  fn_ok (t := fun W => t_Counter___init__ p W) F sc_Counter___init__ (fun cdv A outer s H E B W hr tk pw =>
    (dss_cons (ds_expr (de_call c_look_gates hr tk (da_cons (de_var 1) (da_cons (de_var 2) (da_cons (de_var 3) (da_cons (de_var 4) da_nil))))))
    (dss_cons (ds_fset hK cl_Counter na_starts (de_var 0) (de_call c_starts_of hr tk (da_cons (de_var 1) (da_cons (de_var 2) (da_cons (de_var 3) (da_cons (de_var 4) da_nil))))))
    (dss_cons (ds_fset hK cl_Counter na_length (de_var 0) (de_var 2))
    (dss_cons (ds_fset hK cl_Counter na_found (de_var 0) (de_mul true (de_lst false (da_cons de_int da_nil)) (de_var 4)))
    (dss_cons (ds_fset hK cl_Counter na_gone (de_var 0) de_int)
    (dss_one (ds_fset hK cl_Counter na_next (de_var 0) de_int))))))))
    (fun ds G Q E hl h => match ds, hl, h with | [x0, x1, x2, x3, x4], _, h => pure_Counter___init__ p x0 x1 x2 x3 x4 G Q E h)

theorem sc_Counter_go_on_n : FnScope ["self", "ticks", "row", "is_number", "one", "made"] ["self", "ticks", "row"] (defScope s_Counter_go_on_n) := ⟨rfl, rfl, rfl, by decide +kernel, rfl, by decide +kernel, by decide +kernel⟩
theorem ok_Counter_go_on_n {f : Addr} {fd : FuncData} (F : Fun K "go_on" "Counter.go_on" s_Counter_go_on_n f fd) (hK : K = p.K) (b_all : mg "all" = none) (b_bool : mg "bool" = none) (b_int : mg "int" = none) (b_isinstance : mg "isinstance" = none) (b_len : mg "len" = none) (g_LAST : ∃ t, mg "LAST" = some (.int 9999 t)) (e_NoGate : ExcF K mg p "NoGate" .gate) (e_NoRow : ExcF K mg p "NoRow" .row) (c_look_row : Cal P w K mg base p "look_row" 3 1 (sp_look_row p)) (c_is_whole : Cal P w K mg base p "is_whole" 1 3 (sp_is_whole p)) (c_Counter_beat : CalM P w K mg base p "Counter" "beat" 1 2 (sp_Counter_beat p)) (cl_Counter : Cls p.K (p.ca "Counter")) (na_found : NoAttr p.K (p.ca "Counter") "found") (na_gone : NoAttr p.K (p.ca "Counter") "gone") (na_length : NoAttr p.K (p.ca "Counter") "length") (na_next : NoAttr p.K (p.ca "Counter") "next") (na_starts : NoAttr p.K (p.ca "Counter") "starts") :
    FnOk P w K mg base (L2N.CX P w) 4 f fd ["self", "ticks", "row"] (liftSp p 3 (sp_Counter_go_on_n p)) :=
  fn_ok (t := fun W => t_Counter_go_on_n p W) F sc_Counter_go_on_n (fun cdv A outer s H E B W hr tk pw =>
    (dss_consF (ds_expr (de_call c_look_row hr tk (da_cons (de_var 2) da_nil)))
    (dss_consF (ds_set 3 sc_Counter_go_on_n.nd (de_and (de_isi (T := "int") hK b_isinstance b_int (by decide +kernel) (de_var 1)) (de_one (de_not (de_isi (T := "bool") hK b_isinstance b_bool (by decide +kernel) (de_var 1))))))
    (dss_consF (ds_if (PW.pt (dw_and (dt_val (de_var 3)) (dw_and1 (dt_not (dt_val (de_callB (cr_all rfl) lft_all (by rfl) b_all (by decide +kernel) (da_cons (de_lc false rfl sc_Counter_go_on_n.nd (di_seq (de_var 2)) (blkOk_by (own := [("one", 4)]) (by show blkC ["self", "ticks", "row", "is_number", "one", "made"] (defScope s_Counter_go_on_n) _ _ = true; decide +kernel)) (fun _ _ _ _ _ => (pg_name (i := 4) sc_Counter_go_on_n.nd rfl (by first | exact Or.inl rfl | exact Or.inr rfl))) (mono_name _) (tg_name 4) (fun _ _ _ _ _ => dts_nil) (fun _ _ _ _ _ => de_any fun _ => (de_lt (de_var 4) (de_var 1)))) da_nil))))))) (dss_one (ds_raise e_NoRow rfl tk)) dss_nil)
    (dss_consF (ds_if (dt_not (dt_val (de_call c_is_whole hr tk (da_cons (de_var 1) (da_cons de_int (da_cons (de_globI rfl g_LAST.choose_spec) da_nil)))))) (dss_one (ds_raise e_NoGate rfl tk)) dss_nil)
    (dss_consF (ds_for pw rfl (di_seq (de_var 2)) (fun _ => (dg_name 4 sc_Counter_go_on_n.nd)) (fun _ le1 => (dss_one (ds_expr (de_meth c_Counter_beat hr (takesLe le1 tk) (de_var 0) (da_cons (de_add false (de_fld hK cl_Counter na_gone (de_var 0)) (de_var 4)) da_nil))))))
    (dss_consF (ds_fset hK cl_Counter na_gone (de_var 0) (de_add false (de_fld hK cl_Counter na_gone (de_var 0)) (de_var 1)))
    (dss_consF (ds_set 5 sc_Counter_go_on_n.nd (de_lst true da_nil))
    (dss_consF (ds_while pw (PW.pt (dw_and (dt_lt (de_fld hK cl_Counter na_next (de_var 0)) (de_callB call_len (by exact (hK ▸ lft_len)) (by rfl) b_len PySem.boot_len (da_cons (de_fld hK cl_Counter na_starts (de_var 0)) da_nil))) (dw_and1 (dt_le (de_add false (de_ix hK (de_fld hK cl_Counter na_starts (de_var 0)) (de_fld hK cl_Counter na_next (de_var 0))) (de_fld hK cl_Counter na_length (de_var 0))) (de_fld hK cl_Counter na_gone (de_var 0)))))) (dss_consF (ds_expr (de_append (de_var 5) (da_cons (de_tup (da_cons (de_fld hK cl_Counter na_next (de_var 0)) (da_cons (de_ix hK (de_fld hK cl_Counter na_found (de_var 0)) (de_fld hK cl_Counter na_next (de_var 0))) da_nil))) da_nil)))
    (dss_one (ds_fset hK cl_Counter na_next (de_var 0) (de_add false (de_fld hK cl_Counter na_next (de_var 0)) de_int)))))
    (dss_one (ds_ret (de_var 5))))))))))))
    (fun ds G Q E hl h => match ds, hl, h with | [x0, x1, x2], _, h => pure_Counter_go_on_n p x0 x1 x2 G Q E h)

theorem sc_to_next_n : FnScope ["one", "other"] ["one", "other"] (defScope s_to_next_n) := ⟨rfl, rfl, rfl, by decide +kernel, rfl, by decide +kernel, by decide +kernel⟩
theorem ok_to_next_n {f : Addr} {fd : FuncData} (F : Fun K "to_next" "to_next" s_to_next_n f fd) (hK : K = p.K) (c_look_row : Cal P w K mg base p "look_row" 3 1 (sp_look_row p)) (c_waits_n : Cal P w K mg base p "waits" 1 2 (sp_waits_n p)) :
    FnOk P w K mg base (L2N.CX P w) 4 f fd ["one", "other"] (liftSp p 2 (sp_to_next_n p)) :=
  fn_ok (t := fun W => t_to_next_n p W) F sc_to_next_n (fun cdv A outer s H E B W hr tk pw =>
    (dss_cons (ds_expr (de_call c_look_row hr tk (da_cons (de_var 0) da_nil)))
    (dss_cons (ds_expr (de_call c_look_row hr tk (da_cons (de_var 1) da_nil)))
    (dss_one (ds_ret (de_call c_waits_n hr tk (da_cons (de_var 0) (da_cons (de_var 1) da_nil))))))))
    (fun ds G Q E hl h => match ds, hl, h with | [x0, x1], _, h => pure_to_next_n p x0 x1 G Q E h)

theorem sc_between_n : FnScope ["one", "other", "here", "behind", "there"] ["one", "other"] (defScope s_between_n) := ⟨rfl, rfl, rfl, by decide +kernel, rfl, by decide +kernel, by decide +kernel⟩
theorem ok_between_n {f : Addr} {fd : FuncData} (F : Fun K "between" "between" s_between_n f fd) (hK : K = p.K) (b_len : mg "len" = none) (b_zip : mg "zip" = none) (c_look_row : Cal P w K mg base p "look_row" 3 1 (sp_look_row p)) :
    FnOk P w K mg base (L2N.CX P w) 4 f fd ["one", "other"] (liftSp p 2 (sp_between_n p)) :=
  fn_ok (t := fun W => t_between_n p W) F sc_between_n (fun cdv A outer s H E B W hr tk pw =>
    (dss_cons (ds_expr (de_call c_look_row hr tk (da_cons (de_var 0) da_nil)))
    (dss_cons (ds_expr (de_call c_look_row hr tk (da_cons (de_var 1) da_nil)))
    (dss_one (ds_ret (de_lc true rfl sc_between_n.nd (di_zip b_zip (da_cons (de_var 0) (da_cons (de_slice false (de_var 0) (do_some de_int) do_none) da_nil))) (blkOk_by (own := [("here", 2), ("behind", 3)]) (by show blkC ["one", "other", "here", "behind", "there"] (defScope s_between_n) _ _ = true; decide +kernel)) (fun _ _ _ _ _ => (pg_tup rfl (pgs_cons (pg_name (i := 2) sc_between_n.nd rfl (by first | exact Or.inl rfl | exact Or.inr rfl)) (pgs_cons (pg_name (i := 3) sc_between_n.nd rfl (by first | exact Or.inl rfl | exact Or.inr rfl)) pgs_nil)))) (mono_tup (mono_cons (mono_name _) (mono_cons (mono_name _) mono_nil))) (tg_tup (tgs_cons (mono_name _) (mono_cons (mono_name _) mono_nil) (tg_name 2) (tgs_cons (mono_name _) mono_nil (tg_name 3) tgs_nil))) (fun _ _ _ _ _ => dts_nil) (fun _ _ _ _ _ => de_any fun _ => (de_callB call_len (by exact (hK ▸ lft_len)) (by rfl) b_len PySem.boot_len (da_cons (de_lc false rfl sc_between_n.nd (di_seq (de_var 1)) (blkOk_by (own := [("there", 4)]) (by show blkC ["one", "other", "here", "behind", "there"] (relS _ (defScope s_between_n)) _ _ = true; decide +kernel)) (fun _ _ _ _ _ => (pg_name (i := 4) sc_between_n.nd rfl (by first | exact Or.inl rfl | exact Or.inr rfl))) (mono_name _) (tg_name 4) (fun _ _ _ _ _ => (dts_one fun _ => (dt_chain op_le op_lt Lft2.bl0 Lft2.bl0 (de_var 2) (de_var 4) (de_var 3)))) (fun _ _ _ _ _ => de_any fun _ => (de_var 4))) da_nil)))))))))
    (fun ds G Q E hl h => match ds, hl, h with | [x0, x1], _, h => pure_between_n p x0 x1 G Q E h)

theorem sc_steady : FnScope ["phase", "period", "many", "made"] ["phase", "period", "many"] (defScope s_steady) := ⟨rfl, rfl, rfl, by decide +kernel, rfl, by decide +kernel, by decide +kernel⟩
theorem ok_steady {f : Addr} {fd : FuncData} (F : Fun K "steady" "steady" s_steady f fd) (hK : K = p.K) (g_LAST : ∃ t, mg "LAST" = some (.int 9999 t)) (g_MOST : ∃ t, mg "MOST" = some (.int 40 t)) (e_NoPeriod : ExcF K mg p "NoPeriod" .period) (c_is_fraction : Cal P w K mg base p "is_fraction" 2 1 (sp_is_fraction p)) (c_look_period : Cal P w K mg base p "look_period" 3 1 (sp_look_period p)) (c_is_whole : Cal P w K mg base p "is_whole" 1 3 (sp_is_whole p)) (c_ticks_of : Cal P w K mg base p "ticks_of" 1 3 (sp_ticks_of p)) (c_is_row : Cal P w K mg base p "is_row" 2 1 (sp_is_row p)) :
    FnOk P w K mg base (L2N.CX P w) 4 f fd ["phase", "period", "many"] (liftSp p 3 (sp_steady p)) :=
  fn_ok (t := fun W => t_steady p W) F sc_steady (fun cdv A outer s H E B W hr tk pw =>
    (dss_cons (ds_if (PW.pt (dw_or (dt_not (dt_val (de_call c_is_fraction hr tk (da_cons (de_var 0) da_nil)))) (dw_or1 (dt_not (dt_chain op_le op_lt Lft2.bl0 Lft2.bl0 de_int (de_ix hK (de_var 0) de_int) (de_mul false (de_globI rfl g_LAST.choose_spec) (de_ix hK (de_var 0) de_int))))))) (dss_one (ds_raise e_NoPeriod rfl tk)) dss_nil)
    (dss_cons (ds_expr (de_call c_look_period hr tk (da_cons (de_var 1) da_nil)))
    (dss_cons (ds_if (dt_not (dt_val (de_call c_is_whole hr tk (da_cons (de_var 2) (da_cons de_int (da_cons (de_globI rfl g_MOST.choose_spec) da_nil)))))) (dss_one (ds_raise e_NoPeriod rfl tk)) dss_nil)
    (dss_cons (ds_set 3 sc_steady.nd (de_call c_ticks_of hr tk (da_cons (de_var 0) (da_cons (de_var 1) (da_cons (de_var 2) da_nil)))))
    (dss_cons (ds_if (dt_not (dt_val (de_call c_is_row hr tk (da_cons (de_var 3) da_nil)))) (dss_one (ds_raise e_NoPeriod rfl tk)) dss_nil)
    (dss_one (ds_ret (de_var 3)))))))))
    (fun ds G Q E hl h => match ds, hl, h with | [x0, x1, x2], _, h => pure_steady p x0 x1 x2 G Q E h)

theorem sc_can_count_n : FnScope ["period", "length", "low"] ["period", "length"] (defScope s_can_count_n) := ⟨rfl, rfl, rfl, by decide +kernel, rfl, by decide +kernel, by decide +kernel⟩
theorem ok_can_count_n {f : Addr} {fd : FuncData} (F : Fun K "can_count" "can_count" s_can_count_n f fd) (hK : K = p.K) (c_look_gate : Cal P w K mg base p "look_gate" 2 2 (sp_look_gate p)) (c_look_period : Cal P w K mg base p "look_period" 3 1 (sp_look_period p)) :
    FnOk P w K mg base (L2N.CX P w) 4 f fd ["period", "length"] (liftSp p 2 (sp_can_count_n p)) :=
  fn_ok (t := fun W => t_can_count_n p W) F sc_can_count_n (fun cdv A outer s H E B W hr tk pw =>
    (dss_cons (ds_expr (de_call c_look_gate hr tk (da_cons de_int (da_cons (de_var 1) da_nil))))
    (dss_cons (ds_expr (de_call c_look_period hr tk (da_cons (de_var 0) da_nil)))
    (dss_cons (ds_set 2 sc_can_count_n.nd (de_fdiv (de_mul false (de_var 1) (de_ix hK (de_var 0) de_int)) (de_ix hK (de_var 0) de_int)))
    (dss_one (ds_ret (de_if (dt_eq hr hK (de_mul false (de_var 2) (de_ix hK (de_var 0) de_int)) (de_mul false (de_var 1) (de_ix hK (de_var 0) de_int))) (de_lst true (da_cons (de_var 2) da_nil)) (de_lst true (da_cons (de_var 2) (da_cons (de_add false (de_var 2) de_int) da_nil))))))))))
    (fun ds G Q E hl h => match ds, hl, h with | [x0, x1], _, h => pure_can_count_n p x0 x1 G Q E h)

theorem sc_bounds : FnScope ["row"] ["row"] (defScope s_bounds) := ⟨rfl, rfl, rfl, by decide +kernel, rfl, by decide +kernel, by decide +kernel⟩
theorem ok_bounds {f : Addr} {fd : FuncData} (F : Fun K "bounds" "bounds" s_bounds f fd) (hK : K = p.K) (c_look_row : Cal P w K mg base p "look_row" 3 1 (sp_look_row p)) (c_bounds_of : Cal P w K mg base p "bounds_of" 2 1 (sp_bounds_of p)) :
    FnOk P w K mg base (L2N.CX P w) 4 f fd ["row"] (liftSp p 1 (sp_bounds p)) :=
  fn_ok (t := fun W => t_bounds p W) F sc_bounds (fun cdv A outer s H E B W hr tk pw =>
    (dss_cons (ds_expr (de_call c_look_row hr tk (da_cons (de_var 0) da_nil)))
    (dss_one (ds_ret (de_call c_bounds_of hr tk (da_cons (de_var 0) da_nil))))))
    (fun ds G Q E hl h => match ds, hl, h with | [x0], _, h => pure_bounds p x0 G Q E h)

theorem sc_simplest : FnScope ["row"] ["row"] (defScope s_simplest) := ⟨rfl, rfl, rfl, by decide +kernel, rfl, by decide +kernel, by decide +kernel⟩
theorem ok_simplest {f : Addr} {fd : FuncData} (F : Fun K "simplest" "simplest" s_simplest f fd) (hK : K = p.K) (c_look_row : Cal P w K mg base p "look_row" 3 1 (sp_look_row p)) (c_simplest_of : Cal P w K mg base p "simplest_of" 3 1 (sp_simplest_of p)) :
    FnOk P w K mg base (L2N.CX P w) 4 f fd ["row"] (liftSp p 1 (sp_simplest p)) :=
  fn_ok (t := fun W => t_simplest p W) F sc_simplest (fun cdv A outer s H E B W hr tk pw =>
    (dss_cons (ds_expr (de_call c_look_row hr tk (da_cons (de_var 0) da_nil)))
    (dss_one (ds_ret (de_call c_simplest_of hr tk (da_cons (de_var 0) da_nil))))))
    (fun ds G Q E hl h => match ds, hl, h with | [x0], _, h => pure_simplest p x0 G Q E h)

theorem sc_phase_for : FnScope ["row", "period", "made", "at", "one", "here"] ["row"] (defScope s_phase_for) := ⟨rfl, rfl, rfl, by decide +kernel, rfl, by decide +kernel, by decide +kernel⟩
theorem ok_phase_for {f : Addr} {fd : FuncData} (F : Fun K "phase_for" "phase_for" s_phase_for f fd) (hK : K = p.K) (b_enumerate : mg "enumerate" = none) (c_look_row : Cal P w K mg base p "look_row" 3 1 (sp_look_row p)) (c_simplest_of : Cal P w K mg base p "simplest_of" 3 1 (sp_simplest_of p)) (c_share : Cal P w K mg base p "share" 1 2 (sp_share p)) (c_is_less : Cal P w K mg base p "is_less" 1 2 (sp_is_less p)) :
    FnOk P w K mg base (L2N.CX P w) 4 f fd ["row"] (liftSp p 1 (sp_phase_for p)) :=
  fn_ok (t := fun W => t_phase_for p W) F sc_phase_for (fun cdv A outer s H E B W hr tk pw =>
    (dss_cons (ds_expr (de_call c_look_row hr tk (da_cons (de_var 0) da_nil)))
    (dss_cons (ds_set 1 sc_phase_for.nd (de_call c_simplest_of hr tk (da_cons (de_var 0) da_nil)))
    (dss_cons (ds_if (dt_isN (de_var 1) de_non) (dss_one (ds_ret de_non)) dss_nil)
    (dss_cons (ds_set 2 sc_phase_for.nd (de_tup (da_cons (de_ix hK (de_var 0) de_int) (da_cons de_int da_nil))))
    (dss_cons (ds_for pw rfl (di_enum b_enumerate (da_cons (de_var 0) da_nil)) (fun _ => (dg_tup rfl (dgs_cons (dg_name 3 sc_phase_for.nd) (dgs_cons (dg_name 4 sc_phase_for.nd) dgs_nil)))) (fun _ le1 => (dss_cons (ds_set 5 sc_phase_for.nd (de_call c_share hr (takesLe le1 tk) (da_cons (de_sub (de_mul false (de_var 4) (de_ix hK (de_var 1) de_int)) (de_mul false (de_var 3) (de_ix hK (de_var 1) de_int))) (da_cons (de_ix hK (de_var 1) de_int) da_nil))))
    (dss_one (ds_set 2 sc_phase_for.nd (de_if (dt_val (de_call c_is_less hr (takesLe le1 tk) (da_cons (de_var 2) (da_cons (de_var 5) da_nil)))) (de_var 5) (de_var 2)))))))
    (dss_one (ds_ret (de_var 2)))))))))
    (fun ds G Q E hl h => match ds, hl, h with | [x0], _, h => pure_phase_for p x0 G Q E h)

theorem sc_by_count : FnScope ["row", "start", "length", "many"] ["row", "start", "length"] (defScope s_by_count) := ⟨rfl, rfl, rfl, by decide +kernel, rfl, by decide +kernel, by decide +kernel⟩
theorem ok_by_count {f : Addr} {fd : FuncData} (F : Fun K "by_count" "by_count" s_by_count f fd) (hK : K = p.K) (b_len : mg "len" = none) (b_max : mg "max" = none) (c_look_row : Cal P w K mg base p "look_row" 3 1 (sp_look_row p)) (c_look_gate : Cal P w K mg base p "look_gate" 2 2 (sp_look_gate p)) (c_in_gate : Cal P w K mg base p "in_gate" 1 3 (sp_in_gate p)) (c_share : Cal P w K mg base p "share" 1 2 (sp_share p)) :
    FnOk P w K mg base (L2N.CX P w) 4 f fd ["row", "start", "length"] (liftSp p 3 (sp_by_count p)) :=
  fn_ok (t := fun W => t_by_count p W) F sc_by_count (fun cdv A outer s H E B W hr tk pw =>
    (dss_cons (ds_expr (de_call c_look_row hr tk (da_cons (de_var 0) da_nil)))
    (dss_cons (ds_expr (de_call c_look_gate hr tk (da_cons (de_var 1) (da_cons (de_var 2) da_nil))))
    (dss_cons (ds_set 3 sc_by_count.nd (de_callB call_len (by exact (hK ▸ lft_len)) (by rfl) b_len PySem.boot_len (da_cons (de_call c_in_gate hr tk (da_cons (de_var 0) (da_cons (de_var 1) (da_cons (de_var 2) da_nil)))) da_nil)))
    (dss_one (ds_ret (de_tup (da_cons (de_call c_share hr tk (da_cons (de_callB (call_max2 rfl) lft_max2 (by rfl) b_max (by decide +kernel) (da_cons de_int (da_cons (de_sub (de_var 3) de_int) da_nil))) (da_cons (de_var 2) da_nil))) (da_cons (de_call c_share hr tk (da_cons (de_add false (de_var 3) de_int) (da_cons (de_var 2) da_nil))) da_nil)))))))))
    (fun ds G Q E hl h => match ds, hl, h with | [x0, x1, x2], _, h => pure_by_count p x0 x1 x2 G Q E h)

theorem sc_by_time : FnScope ["row", "start", "length"] ["row", "start", "length"] (defScope s_by_time) := ⟨rfl, rfl, rfl, by decide +kernel, rfl, by decide +kernel, by decide +kernel⟩
theorem ok_by_time {f : Addr} {fd : FuncData} (F : Fun K "by_time" "by_time" s_by_time f fd) (hK : K = p.K) (c_look_row : Cal P w K mg base p "look_row" 3 1 (sp_look_row p)) (c_look_gate : Cal P w K mg base p "look_gate" 2 2 (sp_look_gate p)) (c_time_of : Cal P w K mg base p "time_of" 2 3 (sp_time_of p)) :
    FnOk P w K mg base (L2N.CX P w) 4 f fd ["row", "start", "length"] (liftSp p 3 (sp_by_time p)) :=
  fn_ok (t := fun W => t_by_time p W) F sc_by_time (fun cdv A outer s H E B W hr tk pw =>
    (dss_cons (ds_expr (de_call c_look_row hr tk (da_cons (de_var 0) da_nil)))
    (dss_cons (ds_expr (de_call c_look_gate hr tk (da_cons (de_var 1) (da_cons (de_var 2) da_nil))))
    (dss_one (ds_ret (de_call c_time_of hr tk (da_cons (de_var 0) (da_cons (de_var 1) (da_cons (de_var 2) da_nil)))))))))
    (fun ds G Q E hl h => match ds, hl, h with | [x0, x1, x2], _, h => pure_by_time p x0 x1 x2 G Q E h)

theorem sc__law_copied_r3 : FnScope ["_law_thing", "_law_one", "_law_key"] ["_law_thing"] (defScope s__law_copied_r3) := ⟨rfl, rfl, rfl, by decide +kernel, rfl, by decide +kernel, by decide +kernel⟩
theorem ok__law_copied_r3 {f : Addr} {fd : FuncData} (F : Fun K "_law_copied" "_law_copied" s__law_copied_r3 f fd) (hK : K = p.K) (b_dict : mg "dict" = none) (b_isinstance : mg "isinstance" = none) (b_list : mg "list" = none) (b_tuple : mg "tuple" = none) (c__law_copied_r2 : Cal P w K mg base p "_law_copied" 3 1 (sp__law_copied_r2 p)) :
    FnOk P w K mg base (L2N.CX P w) 4 f fd ["_law_thing"] (liftSp p 1 (sp__law_copied_r3 p)) :=
  fn_ok (t := fun W => t__law_copied_r3 p W) F sc__law_copied_r3 (fun cdv A outer s H E B W hr tk pw =>
    (dss_cons (ds_if (dt_val (de_isi (T := "list") hK b_isinstance b_list (by decide +kernel) (de_var 0))) (dss_one (ds_ret (de_lcC false rfl sc__law_copied_r3.nd (dic_seq (de_var 0)) (blkOk_by (own := [("_law_one", 1)]) (by show blkC ["_law_thing", "_law_one", "_law_key"] (defScope s__law_copied_r3) _ _ = true; decide +kernel)) (fun _ _ _ _ _ => (pg_name (i := 1) sc__law_copied_r3.nd rfl (by first | exact Or.inl rfl | exact Or.inr rfl))) (mono_name _) (tg_name 1) (fun _ _ _ _ _ => dts_nil) (fun _ _ _ _ _ => de_any fun _ => (de_call c__law_copied_r2 hr takesNo (da_cons (de_var 1) da_nil)))))) dss_nil)
    (dss_cons (ds_if (dt_val (de_isi (T := "tuple") hK b_isinstance b_tuple (by decide +kernel) (de_var 0))) (dss_one (ds_ret (de_callTy call_tuple_of lft_tupOf (by rfl) b_tuple (by decide +kernel) (da_cons (de_lcC false rfl sc__law_copied_r3.nd (dic_seq (de_var 0)) (blkOk_by (own := [("_law_one", 1)]) (by show blkC ["_law_thing", "_law_one", "_law_key"] (defScope s__law_copied_r3) _ _ = true; decide +kernel)) (fun _ _ _ _ _ => (pg_name (i := 1) sc__law_copied_r3.nd rfl (by first | exact Or.inl rfl | exact Or.inr rfl))) (mono_name _) (tg_name 1) (fun _ _ _ _ _ => dts_nil) (fun _ _ _ _ _ => de_any fun _ => (de_call c__law_copied_r2 hr takesNo (da_cons (de_var 1) da_nil)))) da_nil)))) dss_nil)
    (dss_cons (ds_if (dt_val (de_isi (T := "dict") hK b_isinstance b_dict (by decide +kernel) (de_var 0))) dss_bad dss_nil)
    (dss_one (ds_ret (de_var 0)))))))
    (fun ds G Q E hl h => match ds, hl, h with | [x0], _, h => pure__law_copied_r3 p x0 G Q E h)

theorem sc__law_spoil_r3 : FnScope ["_law_thing", "_law_one", "_law_key"] ["_law_thing"] (defScope s__law_spoil_r3) := ⟨rfl, rfl, rfl, by decide +kernel, rfl, by decide +kernel, by decide +kernel⟩
theorem ok__law_spoil_r3 {f : Addr} {fd : FuncData} (F : Fun K "_law_spoil" "_law_spoil" s__law_spoil_r3 f fd) (hK : K = p.K) (b_dict : mg "dict" = none) (b_isinstance : mg "isinstance" = none) (b_list : mg "list" = none) (b_tuple : mg "tuple" = none) (c__law_spoil_r2 : Cal P w K mg base p "_law_spoil" 3 1 (sp__law_spoil_r2 p)) :
    FnOk P w K mg base (L2N.CX P w) 4 f fd ["_law_thing"] (liftSp p 1 (sp__law_spoil_r3 p)) :=
  fn_ok (t := fun W => t__law_spoil_r3 p W) F sc__law_spoil_r3 (fun cdv A outer s H E B W hr tk pw =>
    (dss_consF (ds_if (dt_val (de_isi2 (T := "list") (U := "tuple") hK b_isinstance b_list b_tuple (by decide +kernel) (by decide +kernel) (de_var 0))) (dss_one (ds_forL pw rfl (dil_seq (de_var 0)) (fun _ => (dg_name 1 sc__law_spoil_r3.nd)) (fun _ le1 => (dss_one (ds_expr (de_call c__law_spoil_r2 hr (takesLe le1 tk) (da_cons (de_var 1) da_nil))))))) dss_nil)
    (dss_consF (ds_if (dt_val (de_isi (T := "dict") hK b_isinstance b_dict (by decide +kernel) (de_var 0))) dss_bad dss_nil)
    (dss_one (ds_if (dt_val (de_isi (T := "list") hK b_isinstance b_list (by decide +kernel) (de_var 0))) (dss_consF (ds_expr (de_append (de_var 0) (da_cons de_non da_nil)))
    (dss_one (ds_expr (de_reverse (de_var 0))))) dss_nil)))))
    (fun ds G Q E hl h => match ds, hl, h with | [x0], _, h => pure__law_spoil_r3 p x0 G Q E h)

theorem sc__law_copied_r4 : FnScope ["_law_thing", "_law_one", "_law_key"] ["_law_thing"] (defScope s__law_copied_r4) := ⟨rfl, rfl, rfl, by decide +kernel, rfl, by decide +kernel, by decide +kernel⟩
theorem ok__law_copied_r4 {f : Addr} {fd : FuncData} (F : Fun K "_law_copied" "_law_copied" s__law_copied_r4 f fd) (hK : K = p.K) (b_dict : mg "dict" = none) (b_isinstance : mg "isinstance" = none) (b_list : mg "list" = none) (b_tuple : mg "tuple" = none) (c__law_copied_r3 : Cal P w K mg base p "_law_copied" 4 1 (sp__law_copied_r3 p)) :
    FnOk P w K mg base (L2N.CX P w) 5 f fd ["_law_thing"] (liftSp p 1 (sp__law_copied_r4 p)) :=
  fn_ok (t := fun W => t__law_copied_r4 p W) F sc__law_copied_r4 (fun cdv A outer s H E B W hr tk pw =>
    (dss_cons (ds_if (dt_val (de_isi (T := "list") hK b_isinstance b_list (by decide +kernel) (de_var 0))) (dss_one (ds_ret (de_lcC false rfl sc__law_copied_r4.nd (dic_seq (de_var 0)) (blkOk_by (own := [("_law_one", 1)]) (by show blkC ["_law_thing", "_law_one", "_law_key"] (defScope s__law_copied_r4) _ _ = true; decide +kernel)) (fun _ _ _ _ _ => (pg_name (i := 1) sc__law_copied_r4.nd rfl (by first | exact Or.inl rfl | exact Or.inr rfl))) (mono_name _) (tg_name 1) (fun _ _ _ _ _ => dts_nil) (fun _ _ _ _ _ => de_any fun _ => (de_call c__law_copied_r3 hr takesNo (da_cons (de_var 1) da_nil)))))) dss_nil)
    (dss_cons (ds_if (dt_val (de_isi (T := "tuple") hK b_isinstance b_tuple (by decide +kernel) (de_var 0))) (dss_one (ds_ret (de_callTy call_tuple_of lft_tupOf (by rfl) b_tuple (by decide +kernel) (da_cons (de_lcC false rfl sc__law_copied_r4.nd (dic_seq (de_var 0)) (blkOk_by (own := [("_law_one", 1)]) (by show blkC ["_law_thing", "_law_one", "_law_key"] (defScope s__law_copied_r4) _ _ = true; decide +kernel)) (fun _ _ _ _ _ => (pg_name (i := 1) sc__law_copied_r4.nd rfl (by first | exact Or.inl rfl | exact Or.inr rfl))) (mono_name _) (tg_name 1) (fun _ _ _ _ _ => dts_nil) (fun _ _ _ _ _ => de_any fun _ => (de_call c__law_copied_r3 hr takesNo (da_cons (de_var 1) da_nil)))) da_nil)))) dss_nil)
    (dss_cons (ds_if (dt_val (de_isi (T := "dict") hK b_isinstance b_dict (by decide +kernel) (de_var 0))) dss_bad dss_nil)
    (dss_one (ds_ret (de_var 0)))))))
    (fun ds G Q E hl h => match ds, hl, h with | [x0], _, h => pure__law_copied_r4 p x0 G Q E h)

theorem sc__law_spoil_r4 : FnScope ["_law_thing", "_law_one", "_law_key"] ["_law_thing"] (defScope s__law_spoil_r4) := ⟨rfl, rfl, rfl, by decide +kernel, rfl, by decide +kernel, by decide +kernel⟩
theorem ok__law_spoil_r4 {f : Addr} {fd : FuncData} (F : Fun K "_law_spoil" "_law_spoil" s__law_spoil_r4 f fd) (hK : K = p.K) (b_dict : mg "dict" = none) (b_isinstance : mg "isinstance" = none) (b_list : mg "list" = none) (b_tuple : mg "tuple" = none) (c__law_spoil_r3 : Cal P w K mg base p "_law_spoil" 4 1 (sp__law_spoil_r3 p)) :
    FnOk P w K mg base (L2N.CX P w) 5 f fd ["_law_thing"] (liftSp p 1 (sp__law_spoil_r4 p)) :=
  fn_ok (t := fun W => t__law_spoil_r4 p W) F sc__law_spoil_r4 (fun cdv A outer s H E B W hr tk pw =>
    (dss_consF (ds_if (dt_val (de_isi2 (T := "list") (U := "tuple") hK b_isinstance b_list b_tuple (by decide +kernel) (by decide +kernel) (de_var 0))) (dss_one (ds_forL pw rfl (dil_seq (de_var 0)) (fun _ => (dg_name 1 sc__law_spoil_r4.nd)) (fun _ le1 => (dss_one (ds_expr (de_call c__law_spoil_r3 hr (takesLe le1 tk) (da_cons (de_var 1) da_nil))))))) dss_nil)
    (dss_consF (ds_if (dt_val (de_isi (T := "dict") hK b_isinstance b_dict (by decide +kernel) (de_var 0))) dss_bad dss_nil)
    (dss_one (ds_if (dt_val (de_isi (T := "list") hK b_isinstance b_list (by decide +kernel) (de_var 0))) (dss_consF (ds_expr (de_append (de_var 0) (da_cons de_non da_nil)))
    (dss_one (ds_expr (de_reverse (de_var 0))))) dss_nil)))))
    (fun ds G Q E hl h => match ds, hl, h with | [x0], _, h => pure__law_spoil_r4 p x0 G Q E h)

theorem sc__law_lists : FnScope ["_law_one", "_law_other", "_law_counts", "_law_made"] ["_law_one", "_law_other", "_law_counts"] (defScope s__law_lists) := ⟨rfl, rfl, rfl, by decide +kernel, rfl, by decide +kernel, by decide +kernel⟩
theorem ok__law_lists {f : Addr} {fd : FuncData} (F : Fun K "_law_lists" "_law_lists" s__law_lists f fd) (hK : K = p.K) (c_gaps_n : Cal P w K mg base p "gaps" 4 1 (sp_gaps_n p)) (c_in_gates_n : Cal P w K mg base p "in_gates" 4 5 (sp_in_gates_n p)) (c_to_next_n : Cal P w K mg base p "to_next" 4 2 (sp_to_next_n p)) (c_between_n : Cal P w K mg base p "between" 4 2 (sp_between_n p)) (c_can_count_n : Cal P w K mg base p "can_count" 4 2 (sp_can_count_n p)) (c_counted : Cal P w K mg base p "counted" 4 3 (sp_counted p)) (c_by_count : Cal P w K mg base p "by_count" 4 3 (sp_by_count p)) (c_by_time : Cal P w K mg base p "by_time" 4 3 (sp_by_time p)) (c_lost_n : Cal P w K mg base p "lost" 4 5 (sp_lost_n p)) (c_mean : Cal P w K mg base p "mean" 3 1 (sp_mean p)) (c_spread : Cal P w K mg base p "spread" 3 1 (sp_spread p)) (c_bounds : Cal P w K mg base p "bounds" 4 1 (sp_bounds p)) (c_simplest : Cal P w K mg base p "simplest" 4 1 (sp_simplest p)) (c_phase_for : Cal P w K mg base p "phase_for" 4 1 (sp_phase_for p)) (c_steady : Cal P w K mg base p "steady" 4 3 (sp_steady p)) :
    FnOk P w K mg base (L2N.CX P w) 5 f fd ["_law_one", "_law_other", "_law_counts"] (liftSp p 3 (sp__law_lists p)) :=
  fn_ok (t := fun W => t__law_lists p W) F sc__law_lists (fun cdv A outer s H E B W hr tk pw =>
    (dss_consF (ds_set 3 sc__law_lists.nd (de_lst true (by exact (da_cons (de_call c_gaps_n hr tk (da_cons (de_var 0) da_nil)) (da_cons (de_call c_in_gates_n hr tk (da_cons (de_var 0) (da_cons de_int (da_cons de_int (da_cons de_int (da_cons de_int da_nil)))))) (da_cons (de_call c_to_next_n hr tk (da_cons (de_var 0) (da_cons (de_var 1) da_nil))) (da_cons (de_call c_between_n hr tk (da_cons (de_var 0) (da_cons (de_var 1) da_nil))) (da_cons (de_call c_can_count_n hr tk (da_cons (de_tup (da_cons de_int (da_cons de_int da_nil))) (da_cons de_int da_nil))) da_nil))))))))
    (dss_consF (ds_expr (de_append (de_var 3) (da_cons (de_lst true (da_cons (de_call c_counted hr tk (da_cons (de_var 0) (da_cons de_int (da_cons de_int da_nil)))) (da_cons (de_call c_by_count hr tk (da_cons (de_var 0) (da_cons de_int (da_cons de_int da_nil)))) (da_cons (de_call c_by_time hr tk (da_cons (de_var 0) (da_cons de_int (da_cons de_int da_nil)))) (da_cons (de_call c_lost_n hr tk (da_cons (de_var 0) (da_cons de_int (da_cons de_int (da_cons de_int (da_cons de_int da_nil)))))) da_nil))))) da_nil)))
    (dss_consF (ds_expr (de_append (de_var 3) (da_cons (de_lst true (da_cons (de_call c_mean hr tk (da_cons (de_var 2) da_nil)) (da_cons (de_call c_spread hr tk (da_cons (de_var 2) da_nil)) da_nil))) da_nil)))
    (dss_one (ds_ret (de_add true (de_var 3) (de_lst true (da_cons (de_lst true (da_cons (de_call c_bounds hr tk (da_cons (de_var 0) da_nil)) (da_cons (de_call c_simplest hr tk (da_cons (de_var 0) da_nil)) (da_cons (de_call c_phase_for hr tk (da_cons (de_var 0) da_nil)) (da_cons (de_call c_steady hr tk (da_cons (de_tup (da_cons de_int (da_cons de_int da_nil))) (da_cons (de_tup (da_cons de_int (da_cons de_int da_nil))) (da_cons de_int da_nil)))) da_nil))))) da_nil)))))))))
    (fun ds G Q E hl h => match ds, hl, h with | [x0, x1, x2], _, h => pure__law_lists p x0 x1 x2 G Q E h)

theorem sc__law_copied_r5 : FnScope ["_law_thing", "_law_one", "_law_key"] ["_law_thing"] (defScope s__law_copied_r5) := ⟨rfl, rfl, rfl, by decide +kernel, rfl, by decide +kernel, by decide +kernel⟩
theorem ok__law_copied_r5 {f : Addr} {fd : FuncData} (F : Fun K "_law_copied" "_law_copied" s__law_copied_r5 f fd) (hK : K = p.K) (b_dict : mg "dict" = none) (b_isinstance : mg "isinstance" = none) (b_list : mg "list" = none) (b_tuple : mg "tuple" = none) (c__law_copied_r4 : Cal P w K mg base p "_law_copied" 5 1 (sp__law_copied_r4 p)) :
    FnOk P w K mg base (L2N.CX P w) 6 f fd ["_law_thing"] (liftSp p 1 (sp__law_copied_r5 p)) :=
  fn_ok (t := fun W => t__law_copied_r5 p W) F sc__law_copied_r5 (fun cdv A outer s H E B W hr tk pw =>
    (dss_cons (ds_if (dt_val (de_isi (T := "list") hK b_isinstance b_list (by decide +kernel) (de_var 0))) (dss_one (ds_ret (de_lcC false rfl sc__law_copied_r5.nd (dic_seq (de_var 0)) (blkOk_by (own := [("_law_one", 1)]) (by show blkC ["_law_thing", "_law_one", "_law_key"] (defScope s__law_copied_r5) _ _ = true; decide +kernel)) (fun _ _ _ _ _ => (pg_name (i := 1) sc__law_copied_r5.nd rfl (by first | exact Or.inl rfl | exact Or.inr rfl))) (mono_name _) (tg_name 1) (fun _ _ _ _ _ => dts_nil) (fun _ _ _ _ _ => de_any fun _ => (de_call c__law_copied_r4 hr takesNo (da_cons (de_var 1) da_nil)))))) dss_nil)
    (dss_cons (ds_if (dt_val (de_isi (T := "tuple") hK b_isinstance b_tuple (by decide +kernel) (de_var 0))) (dss_one (ds_ret (de_callTy call_tuple_of lft_tupOf (by rfl) b_tuple (by decide +kernel) (da_cons (de_lcC false rfl sc__law_copied_r5.nd (dic_seq (de_var 0)) (blkOk_by (own := [("_law_one", 1)]) (by show blkC ["_law_thing", "_law_one", "_law_key"] (defScope s__law_copied_r5) _ _ = true; decide +kernel)) (fun _ _ _ _ _ => (pg_name (i := 1) sc__law_copied_r5.nd rfl (by first | exact Or.inl rfl | exact Or.inr rfl))) (mono_name _) (tg_name 1) (fun _ _ _ _ _ => dts_nil) (fun _ _ _ _ _ => de_any fun _ => (de_call c__law_copied_r4 hr takesNo (da_cons (de_var 1) da_nil)))) da_nil)))) dss_nil)
    (dss_cons (ds_if (dt_val (de_isi (T := "dict") hK b_isinstance b_dict (by decide +kernel) (de_var 0))) dss_bad dss_nil)
    (dss_one (ds_ret (de_var 0)))))))
    (fun ds G Q E hl h => match ds, hl, h with | [x0], _, h => pure__law_copied_r5 p x0 G Q E h)

theorem sc__law_spoil_r5 : FnScope ["_law_thing", "_law_one", "_law_key"] ["_law_thing"] (defScope s__law_spoil_r5) := ⟨rfl, rfl, rfl, by decide +kernel, rfl, by decide +kernel, by decide +kernel⟩
theorem ok__law_spoil_r5 {f : Addr} {fd : FuncData} (F : Fun K "_law_spoil" "_law_spoil" s__law_spoil_r5 f fd) (hK : K = p.K) (b_dict : mg "dict" = none) (b_isinstance : mg "isinstance" = none) (b_list : mg "list" = none) (b_tuple : mg "tuple" = none) (c__law_spoil_r4 : Cal P w K mg base p "_law_spoil" 5 1 (sp__law_spoil_r4 p)) :
    FnOk P w K mg base (L2N.CX P w) 6 f fd ["_law_thing"] (liftSp p 1 (sp__law_spoil_r5 p)) :=
  fn_ok (t := fun W => t__law_spoil_r5 p W) F sc__law_spoil_r5 (fun cdv A outer s H E B W hr tk pw =>
    (dss_consF (ds_if (dt_val (de_isi2 (T := "list") (U := "tuple") hK b_isinstance b_list b_tuple (by decide +kernel) (by decide +kernel) (de_var 0))) (dss_one (ds_forL pw rfl (dil_seq (de_var 0)) (fun _ => (dg_name 1 sc__law_spoil_r5.nd)) (fun _ le1 => (dss_one (ds_expr (de_call c__law_spoil_r4 hr (takesLe le1 tk) (da_cons (de_var 1) da_nil))))))) dss_nil)
    (dss_consF (ds_if (dt_val (de_isi (T := "dict") hK b_isinstance b_dict (by decide +kernel) (de_var 0))) dss_bad dss_nil)
    (dss_one (ds_if (dt_val (de_isi (T := "list") hK b_isinstance b_list (by decide +kernel) (de_var 0))) (dss_consF (ds_expr (de_append (de_var 0) (da_cons de_non da_nil)))
    (dss_one (ds_expr (de_reverse (de_var 0))))) dss_nil)))))
    (fun ds G Q E hl h => match ds, hl, h with | [x0], _, h => pure__law_spoil_r5 p x0 G Q E h)

theorem sc__law_do : FnScope ["_law_what", "_law_one", "_law_other", "_law_third", "_law_kept", "_law_answer", "e"] ["_law_what", "_law_one", "_law_other", "_law_third"] (defScope s__law_do) := ⟨rfl, rfl, rfl, by decide +kernel, rfl, by decide +kernel, by decide +kernel⟩
theorem ok__law_do {f : Addr} {fd : FuncData} (F : Fun K "_law_do" "_law_do" s__law_do f fd) (hK : K = p.K) (c_Counter_go_on_n : CalM P w K mg base p "Counter" "go_on" 4 3 (sp_Counter_go_on_n p)) (cc_Counter : CalC P w K mg base p "Counter" 4 5 (sp_Counter___init__ p)) (c_by_time : Cal P w K mg base p "by_time" 4 3 (sp_by_time p)) (c_can_count_n : Cal P w K mg base p "can_count" 4 2 (sp_can_count_n p)) (c_in_gates_n : Cal P w K mg base p "in_gates" 4 5 (sp_in_gates_n p)) (c_counted : Cal P w K mg base p "counted" 4 3 (sp_counted p)) (c_by_count : Cal P w K mg base p "by_count" 4 3 (sp_by_count p)) (c__law_word : Cal P w K mg base p "_law_word" 1 1 (sp__law_word p)) (ew : ExcsW K mg p (p.ca "BeatError")) :
    FnOk P w K mg base (L2N.CX P w) 6 f fd ["_law_what", "_law_one", "_law_other", "_law_third"] (liftSp p 4 (sp__law_do p)) :=
  fn_ok (t := fun W => t__law_do p W) F sc__law_do (fun cdv A outer s H E B W hr tk pw =>
    (dss_cons (ds_set 4 sc__law_do.nd de_non)
    (dss_cons (ds_set 5 sc__law_do.nd de_non)
    (dss_cons (ds_try_kept (i := 6) (j := 4) ew.exm sc__law_do.nd ⟨rfl, by decide, .inl ew.base⟩ (fun W pn xe tk own => (dss_one (ds_if (dt_lt (de_var 0) de_int) (dss_one (ds_set 5 sc__law_do.nd (de_if (dt_eq hr hK (de_var 0) de_int) (de_call c_counted hr tk (da_cons (de_var 1) (da_cons (de_var 2) (da_cons (de_var 3) da_nil)))) (de_call c_by_count hr tk (da_cons (de_var 1) (da_cons (de_var 2) (da_cons (de_var 3) da_nil))))))) (dss_one (ds_if (dt_lt (de_var 0) de_int) (dss_one (ds_set 5 sc__law_do.nd (de_if (dt_eq hr hK (de_var 0) de_int) (de_call c_can_count_n hr tk (da_cons (de_var 2) (da_cons (de_var 1) da_nil))) (de_call c_in_gates_n hr tk (da_cons (de_var 1) (da_cons (de_var 2) (da_cons (de_var 3) (da_cons de_non (da_cons de_int da_nil))))))))) (dss_one (ds_set 5 sc__law_do.nd (de_if (dt_eq hr hK (de_var 0) de_int) (de_meth c_Counter_go_on_n hr tk (de_make cc_Counter hr tk (da_cons de_int (da_cons de_int (da_cons de_int (da_cons de_int da_nil))))) (da_cons (de_var 2) (da_cons (de_var 1) da_nil))) (de_call c_by_time hr tk (da_cons (de_var 1) (da_cons (de_var 2) (da_cons (de_var 3) da_nil)))))))))))) (fun a oe pn => pss_one (ps_set (i := 4) sc__law_do.nd rfl (.inl rfl) (pv 6))))
    (dss_cons (ds_if (dt_isN (de_var 4) de_non) (dss_one (ds_ret (de_var 5))) dss_nil)
    (dss_one (ds_ret (de_call c__law_word hr tk (da_cons (de_var 4) da_nil)))))))))
    (fun ds G Q E hl h => match ds, hl, h with | [x0, x1, x2, x3], _, h => pure__law_do p x0 x1 x2 x3 G Q E h)

theorem sc_law : FnScope ["_law_script", "_law_one", "_law_other", "_law_counts", "_law_copy", "_law_told", "_law_plain", "_law_mine", "_law_idle", "_law_first", "_law_due", "_law_rows", "_law_k", "_law_here"] ["_law_script"] (defScope s_law) := ⟨rfl, rfl, rfl, by decide +kernel, rfl, by decide +kernel, by decide +kernel⟩
theorem ok_law {f : Addr} {fd : FuncData} (F : Fun K "law" "law" s_law f fd) (hK : K = p.K) (b_list : mg "list" = none) (b_range : mg "range" = none) (c__law_row : Cal P w K mg base p "_law_row" 3 3 (sp__law_row p)) (c__law_pick : Cal P w K mg base p "_law_pick" 2 3 (sp__law_pick p)) (c__law_lists : Cal P w K mg base p "_law_lists" 5 3 (sp__law_lists p)) (c__law_copied_r5 : Cal P w K mg base p "_law_copied" 6 1 (sp__law_copied_r5 p)) (c__law_spoil_r5 : Cal P w K mg base p "_law_spoil" 6 1 (sp__law_spoil_r5 p)) (cc_Counter : CalC P w K mg base p "Counter" 4 5 (sp_Counter___init__ p)) (c_Counter_go_on_n : CalM P w K mg base p "Counter" "go_on" 4 3 (sp_Counter_go_on_n p)) (c_Counter_over : CalM P w K mg base p "Counter" "over" 1 1 (sp_Counter_over p)) (c_Counter_now : CalM P w K mg base p "Counter" "now" 1 1 (sp_Counter_now p)) (c__law_do : Cal P w K mg base p "_law_do" 6 4 (sp__law_do p)) :
    FnOk P w K mg base (L2N.CX P w) 7 f fd ["_law_script"] (liftSp p 1 (sp_law p)) :=
  fn_ok (t := fun W => t_law p W) F sc_law (fun cdv A outer s H E B W hr tk pw =>
    (dss_consF (ds_par 1 2 rfl sc_law.nd (da_cons (de_call c__law_row hr tk (da_cons (de_var 0) (da_cons de_int (da_cons de_int da_nil)))) (da_cons (de_call c__law_row hr tk (da_cons (de_var 0) (da_cons de_int (da_cons de_int da_nil)))) da_nil)))
    (dss_consF (ds_setLc false 3 rfl sc_law.nd (di_range1 b_range (da_cons (de_add false de_int (de_call c__law_pick hr tk (da_cons (de_var 0) (da_cons de_int (da_cons de_int da_nil))))) da_nil)) (blkOk_by (own := [("_law_k", 12)]) (by show blkC ["_law_script", "_law_one", "_law_other", "_law_counts", "_law_copy", "_law_told", "_law_plain", "_law_mine", "_law_idle", "_law_first", "_law_due", "_law_rows", "_law_k", "_law_here"] (defScope s_law) _ _ = true; decide +kernel)) (fun _ _ _ _ _ => (pg_name (i := 12) sc_law.nd rfl (by first | exact Or.inl rfl | exact Or.inr rfl))) (mono_name _) (tg_name 12) (fun _ _ _ _ _ => dts_nil) (fun _ _ _ _ _ => de_any fun _ => (de_call c__law_pick hr takesNo (da_cons (de_var 0) (da_cons (de_add false de_int (de_var 12)) (da_cons de_int da_nil))))))
    (dss_consF (ds_set 4 sc_law.nd (de_callTy call_list_of (lft_lstOf (fresh := false)) (by rfl) b_list (by decide +kernel) (da_cons (de_var 3) da_nil)))
    (dss_consF (ds_set 5 sc_law.nd (de_call c__law_lists hr tk (da_cons (de_var 1) (da_cons (de_var 2) (da_cons (de_var 3) da_nil)))))
    (dss_consF (ds_set 6 sc_law.nd (de_call c__law_copied_r5 hr tk (da_cons (de_var 5) da_nil)))
    (dss_consF (ds_expr (de_call c__law_spoil_r5 hr tk (da_cons (de_var 5) da_nil)))
    (dss_consF (ds_if (PW.pt (dw_or (dt_ne2 hr hK (de_call c__law_lists hr tk (da_cons (de_var 1) (da_cons (de_var 2) (da_cons (de_var 3) da_nil)))) (de_var 6)) (dw_or1 (dt_ne hr hK (de_var 3) (de_var 4))))) (dss_one (ds_ret de_bl)) dss_nil)
    (dss_consF (ds_par 7 8 rfl sc_law.nd (da_cons (de_make cc_Counter hr tk (da_cons de_int (da_cons de_int (da_cons de_int (da_cons de_int da_nil))))) (da_cons (de_make cc_Counter hr tk (da_cons de_int (da_cons de_int (da_cons de_int (da_cons de_int da_nil))))) da_nil)))
    (dss_consF (ds_set 9 sc_law.nd (de_meth c_Counter_go_on_n hr tk (de_var 7) (da_cons de_int (da_cons (de_tup (da_cons de_int (da_cons de_int (da_cons de_int da_nil)))) da_nil))))
    (dss_consF (ds_set 10 sc_law.nd (de_callTy call_list_of (lft_lstOf (fresh := false)) (by rfl) b_list (by decide +kernel) (da_cons (de_var 9) da_nil)))
    (dss_consF (ds_expr (de_append (de_var 9) (da_cons de_non da_nil)))
    (dss_consF (ds_if (PW.pt (dw_or (dt_ne hr hK (de_var 10) (de_lst false (da_cons (de_tup (da_cons de_int (da_cons de_int da_nil))) (da_cons (de_tup (da_cons de_int (da_cons de_int da_nil))) da_nil)))) (dw_or (dt_ne hr hK (de_meth0 c_Counter_over hr tk (de_var 8)) de_int) (dw_or (dt_notN (de_meth0 c_Counter_now hr tk (de_var 8)) de_non) (dw_or1 (dt_ne hr hK (de_meth0 c_Counter_now hr tk (de_var 7)) de_int)))))) (dss_one (ds_ret de_bl)) dss_nil)
    (dss_consF (ds_if (PW.pt (dw_or (dt_ne hr hK (de_meth c_Counter_go_on_n hr tk (de_var 7) (da_cons de_int (da_cons (de_tup da_nil) da_nil))) (de_lst false da_nil)) (dw_or (dt_ne hr hK (de_meth c_Counter_go_on_n hr tk (de_var 7) (da_cons de_int (da_cons (de_tup (da_cons de_int da_nil)) da_nil))) (de_lst false (da_cons (de_tup (da_cons de_int (da_cons de_int da_nil))) da_nil))) (dw_or1 (dt_ne hr hK (de_meth c_Counter_go_on_n hr tk (de_var 8) (da_cons de_int (da_cons (de_tup da_nil) da_nil))) (de_lst false (da_cons (de_tup (da_cons de_int (da_cons de_int da_nil))) (da_cons (de_tup (da_cons de_int (da_cons de_int da_nil))) da_nil)))))))) (dss_one (ds_ret de_bl)) dss_nil)
    (dss_consF (ds_set 11 sc_law.nd (de_lst true (da_cons (de_tup (da_cons de_int (da_cons de_non (da_cons (de_neg de_int) (da_cons de_int (da_cons de_str da_nil)))))) (da_cons (de_tup (da_cons de_int (da_cons (de_tup da_nil) (da_cons (de_neg de_int) (da_cons de_int (da_cons de_str da_nil)))))) (da_cons (de_tup (da_cons de_int (da_cons (de_lst false (da_cons de_int da_nil)) (da_cons de_int (da_cons de_int (da_cons de_str da_nil)))))) da_nil)))))
    (dss_consF (ds_expr (de_extend (de_var 11) (da_cons (de_lst false (da_cons (de_tup (da_cons de_int (da_cons de_int (da_cons de_non (da_cons de_non (da_cons de_str da_nil)))))) da_nil)) da_nil)))
    (dss_consF (ds_expr (de_extend (de_var 11) (da_cons (de_lst false (da_cons (de_tup (da_cons de_int (da_cons de_int (da_cons de_non (da_cons de_non (da_cons de_str da_nil)))))) (da_cons (de_tup (da_cons de_int (da_cons (de_tup (da_cons de_int (da_cons de_int da_nil))) (da_cons de_int (da_cons de_int (da_cons de_str da_nil)))))) (da_cons (de_tup (da_cons de_int (da_cons (de_tup da_nil) (da_cons de_int (da_cons de_int (da_cons de_str da_nil)))))) da_nil)))) da_nil)))
    (dss_consF (ds_expr (de_extend (de_var 11) (da_cons (de_lst false (da_cons (de_tup (da_cons de_int (da_cons (de_tup da_nil) (da_cons de_int (da_cons de_int (da_cons de_str da_nil)))))) da_nil)) da_nil)))
    (dss_consF (ds_expr (de_extend (de_var 11) (da_cons (de_lst false (da_cons (de_tup (da_cons de_int (da_cons (de_lst false (da_cons de_int da_nil)) (da_cons de_non (da_cons de_non (da_cons de_str da_nil)))))) (da_cons (de_tup (da_cons de_int (da_cons (de_tup da_nil) (da_cons de_non (da_cons de_non (da_cons de_str da_nil)))))) da_nil))) da_nil)))
    (dss_consF (ds_expr (de_extend (de_var 11) (da_cons (de_lst false (da_cons (de_tup (da_cons de_int (da_cons (de_tup (da_cons de_int da_nil)) (da_cons de_int (da_cons de_non (da_cons de_str da_nil)))))) (da_cons (de_tup (da_cons de_int (da_cons de_int (da_cons de_int (da_cons de_int (da_cons de_str da_nil)))))) da_nil))) da_nil)))
    (dss_consF (ds_if (dt_ne hr hK (de_lc false rfl sc_law.nd (di_seq (de_var 11)) (blkOk_by (own := [("_law_here", 13)]) (by show blkC ["_law_script", "_law_one", "_law_other", "_law_counts", "_law_copy", "_law_told", "_law_plain", "_law_mine", "_law_idle", "_law_first", "_law_due", "_law_rows", "_law_k", "_law_here"] (defScope s_law) _ _ = true; decide +kernel)) (fun _ _ _ _ _ => (pg_name (i := 13) sc_law.nd rfl (by first | exact Or.inl rfl | exact Or.inr rfl))) (mono_name _) (tg_name 13) (fun _ _ _ _ _ => (dts_one fun _ => (dt_ne hr hK (de_call c__law_do hr takesNo (da_cons (de_ix hK (de_var 13) de_int) (da_cons (de_ix hK (de_var 13) de_int) (da_cons (de_ix hK (de_var 13) de_int) (da_cons (de_ix hK (de_var 13) de_int) da_nil))))) (de_ix hK (de_var 13) de_int)))) (fun _ _ _ _ _ => de_any fun _ => (de_var 13))) (de_lst false da_nil)) (dss_one (ds_ret de_bl)) dss_nil)
    (dss_one (ds_ret (de_and (de_eq2 hr hK (de_call c__law_lists hr tk (da_cons (de_var 1) (da_cons (de_var 2) (da_cons (de_var 3) da_nil)))) (de_var 6)) (de_one (de_eq hr hK (de_var 3) (de_var 4)))))))))))))))))))))))))))
    (fun ds G Q E hl h => match ds, hl, h with | [x0], _, h => pure_law p x0 G Q E h)

end
def dd_is_whole : He.DefD := ⟨("is_whole", none), "is_whole", "is_whole", defArgs s_is_whole, defBody s_is_whole, defScope s_is_whole, [], []⟩
def dd_is_row : He.DefD := ⟨("is_row", none), "is_row", "is_row", defArgs s_is_row, defBody s_is_row, defScope s_is_row, [], []⟩
def dd_look_row : He.DefD := ⟨("look_row", none), "look_row", "look_row", defArgs s_look_row, defBody s_look_row, defScope s_look_row, [], []⟩
def dd_look_gate : He.DefD := ⟨("look_gate", none), "look_gate", "look_gate", defArgs s_look_gate, defBody s_look_gate, defScope s_look_gate, [], []⟩
def dd_in_gate : He.DefD := ⟨("in_gate", none), "in_gate", "in_gate", defArgs s_in_gate, defBody s_in_gate, defScope s_in_gate, [], []⟩
def dd_counted : He.DefD := ⟨("counted", none), "counted", "counted", defArgs s_counted, defBody s_counted, defScope s_counted, [], []⟩
def dd_gaps_n : He.DefD := ⟨("gaps", none), "gaps", "gaps", defArgs s_gaps_n, defBody s_gaps_n, defScope s_gaps_n, [], []⟩
def dd_share : He.DefD := ⟨("share", none), "share", "share", defArgs s_share, defBody s_share, defScope s_share, [], []⟩
def dd_look_gates : He.DefD := ⟨("look_gates", none), "look_gates", "look_gates", defArgs s_look_gates, defBody s_look_gates, defScope s_look_gates, [], []⟩
def dd_starts_of : He.DefD := ⟨("starts_of", none), "starts_of", "starts_of", defArgs s_starts_of, defBody s_starts_of, defScope s_starts_of, [], []⟩
def dd_counts_of_n : He.DefD := ⟨("counts_of", none), "counts_of", "counts_of", defArgs s_counts_of_n, defBody s_counts_of_n, defScope s_counts_of_n, [], []⟩
def dd_in_gates_n : He.DefD := ⟨("in_gates", none), "in_gates", "in_gates", defArgs s_in_gates_n, defBody s_in_gates_n, defScope s_in_gates_n, [], []⟩
def dd_lost_n : He.DefD := ⟨("lost", none), "lost", "lost", defArgs s_lost_n, defBody s_lost_n, defScope s_lost_n, [], []⟩
def dd_look_counts : He.DefD := ⟨("look_counts", none), "look_counts", "look_counts", defArgs s_look_counts, defBody s_look_counts, defScope s_look_counts, [], []⟩
def dd_mean : He.DefD := ⟨("mean", none), "mean", "mean", defArgs s_mean, defBody s_mean, defScope s_mean, [], []⟩
def dd_spread : He.DefD := ⟨("spread", none), "spread", "spread", defArgs s_spread, defBody s_spread, defScope s_spread, [], []⟩
def dd_Counter___init__ : He.DefD := ⟨("Counter", some "__init__"), "__init__", "Counter.__init__", defArgs s_Counter___init__, defBody s_Counter___init__, defScope s_Counter___init__, [], []⟩
def dd_Counter_beat : He.DefD := ⟨("Counter", some "beat"), "beat", "Counter.beat", defArgs s_Counter_beat, defBody s_Counter_beat, defScope s_Counter_beat, [], []⟩
def dd_Counter_go_on_n : He.DefD := ⟨("Counter", some "go_on"), "go_on", "Counter.go_on", defArgs s_Counter_go_on_n, defBody s_Counter_go_on_n, defScope s_Counter_go_on_n, [], []⟩
def dd_Counter_over : He.DefD := ⟨("Counter", some "over"), "over", "Counter.over", defArgs s_Counter_over, defBody s_Counter_over, defScope s_Counter_over, [], []⟩
def dd_Counter_now : He.DefD := ⟨("Counter", some "now"), "now", "Counter.now", defArgs s_Counter_now, defBody s_Counter_now, defScope s_Counter_now, [], []⟩
def dd_waits_n : He.DefD := ⟨("waits", none), "waits", "waits", defArgs s_waits_n, defBody s_waits_n, defScope s_waits_n, [], []⟩
def dd_to_next_n : He.DefD := ⟨("to_next", none), "to_next", "to_next", defArgs s_to_next_n, defBody s_to_next_n, defScope s_to_next_n, [], []⟩
def dd_between_n : He.DefD := ⟨("between", none), "between", "between", defArgs s_between_n, defBody s_between_n, defScope s_between_n, [], []⟩
def dd_is_fraction : He.DefD := ⟨("is_fraction", none), "is_fraction", "is_fraction", defArgs s_is_fraction, defBody s_is_fraction, defScope s_is_fraction, [], []⟩
def dd_look_period : He.DefD := ⟨("look_period", none), "look_period", "look_period", defArgs s_look_period, defBody s_look_period, defScope s_look_period, [], []⟩
def dd_ticks_of : He.DefD := ⟨("ticks_of", none), "ticks_of", "ticks_of", defArgs s_ticks_of, defBody s_ticks_of, defScope s_ticks_of, [], []⟩
def dd_steady : He.DefD := ⟨("steady", none), "steady", "steady", defArgs s_steady, defBody s_steady, defScope s_steady, [], []⟩
def dd_can_count_n : He.DefD := ⟨("can_count", none), "can_count", "can_count", defArgs s_can_count_n, defBody s_can_count_n, defScope s_can_count_n, [], []⟩
def dd_is_less : He.DefD := ⟨("is_less", none), "is_less", "is_less", defArgs s_is_less, defBody s_is_less, defScope s_is_less, [], []⟩
def dd_bounds_of : He.DefD := ⟨("bounds_of", none), "bounds_of", "bounds_of", defArgs s_bounds_of, defBody s_bounds_of, defScope s_bounds_of, [], []⟩
def dd_bounds : He.DefD := ⟨("bounds", none), "bounds", "bounds", defArgs s_bounds, defBody s_bounds, defScope s_bounds, [], []⟩
def dd_simplest_between : He.DefD := ⟨("simplest_between", none), "simplest_between", "simplest_between", defArgs s_simplest_between, defBody s_simplest_between, defScope s_simplest_between, [], []⟩
def dd_simplest_of : He.DefD := ⟨("simplest_of", none), "simplest_of", "simplest_of", defArgs s_simplest_of, defBody s_simplest_of, defScope s_simplest_of, [], []⟩
def dd_simplest : He.DefD := ⟨("simplest", none), "simplest", "simplest", defArgs s_simplest, defBody s_simplest, defScope s_simplest, [], []⟩
def dd_phase_for : He.DefD := ⟨("phase_for", none), "phase_for", "phase_for", defArgs s_phase_for, defBody s_phase_for, defScope s_phase_for, [], []⟩
def dd_by_count : He.DefD := ⟨("by_count", none), "by_count", "by_count", defArgs s_by_count, defBody s_by_count, defScope s_by_count, [], []⟩
def dd_time_of : He.DefD := ⟨("time_of", none), "time_of", "time_of", defArgs s_time_of, defBody s_time_of, defScope s_time_of, [], []⟩
def dd_by_time : He.DefD := ⟨("by_time", none), "by_time", "by_time", defArgs s_by_time, defBody s_by_time, defScope s_by_time, [], []⟩
def dd__law_cell : He.DefD := ⟨("_law_cell", none), "_law_cell", "_law_cell", defArgs s__law_cell, defBody s__law_cell, defScope s__law_cell, [], []⟩
def dd__law_pick : He.DefD := ⟨("_law_pick", none), "_law_pick", "_law_pick", defArgs s__law_pick, defBody s__law_pick, defScope s__law_pick, [], []⟩
def dd__law_word : He.DefD := ⟨("_law_word", none), "_law_word", "_law_word", defArgs s__law_word, defBody s__law_word, defScope s__law_word, [], []⟩
def dd__law_row : He.DefD := ⟨("_law_row", none), "_law_row", "_law_row", defArgs s__law_row, defBody s__law_row, defScope s__law_row, [], []⟩
def dd__law_do : He.DefD := ⟨("_law_do", none), "_law_do", "_law_do", defArgs s__law_do, defBody s__law_do, defScope s__law_do, [], []⟩
def dd__law_lists : He.DefD := ⟨("_law_lists", none), "_law_lists", "_law_lists", defArgs s__law_lists, defBody s__law_lists, defScope s__law_lists, [], []⟩
def dd_law : He.DefD := ⟨("law", none), "law", "law", defArgs s_law, defBody s_law, defScope s_law, [], []⟩
def dd__law_copied_r0 : He.DefD := ⟨("_law_copied", none), "_law_copied", "_law_copied", defArgs s__law_copied_r0, defBody s__law_copied_r0, defScope s__law_copied_r0, [], []⟩
def dd__law_copied_r1 : He.DefD := ⟨("_law_copied", none), "_law_copied", "_law_copied", defArgs s__law_copied_r1, defBody s__law_copied_r1, defScope s__law_copied_r1, [], []⟩
def dd__law_copied_r2 : He.DefD := ⟨("_law_copied", none), "_law_copied", "_law_copied", defArgs s__law_copied_r2, defBody s__law_copied_r2, defScope s__law_copied_r2, [], []⟩
def dd__law_copied_r3 : He.DefD := ⟨("_law_copied", none), "_law_copied", "_law_copied", defArgs s__law_copied_r3, defBody s__law_copied_r3, defScope s__law_copied_r3, [], []⟩
def dd__law_copied_r4 : He.DefD := ⟨("_law_copied", none), "_law_copied", "_law_copied", defArgs s__law_copied_r4, defBody s__law_copied_r4, defScope s__law_copied_r4, [], []⟩
def dd__law_copied_r5 : He.DefD := ⟨("_law_copied", none), "_law_copied", "_law_copied", defArgs s__law_copied_r5, defBody s__law_copied_r5, defScope s__law_copied_r5, [], []⟩
def dd__law_spoil_r0 : He.DefD := ⟨("_law_spoil", none), "_law_spoil", "_law_spoil", defArgs s__law_spoil_r0, defBody s__law_spoil_r0, defScope s__law_spoil_r0, [], []⟩
def dd__law_spoil_r1 : He.DefD := ⟨("_law_spoil", none), "_law_spoil", "_law_spoil", defArgs s__law_spoil_r1, defBody s__law_spoil_r1, defScope s__law_spoil_r1, [], []⟩
def dd__law_spoil_r2 : He.DefD := ⟨("_law_spoil", none), "_law_spoil", "_law_spoil", defArgs s__law_spoil_r2, defBody s__law_spoil_r2, defScope s__law_spoil_r2, [], []⟩
def dd__law_spoil_r3 : He.DefD := ⟨("_law_spoil", none), "_law_spoil", "_law_spoil", defArgs s__law_spoil_r3, defBody s__law_spoil_r3, defScope s__law_spoil_r3, [], []⟩
def dd__law_spoil_r4 : He.DefD := ⟨("_law_spoil", none), "_law_spoil", "_law_spoil", defArgs s__law_spoil_r4, defBody s__law_spoil_r4, defScope s__law_spoil_r4, [], []⟩
def dd__law_spoil_r5 : He.DefD := ⟨("_law_spoil", none), "_law_spoil", "_law_spoil", defArgs s__law_spoil_r5, defBody s__law_spoil_r5, defScope s__law_spoil_r5, [], []⟩
def fnL : List He.DefD := [dd_is_whole, dd_is_row, dd_look_row, dd_look_gate, dd_in_gate, dd_counted, dd_gaps_n, dd_share, dd_look_gates, dd_starts_of, dd_counts_of_n, dd_in_gates_n, dd_lost_n, dd_look_counts, dd_mean, dd_spread, dd_Counter___init__, dd_Counter_beat, dd_Counter_go_on_n, dd_Counter_over, dd_Counter_now, dd_waits_n, dd_to_next_n, dd_between_n, dd_is_fraction, dd_look_period, dd_ticks_of, dd_steady, dd_can_count_n, dd_is_less, dd_bounds_of, dd_bounds, dd_simplest_between, dd_simplest_of, dd_simplest, dd_phase_for, dd_by_count, dd_time_of, dd_by_time, dd__law_cell, dd__law_pick, dd__law_word, dd__law_row, dd__law_do, dd__law_lists, dd_law, dd__law_copied_r0, dd__law_copied_r1, dd__law_copied_r2, dd__law_copied_r3, dd__law_copied_r4, dd__law_copied_r5, dd__law_spoil_r0, dd__law_spoil_r1, dd__law_spoil_r2, dd__law_spoil_r3, dd__law_spoil_r4, dd__law_spoil_r5]
def faL : List He.Fa := [.glo "is_whole", .glo "is_row", .glo "look_row", .glo "look_gate", .glo "in_gate", .glo "counted", .glo "gaps", .glo "share", .glo "look_gates", .glo "starts_of", .glo "counts_of", .glo "in_gates", .glo "lost", .glo "look_counts", .glo "mean", .glo "spread", .glo "waits", .glo "to_next", .glo "between", .glo "is_fraction", .glo "look_period", .glo "ticks_of", .glo "steady", .glo "can_count", .glo "is_less", .glo "bounds_of", .glo "bounds", .glo "simplest_between", .glo "simplest_of", .glo "simplest", .glo "phase_for", .glo "by_count", .glo "time_of", .glo "by_time", .glo "_law_cell", .glo "_law_pick", .glo "_law_word", .glo "_law_row", .glo "_law_do", .glo "_law_lists", .glo "law", .glo "_law_copied", .glo "_law_copied", .glo "_law_copied", .glo "_law_copied", .glo "_law_copied", .glo "_law_copied", .glo "_law_spoil", .glo "_law_spoil", .glo "_law_spoil", .glo "_law_spoil", .glo "_law_spoil", .glo "_law_spoil", .glo "NoGate", .glo "NoPeriod", .glo "NoRow", .glo "BeatError", .exc "NoGate", .exc "NoPeriod", .exc "NoRow", .free "ValueError", .free "abs", .free "all", .free "bool", .free "dict", .free "enumerate", .free "int", .free "isinstance", .free "len", .free "list", .free "max", .free "min", .free "range", .free "sum", .free "tuple", .free "zip", .int "FARTHEST" 99999, .int "LAST" 9999, .int "MOST" 40, .int "MOST_DOWN" 99, .int "MOST_GATES" 20, .glo "Counter", .cls "Counter", .noat "Counter" "found", .noat "Counter" "gone", .noat "Counter" "length", .noat "Counter" "next", .noat "Counter" "starts", .mkr "Counter", .meth "Counter" "beat", .meth "Counter" "go_on", .meth "Counter" "over", .meth "Counter" "now"]
def tfL : List (He.Defn × Str) := []
def exL (K : PySem.W.Frag) : Bool := apartB K tfL && excsWB K
def looseL : List Str := "__name__" :: "BeatError" :: "NoRow" :: "NoGate" :: "NoPeriod" :: "NoText" :: "LAST" :: "MOST" :: "is_whole" :: "is_row" :: "look_row" :: "look_gate" :: "in_gate" :: "counted" :: "gaps" :: "share" :: "MOST_GATES" :: "FARTHEST" :: "look_gates" :: "starts_of" :: "counts_of" :: "in_gates" :: "lost" :: "look_counts" :: "mean" :: "spread" :: "Counter" :: "waits" :: "to_next" :: "between" :: "MOST_DOWN" :: "is_fraction" :: "look_period" :: "ticks_of" :: "steady" :: "can_count" :: "is_less" :: "bounds_of" :: "bounds" :: "simplest_between" :: "simplest_of" :: "simplest" :: "phase_for" :: "by_count" :: "time_of" :: "by_time" :: "_law_cell" :: "_law_pick" :: "_law_word" :: "_law_row" :: "_law_low" :: "_law_copied" :: "_law_spoil" :: "_law_do" :: "_law_lists" :: []
abbrev rowL : PySem.W.OpenRow := PySem.W.OpenLaw.row PySem.Challenge.rw_gatebeats_k70_whole_again
abbrev hkL : PySem.W.Hook := He.hookX 6 faL fnL [] (tfL.map (·.1)) exL
def obL (s : PySem.W.SharedT) : He.AlX := He.obsX 6 faL fnL [] (tfL.map (·.1)) exL (HandSHeadRun.getT s)
theorem obL_eq (s : PySem.W.SharedT) : obL s = hkL.obs s.abs := He.obsX_eq (s := s.abs) (HandSHeadRun.getT_eq s)
theorem runL (w : World) : HandSHeadRun.RunEq rowL (PySem.W.view rowL.prog [62]) hkL obL 3000 looseL w := by
  intro os
  kernel_rfl
set_option maxHeartbeats 4000000 in
theorem factsL {w : World} {K : PySem.W.Frag} {h : Heap} {mg : Str → Option Value} {f : Addr} (X : K.In h) (G : h.Ns mainGlobals mg) (hfa : mg ("law" : Str) = some (.ref f)) (c : He.SaysX faL fnL [] (tfL.map (·.1)) exL w h K) : LamX.LawAtS (PySem.Challenge.rw_gatebeats_k70_whole_again) w K (L2N.CX (PySem.Challenge.rw_gatebeats_k70_whole_again).prog w) 7 63 "_law_script" mg f h := by
  have c0 := facts_of c
  obtain ⟨fd_is_whole, F_is_whole⟩ := c0.def_ 0 (d := dd_is_whole) rfl
  have F_is_whole : Fun K "is_whole" "is_whole" s_is_whole (He.fAd K ("is_whole", none)) fd_is_whole := fun_of_D F_is_whole
  obtain ⟨fd_is_row, F_is_row⟩ := c0.def_ 1 (d := dd_is_row) rfl
  have F_is_row : Fun K "is_row" "is_row" s_is_row (He.fAd K ("is_row", none)) fd_is_row := fun_of_D F_is_row
  obtain ⟨fd_look_row, F_look_row⟩ := c0.def_ 2 (d := dd_look_row) rfl
  have F_look_row : Fun K "look_row" "look_row" s_look_row (He.fAd K ("look_row", none)) fd_look_row := fun_of_D F_look_row
  obtain ⟨fd_look_gate, F_look_gate⟩ := c0.def_ 3 (d := dd_look_gate) rfl
  have F_look_gate : Fun K "look_gate" "look_gate" s_look_gate (He.fAd K ("look_gate", none)) fd_look_gate := fun_of_D F_look_gate
  obtain ⟨fd_in_gate, F_in_gate⟩ := c0.def_ 4 (d := dd_in_gate) rfl
  have F_in_gate : Fun K "in_gate" "in_gate" s_in_gate (He.fAd K ("in_gate", none)) fd_in_gate := fun_of_D F_in_gate
  obtain ⟨fd_counted, F_counted⟩ := c0.def_ 5 (d := dd_counted) rfl
  have F_counted : Fun K "counted" "counted" s_counted (He.fAd K ("counted", none)) fd_counted := fun_of_D F_counted
  obtain ⟨fd_gaps_n, F_gaps_n⟩ := c0.def_ 6 (d := dd_gaps_n) rfl
  have F_gaps_n : Fun K "gaps" "gaps" s_gaps_n (He.fAd K ("gaps", none)) fd_gaps_n := fun_of_D F_gaps_n
  obtain ⟨fd_share, F_share⟩ := c0.def_ 7 (d := dd_share) rfl
  have F_share : Fun K "share" "share" s_share (He.fAd K ("share", none)) fd_share := fun_of_D F_share
  obtain ⟨fd_look_gates, F_look_gates⟩ := c0.def_ 8 (d := dd_look_gates) rfl
  have F_look_gates : Fun K "look_gates" "look_gates" s_look_gates (He.fAd K ("look_gates", none)) fd_look_gates := fun_of_D F_look_gates
  obtain ⟨fd_starts_of, F_starts_of⟩ := c0.def_ 9 (d := dd_starts_of) rfl
  have F_starts_of : Fun K "starts_of" "starts_of" s_starts_of (He.fAd K ("starts_of", none)) fd_starts_of := fun_of_D F_starts_of
  obtain ⟨fd_counts_of_n, F_counts_of_n⟩ := c0.def_ 10 (d := dd_counts_of_n) rfl
  have F_counts_of_n : Fun K "counts_of" "counts_of" s_counts_of_n (He.fAd K ("counts_of", none)) fd_counts_of_n := fun_of_D F_counts_of_n
  obtain ⟨fd_in_gates_n, F_in_gates_n⟩ := c0.def_ 11 (d := dd_in_gates_n) rfl
  have F_in_gates_n : Fun K "in_gates" "in_gates" s_in_gates_n (He.fAd K ("in_gates", none)) fd_in_gates_n := fun_of_D F_in_gates_n
  obtain ⟨fd_lost_n, F_lost_n⟩ := c0.def_ 12 (d := dd_lost_n) rfl
  have F_lost_n : Fun K "lost" "lost" s_lost_n (He.fAd K ("lost", none)) fd_lost_n := fun_of_D F_lost_n
  obtain ⟨fd_look_counts, F_look_counts⟩ := c0.def_ 13 (d := dd_look_counts) rfl
  have F_look_counts : Fun K "look_counts" "look_counts" s_look_counts (He.fAd K ("look_counts", none)) fd_look_counts := fun_of_D F_look_counts
  obtain ⟨fd_mean, F_mean⟩ := c0.def_ 14 (d := dd_mean) rfl
  have F_mean : Fun K "mean" "mean" s_mean (He.fAd K ("mean", none)) fd_mean := fun_of_D F_mean
  obtain ⟨fd_spread, F_spread⟩ := c0.def_ 15 (d := dd_spread) rfl
  have F_spread : Fun K "spread" "spread" s_spread (He.fAd K ("spread", none)) fd_spread := fun_of_D F_spread
  obtain ⟨fd_Counter___init__, F_Counter___init__⟩ := c0.def_ 16 (d := dd_Counter___init__) rfl
  have F_Counter___init__ : Fun K "__init__" "Counter.__init__" s_Counter___init__ (He.fAd K ("Counter", some "__init__")) fd_Counter___init__ := fun_of_D F_Counter___init__
  obtain ⟨fd_Counter_beat, F_Counter_beat⟩ := c0.def_ 17 (d := dd_Counter_beat) rfl
  have F_Counter_beat : Fun K "beat" "Counter.beat" s_Counter_beat (He.fAd K ("Counter", some "beat")) fd_Counter_beat := fun_of_D F_Counter_beat
  obtain ⟨fd_Counter_go_on_n, F_Counter_go_on_n⟩ := c0.def_ 18 (d := dd_Counter_go_on_n) rfl
  have F_Counter_go_on_n : Fun K "go_on" "Counter.go_on" s_Counter_go_on_n (He.fAd K ("Counter", some "go_on")) fd_Counter_go_on_n := fun_of_D F_Counter_go_on_n
  obtain ⟨fd_Counter_over, F_Counter_over⟩ := c0.def_ 19 (d := dd_Counter_over) rfl
  have F_Counter_over : Fun K "over" "Counter.over" s_Counter_over (He.fAd K ("Counter", some "over")) fd_Counter_over := fun_of_D F_Counter_over
  obtain ⟨fd_Counter_now, F_Counter_now⟩ := c0.def_ 20 (d := dd_Counter_now) rfl
  have F_Counter_now : Fun K "now" "Counter.now" s_Counter_now (He.fAd K ("Counter", some "now")) fd_Counter_now := fun_of_D F_Counter_now
  obtain ⟨fd_waits_n, F_waits_n⟩ := c0.def_ 21 (d := dd_waits_n) rfl
  have F_waits_n : Fun K "waits" "waits" s_waits_n (He.fAd K ("waits", none)) fd_waits_n := fun_of_D F_waits_n
  obtain ⟨fd_to_next_n, F_to_next_n⟩ := c0.def_ 22 (d := dd_to_next_n) rfl
  have F_to_next_n : Fun K "to_next" "to_next" s_to_next_n (He.fAd K ("to_next", none)) fd_to_next_n := fun_of_D F_to_next_n
  obtain ⟨fd_between_n, F_between_n⟩ := c0.def_ 23 (d := dd_between_n) rfl
  have F_between_n : Fun K "between" "between" s_between_n (He.fAd K ("between", none)) fd_between_n := fun_of_D F_between_n
  obtain ⟨fd_is_fraction, F_is_fraction⟩ := c0.def_ 24 (d := dd_is_fraction) rfl
  have F_is_fraction : Fun K "is_fraction" "is_fraction" s_is_fraction (He.fAd K ("is_fraction", none)) fd_is_fraction := fun_of_D F_is_fraction
  obtain ⟨fd_look_period, F_look_period⟩ := c0.def_ 25 (d := dd_look_period) rfl
  have F_look_period : Fun K "look_period" "look_period" s_look_period (He.fAd K ("look_period", none)) fd_look_period := fun_of_D F_look_period
  obtain ⟨fd_ticks_of, F_ticks_of⟩ := c0.def_ 26 (d := dd_ticks_of) rfl
  have F_ticks_of : Fun K "ticks_of" "ticks_of" s_ticks_of (He.fAd K ("ticks_of", none)) fd_ticks_of := fun_of_D F_ticks_of
  obtain ⟨fd_steady, F_steady⟩ := c0.def_ 27 (d := dd_steady) rfl
  have F_steady : Fun K "steady" "steady" s_steady (He.fAd K ("steady", none)) fd_steady := fun_of_D F_steady
  obtain ⟨fd_can_count_n, F_can_count_n⟩ := c0.def_ 28 (d := dd_can_count_n) rfl
  have F_can_count_n : Fun K "can_count" "can_count" s_can_count_n (He.fAd K ("can_count", none)) fd_can_count_n := fun_of_D F_can_count_n
  obtain ⟨fd_is_less, F_is_less⟩ := c0.def_ 29 (d := dd_is_less) rfl
  have F_is_less : Fun K "is_less" "is_less" s_is_less (He.fAd K ("is_less", none)) fd_is_less := fun_of_D F_is_less
  obtain ⟨fd_bounds_of, F_bounds_of⟩ := c0.def_ 30 (d := dd_bounds_of) rfl
  have F_bounds_of : Fun K "bounds_of" "bounds_of" s_bounds_of (He.fAd K ("bounds_of", none)) fd_bounds_of := fun_of_D F_bounds_of
  obtain ⟨fd_bounds, F_bounds⟩ := c0.def_ 31 (d := dd_bounds) rfl
  have F_bounds : Fun K "bounds" "bounds" s_bounds (He.fAd K ("bounds", none)) fd_bounds := fun_of_D F_bounds
  obtain ⟨fd_simplest_between, F_simplest_between⟩ := c0.def_ 32 (d := dd_simplest_between) rfl
  have F_simplest_between : Fun K "simplest_between" "simplest_between" s_simplest_between (He.fAd K ("simplest_between", none)) fd_simplest_between := fun_of_D F_simplest_between
  obtain ⟨fd_simplest_of, F_simplest_of⟩ := c0.def_ 33 (d := dd_simplest_of) rfl
  have F_simplest_of : Fun K "simplest_of" "simplest_of" s_simplest_of (He.fAd K ("simplest_of", none)) fd_simplest_of := fun_of_D F_simplest_of
  obtain ⟨fd_simplest, F_simplest⟩ := c0.def_ 34 (d := dd_simplest) rfl
  have F_simplest : Fun K "simplest" "simplest" s_simplest (He.fAd K ("simplest", none)) fd_simplest := fun_of_D F_simplest
  obtain ⟨fd_phase_for, F_phase_for⟩ := c0.def_ 35 (d := dd_phase_for) rfl
  have F_phase_for : Fun K "phase_for" "phase_for" s_phase_for (He.fAd K ("phase_for", none)) fd_phase_for := fun_of_D F_phase_for
  obtain ⟨fd_by_count, F_by_count⟩ := c0.def_ 36 (d := dd_by_count) rfl
  have F_by_count : Fun K "by_count" "by_count" s_by_count (He.fAd K ("by_count", none)) fd_by_count := fun_of_D F_by_count
  obtain ⟨fd_time_of, F_time_of⟩ := c0.def_ 37 (d := dd_time_of) rfl
  have F_time_of : Fun K "time_of" "time_of" s_time_of (He.fAd K ("time_of", none)) fd_time_of := fun_of_D F_time_of
  obtain ⟨fd_by_time, F_by_time⟩ := c0.def_ 38 (d := dd_by_time) rfl
  have F_by_time : Fun K "by_time" "by_time" s_by_time (He.fAd K ("by_time", none)) fd_by_time := fun_of_D F_by_time
  obtain ⟨fd__law_cell, F__law_cell⟩ := c0.def_ 39 (d := dd__law_cell) rfl
  have F__law_cell : Fun K "_law_cell" "_law_cell" s__law_cell (He.fAd K ("_law_cell", none)) fd__law_cell := fun_of_D F__law_cell
  obtain ⟨fd__law_pick, F__law_pick⟩ := c0.def_ 40 (d := dd__law_pick) rfl
  have F__law_pick : Fun K "_law_pick" "_law_pick" s__law_pick (He.fAd K ("_law_pick", none)) fd__law_pick := fun_of_D F__law_pick
  obtain ⟨fd__law_word, F__law_word⟩ := c0.def_ 41 (d := dd__law_word) rfl
  have F__law_word : Fun K "_law_word" "_law_word" s__law_word (He.fAd K ("_law_word", none)) fd__law_word := fun_of_D F__law_word
  obtain ⟨fd__law_row, F__law_row⟩ := c0.def_ 42 (d := dd__law_row) rfl
  have F__law_row : Fun K "_law_row" "_law_row" s__law_row (He.fAd K ("_law_row", none)) fd__law_row := fun_of_D F__law_row
  obtain ⟨fd__law_do, F__law_do⟩ := c0.def_ 43 (d := dd__law_do) rfl
  have F__law_do : Fun K "_law_do" "_law_do" s__law_do (He.fAd K ("_law_do", none)) fd__law_do := fun_of_D F__law_do
  obtain ⟨fd__law_lists, F__law_lists⟩ := c0.def_ 44 (d := dd__law_lists) rfl
  have F__law_lists : Fun K "_law_lists" "_law_lists" s__law_lists (He.fAd K ("_law_lists", none)) fd__law_lists := fun_of_D F__law_lists
  obtain ⟨fd_law, F_law⟩ := c0.def_ 45 (d := dd_law) rfl
  have F_law : Fun K "law" "law" s_law (He.fAd K ("law", none)) fd_law := fun_of_D F_law
  obtain ⟨fd__law_copied_r0, F__law_copied_r0⟩ := c0.def_ 46 (d := dd__law_copied_r0) rfl
  have F__law_copied_r0 : Fun K "_law_copied" "_law_copied" s__law_copied_r0 (He.fAd K ("_law_copied", none)) fd__law_copied_r0 := fun_of_D F__law_copied_r0
  obtain ⟨fd__law_copied_r1, F__law_copied_r1⟩ := c0.def_ 47 (d := dd__law_copied_r1) rfl
  have F__law_copied_r1 : Fun K "_law_copied" "_law_copied" s__law_copied_r1 (He.fAd K ("_law_copied", none)) fd__law_copied_r1 := fun_of_D F__law_copied_r1
  obtain ⟨fd__law_copied_r2, F__law_copied_r2⟩ := c0.def_ 48 (d := dd__law_copied_r2) rfl
  have F__law_copied_r2 : Fun K "_law_copied" "_law_copied" s__law_copied_r2 (He.fAd K ("_law_copied", none)) fd__law_copied_r2 := fun_of_D F__law_copied_r2
  obtain ⟨fd__law_copied_r3, F__law_copied_r3⟩ := c0.def_ 49 (d := dd__law_copied_r3) rfl
  have F__law_copied_r3 : Fun K "_law_copied" "_law_copied" s__law_copied_r3 (He.fAd K ("_law_copied", none)) fd__law_copied_r3 := fun_of_D F__law_copied_r3
  obtain ⟨fd__law_copied_r4, F__law_copied_r4⟩ := c0.def_ 50 (d := dd__law_copied_r4) rfl
  have F__law_copied_r4 : Fun K "_law_copied" "_law_copied" s__law_copied_r4 (He.fAd K ("_law_copied", none)) fd__law_copied_r4 := fun_of_D F__law_copied_r4
  obtain ⟨fd__law_copied_r5, F__law_copied_r5⟩ := c0.def_ 51 (d := dd__law_copied_r5) rfl
  have F__law_copied_r5 : Fun K "_law_copied" "_law_copied" s__law_copied_r5 (He.fAd K ("_law_copied", none)) fd__law_copied_r5 := fun_of_D F__law_copied_r5
  obtain ⟨fd__law_spoil_r0, F__law_spoil_r0⟩ := c0.def_ 52 (d := dd__law_spoil_r0) rfl
  have F__law_spoil_r0 : Fun K "_law_spoil" "_law_spoil" s__law_spoil_r0 (He.fAd K ("_law_spoil", none)) fd__law_spoil_r0 := fun_of_D F__law_spoil_r0
  obtain ⟨fd__law_spoil_r1, F__law_spoil_r1⟩ := c0.def_ 53 (d := dd__law_spoil_r1) rfl
  have F__law_spoil_r1 : Fun K "_law_spoil" "_law_spoil" s__law_spoil_r1 (He.fAd K ("_law_spoil", none)) fd__law_spoil_r1 := fun_of_D F__law_spoil_r1
  obtain ⟨fd__law_spoil_r2, F__law_spoil_r2⟩ := c0.def_ 54 (d := dd__law_spoil_r2) rfl
  have F__law_spoil_r2 : Fun K "_law_spoil" "_law_spoil" s__law_spoil_r2 (He.fAd K ("_law_spoil", none)) fd__law_spoil_r2 := fun_of_D F__law_spoil_r2
  obtain ⟨fd__law_spoil_r3, F__law_spoil_r3⟩ := c0.def_ 55 (d := dd__law_spoil_r3) rfl
  have F__law_spoil_r3 : Fun K "_law_spoil" "_law_spoil" s__law_spoil_r3 (He.fAd K ("_law_spoil", none)) fd__law_spoil_r3 := fun_of_D F__law_spoil_r3
  obtain ⟨fd__law_spoil_r4, F__law_spoil_r4⟩ := c0.def_ 56 (d := dd__law_spoil_r4) rfl
  have F__law_spoil_r4 : Fun K "_law_spoil" "_law_spoil" s__law_spoil_r4 (He.fAd K ("_law_spoil", none)) fd__law_spoil_r4 := fun_of_D F__law_spoil_r4
  obtain ⟨fd__law_spoil_r5, F__law_spoil_r5⟩ := c0.def_ 57 (d := dd__law_spoil_r5) rfl
  have F__law_spoil_r5 : Fun K "_law_spoil" "_law_spoil" s__law_spoil_r5 (He.fAd K ("_law_spoil", none)) fd__law_spoil_r5 := fun_of_D F__law_spoil_r5
  have hm_is_whole := He.glo_ok X G (c0.fact 0 (f := .glo "is_whole") rfl)
  have hm_is_row := He.glo_ok X G (c0.fact 1 (f := .glo "is_row") rfl)
  have hm_look_row := He.glo_ok X G (c0.fact 2 (f := .glo "look_row") rfl)
  have hm_look_gate := He.glo_ok X G (c0.fact 3 (f := .glo "look_gate") rfl)
  have hm_in_gate := He.glo_ok X G (c0.fact 4 (f := .glo "in_gate") rfl)
  have hm_counted := He.glo_ok X G (c0.fact 5 (f := .glo "counted") rfl)
  have hm_gaps_n := He.glo_ok X G (c0.fact 6 (f := .glo "gaps") rfl)
  have hm_share := He.glo_ok X G (c0.fact 7 (f := .glo "share") rfl)
  have hm_look_gates := He.glo_ok X G (c0.fact 8 (f := .glo "look_gates") rfl)
  have hm_starts_of := He.glo_ok X G (c0.fact 9 (f := .glo "starts_of") rfl)
  have hm_counts_of_n := He.glo_ok X G (c0.fact 10 (f := .glo "counts_of") rfl)
  have hm_in_gates_n := He.glo_ok X G (c0.fact 11 (f := .glo "in_gates") rfl)
  have hm_lost_n := He.glo_ok X G (c0.fact 12 (f := .glo "lost") rfl)
  have hm_look_counts := He.glo_ok X G (c0.fact 13 (f := .glo "look_counts") rfl)
  have hm_mean := He.glo_ok X G (c0.fact 14 (f := .glo "mean") rfl)
  have hm_spread := He.glo_ok X G (c0.fact 15 (f := .glo "spread") rfl)
  have hm_waits_n := He.glo_ok X G (c0.fact 16 (f := .glo "waits") rfl)
  have hm_to_next_n := He.glo_ok X G (c0.fact 17 (f := .glo "to_next") rfl)
  have hm_between_n := He.glo_ok X G (c0.fact 18 (f := .glo "between") rfl)
  have hm_is_fraction := He.glo_ok X G (c0.fact 19 (f := .glo "is_fraction") rfl)
  have hm_look_period := He.glo_ok X G (c0.fact 20 (f := .glo "look_period") rfl)
  have hm_ticks_of := He.glo_ok X G (c0.fact 21 (f := .glo "ticks_of") rfl)
  have hm_steady := He.glo_ok X G (c0.fact 22 (f := .glo "steady") rfl)
  have hm_can_count_n := He.glo_ok X G (c0.fact 23 (f := .glo "can_count") rfl)
  have hm_is_less := He.glo_ok X G (c0.fact 24 (f := .glo "is_less") rfl)
  have hm_bounds_of := He.glo_ok X G (c0.fact 25 (f := .glo "bounds_of") rfl)
  have hm_bounds := He.glo_ok X G (c0.fact 26 (f := .glo "bounds") rfl)
  have hm_simplest_between := He.glo_ok X G (c0.fact 27 (f := .glo "simplest_between") rfl)
  have hm_simplest_of := He.glo_ok X G (c0.fact 28 (f := .glo "simplest_of") rfl)
  have hm_simplest := He.glo_ok X G (c0.fact 29 (f := .glo "simplest") rfl)
  have hm_phase_for := He.glo_ok X G (c0.fact 30 (f := .glo "phase_for") rfl)
  have hm_by_count := He.glo_ok X G (c0.fact 31 (f := .glo "by_count") rfl)
  have hm_time_of := He.glo_ok X G (c0.fact 32 (f := .glo "time_of") rfl)
  have hm_by_time := He.glo_ok X G (c0.fact 33 (f := .glo "by_time") rfl)
  have hm__law_cell := He.glo_ok X G (c0.fact 34 (f := .glo "_law_cell") rfl)
  have hm__law_pick := He.glo_ok X G (c0.fact 35 (f := .glo "_law_pick") rfl)
  have hm__law_word := He.glo_ok X G (c0.fact 36 (f := .glo "_law_word") rfl)
  have hm__law_row := He.glo_ok X G (c0.fact 37 (f := .glo "_law_row") rfl)
  have hm__law_do := He.glo_ok X G (c0.fact 38 (f := .glo "_law_do") rfl)
  have hm__law_lists := He.glo_ok X G (c0.fact 39 (f := .glo "_law_lists") rfl)
  have hm_law := He.glo_ok X G (c0.fact 40 (f := .glo "law") rfl)
  have hm__law_copied_r0 := He.glo_ok X G (c0.fact 41 (f := .glo "_law_copied") rfl)
  have hm__law_copied_r1 := He.glo_ok X G (c0.fact 42 (f := .glo "_law_copied") rfl)
  have hm__law_copied_r2 := He.glo_ok X G (c0.fact 43 (f := .glo "_law_copied") rfl)
  have hm__law_copied_r3 := He.glo_ok X G (c0.fact 44 (f := .glo "_law_copied") rfl)
  have hm__law_copied_r4 := He.glo_ok X G (c0.fact 45 (f := .glo "_law_copied") rfl)
  have hm__law_copied_r5 := He.glo_ok X G (c0.fact 46 (f := .glo "_law_copied") rfl)
  have hm__law_spoil_r0 := He.glo_ok X G (c0.fact 47 (f := .glo "_law_spoil") rfl)
  have hm__law_spoil_r1 := He.glo_ok X G (c0.fact 48 (f := .glo "_law_spoil") rfl)
  have hm__law_spoil_r2 := He.glo_ok X G (c0.fact 49 (f := .glo "_law_spoil") rfl)
  have hm__law_spoil_r3 := He.glo_ok X G (c0.fact 50 (f := .glo "_law_spoil") rfl)
  have hm__law_spoil_r4 := He.glo_ok X G (c0.fact 51 (f := .glo "_law_spoil") rfl)
  have hm__law_spoil_r5 := He.glo_ok X G (c0.fact 52 (f := .glo "_law_spoil") rfl)
  have e := hfa.symm.trans hm_law
  cases e
  have b_ValueError := He.free_ok X G (c0.fact 60 (f := .free "ValueError") rfl)
  have b_abs := He.free_ok X G (c0.fact 61 (f := .free "abs") rfl)
  have b_all := He.free_ok X G (c0.fact 62 (f := .free "all") rfl)
  have b_bool := He.free_ok X G (c0.fact 63 (f := .free "bool") rfl)
  have b_dict := He.free_ok X G (c0.fact 64 (f := .free "dict") rfl)
  have b_enumerate := He.free_ok X G (c0.fact 65 (f := .free "enumerate") rfl)
  have b_int := He.free_ok X G (c0.fact 66 (f := .free "int") rfl)
  have b_isinstance := He.free_ok X G (c0.fact 67 (f := .free "isinstance") rfl)
  have b_len := He.free_ok X G (c0.fact 68 (f := .free "len") rfl)
  have b_list := He.free_ok X G (c0.fact 69 (f := .free "list") rfl)
  have b_max := He.free_ok X G (c0.fact 70 (f := .free "max") rfl)
  have b_min := He.free_ok X G (c0.fact 71 (f := .free "min") rfl)
  have b_range := He.free_ok X G (c0.fact 72 (f := .free "range") rfl)
  have b_sum := He.free_ok X G (c0.fact 73 (f := .free "sum") rfl)
  have b_tuple := He.free_ok X G (c0.fact 74 (f := .free "tuple") rfl)
  have b_zip := He.free_ok X G (c0.fact 75 (f := .free "zip") rfl)
  have g_FARTHEST := He.int_ok X G (c0.fact 76 (f := .int "FARTHEST" 99999) rfl)
  have g_LAST := He.int_ok X G (c0.fact 77 (f := .int "LAST" 9999) rfl)
  have g_MOST := He.int_ok X G (c0.fact 78 (f := .int "MOST" 40) rfl)
  have g_MOST_DOWN := He.int_ok X G (c0.fact 79 (f := .int "MOST_DOWN" 99) rfl)
  have g_MOST_GATES := He.int_ok X G (c0.fact 80 (f := .int "MOST_GATES" 20) rfl)
  have gx_NoGate := He.glo_ok X G (c0.fact 53 (f := .glo "NoGate") rfl)
  have gx_NoPeriod := He.glo_ok X G (c0.fact 54 (f := .glo "NoPeriod") rfl)
  have gx_NoRow := He.glo_ok X G (c0.fact 55 (f := .glo "NoRow") rfl)
  have gx_BeatError := He.glo_ok X G (c0.fact 56 (f := .glo "BeatError") rfl)
  obtain ⟨exA, exB⟩ := He.ba c.more
  have gC_Counter := He.glo_ok X G (c0.fact 81 (f := .glo "Counter") rfl)
  have cl0 := He.cls_ok (c0.fact 82 (f := .cls "Counter") rfl)
  have na0_found := He.noat_ok (c0.fact 83 (f := .noat "Counter" "found") rfl)
  have na0_gone := He.noat_ok (c0.fact 84 (f := .noat "Counter" "gone") rfl)
  have na0_length := He.noat_ok (c0.fact 85 (f := .noat "Counter" "length") rfl)
  have na0_next := He.noat_ok (c0.fact 86 (f := .noat "Counter" "next") rfl)
  have na0_starts := He.noat_ok (c0.fact 87 (f := .noat "Counter" "starts") rfl)
  have mk0 := He.mkr_ok (c0.fact 88 (f := .mkr "Counter") rfl)
  have me0_beat := He.meth_ok (c0.fact 89 (f := .meth "Counter" "beat") rfl)
  have me0_go_on := He.meth_ok (c0.fact 90 (f := .meth "Counter" "go_on") rfl)
  have me0_over := He.meth_ok (c0.fact 91 (f := .meth "Counter" "over") rfl)
  have me0_now := He.meth_ok (c0.fact 92 (f := .meth "Counter" "now") rfl)
  refine law_at (fd := fd_law) X c (fun s u => bind_one F_law s u) fun base KB NB TB a ns hl => ?_
  have hK : K = (pmOf K (tabsOf K tfL) (He.ga K) (fun y => He.ga K (exCls y)) a ns hl).K := rfl
  have hca : (pmOf K (tabsOf K tfL) (He.ga K) (fun y => He.ga K (exCls y)) a ns hl).ca = He.ga K := rfl
  have hxa : (pmOf K (tabsOf K tfL) (He.ga K) (fun y => He.ga K (exCls y)) a ns hl).xa = fun y => He.ga K (exCls y) := rfl
  have hT : (pmOf K (tabsOf K tfL) (He.ga K) (fun y => He.ga K (exCls y)) a ns hl).T = tabsOf K tfL := rfl
  generalize pmOf K (tabsOf K tfL) (He.ga K) (fun y => He.ga K (exCls y)) a ns hl = p at hK hca hxa hT ⊢
  have e_NoGate : ExcF K mg p "NoGate" .gate := excF_of (x := .gate) hxa gx_NoGate (c0.fact 57 (f := .exc "NoGate") rfl)
  have e_NoPeriod : ExcF K mg p "NoPeriod" .period := excF_of (x := .period) hxa gx_NoPeriod (c0.fact 58 (f := .exc "NoPeriod") rfl)
  have e_NoRow : ExcF K mg p "NoRow" .row := excF_of (x := .row) hxa gx_NoRow (c0.fact 59 (f := .exc "NoRow") rfl)
  have ew : ExcsW K mg p (p.ca "BeatError") := excsW_ok X G hxa hca gx_BeatError exB
  have cl_Counter : Cls p.K (p.ca "Counter") := by rw [hca, ← hK]; exact cl0
  have na_found : NoAttr p.K (p.ca "Counter") "found" := by rw [hca, ← hK]; exact na0_found
  have na_gone : NoAttr p.K (p.ca "Counter") "gone" := by rw [hca, ← hK]; exact na0_gone
  have na_length : NoAttr p.K (p.ca "Counter") "length" := by rw [hca, ← hK]; exact na0_length
  have na_next : NoAttr p.K (p.ca "Counter") "next" := by rw [hca, ← hK]; exact na0_next
  have na_starts : NoAttr p.K (p.ca "Counter") "starts" := by rw [hca, ← hK]; exact na0_starts
  have c_is_whole : Cal (PySem.Challenge.rw_gatebeats_k70_whole_again).prog w K mg base p "is_whole" 1 3 (sp_is_whole p) := cal_mk (ok_is_whole F_is_whole hK b_bool b_int b_isinstance) rfl hm_is_whole F_is_whole.kp (F_is_whole.binds fun _ _ _ _ _ _ us hl => match us, hl with | [_, _, _], _ => rfl)
  have c_in_gate : Cal (PySem.Challenge.rw_gatebeats_k70_whole_again).prog w K mg base p "in_gate" 1 3 (sp_in_gate p) := cal_mk (ok_in_gate F_in_gate hK ) rfl hm_in_gate F_in_gate.kp (F_in_gate.binds fun _ _ _ _ _ _ us hl => match us, hl with | [_, _, _], _ => rfl)
  have c_share : Cal (PySem.Challenge.rw_gatebeats_k70_whole_again).prog w K mg base p "share" 1 2 (sp_share p) := cal_mk (ok_share F_share hK b_abs) rfl hm_share F_share.kp (F_share.binds fun _ _ _ _ _ _ us hl => match us, hl with | [_, _], _ => rfl)
  have c_starts_of : Cal (PySem.Challenge.rw_gatebeats_k70_whole_again).prog w K mg base p "starts_of" 1 4 (sp_starts_of p) := cal_mk (ok_starts_of F_starts_of hK b_range) rfl hm_starts_of F_starts_of.kp (F_starts_of.binds fun _ _ _ _ _ _ us hl => match us, hl with | [_, _, _, _], _ => rfl)
  have c_Counter_beat : CalM (PySem.Challenge.rw_gatebeats_k70_whole_again).prog w K mg base p "Counter" "beat" 1 2 (sp_Counter_beat p) := calM_mk (ok_Counter_beat F_Counter_beat hK b_enumerate cl_Counter na_found na_length na_starts) rfl (by rw [hca]; exact me0_beat) (by rw [hK]; exact cl_Counter) (F_Counter_beat.binds fun _ _ _ _ _ _ us hl => match us, hl with | [_, _], _ => rfl)
  have c_Counter_over : CalM (PySem.Challenge.rw_gatebeats_k70_whole_again).prog w K mg base p "Counter" "over" 1 1 (sp_Counter_over p) := calM_mk (ok_Counter_over F_Counter_over hK cl_Counter na_gone) rfl (by rw [hca]; exact me0_over) (by rw [hK]; exact cl_Counter) (F_Counter_over.binds fun _ _ _ _ _ _ us hl => match us, hl with | [_], _ => rfl)
  have c_Counter_now : CalM (PySem.Challenge.rw_gatebeats_k70_whole_again).prog w K mg base p "Counter" "now" 1 1 (sp_Counter_now p) := calM_mk (ok_Counter_now F_Counter_now hK b_len cl_Counter na_found na_gone na_next na_starts) rfl (by rw [hca]; exact me0_now) (by rw [hK]; exact cl_Counter) (F_Counter_now.binds fun _ _ _ _ _ _ us hl => match us, hl with | [_], _ => rfl)
  have c_waits_n : Cal (PySem.Challenge.rw_gatebeats_k70_whole_again).prog w K mg base p "waits" 1 2 (sp_waits_n p) := cal_mk (ok_waits_n F_waits_n hK ) rfl hm_waits_n F_waits_n.kp (F_waits_n.binds fun _ _ _ _ _ _ us hl => match us, hl with | [_, _], _ => rfl)
  have c_ticks_of : Cal (PySem.Challenge.rw_gatebeats_k70_whole_again).prog w K mg base p "ticks_of" 1 3 (sp_ticks_of p) := cal_mk (ok_ticks_of F_ticks_of hK b_range b_tuple) rfl hm_ticks_of F_ticks_of.kp (F_ticks_of.binds fun _ _ _ _ _ _ us hl => match us, hl with | [_, _, _], _ => rfl)
  have c_is_less : Cal (PySem.Challenge.rw_gatebeats_k70_whole_again).prog w K mg base p "is_less" 1 2 (sp_is_less p) := cal_mk (ok_is_less F_is_less hK ) rfl hm_is_less F_is_less.kp (F_is_less.binds fun _ _ _ _ _ _ us hl => match us, hl with | [_, _], _ => rfl)
  have c_simplest_between : Cal (PySem.Challenge.rw_gatebeats_k70_whole_again).prog w K mg base p "simplest_between" 1 2 (sp_simplest_between p) := cal_mk (ok_simplest_between F_simplest_between hK ) rfl hm_simplest_between F_simplest_between.kp (F_simplest_between.binds fun _ _ _ _ _ _ us hl => match us, hl with | [_, _], _ => rfl)
  have c__law_cell : Cal (PySem.Challenge.rw_gatebeats_k70_whole_again).prog w K mg base p "_law_cell" 1 2 (sp__law_cell p) := cal_mk (ok__law_cell F__law_cell hK b_len) rfl hm__law_cell F__law_cell.kp (F__law_cell.binds fun _ _ _ _ _ _ us hl => match us, hl with | [_, _], _ => rfl)
  have c__law_word : Cal (PySem.Challenge.rw_gatebeats_k70_whole_again).prog w K mg base p "_law_word" 1 1 (sp__law_word p) := cal_mk (ok__law_word F__law_word hK b_ValueError b_isinstance ew) rfl hm__law_word F__law_word.kp (F__law_word.binds fun _ _ _ _ _ _ us hl => match us, hl with | [_], _ => rfl)
  have c__law_copied_r0 : Cal (PySem.Challenge.rw_gatebeats_k70_whole_again).prog w K mg base p "_law_copied" 1 1 (sp__law_copied_r0 p) := cal_mk (fn_bot (ps := ["_law_thing"])) rfl hm__law_copied_r0 F__law_copied_r0.kp (F__law_copied_r0.binds fun _ _ _ _ _ _ us hl => match us, hl with | [_], _ => rfl)
  have c__law_spoil_r0 : Cal (PySem.Challenge.rw_gatebeats_k70_whole_again).prog w K mg base p "_law_spoil" 1 1 (sp__law_spoil_r0 p) := cal_mk (fn_bot (ps := ["_law_thing"])) rfl hm__law_spoil_r0 F__law_spoil_r0.kp (F__law_spoil_r0.binds fun _ _ _ _ _ _ us hl => match us, hl with | [_], _ => rfl)
  have c_is_row : Cal (PySem.Challenge.rw_gatebeats_k70_whole_again).prog w K mg base p "is_row" 2 1 (sp_is_row p) := cal_mk (ok_is_row F_is_row hK b_all b_isinstance b_len b_tuple b_zip g_LAST g_MOST c_is_whole) rfl hm_is_row F_is_row.kp (F_is_row.binds fun _ _ _ _ _ _ us hl => match us, hl with | [_], _ => rfl)
  have c_look_gate : Cal (PySem.Challenge.rw_gatebeats_k70_whole_again).prog w K mg base p "look_gate" 2 2 (sp_look_gate p) := cal_mk (ok_look_gate F_look_gate hK g_LAST e_NoGate c_is_whole) rfl hm_look_gate F_look_gate.kp (F_look_gate.binds fun _ _ _ _ _ _ us hl => match us, hl with | [_, _], _ => rfl)
  have c_counts_of_n : Cal (PySem.Challenge.rw_gatebeats_k70_whole_again).prog w K mg base p "counts_of" 2 5 (sp_counts_of_n p) := cal_mk (ok_counts_of_n F_counts_of_n hK b_len c_starts_of c_in_gate) rfl hm_counts_of_n F_counts_of_n.kp (F_counts_of_n.binds fun _ _ _ _ _ _ us hl => match us, hl with | [_, _, _, _, _], _ => rfl)
  have c_look_counts : Cal (PySem.Challenge.rw_gatebeats_k70_whole_again).prog w K mg base p "look_counts" 2 1 (sp_look_counts p) := cal_mk (ok_look_counts F_look_counts hK b_all b_isinstance b_len b_list b_tuple g_MOST_GATES e_NoGate c_is_whole) rfl hm_look_counts F_look_counts.kp (F_look_counts.binds fun _ _ _ _ _ _ us hl => match us, hl with | [_], _ => rfl)
  have c_is_fraction : Cal (PySem.Challenge.rw_gatebeats_k70_whole_again).prog w K mg base p "is_fraction" 2 1 (sp_is_fraction p) := cal_mk (ok_is_fraction F_is_fraction hK b_bool b_int b_isinstance b_len b_tuple g_MOST_DOWN c_is_whole c_share) rfl hm_is_fraction F_is_fraction.kp (F_is_fraction.binds fun _ _ _ _ _ _ us hl => match us, hl with | [_], _ => rfl)
  have c_bounds_of : Cal (PySem.Challenge.rw_gatebeats_k70_whole_again).prog w K mg base p "bounds_of" 2 1 (sp_bounds_of p) := cal_mk (ok_bounds_of F_bounds_of hK b_enumerate b_len g_LAST c_share c_is_less) rfl hm_bounds_of F_bounds_of.kp (F_bounds_of.binds fun _ _ _ _ _ _ us hl => match us, hl with | [_], _ => rfl)
  have c_time_of : Cal (PySem.Challenge.rw_gatebeats_k70_whole_again).prog w K mg base p "time_of" 2 3 (sp_time_of p) := cal_mk (ok_time_of F_time_of hK b_len c_in_gate c_share) rfl hm_time_of F_time_of.kp (F_time_of.binds fun _ _ _ _ _ _ us hl => match us, hl with | [_, _, _], _ => rfl)
  have c__law_pick : Cal (PySem.Challenge.rw_gatebeats_k70_whole_again).prog w K mg base p "_law_pick" 2 3 (sp__law_pick p) := cal_mk (ok__law_pick F__law_pick hK c__law_cell) rfl hm__law_pick F__law_pick.kp (F__law_pick.binds fun _ _ _ _ _ _ us hl => match us, hl with | [_, _, _], _ => rfl)
  have c__law_copied_r1 : Cal (PySem.Challenge.rw_gatebeats_k70_whole_again).prog w K mg base p "_law_copied" 2 1 (sp__law_copied_r1 p) := cal_mk (ok__law_copied_r1 F__law_copied_r1 hK b_dict b_isinstance b_list b_tuple c__law_copied_r0) rfl hm__law_copied_r1 F__law_copied_r1.kp (F__law_copied_r1.binds fun _ _ _ _ _ _ us hl => match us, hl with | [_], _ => rfl)
  have c__law_spoil_r1 : Cal (PySem.Challenge.rw_gatebeats_k70_whole_again).prog w K mg base p "_law_spoil" 2 1 (sp__law_spoil_r1 p) := cal_mk (ok__law_spoil_r1 F__law_spoil_r1 hK b_dict b_isinstance b_list b_tuple c__law_spoil_r0) rfl hm__law_spoil_r1 F__law_spoil_r1.kp (F__law_spoil_r1.binds fun _ _ _ _ _ _ us hl => match us, hl with | [_], _ => rfl)
  have c_look_row : Cal (PySem.Challenge.rw_gatebeats_k70_whole_again).prog w K mg base p "look_row" 3 1 (sp_look_row p) := cal_mk (ok_look_row F_look_row hK e_NoRow c_is_row) rfl hm_look_row F_look_row.kp (F_look_row.binds fun _ _ _ _ _ _ us hl => match us, hl with | [_], _ => rfl)
  have c_look_gates : Cal (PySem.Challenge.rw_gatebeats_k70_whole_again).prog w K mg base p "look_gates" 3 4 (sp_look_gates p) := cal_mk (ok_look_gates F_look_gates hK g_FARTHEST g_LAST g_MOST_GATES e_NoGate c_look_gate c_is_whole) rfl hm_look_gates F_look_gates.kp (F_look_gates.binds fun _ _ _ _ _ _ us hl => match us, hl with | [_, _, _, _], _ => rfl)
  have c_mean : Cal (PySem.Challenge.rw_gatebeats_k70_whole_again).prog w K mg base p "mean" 3 1 (sp_mean p) := cal_mk (ok_mean F_mean hK b_len b_sum c_look_counts c_share) rfl hm_mean F_mean.kp (F_mean.binds fun _ _ _ _ _ _ us hl => match us, hl with | [_], _ => rfl)
  have c_spread : Cal (PySem.Challenge.rw_gatebeats_k70_whole_again).prog w K mg base p "spread" 3 1 (sp_spread p) := cal_mk (ok_spread F_spread hK b_max b_min c_look_counts) rfl hm_spread F_spread.kp (F_spread.binds fun _ _ _ _ _ _ us hl => match us, hl with | [_], _ => rfl)
  have c_look_period : Cal (PySem.Challenge.rw_gatebeats_k70_whole_again).prog w K mg base p "look_period" 3 1 (sp_look_period p) := cal_mk (ok_look_period F_look_period hK g_LAST e_NoPeriod c_is_fraction) rfl hm_look_period F_look_period.kp (F_look_period.binds fun _ _ _ _ _ _ us hl => match us, hl with | [_], _ => rfl)
  have c_simplest_of : Cal (PySem.Challenge.rw_gatebeats_k70_whole_again).prog w K mg base p "simplest_of" 3 1 (sp_simplest_of p) := cal_mk (ok_simplest_of F_simplest_of hK c_bounds_of c_simplest_between) rfl hm_simplest_of F_simplest_of.kp (F_simplest_of.binds fun _ _ _ _ _ _ us hl => match us, hl with | [_], _ => rfl)
  have c__law_row : Cal (PySem.Challenge.rw_gatebeats_k70_whole_again).prog w K mg base p "_law_row" 3 3 (sp__law_row p) := cal_mk (ok__law_row F__law_row hK b_range b_tuple c__law_pick) rfl hm__law_row F__law_row.kp (F__law_row.binds fun _ _ _ _ _ _ us hl => match us, hl with | [_, _, _], _ => rfl)
  have c__law_copied_r2 : Cal (PySem.Challenge.rw_gatebeats_k70_whole_again).prog w K mg base p "_law_copied" 3 1 (sp__law_copied_r2 p) := cal_mk (ok__law_copied_r2 F__law_copied_r2 hK b_dict b_isinstance b_list b_tuple c__law_copied_r1) rfl hm__law_copied_r2 F__law_copied_r2.kp (F__law_copied_r2.binds fun _ _ _ _ _ _ us hl => match us, hl with | [_], _ => rfl)
  have c__law_spoil_r2 : Cal (PySem.Challenge.rw_gatebeats_k70_whole_again).prog w K mg base p "_law_spoil" 3 1 (sp__law_spoil_r2 p) := cal_mk (ok__law_spoil_r2 F__law_spoil_r2 hK b_dict b_isinstance b_list b_tuple c__law_spoil_r1) rfl hm__law_spoil_r2 F__law_spoil_r2.kp (F__law_spoil_r2.binds fun _ _ _ _ _ _ us hl => match us, hl with | [_], _ => rfl)
  have c_counted : Cal (PySem.Challenge.rw_gatebeats_k70_whole_again).prog w K mg base p "counted" 4 3 (sp_counted p) := cal_mk (ok_counted F_counted hK b_len c_look_row c_look_gate c_in_gate) rfl hm_counted F_counted.kp (F_counted.binds fun _ _ _ _ _ _ us hl => match us, hl with | [_, _, _], _ => rfl)
  have c_gaps_n : Cal (PySem.Challenge.rw_gatebeats_k70_whole_again).prog w K mg base p "gaps" 4 1 (sp_gaps_n p) := cal_mk (ok_gaps_n F_gaps_n hK b_zip c_look_row) rfl hm_gaps_n F_gaps_n.kp (F_gaps_n.binds fun _ _ _ _ _ _ us hl => match us, hl with | [_], _ => rfl)
  have c_in_gates_n : Cal (PySem.Challenge.rw_gatebeats_k70_whole_again).prog w K mg base p "in_gates" 4 5 (sp_in_gates_n p) := cal_mk (ok_in_gates_n F_in_gates_n hK c_look_row c_look_gates c_counts_of_n) rfl hm_in_gates_n F_in_gates_n.kp (F_in_gates_n.binds fun _ _ _ _ _ _ us hl => match us, hl with | [_, _, _, _, _], _ => rfl)
  have c_lost_n : Cal (PySem.Challenge.rw_gatebeats_k70_whole_again).prog w K mg base p "lost" 4 5 (sp_lost_n p) := cal_mk (ok_lost_n F_lost_n hK b_len b_sum c_look_row c_look_gates c_in_gate c_counts_of_n) rfl hm_lost_n F_lost_n.kp (F_lost_n.binds fun _ _ _ _ _ _ us hl => match us, hl with | [_, _, _, _, _], _ => rfl)
  have cc_Counter : CalC (PySem.Challenge.rw_gatebeats_k70_whole_again).prog w K mg base p "Counter" 4 5 (sp_Counter___init__ p) := calC_mk (ok_Counter___init__ F_Counter___init__ hK c_look_gates c_starts_of cl_Counter na_found na_gone na_length na_next na_starts) rfl (by rw [hca]; exact mk0) (by rw [hca]; exact gC_Counter) (F_Counter___init__.binds fun _ _ _ _ _ _ us hl => match us, hl with | [_, _, _, _, _], _ => rfl)
  have c_Counter_go_on_n : CalM (PySem.Challenge.rw_gatebeats_k70_whole_again).prog w K mg base p "Counter" "go_on" 4 3 (sp_Counter_go_on_n p) := calM_mk (ok_Counter_go_on_n F_Counter_go_on_n hK b_all b_bool b_int b_isinstance b_len g_LAST e_NoGate e_NoRow c_look_row c_is_whole c_Counter_beat cl_Counter na_found na_gone na_length na_next na_starts) rfl (by rw [hca]; exact me0_go_on) (by rw [hK]; exact cl_Counter) (F_Counter_go_on_n.binds fun _ _ _ _ _ _ us hl => match us, hl with | [_, _, _], _ => rfl)
  have c_to_next_n : Cal (PySem.Challenge.rw_gatebeats_k70_whole_again).prog w K mg base p "to_next" 4 2 (sp_to_next_n p) := cal_mk (ok_to_next_n F_to_next_n hK c_look_row c_waits_n) rfl hm_to_next_n F_to_next_n.kp (F_to_next_n.binds fun _ _ _ _ _ _ us hl => match us, hl with | [_, _], _ => rfl)
  have c_between_n : Cal (PySem.Challenge.rw_gatebeats_k70_whole_again).prog w K mg base p "between" 4 2 (sp_between_n p) := cal_mk (ok_between_n F_between_n hK b_len b_zip c_look_row) rfl hm_between_n F_between_n.kp (F_between_n.binds fun _ _ _ _ _ _ us hl => match us, hl with | [_, _], _ => rfl)
  have c_steady : Cal (PySem.Challenge.rw_gatebeats_k70_whole_again).prog w K mg base p "steady" 4 3 (sp_steady p) := cal_mk (ok_steady F_steady hK g_LAST g_MOST e_NoPeriod c_is_fraction c_look_period c_is_whole c_ticks_of c_is_row) rfl hm_steady F_steady.kp (F_steady.binds fun _ _ _ _ _ _ us hl => match us, hl with | [_, _, _], _ => rfl)
  have c_can_count_n : Cal (PySem.Challenge.rw_gatebeats_k70_whole_again).prog w K mg base p "can_count" 4 2 (sp_can_count_n p) := cal_mk (ok_can_count_n F_can_count_n hK c_look_gate c_look_period) rfl hm_can_count_n F_can_count_n.kp (F_can_count_n.binds fun _ _ _ _ _ _ us hl => match us, hl with | [_, _], _ => rfl)
  have c_bounds : Cal (PySem.Challenge.rw_gatebeats_k70_whole_again).prog w K mg base p "bounds" 4 1 (sp_bounds p) := cal_mk (ok_bounds F_bounds hK c_look_row c_bounds_of) rfl hm_bounds F_bounds.kp (F_bounds.binds fun _ _ _ _ _ _ us hl => match us, hl with | [_], _ => rfl)
  have c_simplest : Cal (PySem.Challenge.rw_gatebeats_k70_whole_again).prog w K mg base p "simplest" 4 1 (sp_simplest p) := cal_mk (ok_simplest F_simplest hK c_look_row c_simplest_of) rfl hm_simplest F_simplest.kp (F_simplest.binds fun _ _ _ _ _ _ us hl => match us, hl with | [_], _ => rfl)
  have c_phase_for : Cal (PySem.Challenge.rw_gatebeats_k70_whole_again).prog w K mg base p "phase_for" 4 1 (sp_phase_for p) := cal_mk (ok_phase_for F_phase_for hK b_enumerate c_look_row c_simplest_of c_share c_is_less) rfl hm_phase_for F_phase_for.kp (F_phase_for.binds fun _ _ _ _ _ _ us hl => match us, hl with | [_], _ => rfl)
  have c_by_count : Cal (PySem.Challenge.rw_gatebeats_k70_whole_again).prog w K mg base p "by_count" 4 3 (sp_by_count p) := cal_mk (ok_by_count F_by_count hK b_len b_max c_look_row c_look_gate c_in_gate c_share) rfl hm_by_count F_by_count.kp (F_by_count.binds fun _ _ _ _ _ _ us hl => match us, hl with | [_, _, _], _ => rfl)
  have c_by_time : Cal (PySem.Challenge.rw_gatebeats_k70_whole_again).prog w K mg base p "by_time" 4 3 (sp_by_time p) := cal_mk (ok_by_time F_by_time hK c_look_row c_look_gate c_time_of) rfl hm_by_time F_by_time.kp (F_by_time.binds fun _ _ _ _ _ _ us hl => match us, hl with | [_, _, _], _ => rfl)
  have c__law_copied_r3 : Cal (PySem.Challenge.rw_gatebeats_k70_whole_again).prog w K mg base p "_law_copied" 4 1 (sp__law_copied_r3 p) := cal_mk (ok__law_copied_r3 F__law_copied_r3 hK b_dict b_isinstance b_list b_tuple c__law_copied_r2) rfl hm__law_copied_r3 F__law_copied_r3.kp (F__law_copied_r3.binds fun _ _ _ _ _ _ us hl => match us, hl with | [_], _ => rfl)
  have c__law_spoil_r3 : Cal (PySem.Challenge.rw_gatebeats_k70_whole_again).prog w K mg base p "_law_spoil" 4 1 (sp__law_spoil_r3 p) := cal_mk (ok__law_spoil_r3 F__law_spoil_r3 hK b_dict b_isinstance b_list b_tuple c__law_spoil_r2) rfl hm__law_spoil_r3 F__law_spoil_r3.kp (F__law_spoil_r3.binds fun _ _ _ _ _ _ us hl => match us, hl with | [_], _ => rfl)
  have c__law_copied_r4 : Cal (PySem.Challenge.rw_gatebeats_k70_whole_again).prog w K mg base p "_law_copied" 5 1 (sp__law_copied_r4 p) := cal_mk (ok__law_copied_r4 F__law_copied_r4 hK b_dict b_isinstance b_list b_tuple c__law_copied_r3) rfl hm__law_copied_r4 F__law_copied_r4.kp (F__law_copied_r4.binds fun _ _ _ _ _ _ us hl => match us, hl with | [_], _ => rfl)
  have c__law_spoil_r4 : Cal (PySem.Challenge.rw_gatebeats_k70_whole_again).prog w K mg base p "_law_spoil" 5 1 (sp__law_spoil_r4 p) := cal_mk (ok__law_spoil_r4 F__law_spoil_r4 hK b_dict b_isinstance b_list b_tuple c__law_spoil_r3) rfl hm__law_spoil_r4 F__law_spoil_r4.kp (F__law_spoil_r4.binds fun _ _ _ _ _ _ us hl => match us, hl with | [_], _ => rfl)
  have c__law_lists : Cal (PySem.Challenge.rw_gatebeats_k70_whole_again).prog w K mg base p "_law_lists" 5 3 (sp__law_lists p) := cal_mk (ok__law_lists F__law_lists hK c_gaps_n c_in_gates_n c_to_next_n c_between_n c_can_count_n c_counted c_by_count c_by_time c_lost_n c_mean c_spread c_bounds c_simplest c_phase_for c_steady) rfl hm__law_lists F__law_lists.kp (F__law_lists.binds fun _ _ _ _ _ _ us hl => match us, hl with | [_, _, _], _ => rfl)
  have c__law_copied_r5 : Cal (PySem.Challenge.rw_gatebeats_k70_whole_again).prog w K mg base p "_law_copied" 6 1 (sp__law_copied_r5 p) := cal_mk (ok__law_copied_r5 F__law_copied_r5 hK b_dict b_isinstance b_list b_tuple c__law_copied_r4) rfl hm__law_copied_r5 F__law_copied_r5.kp (F__law_copied_r5.binds fun _ _ _ _ _ _ us hl => match us, hl with | [_], _ => rfl)
  have c__law_spoil_r5 : Cal (PySem.Challenge.rw_gatebeats_k70_whole_again).prog w K mg base p "_law_spoil" 6 1 (sp__law_spoil_r5 p) := cal_mk (ok__law_spoil_r5 F__law_spoil_r5 hK b_dict b_isinstance b_list b_tuple c__law_spoil_r4) rfl hm__law_spoil_r5 F__law_spoil_r5.kp (F__law_spoil_r5.binds fun _ _ _ _ _ _ us hl => match us, hl with | [_], _ => rfl)
  have c__law_do : Cal (PySem.Challenge.rw_gatebeats_k70_whole_again).prog w K mg base p "_law_do" 6 4 (sp__law_do p) := cal_mk (ok__law_do F__law_do hK c_Counter_go_on_n cc_Counter c_by_time c_can_count_n c_in_gates_n c_counted c_by_count c__law_word ew) rfl hm__law_do F__law_do.kp (F__law_do.binds fun _ _ _ _ _ _ us hl => match us, hl with | [_, _, _, _], _ => rfl)
  exact ok_law F_law hK b_list b_range c__law_row c__law_pick c__law_lists c__law_copied_r5 c__law_spoil_r5 cc_Counter c_Counter_go_on_n c_Counter_over c_Counter_now c__law_do
end DL
open PySem PySem.W PySem.Calls PyProof.Rows in
set_option maxRecDepth 100000 in
set_option maxHeartbeats 0 in
theorem PySem.Challenge.cw_gatebeats_k70_whole_again_holds : PySem.Challenge.rw_gatebeats_k70_whole_again.Holds := by
  w_on; o_law
  refine HandSHeadRun.head_any (r := OpenLaw.row PySem.Challenge.rw_gatebeats_k70_whole_again) (q := view (OpenLaw.row PySem.Challenge.rw_gatebeats_k70_whole_again).prog [62]) (H := DL.hkL) (ob := DL.obL) (M := 3000) (loose := DL.looseL) (d := HandSHeadRun.topDef (OpenLaw.row PySem.Challenge.rw_gatebeats_k70_whole_again).prog 62) (kwd := []) DL.obL_eq
    (by kernel_rfl) (fun s => by kernel_rfl) DL.runL (by kernel_rfl) (by kernel_rfl) (by kernel_rfl) (by rfl) (by first | assumption | decide +kernel) (by decide +kernel) ⟨rfl, rfl, rfl, rfl, rfl, by decide +kernel⟩ ?hw ?hc
  case hw => w_witness2
  case hc =>
    refine LamX.walk_ofTsE (l := PySem.Challenge.rw_gatebeats_k70_whole_again) (n := 63) (k := 7) (x := "_law_script") (CX := fun w => L2N.CX (PySem.Challenge.rw_gatebeats_k70_whole_again).prog w) rfl (by decide) (by kernel_rfl) ⟨rfl, by decide, by decide⟩ ?F (fun _ _ _ _ _ z => DL.cx_none z)
    intro w mg fa h Y G hmg0
    obtain ⟨K, KX, c⟩ := Y
    have hmg : mg ("law" : PySem.Str) = some (.ref fa) := by
      have e : (HandSHeadRun.topDef (OpenLaw.row PySem.Challenge.rw_gatebeats_k70_whole_again).prog 62).name = ("law" : PySem.Str) := by kernel_rfl
      rw [← e]
      exact hmg0
    exact ⟨K, KX, DL.factsL KX G hmg c⟩
