import PyProof.Rows.All
import Wide.All
import OpenK.AllK
import Wide.FinOn
import HandS.ForMost
import HandS.ForExc
import HandS.Deep
import HandS.TupAny
import HandS.IsInst
import HandS.CallSlots
import HandS.Lambda
import HandS.Iter
import HandS.Zip
import HandS.Style
import KE.KExcSuper
import KE.KSuper
import Open.SpecLaws
import KE.OsGo
import HandS.Strs
import HandS.TryMany
import HandS.EndOwn
import KE.KAssignIn
import HandS.More
import KE.GoesMore
import HandS.ReplaceLit
import PyProof.StrLoop
import PyProof.StrLawsReplace
import PyProof.StrLawsWords
import HandS.TupSets
import HandS.SetTxt0
import PyProof.Rows.SortShellAny
import PyProof.Rows.StrMeet
import PySem.Challenge.RW_alldeeds_k83_kinds_and_their_forms
set_option Elab.async false
set_option linter.all false
set_option maxHeartbeats 4000000
set_option maxRecDepth 100000
namespace DL
open PySem L2
/-! ### data -/
inductive D where
  | non | bl (b : Bool) | int (i : Int) | str (s : Str)
  | tup (ds : List D) | lst (ds : List D) | dct (es : List (Key × D)) | pen | ref (a : Addr)
/-- what an exception bears: its class and its own fields -/
structure Ex where
  cls : Str
  fs : List (Str × D)
/-- the fixed things of a walk: the written part, the source of draws (its place, what holds of it behind c draws) -/
structure Yc where
  K : PySem.W.Frag
  mg : Str → Option Value
  T : List (Addr × Str)
  raw : List (Addr × Str)
  G0 : Hp
  p : Addr
  W : Hp → Nat → HO → Prop
  mono : ∀ G G' c o, Same G G' → W G c o → W G' c o
  more : ∀ G c c' o, c ≤ c' → W G c o → W G c' o
mutual
inductive Rep (Y : Yc) (G : Hp) : D → V → Prop
  | non : Rep Y G .non .non
  | bl (b : Bool) : Rep Y G (.bl b) (.bl b)
  | int (i : Int) : Rep Y G (.int i) (.int i)
  | str (s : Str) : Rep Y G (.str s) (.str s)
  | pen : Rep Y G .pen (.ref Y.p)
  | ref (a : Addr) : Rep Y G (.ref a) (.ref a)
  | tup {a : Addr} {xs : List V} {ds : List D} : SqT Y.K G a xs → Reps Y G ds xs → Rep Y G (.tup ds) (.ref a)
  | lst {a : Addr} {xs : List V} {ds : List D} : G a = some (.lst xs) → Reps Y G ds xs → Rep Y G (.lst ds) (.ref a)
  | dct {a : Addr} {kvs : List (Key × V)} {es : List (Key × D)} : G a = some (.dK kvs) → Repk Y G es kvs → Rep Y G (.dct es) (.ref a)
inductive Reps (Y : Yc) (G : Hp) : List D → List V → Prop
  | nil : Reps Y G [] []
  | cons {d : D} {v : V} {ds : List D} {vs : List V} : Rep Y G d v → Reps Y G ds vs → Reps Y G (d :: ds) (v :: vs)
inductive Repk (Y : Yc) (G : Hp) : List (Key × D) → List (Key × V) → Prop
  | nil : Repk Y G [] []
  | cons (k : Key) {d : D} {v : V} {ds : List (Key × D)} {vs : List (Key × V)} : Rep Y G d v → Repk Y G ds vs → Repk Y G ((k, d) :: ds) ((k, v) :: vs)
end
theorem sqT_mono {K : PySem.W.Frag} {G G' : Hp} {a : Addr} {xs : List V} (s : Same G G') (h : SqT K G a xs) : SqT K G' a xs := by
  rcases h with (h | ⟨o, h⟩) | h
  · exact .inl (.inl (s _ _ h))
  · exact .inl (.inr ⟨o, s _ _ h⟩)
  · exact .inr h
mutual
theorem Rep.mono {Y : Yc} {G G' : Hp} (s : Same G G') : ∀ {d : D} {v : V}, Rep Y G d v → Rep Y G' d v
  | _, _, .non => .non
  | _, _, .bl b => .bl b
  | _, _, .int i => .int i
  | _, _, .str x => .str x
  | _, _, .pen => .pen
  | _, _, .ref a => .ref a
  | _, _, .tup h r => .tup (sqT_mono s h) (Reps.mono s r)
  | _, _, .lst h r => .lst (s _ _ h) (Reps.mono s r)
  | _, _, .dct h r => .dct (s _ _ h) (Repk.mono s r)
theorem Reps.mono {Y : Yc} {G G' : Hp} (s : Same G G') : ∀ {d : List D} {v : List V}, Reps Y G d v → Reps Y G' d v
  | _, _, .nil => .nil
  | _, _, .cons h r => .cons (Rep.mono s h) (Reps.mono s r)
theorem Repk.mono {Y : Yc} {G G' : Hp} (s : Same G G') : ∀ {d : List (Key × D)} {v : List (Key × V)}, Repk Y G d v → Repk Y G' d v
  | _, _, .nil => .nil
  | _, _, .cons k h r => .cons k (Rep.mono s h) (Repk.mono s r)
end
theorem Reps.length {Y : Yc} {G : Hp} : ∀ {ds : List D} {vs : List V}, Reps Y G ds vs → ds.length = vs.length
  | _, _, .nil => rfl
  | _, _, .cons _ r => congrArg (· + 1) (Reps.length r)
theorem Reps.get {Y : Yc} {G : Hp} : ∀ {ds : List D} {vs : List V} {i : Nat} {d : D}, Reps Y G ds vs → ds[i]? = some d → ∃ v, vs[i]? = some v ∧ Rep Y G d v
  | _, _, i, d, .nil, e => by simp at e
  | _, _, 0, d, .cons h _, e => by simp at e; subst e; exact ⟨_, rfl, h⟩
  | _, _, i + 1, d, .cons _ r, e => Reps.get (i := i) r (by simpa using e)
theorem Reps.append {Y : Yc} {G : Hp} : ∀ {ds es : List D} {vs us : List V}, Reps Y G ds vs → Reps Y G es us → Reps Y G (ds ++ es) (vs ++ us)
  | _, _, _, _, .nil, s => s
  | _, _, _, _, .cons h r, s => .cons h (Reps.append r s)
theorem Reps.take {Y : Yc} {G : Hp} : ∀ {ds : List D} {vs : List V} (n : Nat), Reps Y G ds vs → Reps Y G (ds.take n) (vs.take n)
  | _, _, 0, _ => .nil
  | _, _, _ + 1, .nil => .nil
  | _, _, n + 1, .cons h r => .cons h (Reps.take n r)
theorem Reps.drop {Y : Yc} {G : Hp} : ∀ {ds : List D} {vs : List V} (n : Nat), Reps Y G ds vs → Reps Y G (ds.drop n) (vs.drop n)
  | _, _, 0, r => r
  | _, _, _ + 1, .nil => .nil
  | _, _, n + 1, .cons _ r => Reps.drop n r
theorem Reps.reverse {Y : Yc} {G : Hp} {ds : List D} {vs : List V} (r : Reps Y G ds vs) : Reps Y G ds.reverse vs.reverse := by
  induction ds generalizing vs with
  | nil => cases r; exact .nil
  | cons d ds ih =>
    cases r with
    | cons h r => rw [List.reverse_cons, List.reverse_cons]; exact (ih r).append (.cons h .nil)
/-! ### the state -/
/-- what an object that may still change holds -/
inductive MO where
  | lst (ds : List D)
  | dct (es : List (Key × D))
  | ins (cn : Str) (fs : List (Str × D))
  | xd (fs : List (Str × D))
abbrev Mu := Addr → Option MO
structure S where
  r : List (Option D)
  mu : Mu
  c : Nat
inductive RepF (Y : Yc) (G : Hp) : List (Str × D) → List (Str × V) → Prop
  | nil : RepF Y G [] []
  | cons (k : Str) {d : D} {v : V} {ds : List (Str × D)} {vs : List (Str × V)} : Rep Y G d v → RepF Y G ds vs → RepF Y G ((k, d) :: ds) ((k, v) :: vs)
theorem RepF.mono {Y : Yc} {G G' : Hp} (s : Same G G') {ds : List (Str × D)} {vs : List (Str × V)} (h : RepF Y G ds vs) : RepF Y G' ds vs := by
  induction h with
  | nil => exact .nil
  | cons k h _ ih => exact .cons k (h.mono s) ih
inductive RM (Y : Yc) (G : Hp) : MO → HO → Prop
  | lst {ds : List D} {vs : List V} : Reps Y G ds vs → RM Y G (.lst ds) (.lst vs)
  | dct {ds : List (Key × D)} {vs : List (Key × V)} : Repk Y G ds vs → RM Y G (.dct ds) (.dK vs)
  | ins {cn : Str} {C dx : Addr} {ds : List (Str × D)} {vs : List (Str × V)} : Y.mg cn = some (.ref C) → RepF Y G ds vs → RM Y G (.ins cn ds) (.ins C dx vs)
  | xd {ds : List (Str × D)} {vs : List (Str × V)} : RepF Y G ds vs → RM Y G (.xd ds) (.xd vs)
theorem RM.mono {Y : Yc} {G G' : Hp} (s : Same G G') {m : MO} {o : HO} (h : RM Y G m o) : RM Y G' m o := by
  cases h with
  | lst h => exact .lst (h.mono s)
  | dct h => exact .dct (h.mono s)
  | ins e h => exact .ins e (h.mono s)
  | xd h => exact .xd (h.mono s)
/-- an object that is neither a table of code objects nor a code object -/
def plainO (o : HO) : Prop := (∀ ps, o ≠ .tbl ps) ∧ ∀ c q, o ≠ LamX.CodeO c q
/-- an object that a frame keeps: no table, no exception's dict -/
def frmO (o : HO) : Prop := (∀ ps, o ≠ .tbl ps) ∧ ∀ vs, o ≠ .xd vs
theorem frm_lst {vs : List V} : frmO (.lst vs) := ⟨fun _ z => (by cases z), fun _ z => (by cases z)⟩
theorem frm_dK {vs : List (Key × V)} : frmO (.dK vs) := ⟨fun _ z => (by cases z), fun _ z => (by cases z)⟩
/-- the tables of code objects, the code objects that stand apart -/
structure X0 (Y : Yc) (G : Hp) (mu : Mu) (H : Hp) : Prop where
  tab : LamX.Tabs Y.T H
  tabO : ∀ p ∈ Y.T, G p.1 = none ∧ mu p.1 = none
  raw : ∀ p ∈ Y.raw, H p.1 = some (LamX.CodeO p.1 p.2) ∧ G p.1 = none ∧ mu p.1 = none
  pl : ∀ a o, G a = some o → plainO o
  lo : Same Y.G0 G
theorem X0.laid {Y : Yc} {G : Hp} {mu : Mu} {H : Hp} (h : X0 Y G mu H) {q : Addr} (hq : H q = none) (o : HO) : X0 Y G mu (upd H q o) := by
  have k : ∀ b x, H b = some x → upd H q o b = some x := fun b x e => by
    rw [upd_ne (ne_of_none e hq)]
    exact e
  exact ⟨h.tab.ext k, h.tabO, fun p hp => ⟨k _ _ (h.raw p hp).1, (h.raw p hp).2⟩, h.pl, h.lo⟩
theorem X0.off {Y : Yc} {G : Hp} {mu : Mu} {H : Hp} (h : X0 Y G mu H) {q : Addr} (hq : (∀ o, H q = some o → plainO o)) : (∀ p ∈ Y.T, p.1 ≠ q) ∧ ∀ p ∈ Y.raw, p.1 ≠ q := by
  refine ⟨fun p hp z => ?_, fun p hp z => ?_⟩
  · obtain ⟨ps, h1, _⟩ := h.tab p hp
    rw [z] at h1
    exact (hq _ h1).1 ps rfl
  · have h1 := (h.raw p hp).1
    rw [z] at h1
    rw [← z] at h1
    exact (hq _ (by rw [z] at h1; exact h1)).2 _ _ rfl
theorem X0.grow {Y : Yc} {G : Hp} {mu : Mu} {H : Hp} (h : X0 Y G mu H) {q : Addr} (hq : ∀ o, H q = some o → plainO o) (o : HO) (ho : plainO o) (hG : G q = none) : X0 Y (upd G q o) mu H := by
  obtain ⟨a, b⟩ := h.off hq
  exact ⟨h.tab, fun p hp => ⟨by rw [upd_ne (a p hp)]; exact (h.tabO p hp).1, (h.tabO p hp).2⟩, fun p hp => ⟨(h.raw p hp).1, by rw [upd_ne (b p hp)]; exact (h.raw p hp).2.1, (h.raw p hp).2.2⟩, fun x y e => by
    by_cases hx : x = q
    · subst hx; rw [upd_same] at e; cases e; exact ho
    · rw [upd_ne hx] at e; exact h.pl x y e, fun x y e => by
    have e2 := h.lo x y e
    rw [upd_ne (ne_of_none e2 hG)]
    exact e2⟩
theorem X0.turn {Y : Yc} {G : Hp} {mu : Mu} {H : Hp} (h : X0 Y G mu H) {q : Addr} {H' : Hp} (hq : ∀ o, H q = some o → plainO o) (k : ∀ b x, b ≠ q → H b = some x → H' b = some x) : X0 Y G mu H' := by
  obtain ⟨a, b⟩ := h.off hq
  refine ⟨fun p hp => ?_, h.tabO, fun p hp => ⟨k _ _ (b p hp) (h.raw p hp).1, (h.raw p hp).2⟩, h.pl, h.lo⟩
  obtain ⟨ps, h1, h2, h3⟩ := h.tab p hp
  refine ⟨ps, k _ _ (a p hp) h1, h2, fun pos cv hc => ?_⟩
  obtain ⟨c, e1, e2⟩ := h3 pos cv hc
  exact ⟨c, e1, k _ _ (fun z => by rw [z] at e2; exact (hq _ e2).2 _ _ rfl) e2⟩
theorem plain_lst {vs : List V} : plainO (.lst vs) := ⟨fun _ z => (by cases z), fun _ _ z => (by unfold LamX.CodeO at z; cases z)⟩
theorem plain_tup {vs : List V} : plainO (.tup vs) := ⟨fun _ z => (by cases z), fun _ _ z => (by unfold LamX.CodeO at z; cases z)⟩
theorem plain_dK {vs : List (Key × V)} : plainO (.dK vs) := ⟨fun _ z => (by cases z), fun _ _ z => (by unfold LamX.CodeO at z; cases z)⟩
theorem plain_ins {C dx : Addr} {vs : List (Str × V)} : plainO (.ins C dx vs) := ⟨fun _ z => (by cases z), fun _ _ z => (by unfold LamX.CodeO at z; cases z)⟩
theorem plain_xd {vs : List (Str × V)} : plainO (.xd vs) := ⟨fun _ z => (by cases z), fun _ _ z => (by unfold LamX.CodeO at z; cases z)⟩
structure R0 (Y : Yc) (G : Hp) (mu : Mu) (c : Nat) (H : Hp) : Prop where
  sub : Same G H
  mus : ∀ a m, mu a = some m → G a = none ∧ ∃ o, H a = some o ∧ RM Y G m o
  pen : ∃ o, H Y.p = some o ∧ Y.W G c o ∧ G Y.p = none ∧ mu Y.p = none
  ext : X0 Y G mu H
/-- the slots of a frame -/
def Sl (Y : Yc) (G : Hp) (r : List (Option D)) (σ : St) : Prop := r.length = σ.length ∧ ∀ (i : Nat) (d : D), r[i]? = some (some d) → ∃ v, σ[i]? = some (some v) ∧ Rep Y G d v
theorem Sl.mono {Y : Yc} {G G' : Hp} (s : Same G G') {r : List (Option D)} {σ : St} (h : Sl Y G r σ) : Sl Y G' r σ :=
  ⟨h.1, fun i d e => let ⟨v, e1, q⟩ := h.2 i d e; ⟨v, e1, q.mono s⟩⟩
theorem Sl.set {Y : Yc} {G : Hp} {r : List (Option D)} {σ : St} {d : D} {v : V} (h : Sl Y G r σ) (i : Nat) (q : Rep Y G d v) : Sl Y G (r.set i (some d)) (σ.set i (some v)) := by
  refine ⟨by simp [h.1], fun j e he => ?_⟩
  by_cases hj : i = j
  · subst hj
    by_cases hl : i < r.length
    · rw [List.getElem?_set_self hl] at he
      cases he
      exact ⟨v, by rw [List.getElem?_set_self (by rw [← h.1]; exact hl)], q⟩
    · rw [List.getElem?_eq_none (by simpa using hl)] at he
      cases he
  · rw [List.getElem?_set_ne hj] at he
    obtain ⟨u, e1, q1⟩ := h.2 j e he
    exact ⟨u, by rw [List.getElem?_set_ne hj]; exact e1, q1⟩
theorem Sl.start {Y : Yc} {G : Hp} {ds : List D} {vs : List V} (h : Reps Y G ds vs) (n : Nat) : Sl Y G (ds.map some ++ List.replicate n none) (vs.map some ++ List.replicate n none) := by
  refine ⟨by simp [h.length], fun i d e => ?_⟩
  by_cases hi : i < ds.length
  · rw [List.getElem?_append_left (by simpa using hi), List.getElem?_map] at e
    cases e2 : ds[i]? with
    | none => rw [e2] at e; cases e
    | some x =>
      rw [e2] at e
      cases e
      obtain ⟨v, e3, q⟩ := h.get e2
      refine ⟨v, ?_, q⟩
      rw [List.getElem?_append_left (by simpa [← h.length] using hi), List.getElem?_map, e3]
      rfl
  · rw [List.getElem?_append_right (by simpa using Nat.le_of_not_lt hi)] at e
    have := List.mem_of_getElem? e
    simp at this
structure R (Y : Yc) (G : Hp) (st : S) (σ : St) (H : Hp) : Prop where
  h : R0 Y G st.mu st.c H
  s : Sl Y G st.r σ
/-- what is not the walk's to change stands -/
def Frm (Y : Yc) (G : Hp) (mu : Mu) (H : Hp) (G' : Hp) (mu' : Mu) (H' : Hp) : Prop := ∀ a o, H a = some o → G a = none → mu a = none → a ≠ Y.p ∧ frmO o → H' a = some o ∧ G' a = none ∧ mu' a = none
theorem Frm.refl {Y : Yc} {G : Hp} {mu : Mu} {H : Hp} : Frm Y G mu H G mu H := fun _ _ h1 h2 h3 _ => ⟨h1, h2, h3⟩
theorem Frm.trans {Y : Yc} {G G1 G2 : Hp} {mu mu1 mu2 : Mu} {H H1 H2 : Hp} (f : Frm Y G mu H G1 mu1 H1) (g : Frm Y G1 mu1 H1 G2 mu2 H2) : Frm Y G mu H G2 mu2 H2 := fun a o h1 h2 h3 h4 =>
  let ⟨e1, e2, e3⟩ := f a o h1 h2 h3 h4
  g a o e1 e2 e3 h4
/-- a new object is laid -/
theorem same_upd {H : Hp} {q : Addr} {o : HO} (hq : H q = none) : Same H (upd H q o) := fun b x e => by
  rw [upd_ne (ne_of_none e hq)]
  exact e
theorem R0.new {Y : Yc} {G : Hp} {mu : Mu} {c : Nat} {H : Hp} (h : R0 Y G mu c H) {q : Addr} (hq : H q = none) (o : HO) (ho : plainO o := by first | exact plain_lst | exact plain_tup | exact plain_dK) : R0 Y (upd G q o) mu c (upd H q o) ∧ Same G (upd G q o) ∧ Same H (upd H q o) := by
  have hG : G q = none := h.sub.free hq
  have sG : Same G (upd G q o) := same_upd hG
  refine ⟨⟨fun b x e => ?_, fun a m e => ?_, ?_, (h.ext.grow (fun o z => by rw [hq] at z; cases z) o ho hG).laid hq o⟩, sG, same_upd hq⟩
  · by_cases hb : b = q
    · subst hb; rw [upd_same] at e ⊢; exact e
    · rw [upd_ne hb] at e ⊢; exact h.sub b x e
  · obtain ⟨h1, x, h2, h3⟩ := h.mus a m e
    have hn : a ≠ q := ne_of_none h2 hq
    exact ⟨by rw [upd_ne hn]; exact h1, x, by rw [upd_ne hn]; exact h2, h3.mono sG⟩
  · obtain ⟨x, h1, h2, h3, h4⟩ := h.pen
    have hn : Y.p ≠ q := ne_of_none h1 hq
    exact ⟨x, by rw [upd_ne hn]; exact h1, Y.mono _ _ _ _ sG h2, by rw [upd_ne hn]; exact h3, h4⟩
theorem Frm.new {Y : Yc} {G : Hp} {mu : Mu} {H : Hp} {q : Addr} {o o' : HO} (hq : H q = none) : Frm Y G mu H (upd G q o) mu (upd H q o') := fun a x h1 h2 h3 _ =>
  have n := ne_of_none h1 hq
  ⟨by rw [upd_ne n]; exact h1, by rw [upd_ne n]; exact h2, h3⟩
theorem Frm.add {Y : Yc} {G : Hp} {mu : Mu} {H : Hp} {q : Addr} {o' : HO} (hq : H q = none) : Frm Y G mu H G mu (upd H q o') := fun a x h1 h2 h3 _ =>
  have n := ne_of_none h1 hq
  ⟨by rw [upd_ne n]; exact h1, h2, h3⟩
/-! ### readings over data -/
abbrev PXT := Ex → S → Prop
abbrev ME := S → (D → S → Prop) → PXT → Prop
abbrev MT := S → (Bool → S → Prop) → PXT → Prop
abbrev MA := S → (List D → S → Prop) → PXT → Prop
structure DEnds where
  nx : S → Prop
  rt : D → S → Prop
  bk : S → Prop := fun _ => False
  ct : S → Prop := fun _ => False
abbrev MS := S → DEnds → PXT → Prop
/-- how an exception of the data shows -/
def RepX (Y : Yc) (G : Hp) (mu : Mu) (H : Hp) (x : Ex) (cls : Value) (d : Option Addr) : Prop := (∃ C : Addr, Y.mg x.cls = some (.ref C) ∧ cls = .ref C) ∧ ((x.fs = [] ∧ d = none) ∨ ∃ dd vs, d = some dd ∧ H dd = some (.xd vs) ∧ RepF Y G x.fs vs ∧ G dd = none ∧ mu dd = none ∧ dd ≠ Y.p)
def XPost (Y : Yc) (W : WX) (G : Hp) (st : S) (σ : St) (H : Hp) (PX : PXT) : Prop :=
  ∀ x st' cls d σ' G' H', PX x st' → Same G G' → Frm Y G st.mu H G' st'.mu H' → R Y G' st' σ' H' → RepX Y G' st'.mu H' x cls d → W cls d σ' H'
theorem XPost.on {Y : Yc} {W : WX} {G G1 : Hp} {st st1 : S} {σ σ1 : St} {H H1 : Hp} {PX : PXT} (x : XPost Y W G st σ H PX) (s : Same G G1) (f : Frm Y G st.mu H G1 st1.mu H1) : XPost Y W G1 st1 σ1 H1 PX :=
  fun e st' cls d σ' G' H' h1 h2 h3 h4 h5 => x e st' cls d σ' G' H' h1 (s.trans h2) (f.trans h3) h4 h5
def TEof (Y : Yc) (W : WX) (m : ME) : TE := fun σ H Q => ∃ G st P PX, R Y G st σ H ∧ m st P PX ∧ XPost Y W G st σ H PX ∧
  ∀ d st' v G' H', P d st' → Same G G' → Frm Y G st.mu H G' st'.mu H' → R Y G' st' σ H' → Rep Y G' d v → Q v H'
def TTof (Y : Yc) (W : WX) (m : MT) : TT := fun σ H Q => ∃ G st P PX, R Y G st σ H ∧ m st P PX ∧ XPost Y W G st σ H PX ∧
  ∀ b st' G' H', P b st' → Same G G' → Frm Y G st.mu H G' st'.mu H' → R Y G' st' σ H' → Q b H'
def TAof (Y : Yc) (W : WX) (m : MA) : TA := fun σ H Q => ∃ G st P PX, R Y G st σ H ∧ m st P PX ∧ XPost Y W G st σ H PX ∧
  ∀ ds st' vs G' H', P ds st' → Same G G' → Frm Y G st.mu H G' st'.mu H' → R Y G' st' σ H' → Reps Y G' ds vs → Q vs H'
/-- the ends of a block -/
structure EndsOk (Y : Yc) (G : Hp) (st : S) (H : Hp) (E : DEnds) (D : Ends) : Prop where
  nx : ∀ st' σ' G' H', E.nx st' → Same G G' → Frm Y G st.mu H G' st'.mu H' → R Y G' st' σ' H' → D.nx σ' H'
  rt : ∀ d st' v σ' G' H', E.rt d st' → Same G G' → Frm Y G st.mu H G' st'.mu H' → R Y G' st' σ' H' → Rep Y G' d v → D.rt v H'
  bk : ∀ st' σ' G' H', E.bk st' → Same G G' → Frm Y G st.mu H G' st'.mu H' → R Y G' st' σ' H' → D.bk σ' H'
  ct : ∀ st' σ' G' H', E.ct st' → Same G G' → Frm Y G st.mu H G' st'.mu H' → R Y G' st' σ' H' → D.ct σ' H'
def TSof (Y : Yc) (W : WX) (m : MS) : TS := fun D σ H => ∃ G st E PX, R Y G st σ H ∧ m st E PX ∧ XPost Y W G st σ H PX ∧ EndsOk Y G st H E D
theorem EndsOk.on {Y : Yc} {G G1 : Hp} {st st1 : S} {H H1 : Hp} {E : DEnds} {D : Ends} (x : EndsOk Y G st H E D) (s : Same G G1) (f : Frm Y G st.mu H G1 st1.mu H1) : EndsOk Y G1 st1 H1 E D :=
  ⟨fun _ _ _ _ a b c d => x.nx _ _ _ _ a (s.trans b) (f.trans c) d, fun _ _ _ _ _ _ a b c d e => x.rt _ _ _ _ _ _ a (s.trans b) (f.trans c) d e, fun _ _ _ _ a b c d => x.bk _ _ _ _ a (s.trans b) (f.trans c) d, fun _ _ _ _ a b c d => x.ct _ _ _ _ a (s.trans b) (f.trans c) d⟩
section
variable {X : Cx}
theorem peImp {e : Expr} {t t' : TE} (h : PE X e t) (i : ∀ σ H Q, t' σ H Q → t σ H Q) : PE X e t' := ⟨fun pins s σ H Q I q => h.run pins s σ H Q I (i σ H Q q)⟩
theorem ptImp {e : Expr} {t t' : TT} (h : PT X e t) (i : ∀ σ H Q, t' σ H Q → t σ H Q) : PT X e t' := ⟨fun pins s σ H Q I q => h.run pins s σ H Q I (i σ H Q q)⟩
theorem pwImp {e : Expr} {t t' : TT} (h : PW X e t) (i : ∀ σ H Q, t' σ H Q → t σ H Q) : PW X e t' := ⟨fun wh pins s σ H Q I q => h.run wh pins s σ H Q I (i σ H Q q)⟩
theorem paImp {e : List Expr} {t t' : TA} (h : PA X e t) (i : ∀ σ H Q, t' σ H Q → t σ H Q) : PA X e t' := ⟨fun pos pins s σ H Q I q => h.run pos pins s σ H Q I (i σ H Q q)⟩
theorem psImp {e : Stmt} {t t' : TS} (h : PS X e t) (i : ∀ D σ H, t' D σ H → t D σ H) : PS X e t' := ⟨fun pins s σ H D I q => h.run pins s σ H D I (i D σ H q)⟩
theorem pssImp {e : List Stmt} {t t' : TS} (h : PSs X e t) (i : ∀ D σ H, t' D σ H → t D σ H) : PSs X e t' := ⟨fun pins s σ H D I q => h.run pins s σ H D I (i D σ H q)⟩
end
/-- the judgements over data -/
abbrev DE (X : Cx) (Y : Yc) (W : WX) (e : Expr) (m : ME) : Prop := PE X e (TEof Y W m)
abbrev DT (X : Cx) (Y : Yc) (W : WX) (e : Expr) (m : MT) : Prop := PT X e (TTof Y W m)
abbrev DW (X : Cx) (Y : Yc) (W : WX) (e : Expr) (m : MT) : Prop := PW X e (TTof Y W m)
abbrev DA (X : Cx) (Y : Yc) (W : WX) (e : List Expr) (m : MA) : Prop := PA X e (TAof Y W m)
abbrev DS (X : Cx) (Y : Yc) (W : WX) (e : Stmt) (m : MS) : Prop := PS X e (TSof Y W m)
abbrev DSs (X : Cx) (Y : Yc) (W : WX) (e : List Stmt) (m : MS) : Prop := PSs X e (TSof Y W m)
section
variable {X : Cx} {Y : Yc} {W : WX} {a b c e : Expr} {ma mb mc me : ME} {es : List Expr} {pos : Pos}
/-! ### names, constants -/
def mVar (i : Nat) : ME := fun st P _ => ∃ d, st.r[i]? = some (some d) ∧ P d st
theorem de_var {i : Nat} {x : Str} (hN : X.N[i]? = some x := by rfl) (hv : Vis X.env.scope x := by first | exact Or.inl rfl | exact Or.inr (Or.inl rfl) | exact Or.inr (Or.inr rfl)) (hd : (x == ("__debug__" : Str)) = false := by decide)
    (hcd : (x == ("__classdict__" : Str)) = false := by decide) : DE X Y W (.Name x pos) (mVar i) :=
  peImp (pe_var hN hv hd hcd) fun σ H Q ⟨G, st, P, PX, r, ⟨d, e1, hp⟩, _, k⟩ => by
    obtain ⟨v, e2, q⟩ := r.s.2 i d e1
    exact ⟨v, e2, k d st v G H hp (Same.refl G) .refl r q⟩
def mC (d : D) : ME := fun st P _ => P d st
theorem de_of {v : V} {d : D} (h : PE X e (tC v)) (hr : ∀ G, Rep Y G d v) : DE X Y W e (mC d) :=
  peImp h fun σ H Q ⟨G, st, P, PX, r, hp, _, k⟩ => k d st v G H hp (Same.refl G) .refl r (hr G)
theorem de_int {i : Int} {j : Nat} : DE X Y W (.Constant (.int i) j pos) (mC (.int i)) := de_of pe_int fun _ => .int i
theorem de_bl {i : Bool} {j : Nat} : DE X Y W (.Constant (.bool i) j pos) (mC (.bl i)) := de_of pe_bl fun _ => .bl i
theorem de_non {j : Nat} : DE X Y W (.Constant .none j pos) (mC .non) := de_of pe_non fun _ => .non
theorem de_str {x : Str} {j : Nat} : DE X Y W (.Constant (.str x) j pos) (mC (.str x)) := de_of pe_str fun _ => .str x
theorem de_glob {x : Str} {d : D} {v : V} {u : Value} (hg : Gl X x) (hm : X.mg x = some u) (r : RelV v u) (hr : ∀ G, Rep Y G d v) (hd : (x == ("__debug__" : Str)) = false := by decide) : DE X Y W (.Name x pos) (mC d) :=
  de_of (pe_glob hg hm r hd) hr
/-! ### operators, by values -/
abbrev O1 := Mu → D → (D → Prop) → Prop
abbrev O2 := Mu → D → D → (D → Prop) → Prop
abbrev OL := Mu → List D → (D → Prop) → Prop
/-- the end of an operation that lays new objects at most -/
def Post (Y : Yc) (G : Hp) (mu : Mu) (c : Nat) (H : Hp) (P : D → Prop) (Q : VK) : Prop := ∀ r v G' H', P r → Same G G' → Frm Y G mu H G' mu H' → R0 Y G' mu c H' → Rep Y G' r v → Q v H'
def l2 (Y : Yc) (g : O2) : R2 := fun x y H Q => ∃ G mu c d e P, R0 Y G mu c H ∧ Rep Y G d x ∧ Rep Y G e y ∧ g mu d e P ∧ Post Y G mu c H P Q
def l1 (Y : Yc) (g : O1) : V → Hp → VK → Prop := fun x H Q => ∃ G mu c d P, R0 Y G mu c H ∧ Rep Y G d x ∧ g mu d P ∧ Post Y G mu c H P Q
def lL (Y : Yc) (g : OL) : List V → Hp → VK → Prop := fun xs H Q => ∃ G mu c ds P, R0 Y G mu c H ∧ Reps Y G ds xs ∧ g mu ds P ∧ Post Y G mu c H P Q
abbrev OpD (X : Cx) (Y : Yc) (f : Value → Value → Sem Value) (g : O2) : Prop := OpR X f (l2 Y g)
abbrev UnD (X : Cx) (Y : Yc) (f : Value → Sem Value) (g : O1) : Prop := UnR X f (l1 Y g)
abbrev CallD (X : Cx) (Y : Yc) (f : Value) (g : OL) : Prop := CallR X f (lL Y g)
theorem opImp {f : Value → Value → Sem Value} {r r' : R2} (h : OpR X f r) (i : ∀ x y H Q, r' x y H Q → r x y H Q) : OpR X f r' := fun pins s σ H x y v u Q I rx ry q => h pins s σ H x y v u Q I rx ry (i x y H Q q)
theorem unImp {f : Value → Sem Value} {r r' : V → Hp → VK → Prop} (h : UnR X f r) (i : ∀ x H Q, r' x H Q → r x H Q) : UnR X f r' := fun pins s σ H x v Q I rx q => h pins s σ H x v Q I rx (i x H Q q)
theorem callImp {f : Value} {r r' : List V → Hp → VK → Prop} (h : CallR X f r) (i : ∀ x H Q, r' x H Q → r x H Q) : CallR X f r' := fun pins s σ H x v Q I rx q => h pins s σ H x v Q I rx (i x H Q q)
def mOp (g : O2) (ma mb : ME) : ME := fun st P PX => ma st (fun d s1 => mb s1 (fun e s2 => g s2.mu d e fun r => P r s2) PX) PX
theorem mOp_ok {g : O2} {r : R2} (hr : ∀ x y H Q, l2 Y g x y H Q → r x y H Q) : ∀ σ H Q, TEof Y W (mOp g ma mb) σ H Q → tOp r (TEof Y W ma) (TEof Y W mb) σ H Q := fun σ H Q ⟨G, st, P, PX, rr, hm, xp, k⟩ =>
  ⟨G, st, _, PX, rr, hm, xp, fun d s1 v G1 H1 hm1 g1 f1 r1 q1 =>
    ⟨G1, s1, _, PX, r1, hm1, xp.on g1 f1, fun e s2 w G2 H2 hm2 g2 f2 r2 q2 =>
      hr _ _ _ _ ⟨G2, s2.mu, s2.c, d, e, _, r2.h, q1.mono g2, q2, hm2, fun z v3 G3 H3 hp g3 h3 r3 q3 =>
        k z s2 v3 G3 H3 hp ((g1.trans g2).trans g3) ((f1.trans f2).trans h3) ⟨r3, r2.s.mono g3⟩ q3⟩⟩⟩
theorem de_op {op : Operator} {g : O2} (ho : OpD X Y (binaryOp op) g) (ha : DE X Y W a ma) (hb : DE X Y W b mb) : DE X Y W (.BinOp a op b pos) (mOp g ma mb) :=
  peImp (pe_op ho ha hb) (mOp_ok fun _ _ _ _ h => h)
theorem de_cmp {op : CmpOp} {g : O2} (ho : OpD X Y (compareOp op) g) (ha : DE X Y W a ma) (hb : DE X Y W b mb) (hm : behindInMarks op b = false := by first | exact nomark _ (by decide) (by decide) | rfl) : DE X Y W (.Compare a [op] [b] pos) (mOp g ma mb) :=
  peImp (pe_cmpR ho ha hb hm) (mOp_ok fun _ _ _ _ h => h)
def mUn (g : O1) (ma : ME) : ME := fun st P PX => ma st (fun d s1 => g s1.mu d fun r => P r s1) PX
theorem de_un {op : UnaryOp} {g : O1} (ho : UnD X Y (unaryOp op) g) (ha : DE X Y W a ma) : DE X Y W (.UnaryOp op a pos) (mUn g ma) :=
  peImp (pe_un ho ha) fun σ H Q ⟨G, st, P, PX, rr, hm, xp, k⟩ =>
    ⟨G, st, _, PX, rr, hm, xp, fun d s1 v G1 H1 hm1 g1 f1 r1 q1 =>
      ⟨G1, s1.mu, s1.c, d, _, r1.h, q1, hm1, fun z v3 G3 H3 hp g3 h3 r3 q3 => k z s1 v3 G3 H3 hp (g1.trans g3) (f1.trans h3) ⟨r3, r1.s.mono g3⟩ q3⟩⟩
/-! ### tests -/
/-- a value that must be a truth -/
def mB (m : ME) : MT := fun st P PX => m st (fun d s1 => ∃ k, d = .bl k ∧ P k s1) PX
theorem tB_ok {m : ME} : ∀ σ H Q, TTof Y W (mB m) σ H Q → tB (TEof Y W m) σ H Q := fun σ H Q ⟨G, st, P, PX, rr, hm, xp, k⟩ =>
  ⟨G, st, fun d s1 => ∃ k, d = .bl k ∧ P k s1, PX, rr, hm, xp, fun d s1 v G1 H1 hm1 g1 f1 r1 q1 => by
    obtain ⟨b, rfl, hp⟩ := hm1
    cases q1
    exact ⟨b, rfl, k b s1 G1 H1 hp g1 f1 r1⟩⟩
theorem dt_val {m : ME} (h : DE X Y W e m) (he : ∀ whole, isTrue e X.env whole = (do let v ← whole; standAt e.pos; holding [v] (truthy v)) := by intro _; rfl) : DT X Y W e (mB m) :=
  ptImp (pt_val h he) tB_ok
theorem dt_cmp {op : CmpOp} {g : O2} (ho : OpD X Y (compareOp op) g) (ha : DE X Y W a ma) (hb : DE X Y W b mb) (hm : behindInMarks op b = false := by first | exact nomark _ (by decide) (by decide) | rfl) : DT X Y W (.Compare a [op] [b] pos) (mB (mOp g ma mb)) :=
  ptImp (pt_cmpR ho ha hb hm) fun σ H Q h => by
    obtain ⟨G, st, P, PX, rr, hm, xp, k⟩ := h
    refine mOp_ok (r := l2 Y g) (fun _ _ _ _ h => h) σ H _ ⟨G, st, fun d s1 => ∃ k, d = .bl k ∧ P k s1, PX, rr, hm, xp, fun d s1 v G1 H1 hm1 g1 f1 r1 q1 => ?_⟩
    obtain ⟨b, rfl, hp⟩ := hm1
    cases q1
    exact ⟨b, rfl, k b s1 G1 H1 hp g1 f1 r1⟩
variable {mt mu' : MT} {rest : List Expr}
def mAnd (t u : MT) : MT := fun st P PX => t st (fun k s1 => if k = true then u s1 P PX else P false s1) PX
def mOr (t u : MT) : MT := fun st P PX => t st (fun k s1 => if k = true then P true s1 else u s1 P PX) PX
def mNot (t : MT) : MT := fun st P PX => t st (fun k s1 => P (!k) s1) PX
theorem dw_and1 (ha : DT X Y W a mt) : DW X Y W (.BoolOp .And [a] pos) mt := pw_and1 ha
theorem dw_or1 (ha : DT X Y W a mt) : DW X Y W (.BoolOp .Or [a] pos) mt := pw_or1 ha
theorem dw_and (ha : DT X Y W a mt) (hb : DW X Y W (.BoolOp .And (b :: rest) pos) mu') : DW X Y W (.BoolOp .And (a :: b :: rest) pos) (mAnd mt mu') :=
  pwImp (pw_and ha hb) fun σ H Q ⟨G, st, P, PX, rr, hm, xp, k⟩ => ⟨G, st, fun k s1 => if k = true then mu' s1 P PX else P false s1, PX, rr, hm, xp, fun d s1 G1 H1 hm1 g1 f1 r1 => by
    cases d with
    | true => rw [if_pos rfl] at hm1 ⊢; exact ⟨G1, s1, P, PX, r1, hm1, xp.on g1 f1, fun b st' G' H' hp g2 f2 r2 => k b st' G' H' hp (g1.trans g2) (f1.trans f2) r2⟩
    | false => rw [if_neg Bool.false_ne_true] at hm1 ⊢; exact k false s1 G1 H1 hm1 g1 f1 r1⟩
theorem dw_or (ha : DT X Y W a mt) (hb : DW X Y W (.BoolOp .Or (b :: rest) pos) mu') : DW X Y W (.BoolOp .Or (a :: b :: rest) pos) (mOr mt mu') :=
  pwImp (pw_or ha hb) fun σ H Q ⟨G, st, P, PX, rr, hm, xp, k⟩ => ⟨G, st, fun k s1 => if k = true then P true s1 else mu' s1 P PX, PX, rr, hm, xp, fun d s1 G1 H1 hm1 g1 f1 r1 => by
    cases d with
    | false => rw [if_neg Bool.false_ne_true] at hm1 ⊢; exact ⟨G1, s1, P, PX, r1, hm1, xp.on g1 f1, fun b st' G' H' hp g2 f2 r2 => k b st' G' H' hp (g1.trans g2) (f1.trans f2) r2⟩
    | true => rw [if_pos rfl] at hm1 ⊢; exact k true s1 G1 H1 hm1 g1 f1 r1⟩
theorem dt_bool (h : DW X Y W e mt) : DT X Y W e mt := h.pt
theorem dt_not (ha : DT X Y W a mt) : DT X Y W (.UnaryOp .Not a pos) (mNot mt) :=
  ptImp (pt_not ha) fun σ H Q ⟨G, st, P, PX, rr, hm, xp, k⟩ => ⟨G, st, _, PX, rr, hm, xp, fun d s1 G1 H1 hm1 g1 f1 r1 => k (!d) s1 G1 H1 hm1 g1 f1 r1⟩
/-- a chain of two comparisons -/
def mChain (g g' : O2) (ma mb mc : ME) : MT := fun st P PX => ma st (fun x s1 => mb s1 (fun y s2 => g s2.mu x y fun z => ∃ k, z = .bl k ∧ if k = true then mc s2 (fun w s3 => g' s3.mu y w fun z' => ∃ k', z' = .bl k' ∧ P k' s3) PX else P false s2) PX) PX
/-! ### values by and, or, not -/
/-- and, or as values: all but the last are truths -/
def mAndV (m n : ME) : ME := fun st P PX => m st (fun d s1 => ∃ k, d = .bl k ∧ if k = true then n s1 P PX else P (.bl false) s1) PX
def mOrV (m n : ME) : ME := fun st P PX => m st (fun d s1 => ∃ k, d = .bl k ∧ if k = true then P (.bl true) s1 else n s1 P PX) PX
def mNotV (m : ME) : ME := fun st P PX => m st (fun d s1 => ∃ k, d = .bl k ∧ P (.bl (!k)) s1) PX
theorem de_one {op : BoolOp} (ha : DE X Y W a ma) : DE X Y W (.BoolOp op [a] pos) ma := pe_one ha
theorem de_and (ha : DE X Y W a ma) (hb : DE X Y W (.BoolOp .And (b :: rest) pos) mb) : DE X Y W (.BoolOp .And (a :: b :: rest) pos) (mAndV ma mb) :=
  peImp (pe_and ha hb) fun σ H Q ⟨G, st, P, PX, rr, hm, xp, k⟩ => ⟨G, st, fun d s1 => ∃ k, d = .bl k ∧ if k = true then mb s1 P PX else P (.bl false) s1, PX, rr, hm, xp, fun d s1 v G1 H1 hm1 g1 f1 r1 q1 => by
    obtain ⟨z, rfl, hm1⟩ := hm1
    cases q1
    refine ⟨z, rfl, ?_⟩
    cases z with
    | true => rw [if_pos rfl] at hm1 ⊢; exact ⟨G1, s1, P, PX, r1, hm1, xp.on g1 f1, fun d st' v G' H' hp g2 f2 r2 q2 => k d st' v G' H' hp (g1.trans g2) (f1.trans f2) r2 q2⟩
    | false => rw [if_neg Bool.false_ne_true] at hm1 ⊢; exact k _ s1 _ G1 H1 hm1 g1 f1 r1 (.bl false)⟩
theorem de_or (ha : DE X Y W a ma) (hb : DE X Y W (.BoolOp .Or (b :: rest) pos) mb) : DE X Y W (.BoolOp .Or (a :: b :: rest) pos) (mOrV ma mb) :=
  peImp (pe_or ha hb) fun σ H Q ⟨G, st, P, PX, rr, hm, xp, k⟩ => ⟨G, st, fun d s1 => ∃ k, d = .bl k ∧ if k = true then P (.bl true) s1 else mb s1 P PX, PX, rr, hm, xp, fun d s1 v G1 H1 hm1 g1 f1 r1 q1 => by
    obtain ⟨z, rfl, hm1⟩ := hm1
    cases q1
    refine ⟨z, rfl, ?_⟩
    cases z with
    | false => rw [if_neg Bool.false_ne_true] at hm1 ⊢; exact ⟨G1, s1, P, PX, r1, hm1, xp.on g1 f1, fun d st' v G' H' hp g2 f2 r2 q2 => k d st' v G' H' hp (g1.trans g2) (f1.trans f2) r2 q2⟩
    | true => rw [if_pos rfl] at hm1 ⊢; exact k _ s1 _ G1 H1 hm1 g1 f1 r1 (.bl true)⟩
theorem de_not (ha : DE X Y W a ma) : DE X Y W (.UnaryOp .Not a pos) (mNotV ma) :=
  peImp (pe_not ha) fun σ H Q ⟨G, st, P, PX, rr, hm, xp, k⟩ => ⟨G, st, fun d s1 => ∃ k, d = .bl k ∧ P (.bl (!k)) s1, PX, rr, hm, xp, fun d s1 v G1 H1 hm1 g1 f1 r1 q1 => by
    obtain ⟨z, rfl, hm1⟩ := hm1
    cases q1
    exact ⟨z, rfl, k _ s1 _ G1 H1 hm1 g1 f1 r1 (.bl _)⟩⟩
def mIf (t : MT) (m n : ME) : ME := fun st P PX => t st (fun k s1 => if k = true then m s1 P PX else n s1 P PX) PX
theorem de_if (hc : DT X Y W c mt) (ha : DE X Y W a ma) (hb : DE X Y W b mb) : DE X Y W (.IfExp c a b pos) (mIf mt ma mb) :=
  peImp (pe_ifExp hc ha hb) fun σ H Q ⟨G, st, P, PX, rr, hm, xp, k⟩ => ⟨G, st, fun k s1 => if k = true then ma s1 P PX else mb s1 P PX, PX, rr, hm, xp, fun d s1 G1 H1 hm1 g1 f1 r1 => by
    cases d with
    | true => rw [if_pos rfl] at hm1 ⊢; exact ⟨G1, s1, P, PX, r1, hm1, xp.on g1 f1, fun d st' v G' H' hp g2 f2 r2 q2 => k d st' v G' H' hp (g1.trans g2) (f1.trans f2) r2 q2⟩
    | false => rw [if_neg Bool.false_ne_true] at hm1 ⊢; exact ⟨G1, s1, P, PX, r1, hm1, xp.on g1 f1, fun d st' v G' H' hp g2 f2 r2 q2 => k d st' v G' H' hp (g1.trans g2) (f1.trans f2) r2 q2⟩⟩
/-! ### arguments, displays -/
def mNil : MA := fun st P _ => P [] st
def mCons (m : ME) (n : MA) : MA := fun st P PX => m st (fun d s1 => n s1 (fun ds s2 => P (d :: ds) s2) PX) PX
variable {mas : MA}
theorem da_nil : DA X Y W [] mNil := paImp pa_nil fun σ H Q ⟨G, st, P, PX, rr, hm, xp, k⟩ => k [] st [] G H hm (Same.refl G) .refl rr .nil
theorem da_cons (ha : DE X Y W e me) (hr : DA X Y W es mas) (hs : starEach (e :: es) X.env = (false, eval e X.env) :: starEach es X.env := by rfl) : DA X Y W (e :: es) (mCons me mas) :=
  paImp (pa_cons ha hr hs) fun σ H Q ⟨G, st, P, PX, rr, hm, xp, k⟩ => ⟨G, st, _, PX, rr, hm, xp, fun d s1 v G1 H1 hm1 g1 f1 r1 q1 =>
    ⟨G1, s1, _, PX, r1, hm1, xp.on g1 f1, fun ds s2 vs G2 H2 hm2 g2 f2 r2 q2 => k _ s2 _ G2 H2 hm2 (g1.trans g2) (f1.trans f2) r2 (.cons (q1.mono g2) q2)⟩⟩
/-- (a, b, ..), [a, b, ..] -/
def mTup (n : MA) : ME := fun st P PX => n st (fun ds s1 => ds.length ≤ sizeLine ∧ P (.tup ds) s1) PX
def mLst (n : MA) : ME := fun st P PX => n st (fun ds s1 => ds.length ≤ sizeLine ∧ P (.lst ds) s1) PX
theorem R.new {Y : Yc} {G : Hp} {st : S} {σ : St} {H : Hp} (h : R Y G st σ H) {q : Addr} (hq : H q = none) (o : HO) (ho : plainO o := by first | exact plain_lst | exact plain_tup | exact plain_dK) : R Y (upd G q o) st σ (upd H q o) :=
  ⟨(h.h.new hq o ho).1, h.s.mono (h.h.new hq o ho).2.1⟩
theorem de_tup {x1 : Nat} (h : DA X Y W es mas) : DE X Y W (.Tuple es x1 pos) (mTup mas) :=
  peImp (pe_tup h) fun σ H Q ⟨G, st, P, PX, rr, hm, xp, k⟩ => ⟨G, st, _, PX, rr, hm, xp, fun ds s1 vs G1 H1 hm1 g1 f1 r1 q1 =>
    ⟨by rw [← q1.length]; exact hm1.1, fun q hq => k _ s1 _ _ _ hm1.2 (g1.trans (r1.h.new hq _).2.1) (f1.trans (.new hq)) (r1.new hq (.tup vs)) (.tup (SqT.of upd_same) (q1.mono (r1.h.new hq _).2.1))⟩⟩
theorem de_lst (h : DA X Y W es mas) : DE X Y W (.List es pos) (mLst mas) :=
  peImp (pe_lst h) fun σ H Q ⟨G, st, P, PX, rr, hm, xp, k⟩ => ⟨G, st, _, PX, rr, hm, xp, fun ds s1 vs G1 H1 hm1 g1 f1 r1 q1 =>
    ⟨by rw [← q1.length]; exact hm1.1, fun q hq => k _ s1 _ _ _ hm1.2 (g1.trans (r1.h.new hq _).2.1) (f1.trans (.new hq)) (r1.new hq (.lst vs)) (.lst upd_same (q1.mono (r1.h.new hq _).2.1))⟩⟩
/-! ### built-ins by name -/
def mCB (g : OL) (n : MA) : ME := fun st P PX => n st (fun ds s1 => g s1.mu ds fun r => P r s1) PX
variable {x : Str} {p : Pos} {id T : String} {g : OL}
theorem mCB_ok {r : List V → Hp → VK → Prop} (hr : ∀ xs H Q, lL Y g xs H Q → r xs H Q) : ∀ σ H Q, TEof Y W (mCB g mas) σ H Q → tCB r (TAof Y W mas) σ H Q := fun σ H Q ⟨G, st, P, PX, rr, hm, xp, k⟩ =>
  ⟨G, st, _, PX, rr, hm, xp, fun ds s1 vs G1 H1 hm1 g1 f1 r1 q1 => hr _ _ _ ⟨G1, s1.mu, s1.c, ds, _, r1.h, q1, hm1, fun z v3 G3 H3 hp g3 h3 r3 q3 => k z s1 v3 G3 H3 hp (g1.trans g3) (f1.trans h3) ⟨r3, r1.s.mono g3⟩ q3⟩⟩
theorem de_callB (hc : CallD X Y (.builtin id) g) (hg : Gl X x) (hm : X.mg x = none) (hv : bootBuiltins x = some (.builtin id)) (ha : DA X Y W (e :: es) mas) (hn : x ≠ "__name__" := by decide) (hdb : (x == ("__debug__" : Str)) = false := by decide)
    (he : starEach (e :: es) X.env = (false, eval e X.env) :: starEach es X.env := by rfl) (hpl : (backTo pos (starEach es X.env)).any (·.1) = false := by rfl) : DE X Y W (.Call (.Name x p) (e :: es) [] pos) (mCB g mas) :=
  peImp (pe_callB hc hg hm hv ha hn hdb he hpl) (mCB_ok fun _ _ _ h => h)
theorem de_callTy (hc : CallD X Y (.type T) g) (hg : Gl X x) (hm : X.mg x = none) (hv : bootBuiltins x = some (.type T)) (ha : DA X Y W (e :: es) mas) (hn : x ≠ "__name__" := by decide) (hdb : (x == ("__debug__" : Str)) = false := by decide)
    (he : starEach (e :: es) X.env = (false, eval e X.env) :: starEach es X.env := by rfl) (hpl : (backTo pos (starEach es X.env)).any (·.1) = false := by rfl) : DE X Y W (.Call (.Name x p) (e :: es) [] pos) (mCB g mas) :=
  peImp (pe_callTy hc hg hm hv ha hn hdb he hpl) (mCB_ok fun _ _ _ h => h)
/-! ### statements -/
variable {ms ns : MS} {st : Stmt} {sts sts2 : List Stmt}
def mNext : MS := fun st E _ => E.nx st
def mSeq (t u : MS) : MS := fun st E PX => t st { E with nx := fun s1 => u s1 E PX } PX
theorem EndsOk.next {Y : Yc} {G : Hp} {st : S} {σ : St} {H : Hp} {E : DEnds} {D : Ends} (x : EndsOk Y G st H E D) (r : R Y G st σ H) (h : E.nx st) : D.nx σ H := x.nx _ _ _ _ h (Same.refl G) .refl r
theorem dss_nil : DSs X Y W [] mNext := pssImp pss_nil fun D σ H ⟨G, st, E, PX, rr, hm, xp, k⟩ => k.next rr hm
theorem dss_one (h : DS X Y W st ms) : DSs X Y W [st] ms := pss_one h
theorem dss_cons (h1 : DS X Y W st ms) (h2 : DSs X Y W sts ns) : DSs X Y W (st :: sts) (mSeq ms ns) :=
  pssImp (pss_cons h1 h2) fun D σ H ⟨G, st, E, PX, rr, hm, xp, k⟩ => ⟨G, st, _, PX, rr, hm, xp, ⟨fun s1 σ1 G1 H1 h g f r => ⟨G1, s1, E, PX, r, h, xp.on g f, k.on g f⟩, k.rt, k.bk, k.ct⟩⟩
def mPass : MS := mNext
theorem ds_pass : DS X Y W (.Pass pos) mNext := psImp ps_pass fun D σ H ⟨G, st, E, PX, rr, hm, xp, k⟩ => k.next rr hm
def mBreak : MS := fun st E _ => E.bk st
def mCont : MS := fun st E _ => E.ct st
theorem ds_break : DS X Y W (.Break pos) mBreak := psImp ps_break fun D σ H ⟨G, st, E, PX, rr, hm, xp, k⟩ => k.bk _ _ _ _ hm (Same.refl G) .refl rr
theorem ds_continue : DS X Y W (.Continue pos) mCont := psImp ps_continue fun D σ H ⟨G, st, E, PX, rr, hm, xp, k⟩ => k.ct _ _ _ _ hm (Same.refl G) .refl rr
def mDrop (m : ME) : MS := fun st E PX => m st (fun _ s1 => E.nx s1) PX
theorem ds_expr (he : DE X Y W e me) (hs : swapsWith e none pos.line X.env = pure false := by rfl) : DS X Y W (.Expr e pos) (mDrop me) :=
  psImp (ps_expr he hs) fun D σ H ⟨G, st, E, PX, rr, hm, xp, k⟩ => ⟨G, st, _, PX, rr, hm, xp, fun d s1 v G1 H1 h g f r q => k.nx _ _ _ _ h g f r⟩
def mRet (m : ME) : MS := fun st E PX => m st E.rt PX
theorem ds_ret (he : DE X Y W e me) : DS X Y W (.Return (some e) pos) (mRet me) :=
  psImp (ps_ret he) fun D σ H ⟨G, st, E, PX, rr, hm, xp, k⟩ => ⟨G, st, _, PX, rr, hm, xp, fun d s1 v G1 H1 h g f r q => k.rt _ _ _ σ _ _ h g f r q⟩
def mRetN : MS := fun st E _ => E.rt .non st
theorem ds_retN : DS X Y W (.Return none pos) mRetN := psImp ps_retN fun D σ H ⟨G, st, E, PX, rr, hm, xp, k⟩ => k.rt _ _ _ σ _ _ hm (Same.refl G) .refl rr .non
def mIfS (t : MT) (m n : MS) : MS := fun st E PX => t st (fun k s1 => if k = true then m s1 E PX else n s1 E PX) PX
theorem ds_if (hc : DT X Y W c mt) (ha : DSs X Y W sts ms) (hb : DSs X Y W sts2 ns) : DS X Y W (.If c sts sts2 pos) (mIfS mt ms ns) :=
  psImp (ps_if hc ha hb) fun D σ H ⟨G, st, E, PX, rr, hm, xp, k⟩ => ⟨G, st, fun k s1 => if k = true then ms s1 E PX else ns s1 E PX, PX, rr, hm, xp, fun d s1 G1 H1 hm1 g1 f1 r1 => by
    cases d with
    | true => rw [if_pos rfl] at hm1 ⊢; exact ⟨G1, s1, E, PX, r1, hm1, xp.on g1 f1, k.on g1 f1⟩
    | false => rw [if_neg Bool.false_ne_true] at hm1 ⊢; exact ⟨G1, s1, E, PX, r1, hm1, xp.on g1 f1, k.on g1 f1⟩⟩
/-- a place of the frame is set -/
def S.put (st : S) (i : Nat) (d : D) : S := { st with r := st.r.set i (some d) }
theorem R.put {G : Hp} {st : S} {σ : St} {H : Hp} (r : R Y G st σ H) (i : Nat) {d : D} {v : V} (q : Rep Y G d v) : R Y G (st.put i d) (σ.set i (some v)) H := ⟨r.h, r.s.set i q⟩
def mSet (i : Nat) (m : ME) : MS := fun st E PX => m st (fun d s1 => E.nx (s1.put i d)) PX
theorem ds_set {i : Nat} {x : Str} {pos' : Pos} (hN : X.N.Nodup) (hi : X.N[i]? = some x) (hx : Loc X.env.scope x) (he : DE X Y W e me) (hs : swapsWith e (some (.Name x pos')) pos.line X.env = pure false := by rfl)
    (hf : X.fn x = true ∨ X.env.scope.names.lookup x = some .local := by first | exact .inl rfl | exact .inr rfl | assumption) : DS X Y W (.Assign [.Name x pos'] e pos) (mSet i me) :=
  psImp (ps_set hN hi hx he hs hf) fun D σ H ⟨G, st, E, PX, rr, hm, xp, k⟩ => ⟨G, st, _, PX, rr, hm, xp, fun d s1 v G1 H1 h g f r q => k.nx _ _ _ _ h g f (r.put i q)⟩
/-! targets: a value comes to names -/
abbrev MG := D → S → (S → Prop) → Prop
abbrev MGs := List D → S → (S → Prop) → Prop
def TGof (Y : Yc) (m : MG) : TG := fun v σ H Q => ∃ G st d P, R Y G st σ H ∧ Rep Y G d v ∧ m d st P ∧ ∀ st' σ' G' H', P st' → Same G G' → Frm Y G st.mu H G' st'.mu H' → R Y G' st' σ' H' → Q σ' H'
def TGsof (Y : Yc) (m : MGs) : TGs := fun v σ H Q => ∃ G st d P, R Y G st σ H ∧ Reps Y G d v ∧ m d st P ∧ ∀ st' σ' G' H', P st' → Same G G' → Frm Y G st.mu H G' st'.mu H' → R Y G' st' σ' H' → Q σ' H'
abbrev DG (X : Cx) (Y : Yc) (e : Expr) (m : MG) : Prop := PG X e (TGof Y m)
abbrev DGs (X : Cx) (Y : Yc) (e : List Expr) (m : MGs) : Prop := PGs X e (TGsof Y m)
theorem pgImp {e : Expr} {t t' : TG} (h : PG X e t) (i : ∀ v σ H Q, t' v σ H Q → t v σ H Q) : PG X e t' := ⟨fun pins s σ H v u Q I r q => h.run pins s σ H v u Q I r (i v σ H Q q)⟩
theorem pgsImp {e : List Expr} {t t' : TGs} (h : PGs X e t) (i : ∀ v σ H Q, t' v σ H Q → t v σ H Q) : PGs X e t' := ⟨fun pins s σ H v u Q I r q => h.run pins s σ H v u Q I r (i v σ H Q q)⟩
def gN (i : Nat) : MG := fun d st P => P (st.put i d)
theorem dg_name {i : Nat} {x : Str} (hN : X.N.Nodup) (hi : X.N[i]? = some x) (hx : Loc X.env.scope x) (hf : X.fn x = true ∨ X.env.scope.names.lookup x = some .local := by first | exact .inl rfl | exact .inr rfl | assumption) : DG X Y (.Name x pos) (gN i) :=
  pgImp (pg_name hN hi hx hf) fun v σ H Q ⟨G, st, d, P, r, q, h, k⟩ => k _ _ G H h (Same.refl G) .refl (r.put i q)
def gsN : MGs := fun ds st P => ds = [] ∧ P st
def gsC (g : MG) (gs : MGs) : MGs := fun ds st P => ∃ d r, ds = d :: r ∧ g d st fun s1 => gs r s1 P
theorem dgs_nil : DGs X Y [] gsN := pgsImp pgs_nil fun v σ H Q ⟨G, st, d, P, r, q, ⟨e, h⟩, k⟩ => by
  subst e
  cases q
  exact ⟨rfl, k _ _ G H h (Same.refl G) .refl r⟩
theorem dgs_cons {g : MG} {gs : MGs} (h1 : DG X Y e g) (h2 : DGs X Y es gs) (hs : (assignEach (e :: es) X.env).map (·.2) = assign e X.env :: (assignEach es X.env).map (·.2) := by rfl) : DGs X Y (e :: es) (gsC g gs) :=
  pgsImp (pgs_cons h1 h2 hs) fun v σ H Q ⟨G, st, d, P, r, q, ⟨d1, dr, e, h⟩, k⟩ => by
    subst e
    cases q with
    | cons q1 q2 => exact ⟨_, _, rfl, G, st, d1, _, r, q1, h, fun s1 σ1 G1 H1 h1 g1 f1 r1 => ⟨G1, s1, dr, P, r1, q2.mono g1, h1, fun s2 σ2 G2 H2 h2 g2 f2 r2 => k s2 σ2 G2 H2 h2 (g1.trans g2) (f1.trans f2) r2⟩⟩
def gT (n : Nat) (gs : MGs) : MG := fun d st P => ∃ ds, d = .tup ds ∧ ds.length = n ∧ gs ds st P
theorem dg_tup {k : Nat} {gs : MGs} {n : Nat} (hY : Y.K = X.K) (hc : X.calm = true) (h : DGs X Y es gs) (hn : (assignEach es X.env).length = n := by rfl) (hst : (assignEach es X.env).findIdx? (·.1) = none := by rfl) : DG X Y (.Tuple es k pos) (gT n gs) :=
  pgImp (pg_tup hc h hn hst) fun v σ H Q ⟨G, st, d, P, r, q, ⟨ds, e, hl, h⟩, k⟩ => by
    subst e
    cases q with
    | tup q1 q2 => exact ⟨_, _, rfl, sqT_mono r.h.sub (hY ▸ q1), by rw [← q2.length]; exact hl, G, st, ds, P, r, q2, h, k⟩
/-- target = value -/
def mAsg (m : ME) (g : MG) : MS := fun st E PX => m st (fun d s1 => g d s1 E.nx) PX
theorem ds_asg {tg : Expr} {g : MG} (he : DE X Y W e me) (hg : DG X Y tg g) (hs : swapsWithSole [tg] e pos.line X.env = pure false := by rfl) (hw : swappedStores [tg] e X.env = pure none := by rfl)
    (h1 : (assignEach [tg] X.env).map (·.2) = [assign tg X.env] := by rfl) : DS X Y W (.Assign [tg] e pos) (mAsg me g) :=
  psImp (ps_asg he hg hs hw h1) fun D σ H ⟨G, st, E, PX, rr, hm, xp, k⟩ => ⟨G, st, _, PX, rr, hm, xp, fun d s1 v G1 H1 h g f r q => ⟨G1, s1, d, _, r, q, h, fun s2 σ2 G2 H2 h2 g2 f2 r2 => k.nx _ _ _ _ h2 (g.trans g2) (f.trans f2) r2⟩⟩
/-- a, b = x, y -/
def mPar (i j : Nat) (n : MA) : MS := fun st E PX => n st (fun ds s1 => ∃ d e, ds = [d, e] ∧ E.nx ((s1.put i d).put j e)) PX
theorem ds_par {i j : Nat} {x y : Str} {px py pt : Pos} {kt k2 : Nat} {pt2 : Pos} (hc : X.calm = true) (hN : X.N.Nodup) (hi : X.N[i]? = some x) (hj : X.N[j]? = some y) (hij : i ≠ j)
    (hx : X.env.scope.names.lookup x = some .local) (hy : X.env.scope.names.lookup y = some .local) (ha : DA X Y W [a, b] mas)
    (hw : swappedStores [.Tuple [.Name x px, .Name y py] kt pt] (.Tuple [a, b] k2 pt2) X.env = pure (some [x, y]) := by rfl)
    (hs : swapsWithSole [.Tuple [.Name x px, .Name y py] kt pt] (.Tuple [a, b] k2 pt2) pos.line X.env = pure false := by rfl) :
    DS X Y W (.Assign [.Tuple [.Name x px, .Name y py] kt pt] (.Tuple [a, b] k2 pt2) pos) (mPar i j mas) :=
  psImp (ps_par hc hN hi hj hij hx hy ha hw hs) fun D σ H ⟨G, st, E, PX, rr, hm, xp, k⟩ => ⟨G, st, _, PX, rr, hm, xp, fun ds s1 vs G1 H1 ⟨d, e, e1, h⟩ g f r q => by
    subst e1
    cases q with
    | cons q1 q2 =>
      cases q2 with
      | cons q2 q3 =>
        cases q3
        exact ⟨_, _, rfl, k.nx _ _ _ _ h g f ((r.put i q1).put j q2)⟩⟩
/-! ### a def of the text, called -/
/-- the promise of a def over data: its arguments, what may change, the draws; the end, the exception -/
abbrev DSp := List D → Mu → Nat → (D → Mu → Nat → Prop) → (Ex → Mu → Nat → Prop) → Prop
def SpOf (Y : Yc) (sp : DSp) : Sp := fun vs H Q E => ∃ G mu c ds P PX, R0 Y G mu c H ∧ Reps Y G ds vs ∧ sp ds mu c P PX ∧
  (∀ d mu' c' v G' H', P d mu' c' → Same G G' → Frm Y G mu H G' mu' H' → R0 Y G' mu' c' H' → Rep Y G' d v → Q v H') ∧
  (∀ x mu' c' cls d G' H', PX x mu' c' → Same G G' → Frm Y G mu H G' mu' H' → R0 Y G' mu' c' H' → RepX Y G' mu' H' x cls d → E cls d H')
end
/-- what the source of draws holds: the cells, how many were begun, what is left -/
def penKvs (ca : Addr) (b l : Int) : List (Key × V) := [(.inr "cells", .ref ca), (.inr "begun", .int b), (.inr "left", .int l)]
def penW (G : Hp) (c : Nat) (o : HO) : Prop := ∃ (ca : Addr) (b l : Int) (ns : List Int), o = .dK (penKvs ca b l) ∧ G ca = some (.lst (ns.map V.int)) ∧ ns.length ≤ 63 ∧ 0 ≤ b ∧ b ≤ c ∧ 0 ≤ l
/-- where the source of draws stands, which code objects stand apart -/
structure Qp where
  p : Addr
  raw : List (Addr × Str)
  G0 : Hp
def Yp (K : PySem.W.Frag) (mg : Str → Option Value) (T : List (Addr × Str)) (q : Qp) : Yc where
  K := K
  mg := mg
  T := T
  raw := q.raw
  G0 := q.G0
  p := q.p
  W := penW
  mono := fun G G' c o s ⟨ca, b, l, ns, h1, h2, h3⟩ => ⟨ca, b, l, ns, h1, s _ _ h2, h3⟩
  more := fun G c c' o hc ⟨ca, b, l, ns, h1, h2, h3, h4, h5, h6⟩ => ⟨ca, b, l, ns, h1, h2, h3, h4, by omega, h6⟩
/-- the def called x keeps the promise sp, by at most k calls one in another -/
structure FnD (P : Program) (w : World) (K : PySem.W.Frag) (mg : Str → Option Value) (T : List (Addr × Str)) (base : Heap) (k : Nat) (x : Str) (ps : List Str) (sp : DSp) : Prop where
  ex : ∃ (f : Addr) (fd : FuncData), mg x = some (.ref f) ∧ PySem.W.keepIn K (.ref f) = true ∧ Binds K fd ps [] ∧ ∀ (q : Qp), FnOk P w K mg base (L2.CX P w) k f fd ps (SpOf (Yp K mg T q) sp)
theorem FnD.mono {P : Program} {w : World} {K : PySem.W.Frag} {mg : Str → Option Value} {T : List (Addr × Str)} {base : Heap} {j k : Nat} {x : Str} {ps : List Str} {sp : DSp} (F : FnD P w K mg T base j x ps sp) (h : j ≤ k) : FnD P w K mg T base k x ps sp :=
  let ⟨f, fd, h1, h2, h3, h4⟩ := F.ex
  ⟨f, fd, h1, h2, h3, fun q => (h4 q).mono h⟩
section
variable {X : Cx} {Y : Yc} {W : WX} {e : Expr} {es : List Expr} {mas : MA} {pos p : Pos} {x : Str} {k : Nat} {ps : List Str} {sp : DSp}
def mCall (sp : DSp) (n : MA) : ME := fun st P PX => n st (fun ds s1 => sp ds s1.mu s1.c (fun d mu' c' => P d { s1 with mu := mu', c := c' }) (fun x mu' c' => PX x { s1 with mu := mu', c := c' })) PX
theorem de_call {q : Qp} {T : List (Addr × Str)} (F : FnD X.prog X.w X.K X.mg T X.base k x ps sp) (tk : Takes X W) (hr : Room k X.A) (hg : Gl X x) (ha : DA X (Yp X.K X.mg T q) W (e :: es) mas) (hdb : (x == ("__debug__" : Str)) = false := by decide)
    (he : starEach (e :: es) X.env = (false, eval e X.env) :: starEach es X.env := by rfl) (hpl : (backTo pos (starEach es X.env)).any (·.1) = false := by rfl) : DE X (Yp X.K X.mg T q) W (.Call (.Name x p) (e :: es) [] pos) (mCall sp mas) := by
  obtain ⟨f, fd, h1, h2, h3, h4⟩ := F.ex
  refine peImp (pe_callSD (dvs := []) (ds := []) (E := WE W) (h4 q) hr hg h1 h2 h3 .nil (fun σ => passAt tk σ) ha hdb he hpl) fun σ H Q ⟨G, st, P, PX, rr, hm, xp, k⟩ => ?_
  refine ⟨G, st, _, PX, rr, hm, xp, fun ds s1 vs G1 H1 hm1 g1 f1 r1 q1 => ?_⟩
  refine ⟨G1, s1.mu, s1.c, ds, _, _, r1.h, (by rw [List.append_nil]; exact q1), hm1, fun d mu' c' v G' H' hp g f r q => ?_, fun ex mu' c' cls d G' H' hp g f r q => ?_⟩
  · exact k d _ v G' H' hp (g1.trans g) (f1.trans f) ⟨r, r1.s.mono g⟩ q
  · exact xp ex _ cls d σ G' H' hp (g1.trans g) (f1.trans f) ⟨r, r1.s.mono g⟩ q
end
theorem u65 {k : Nat} {A : Around} (r : Room k A) : A.units + 65 < cLine := by have := r.un; omega
theorem u1 {k : Nat} {A : Around} (r : Room k A) : A.units + 1 < cLine := by have := r.un; omega
/-- what a module's name holds -/
def GlobD (K : PySem.W.Frag) (mg : Str → Option Value) (x : Str) (d : D) : Prop := ∃ v u, mg x = some u ∧ RelV v u ∧ ∀ Y : Yc, Y.K = K → ∀ G, Rep Y G d v
theorem de_gl {X : Cx} {Y : Yc} {W : WX} {x : Str} {d : D} {pos : Pos} (h : GlobD X.K X.mg x d) (hY : Y.K = X.K) (hg : Gl X x) (hd : (x == ("__debug__" : Str)) = false := by decide) : DE X Y W (.Name x pos) (mC d) :=
  let ⟨_, _, h1, h2, h3⟩ := h
  de_glob hg h1 h2 (h3 Y hY) hd
section
variable {P : Program} {w : World} {K : PySem.W.Frag} {mg : Str → Option Value} {T : List (Addr × Str)} {base : Heap}
/-- a def's state at its entry, what is wanted at its ends (the draws may be told as more) -/
def S0 (N ps : List Str) (ds : List D) (mu : Mu) (c : Nat) : S := ⟨ds.map some ++ List.replicate (N.length - ps.length) none, mu, c⟩
def EF (P : D → Mu → Nat → Prop) : DEnds := { nx := fun s => ∃ c', s.c ≤ c' ∧ P .non s.mu c', rt := fun d s => ∃ c', s.c ≤ c' ∧ P d s.mu c' }
def XF (PX : Ex → Mu → Nat → Prop) : PXT := fun x s => ∃ c', s.c ≤ c' ∧ PX x s.mu c'
theorem R0.more {Y : Yc} {G : Hp} {mu : Mu} {c c' : Nat} {H : Hp} (h : R0 Y G mu c H) (l : c ≤ c') : R0 Y G mu c' H :=
  ⟨h.sub, h.mus, let ⟨o, h1, h2, h3⟩ := h.pen; ⟨o, h1, Y.more _ _ _ _ l h2, h3⟩, h.ext⟩
theorem dss_never {X : Cx} {Y : Yc} {W : WX} {sts : List Stmt} : DSs X Y W sts (fun _ _ _ => False) := pssImp pss_never fun D σ H ⟨_, _, _, _, _, h, _⟩ => h.elim
/-- THE RULE for a def over data -/
theorem fnD {x : Str} {st : Stmt} {f : Addr} {fd : FuncData} {N ps : List Str} {k : Nat} {sp : DSp} (F : Fun K x x st f fd) (hmg : mg x = some (.ref f)) (b : Binds K fd ps []) (Sc : FnScope N ps (defScope st))
    (len : ∀ ds mu c P PX, sp ds mu c P PX → ds.length = ps.length)
    (hbody : ∀ (X : Cx) (q : Qp) (W : WX), (∃ cdv A outer s H E, X = cxOf (L2.CX P w) P w K mg base N x (defScope st) f cdv A outer s H E) → Takes X W → Room k X.A → PassesOwn (model X.prog X.w) X.A X.env X.xe →
      ∃ m, DSs X (Yp K mg T q) W (defBody st) m ∧ ∀ ds mu c P PX, sp ds mu c P PX → m (S0 N ps ds mu c) (EF P) (XF PX)) :
    FnD P w K mg T base (k + 1) x ps sp := by
  refine ⟨f, fd, hmg, F.kp, b, fun q => ?_⟩
  refine F.okX Sc (fun vs H Q E ⟨G, mu, c, ds, P, PX, r0, qv, h, _⟩ => ?_) fun cdv A outer s H vs Q E hr ⟨G, mu, c, ds, P, PX, r0, qv, h, kq, kx⟩ => ?_
  · rw [← qv.length]
    exact len _ _ _ _ _ h
  · obtain ⟨m, hm, hs⟩ := hbody (cxOf (L2.CX _ w) _ w K mg base N x (defScope st) f cdv A outer s H E) q (fun cls d _ H => E cls d H) ⟨cdv, A, outer, s, H, E, rfl⟩ (takes_of rfl rfl rfl rfl) hr (passes_of rfl)
    have e1 : N.length - vs.length = N.length - ps.length := by rw [← qv.length, len _ _ _ _ _ h]
    refine ⟨_, hm, G, _, _, _, ⟨r0, ?_⟩, hs ds mu c _ _ h, ?_, ?_⟩
    · show Sl (Yp K mg T q) G _ (L2.start N vs)
      unfold L2.start
      rw [e1]
      exact Sl.start qv _
    · exact fun ex st' cls d σ' G' H' ⟨c', l, h1⟩ h2 h3 h4 h5 => kx ex _ _ cls d G' H' h1 h2 h3 (h4.h.more l) h5
    · exact ⟨fun st' σ' G' H' ⟨c', l, h1⟩ h2 h3 h4 => kq _ _ _ _ G' H' h1 h2 h3 (h4.h.more l) .non, fun d st' v σ' G' H' ⟨c', l, h1⟩ h2 h3 h4 h5 => kq _ _ _ _ G' H' h1 h2 h3 (h4.h.more l) h5, fun _ _ _ _ h => h.elim, fun _ _ _ _ h => h.elim⟩
theorem FnD.none {x : Str} {st : Stmt} {f : Addr} {fd : FuncData} {N ps : List Str} {k : Nat} {sp : DSp} (F : Fun K x x st f fd) (hmg : mg x = some (.ref f)) (b : Binds K fd ps []) (Sc : FnScope N ps (defScope st)) (h0 : ∀ ds mu c P PX, ¬ sp ds mu c P PX) : FnD P w K mg T base (k + 1) x ps sp :=
  fnD F hmg b Sc (fun ds mu c P PX h => (h0 ds mu c P PX h).elim) fun X q W _ _ _ _ => ⟨_, dss_never, fun ds mu c P PX h => (h0 ds mu c P PX h).elim⟩
/-- a promise that was shown at the layer's own level -/
theorem FnD.raw {x : Str} {f : Addr} {fd : FuncData} {ps : List Str} {k : Nat} {sp : DSp} {sp0 : Sp} (F : FnOk P w K mg base (L2.CX P w) k f fd ps sp0) (hmg : mg x = some (.ref f)) (hk : PySem.W.keepIn K (.ref f) = true) (b : Binds K fd ps [])
    (h : ∀ q vs H Q E, SpOf (Yp K mg T q) sp vs H Q E → sp0 vs H Q E) : FnD P w K mg T base k x ps sp := ⟨f, fd, hmg, hk, b, fun q => F.imp (h q)⟩
end
end DL
namespace DL
open PySem L2
/-! ### data as the library's data, for == -/
mutual
def D.py : D → PyData
  | .non => .none
  | .bl b => .bool b
  | .int i => .int i
  | .str s => .str s
  | .tup ds => .tuple (D.pys ds)
  | .lst ds => .list (D.pys ds)
  | .dct _ => .none
  | .pen => .none
  | .ref _ => .none
def D.pys : List D → List PyData
  | [] => []
  | d :: ds => D.py d :: D.pys ds
end
mutual
/-- plain data, at most n deep -/
def D.ok : D → Nat → Bool
  | .non, _ => true
  | .bl _, _ => true
  | .int _, _ => true
  | .str s, _ => PyData.strOk s
  | .tup ds, n => decide (0 < n) && D.oks ds (n - 1)
  | .lst ds, n => decide (0 < n) && D.oks ds (n - 1)
  | .dct _, _ => false
  | .pen, _ => false
  | .ref _, _ => false
def D.oks : List D → Nat → Bool
  | [], _ => true
  | d :: ds, n => D.ok d n && D.oks ds n
end
mutual
theorem D.ok_mono : ∀ (d : D) (n m : Nat), n ≤ m → d.ok n = true → d.ok m = true
  | .non, _, _, _, _ => rfl
  | .bl _, _, _, _, _ => rfl
  | .int _, _, _, _, _ => rfl
  | .str s, _, _, _, h => h
  | .tup ds, n, m, l, h => by
    simp only [D.ok, Bool.and_eq_true, decide_eq_true_eq] at h ⊢
    exact ⟨by omega, D.oks_mono ds _ _ (by omega) h.2⟩
  | .lst ds, n, m, l, h => by
    simp only [D.ok, Bool.and_eq_true, decide_eq_true_eq] at h ⊢
    exact ⟨by omega, D.oks_mono ds _ _ (by omega) h.2⟩
  | .dct _, _, _, _, h => by cases h
  | .pen, _, _, _, h => by cases h
  | .ref _, _, _, _, h => by cases h
theorem D.oks_mono : ∀ (d : List D) (n m : Nat), n ≤ m → D.oks d n = true → D.oks d m = true
  | [], _, _, _, _ => rfl
  | d :: ds, n, m, l, h => by
    simp only [D.oks, Bool.and_eq_true] at h ⊢
    exact ⟨D.ok_mono d n m l h.1, D.oks_mono ds n m l h.2⟩
end
mutual
theorem D.ok_lay : ∀ (d : D) (n : Nat), d.ok n = true → d.py.canLay0 = true ∧ d.py.depth ≤ n
  | .non, _, _ => ⟨by simp [D.py, PyData.canLay0], by simp [D.py, PyData.depth]⟩
  | .bl _, _, _ => ⟨by simp [D.py, PyData.canLay0], by simp [D.py, PyData.depth]⟩
  | .int _, _, _ => ⟨by simp [D.py, PyData.canLay0], by simp [D.py, PyData.depth]⟩
  | .str s, _, h => ⟨by simp only [D.py, PyData.canLay0]; exact h, by simp [D.py, PyData.depth]⟩
  | .tup ds, n, h => by
    simp only [D.ok, Bool.and_eq_true, decide_eq_true_eq] at h
    have q := D.oks_lay ds _ h.2
    exact ⟨by simp only [D.py, PyData.canLay0]; exact q.1, by simp only [D.py, PyData.depth]; omega⟩
  | .lst ds, n, h => by
    simp only [D.ok, Bool.and_eq_true, decide_eq_true_eq] at h
    have q := D.oks_lay ds _ h.2
    exact ⟨by simp only [D.py, PyData.canLay0]; exact q.1, by simp only [D.py, PyData.depth]; omega⟩
  | .dct _, _, h => by cases h
  | .pen, _, h => by cases h
  | .ref _, _, h => by cases h
theorem D.oks_lay : ∀ (d : List D) (n : Nat), D.oks d n = true → PyData.canLayAll0 (D.pys d) = true ∧ PyData.depthAll (D.pys d) ≤ n
  | [], _, _ => ⟨by simp [D.pys, PyData.canLayAll0], by simp [D.pys, PyData.depthAll]⟩
  | d :: ds, n, h => by
    simp only [D.oks, Bool.and_eq_true] at h
    have q1 := D.ok_lay d n h.1
    have q2 := D.oks_lay ds n h.2
    exact ⟨by simp only [D.pys, PyData.canLayAll0, Bool.and_eq_true]; exact ⟨q1.1, q2.1⟩, by simp only [D.pys, PyData.depthAll]; omega⟩
end
theorem D.shaped {d : D} {n : Nat} (h : d.ok n = true) (hn : n ≤ 64) : SeqAt.shaped d.py = true := by
  obtain ⟨h1, h2⟩ := d.ok_lay n h
  simp only [SeqAt.shaped, h1, Bool.true_and, decide_eq_true_eq]
  omega
mutual
theorem Rep.dp {Y : Yc} {G H : Hp} (s : Same G H) {n : Nat} : ∀ {d : D} {v : V}, Rep Y G d v → d.ok n = true → Dp Y.K H v d.py
  | _, _, .non, _ => .non
  | _, _, .bl b, _ => .bl b
  | _, _, .int i, _ => .int i
  | _, _, .str x, _ => .str x
  | _, _, .pen, h => by cases h
  | _, _, .ref a, h => by cases h
  | _, _, .tup h r, k => .tup (sqT_mono s h) (Reps.dp s r (Bool.and_eq_true_iff.mp k).2)
  | _, _, .lst h r, k => .lst (SqL.of (s _ _ h)) (Reps.dp s r (Bool.and_eq_true_iff.mp k).2)
  | _, _, .dct h r, k => by cases k
theorem Reps.dp {Y : Yc} {G H : Hp} (s : Same G H) {n : Nat} : ∀ {d : List D} {v : List V}, Reps Y G d v → D.oks d n = true → DpAll Y.K H v (D.pys d)
  | _, _, .nil, _ => .nil
  | _, _, .cons h r, k => .cons (Rep.dp s h (Bool.and_eq_true_iff.mp k).1) (Reps.dp s r (Bool.and_eq_true_iff.mp k).2)
end
def eqvD (d e : D) : Bool := PyData.eqv d.py e.py
def eqvs (d e : List D) : Bool := PyData.eqvAll (D.pys d) (D.pys e)
section
variable {X : Cx} {Y : Yc} {G : Hp} {mu : Mu} {c : Nat} {H : Hp} {P : D → Prop} {Q : VK}
theorem Post.here (k : Post Y G mu c H P Q) (r0 : R0 Y G mu c H) {r : D} {v : V} (h : P r) (q : Rep Y G r v) : Q v H := k r v G H h (Same.refl G) .refl r0 q
theorem Post.lst (k : Post Y G mu c H P Q) (r0 : R0 Y G mu c H) {ds : List D} {vs : List V} (h : P (.lst ds)) (q : Reps Y G ds vs) : ∀ p, H p = none → Q (.ref p) (upd H p (.lst vs)) := fun p hp =>
  k _ _ _ _ h (r0.new hp _).2.1 (.new hp) (r0.new hp (.lst vs)).1 (.lst upd_same (q.mono (r0.new hp _).2.1))
theorem Post.tup (k : Post Y G mu c H P Q) (r0 : R0 Y G mu c H) {ds : List D} {vs : List V} (h : P (.tup ds)) (q : Reps Y G ds vs) : ∀ p, H p = none → Q (.ref p) (upd H p (.tup vs)) := fun p hp =>
  k _ _ _ _ h (r0.new hp _).2.1 (.new hp) (r0.new hp (.tup vs)).1 (.tup (SqT.of upd_same) (q.mono (r0.new hp _).2.1))
/-! ### arithmetic -/
abbrev LINE : Nat := 16777216
theorem line_eq : sizeLine = LINE := sizeLine_eq
def addD : O2 := fun _ d e P => match d, e with
  | .int i, .int j => P (.int (i + j))
  | .str a, .str b => a.length + b.length ≤ LINE ∧ P (.str (a ++ b))
  | .lst a, .lst b => a.length + b.length ≤ LINE ∧ P (.lst (a ++ b))
  | .tup a, .tup b => a.length + b.length ≤ LINE ∧ P (.tup (a ++ b))
  | _, _ => False
theorem vs_nil {Y : Yc} {G : Hp} {ds : List D} {vs : List V} (q : Reps Y G ds vs) (h : vs = []) : ds = [] := by
  subst h
  cases q
  rfl
theorem Rep.tupI {ds : List D} {v : V} (h : Rep Y G (.tup ds) v) : ∃ a xs, v = .ref a ∧ SqT Y.K G a xs ∧ Reps Y G ds xs := by
  cases h with
  | tup h1 q1 => exact ⟨_, _, rfl, h1, q1⟩
theorem Rep.lstI {ds : List D} {v : V} (h : Rep Y G (.lst ds) v) : ∃ a xs, v = .ref a ∧ G a = some (.lst xs) ∧ Reps Y G ds xs := by
  cases h with
  | lst h1 q1 => exact ⟨_, _, rfl, h1, q1⟩
theorem Rep.dctI {ds : List (Key × D)} {v : V} (h : Rep Y G (.dct ds) v) : ∃ a xs, v = .ref a ∧ G a = some (.dK xs) ∧ Repk Y G ds xs := by
  cases h with
  | dct h1 q1 => exact ⟨_, _, rfl, h1, q1⟩
theorem od_add (hY : Y.K = X.K) : OpD X Y (binaryOp .Add) addD := by
  intro pins s σ H x y v u Q I rx ry ⟨G, mu, c, d, e, P, r0, qd, qe, h, k⟩
  have e0 := line_eq
  cases d <;> cases e <;> first | exact False.elim h | skip
  · cases qd; cases qe
    exact op_add pins s σ H _ _ v u Q I rx ry ⟨_, _, rfl, rfl, k.here r0 h (.int _)⟩
  · cases qd; cases qe
    exact op_add_str pins s σ H _ _ v u Q I rx ry ⟨_, _, rfl, rfl, by rw [e0]; exact h.1, k.here r0 h.2 (.str _)⟩
  · obtain ⟨a1, xs1, rfl, h1, q1⟩ := qd.tupI
    obtain ⟨a2, xs2, rfl, h2, q2⟩ := qe.tupI
    refine op_catA pins s σ H _ _ v u Q I rx ry ⟨_, _, _, _, rfl, rfl, sqT_mono r0.sub (hY ▸ h1), sqT_mono r0.sub (hY ▸ h2), by rw [← q1.length, ← q2.length, e0]; exact h.1, fun z => ?_, fun z1 z2 => ?_, fun z1 z2 => ?_⟩
    · exact k.here r0 (by rw [vs_nil q1 z] at h; exact h.2) (.tup h2 q2)
    · exact k.here r0 (by rw [vs_nil q2 z2] at h; have h3 := h.2; rw [List.append_nil] at h3; exact h3) (.tup h1 q1)
    · exact k.tup r0 h.2 (q1.append q2)
  · obtain ⟨a1, xs1, rfl, h1, q1⟩ := qd.lstI
    obtain ⟨a2, xs2, rfl, h2, q2⟩ := qe.lstI
    exact op_cat pins s σ H _ _ v u Q I rx ry ⟨_, _, _, _, rfl, rfl, r0.sub _ _ h1, r0.sub _ _ h2, by rw [← q1.length, ← q2.length, e0]; exact h.1, k.lst r0 h.2 (q1.append q2)⟩
def intD (C : Int → Int → Prop) (g : Int → Int → D) : O2 := fun _ d e P => match d, e with
  | .int i, .int j => C i j ∧ P (g i j)
  | _, _ => False
theorem od_int {f : Value → Value → Sem Value} {C : Int → Int → Prop} {g : Int → Int → V} {g' : Int → Int → D} (h : OpR X f (rI C g)) (hg : ∀ i j G, Rep Y G (g' i j) (g i j)) : OpD X Y f (intD C g') := by
  intro pins s σ H x y v u Q I rx ry ⟨G, mu, c, d, e, P, r0, qd, qe, h1, k⟩
  cases d <;> cases e <;> first | exact False.elim h1 | skip
  cases qd; cases qe
  exact h pins s σ H _ _ v u Q I rx ry ⟨_, _, rfl, rfl, h1.1, k.here r0 h1.2 (hg _ _ _)⟩
def intD0 (g : Int → Int → D) : O2 := fun _ d e P => match d, e with
  | .int i, .int j => P (g i j)
  | _, _ => False
theorem od_int0 {f : Value → Value → Sem Value} {g : Int → Int → V} {g' : Int → Int → D} (h : OpR X f (rI0 g)) (hg : ∀ i j G, Rep Y G (g' i j) (g i j)) : OpD X Y f (intD0 g') := by
  intro pins s σ H x y v u Q I rx ry ⟨G, mu, c, d, e, P, r0, qd, qe, h1, k⟩
  cases d <;> cases e <;> first | exact False.elim h1 | skip
  cases qd; cases qe
  exact h pins s σ H _ _ v u Q I rx ry ⟨_, _, rfl, rfl, k.here r0 h1 (hg _ _ _)⟩
def subtD : O2 := intD0 fun i j => .int (i - j)
def modD : O2 := intD (fun _ j => 0 < j) fun i j => .int (i % j)
def fdivD : O2 := intD CDiv fun i j => .int (i / j)
def powD : O2 := intD CPow fun i j => .int (i ^ j.toNat)
def shlD : O2 := intD CPow fun i j => .int (i * 2 ^ j.toNat)
def ltD : O2 := intD0 fun i j => .bl (decide (i < j))
def leD : O2 := intD0 fun i j => .bl (decide (i ≤ j))
def gtD : O2 := intD0 fun i j => .bl (decide (j < i))
def geD : O2 := intD0 fun i j => .bl (decide (j ≤ i))
theorem od_sub : OpD X Y (binaryOp .Sub) subtD := od_int0 op_sub fun _ _ _ => .int _
theorem od_mod : OpD X Y (binaryOp .Mod) modD := od_int op_mod fun _ _ _ => .int _
theorem od_fdiv : OpD X Y (binaryOp .FloorDiv) fdivD := od_int op_fdiv fun _ _ _ => .int _
theorem od_pow : OpD X Y (binaryOp .Pow) powD := od_int op_pow fun _ _ _ => .int _
theorem od_shl : OpD X Y (binaryOp .LShift) shlD := od_int op_shl fun _ _ _ => .int _
theorem od_lt : OpD X Y (compareOp .Lt) ltD := od_int0 op_lt fun _ _ _ => .bl _
theorem od_le : OpD X Y (compareOp .LtE) leD := od_int0 op_le fun _ _ _ => .bl _
theorem od_gt : OpD X Y (compareOp .Gt) gtD := od_int0 op_gt fun _ _ _ => .bl _
theorem od_ge : OpD X Y (compareOp .GtE) geD := od_int0 op_ge fun _ _ _ => .bl _
/-- x * y -/
def repD {α : Type} (l : List α) (k : Int) : List α := (List.replicate k.toNat l).flatten
theorem Reps.rep {ds : List D} {vs : List V} (q : Reps Y G ds vs) : ∀ k : Nat, Reps Y G (List.replicate k ds).flatten (List.replicate k vs).flatten
  | 0 => .nil
  | k + 1 => by
    rw [List.replicate_succ, List.replicate_succ, List.flatten_cons, List.flatten_cons]
    exact q.append (q.rep k)
def mulD : O2 := fun _ d e P => match d, e with
  | .int i, .int j => CMul i j ∧ P (.int (i * j))
  | .str a, .int k => 0 ≤ k ∧ k < 2 ^ 62 ∧ a.length * k.toNat ≤ LINE ∧ P (.str ⟨(repD a.cps.toList k).toArray⟩)
  | .lst a, .int k => 0 ≤ k ∧ k < 2 ^ 62 ∧ a.length * k.toNat ≤ LINE ∧ P (.lst (repD a k))
  | _, _ => False
theorem foldl_reps {α : Type} (a : Array α) : ∀ (k : Nat) (acc : Array α), ((List.replicate k a).foldl (· ++ ·) acc) = acc ++ ((List.replicate k a.toList).flatten).toArray
  | 0, acc => by simp
  | k + 1, acc => by
    rw [List.replicate_succ, List.foldl_cons, foldl_reps a k, List.replicate_succ, List.flatten_cons, Array.append_assoc]
    congr 1
    rw [← List.append_toArray]
theorem tooLong_no {n : Nat} (h : n ≤ LINE) : Builtin.Str.tooLong n = false := by
  unfold Builtin.Str.tooLong
  rw [← line_eq] at h
  exact decide_eq_false (by omega)
theorem repD_len {α : Type} (l : List α) : ∀ k : Nat, ((List.replicate k l).flatten).length = l.length * k
  | 0 => by simp
  | k + 1 => by
    rw [List.replicate_succ, List.flatten_cons, List.length_append, repD_len l k, Nat.mul_succ]
    omega
theorem strMul_eq (a : Str) (k : Int) (t : Tok) (s : Shared) (Q : Value → Shared → Prop) (hk : 0 ≤ k) (hz : a.length * k.toNat ≤ LINE) (h : ∀ t' tk, Q (.str ⟨(repD a.cps.toList k).toArray⟩ t') { s with toks := tk }) :
    (if k < 1 then Made.str Str.empty else if (k == 1 || a.length == 0) = true then Made.val (.str a t) else Made.str ⟨(List.replicate k.toNat a.cps).foldl (· ++ ·) #[]⟩).post Q s := by
  split
  · have e : k = 0 := by omega
    subst e
    exact ⟨Nat.zero_le _, h s.toks (s.toks + 1)⟩
  · split
    · rename_i h1 h2
      have e : (⟨(repD a.cps.toList k).toArray⟩ : Str) = a := by
        simp only [Bool.or_eq_true, beq_iff_eq] at h2
        rcases h2 with h2 | h2
        · subst h2
          simp [repD]
        · have e2 : a.cps = #[] := Array.eq_empty_of_size_eq_zero h2
          obtain ⟨c⟩ := a
          simp only at e2
          subst e2
          simp [repD]
      have := h t s.toks
      rw [e] at this
      exact this
    · rw [foldl_reps]
      have e : (#[] ++ ((List.replicate k.toNat a.cps.toList).flatten).toArray) = (repD a.cps.toList k).toArray := by simp [repD]
      rw [e]
      refine ⟨?_, h s.toks (s.toks + 1)⟩
      show (repD a.cps.toList k).toArray.size ≤ sizeLine
      rw [List.size_toArray, line_eq]
      unfold repD
      rw [repD_len]
      exact hz
theorem op_mul_str : OpR X (binaryOp .Mult) (fun x y H Q => ∃ a k, x = .str a ∧ y = .int k ∧ 0 ≤ k ∧ k < 2 ^ 62 ∧ a.length * k.toNat ≤ LINE ∧ Q (.str ⟨(repD a.cps.toList k).toArray⟩) H) := by
  intro pins s σ H x y v u Q I rx ry ⟨a, k, e1, e2, h1, h2, h3, q⟩
  subst e1; subst e2
  obtain ⟨t, rfl⟩ := rx
  obtain ⟨t', rfl⟩ := ry
  refine P.mul_str ?_ (fun _ _ => ?_) (fun _ _ => tooLong_no h3) (strMul_eq a k t s _ h1 h3 fun t2 tk => ⟨.str _, H, I.tok _, ⟨_, rfl⟩, q⟩)
  · simp only [Bool.or_eq_false_iff, decide_eq_false_iff_not]
    omega
  · rename_i c1 c2
    have h4 : (a.length : Int) * k ≤ LINE := by
      have h5 : ((a.length * k.toNat : Nat) : Int) ≤ ((LINE : Nat) : Int) := Int.ofNat_le.mpr h3
      rw [Int.natCast_mul, Int.toNat_of_nonneg h1] at h5
      exact h5
    have h6 : (a.length : Int) ≤ (2 ^ 63 - 1) / k := by
      refine (Int.le_ediv_iff_mul_le (by omega)).mpr ?_
      have : ((LINE : Nat) : Int) ≤ 2 ^ 63 - 1 := by decide
      omega
    omega
theorem od_mul : OpD X Y (binaryOp .Mult) mulD := by
  intro pins s σ H x y v u Q I rx ry ⟨G, mu, c, d, e, P, r0, qd, qe, h, k⟩
  have e0 := line_eq
  cases d <;> cases e <;> first | exact False.elim h | skip
  · cases qd; cases qe
    exact op_mul pins s σ H _ _ v u Q I rx ry ⟨_, _, rfl, rfl, h.1, k.here r0 h.2 (.int _)⟩
  · cases qd; cases qe
    exact op_mul_str pins s σ H _ _ v u Q I rx ry ⟨_, _, rfl, rfl, h.1, h.2.1, h.2.2.1, k.here r0 h.2.2.2 (.str _)⟩
  · obtain ⟨a1, xs1, rfl, h1, q1⟩ := qd.lstI
    cases qe
    exact op_rep pins s σ H _ _ v u Q I rx ry ⟨_, _, _, rfl, rfl, r0.sub _ _ h1, by have := h.1; omega, by have := h.2.1; omega, by rw [← q1.length, e0]; exact h.2.2.1, k.lst r0 h.2.2.2 (q1.rep _)⟩
/-! ### == -/
/-- what == may be asked of -/
def CEq (d e : D) : Prop := (∃ n, n ≤ 64 ∧ d.ok n = true) ∧ ∃ n, n ≤ 64 ∧ e.ok n = true
def eqD : O2 := fun _ d e P => CEq d e ∧ P (.bl (eqvD d e))
def neD : O2 := fun _ d e P => CEq d e ∧ P (.bl (!eqvD d e))
theorem od_eq (hY : Y.K = X.K) (hu : X.A.units + 64 < cLine) : OpD X Y (compareOp .Eq) eqD := by
  intro pins s σ H x y v u Q I rx ry ⟨G, mu, c, d, e, P, r0, qd, qe, ⟨⟨⟨n, n1, n2⟩, m, m1, m2⟩, h⟩, k⟩
  exact op_eqD hu pins s σ H x y v u Q I rx ry ⟨d.py, e.py, hY ▸ qd.dp r0.sub n2, hY ▸ qe.dp r0.sub m2, D.shaped n2 n1, D.shaped m2 m1, k.here r0 h (.bl _)⟩
theorem od_ne (hY : Y.K = X.K) (hu : X.A.units + 64 < cLine) : OpD X Y (compareOp .NotEq) neD := by
  intro pins s σ H x y v u Q I rx ry ⟨G, mu, c, d, e, P, r0, qd, qe, ⟨⟨⟨n, n1, n2⟩, m, m1, m2⟩, h⟩, k⟩
  exact op_neD hu pins s σ H x y v u Q I rx ry ⟨d.py, e.py, hY ▸ qd.dp r0.sub n2, hY ▸ qe.dp r0.sub m2, D.shaped n2 n1, D.shaped m2 m1, k.here r0 h (.bl _)⟩
/-! ### is None -/
def D.isN : D → Bool
  | .non => true
  | _ => false
theorem Rep.isN {d : D} {v : V} (q : Rep Y G d v) : decide (v = .non) = d.isN := by
  cases q <;> rfl
def isND : O2 := fun _ d e P => e = .non ∧ P (.bl d.isN)
def notND : O2 := fun _ d e P => e = .non ∧ P (.bl (!d.isN))
theorem od_isN : OpD X Y (compareOp .Is) isND := by
  intro pins s σ H x y v u Q I rx ry ⟨G, mu, c, d, e, P, r0, qd, qe, ⟨e1, h⟩, k⟩
  subst e1
  cases qe
  exact op_isN pins s σ H _ _ v u Q I rx ry ⟨rfl, by rw [qd.isN]; exact k.here r0 h (.bl _)⟩
theorem od_notN : OpD X Y (compareOp .IsNot) notND := by
  intro pins s σ H x y v u Q I rx ry ⟨G, mu, c, d, e, P, r0, qd, qe, ⟨e1, h⟩, k⟩
  subst e1
  cases qe
  exact op_notN pins s σ H _ _ v u Q I rx ry ⟨rfl, by rw [qd.isN]; exact k.here r0 h (.bl _)⟩
/-! ### dicts that stay as they are -/
def look (es : List (Key × D)) (k : Key) : Option D := (es.find? fun e => decide (e.1 = k)).map (·.2)
theorem Repk.look {es : List (Key × D)} {vs : List (Key × V)} (q : Repk Y G es vs) (k : Key) : (∀ z, look es k = some z → ∃ v, valV vs k = some v ∧ Rep Y G z v) ∧ (look es k = none → valV vs k = none) := by
  induction es generalizing vs with
  | nil => cases q; exact ⟨fun z h => (by cases h), fun _ => rfl⟩
  | cons p es ih =>
    cases q with
    | cons k0 h r =>
      by_cases e0 : k0 = k
      · subst e0
        refine ⟨fun z hz => ?_, fun hz => ?_⟩
        · simp [DL.look, List.find?_cons] at hz
          subst hz
          exact ⟨_, valV_pos rfl, h⟩
        · simp [DL.look, List.find?_cons] at hz
      · refine ⟨fun z hz => ?_, fun hz => ?_⟩
        · rw [valV_neg e0]
          refine (ih r).1 z ?_
          simpa [DL.look, List.find?_cons, e0] using hz
        · rw [valV_neg e0]
          refine (ih r).2 ?_
          simpa [DL.look, List.find?_cons, e0] using hz
/-- a key as data -/
def D.key : D → Option Key
  | .int i => some (.inl i)
  | .str x => some (.inr x)
  | _ => none
theorem Rep.key {d : D} {v : V} {k : Key} (q : Rep Y G d v) (h : d.key = some k) : v = kV k := by
  cases q <;> first | cases h | skip
  · rfl
  · rfl
/-! ### in, not in -/
/-- x stands in y: a text in a text, a thing in a tuple or a list of plain things -/
def hasStr (x y : Str) : Bool := !(Builtin.Str.occurrences y x 0 y.length 1).isEmpty
def inD (f : Bool → Bool) : O2 := fun _ d e P => match e with
  | .tup es => CEq d (.tup es) ∧ P (.bl (f (es.any fun z => eqvD z d)))
  | .lst es => CEq d (.lst es) ∧ P (.bl (f (es.any fun z => eqvD z d)))
  | .str b => (match d with | .str a => P (.bl (f (hasStr a b))) | _ => False)
  | .dct es => ∃ k, d.key = some k ∧ P (.bl (f (look es k).isSome))
  | _ => False
theorem pys_any (d : D) : ∀ es : List D, ((D.pys es).any fun z => PyData.eqv z d.py) = es.any fun z => eqvD z d
  | [] => rfl
  | e :: es => by
    simp only [D.pys, List.any_cons, pys_any d es]
    rfl
theorem op_inT (hu : X.A.units + 65 < cLine) : OpR X (compareOp .In) (fun x y H Q => ∃ d ds, Dp X.K H x d ∧ Dp X.K H y (.tuple ds) ∧ SeqAt.shaped d = true ∧ SeqAt.shaped (.tuple ds) = true ∧ Q (.bl (ds.any fun z => PyData.eqv z d)) H) := by
  intro pins s σ H x y v u Q I rx ry ⟨d, ds, hd, he, sd, se, q⟩
  obtain ⟨as, r1⟩ := Dp.reads I d x v hd rx
  obtain ⟨bs, r2⟩ := Dp.reads I (.tuple ds) y u he ry
  exact SeqAt.in_tuple_reads r2 r1 (SeqAt.canLay_of_shaped se) (SeqAt.canLay_of_shaped sd) (PyProof.Rows.room_in_shaped sd hu) ⟨.bl _, H, I, rfl, q⟩
theorem op_notInT (hu : X.A.units + 65 < cLine) : OpR X (compareOp .NotIn) (fun x y H Q => ∃ d ds, Dp X.K H x d ∧ Dp X.K H y (.tuple ds) ∧ SeqAt.shaped d = true ∧ SeqAt.shaped (.tuple ds) = true ∧ Q (.bl (!ds.any fun z => PyData.eqv z d)) H) := by
  intro pins s σ H x y v u Q I rx ry ⟨d, ds, hd, he, sd, se, q⟩
  obtain ⟨as, r1⟩ := Dp.reads I d x v hd rx
  obtain ⟨bs, r2⟩ := Dp.reads I (.tuple ds) y u he ry
  exact SeqAt.notIn_tuple_reads r2 r1 (SeqAt.canLay_of_shaped se) (SeqAt.canLay_of_shaped sd) (PyProof.Rows.room_in_shaped sd hu) ⟨.bl _, H, I, rfl, q⟩
theorem inD_seq {d e : D} {f : Bool → Bool} {mu : Mu} {P : D → Prop} (h : inD f mu d e P) : (∃ a b, d = .str a ∧ e = .str b ∧ P (.bl (f (hasStr a b)))) ∨ (∃ es, e = .tup es ∧ CEq d (.tup es) ∧ P (.bl (f (es.any fun z => eqvD z d)))) ∨ (∃ es, e = .lst es ∧ CEq d (.lst es) ∧ P (.bl (f (es.any fun z => eqvD z d)))) ∨ (∃ es k, e = .dct es ∧ d.key = some k ∧ P (.bl (f (look es k).isSome))) := by
  unfold inD at h
  split at h
  · exact .inr (.inl ⟨_, rfl, h⟩)
  · exact .inr (.inr (.inl ⟨_, rfl, h⟩))
  · split at h
    · exact .inl ⟨_, _, rfl, rfl, h⟩
    · exact h.elim
  · obtain ⟨k, h1, h2⟩ := h
    exact .inr (.inr (.inr ⟨_, k, rfl, h1, h2⟩))
  · exact h.elim
theorem Repk.get {es : List (Key × D)} {vs : List (Key × V)} (q : Repk Y G es vs) (k : Key) : (valV vs k).isSome = (DL.look es k).isSome := by
  cases e : DL.look es k with
  | none => rw [(q.look k).2 e]; rfl
  | some z =>
    obtain ⟨v, h1, _⟩ := (q.look k).1 z e
    rw [h1]
    rfl
theorem od_in (hY : Y.K = X.K) (hu : X.A.units + 65 < cLine) : OpD X Y (compareOp .In) (inD id) := by
  intro pins s σ H x y v u Q I rx ry ⟨G, mu, c, d, e, P, r0, qd, qe, h, k⟩
  rcases inD_seq h with ⟨a, b, rfl, rfl, h⟩ | ⟨es, rfl, ⟨⟨n, n1, n2⟩, m, m1, m2⟩, h⟩ | ⟨es, rfl, ⟨⟨n, n1, n2⟩, m, m1, m2⟩, h⟩ | ⟨es, k0, rfl, hk, h⟩
  · cases qd; cases qe
    exact op_in_str pins s σ H _ _ v u Q I rx ry ⟨_, _, rfl, rfl, k.here r0 h (.bl _)⟩
  · exact op_inT hu pins s σ H _ _ v u Q I rx ry ⟨d.py, D.pys es, hY ▸ qd.dp r0.sub n2, hY ▸ qe.dp r0.sub m2, D.shaped n2 n1, D.shaped m2 m1, by rw [pys_any]; exact k.here r0 h (.bl _)⟩
  · exact op_inD hu pins s σ H _ _ v u Q I rx ry ⟨d.py, D.pys es, hY ▸ qd.dp r0.sub n2, hY ▸ qe.dp r0.sub m2, D.shaped n2 n1, D.shaped m2 m1, by rw [pys_any]; exact k.here r0 h (.bl _)⟩
  · obtain ⟨a1, xs1, rfl, h1, q1⟩ := qe.dctI
    obtain rfl : u = Value.ref a1 := ry
    have e1 := qd.key hk
    subst e1
    refine d_in (by omega) I (DGet.k (r0.sub _ _ h1)) rx fun s3 I3 => ⟨.bl _, H, I3, rfl, ?_⟩
    rw [q1.get k0]
    exact k.here r0 h (.bl _)
theorem od_notIn (hY : Y.K = X.K) (hu : X.A.units + 65 < cLine) : OpD X Y (compareOp .NotIn) (inD not) := by
  intro pins s σ H x y v u Q I rx ry ⟨G, mu, c, d, e, P, r0, qd, qe, h, k⟩
  rcases inD_seq h with ⟨a, b, rfl, rfl, h⟩ | ⟨es, rfl, ⟨⟨n, n1, n2⟩, m, m1, m2⟩, h⟩ | ⟨es, rfl, ⟨⟨n, n1, n2⟩, m, m1, m2⟩, h⟩ | ⟨es, k0, rfl, hk, h⟩
  · cases qd; cases qe
    exact op_notIn_str pins s σ H _ _ v u Q I rx ry ⟨_, _, rfl, rfl, k.here r0 h (.bl _)⟩
  · exact op_notInT hu pins s σ H _ _ v u Q I rx ry ⟨d.py, D.pys es, hY ▸ qd.dp r0.sub n2, hY ▸ qe.dp r0.sub m2, D.shaped n2 n1, D.shaped m2 m1, by rw [pys_any]; exact k.here r0 h (.bl _)⟩
  · exact op_notInD hu pins s σ H _ _ v u Q I rx ry ⟨d.py, D.pys es, hY ▸ qd.dp r0.sub n2, hY ▸ qe.dp r0.sub m2, D.shaped n2 n1, D.shaped m2 m1, by rw [pys_any]; exact k.here r0 h (.bl _)⟩
  · obtain ⟨a1, xs1, rfl, h1, q1⟩ := qe.dctI
    obtain rfl : u = Value.ref a1 := ry
    have e1 := qd.key hk
    subst e1
    refine d_notIn (by omega) I (DGet.k (r0.sub _ _ h1)) rx fun s3 I3 => ⟨.bl _, H, I3, rfl, ?_⟩
    rw [q1.get k0]
    exact k.here r0 h (.bl _)
/-! ### subscripts -/
def ixD : O2 := fun _ d e P => match d, e with
  | .str a, .int i => a.length ≤ LINE ∧ ∃ z, atI a.cps.toList i = some z ∧ P (.str ⟨#[z]⟩)
  | .tup a, .int i => ∃ z, atI a i = some z ∧ P z
  | .lst a, .int i => ∃ z, atI a i = some z ∧ P z
  | _, _ => False
theorem Reps.atI {ds : List D} {vs : List V} (q : Reps Y G ds vs) {i : Int} {z : D} (h : L2.atI ds i = some z) : ∃ v, L2.atI vs i = some v ∧ Rep Y G z v := by
  unfold L2.atI at h ⊢
  rw [q.length] at h
  cases e : ixN vs.length i with
  | none => rw [e] at h; cases h
  | some j =>
    rw [e] at h
    exact q.get (i := j) h
theorem ix_d (hY : Y.K = X.K) : IxR X (l2 Y ixD) := by
  intro value slice pins s σ H x y v u Q I rx ry ⟨G, mu, c, d, e, P, r0, qd, qe, h, k⟩ hs
  have e0 := line_eq
  cases d <;> cases e <;> first | exact False.elim h | skip
  · cases qd; cases qe
    obtain ⟨h1, z, h2, h3⟩ := h
    exact ix_str value slice pins s σ H _ _ v u Q I rx ry ⟨_, _, _, rfl, rfl, by rw [e0]; exact h1, h2, k.here r0 h3 (.str _)⟩ hs
  · obtain ⟨a1, xs1, rfl, h1, q1⟩ := qd.tupI
    cases qe
    obtain ⟨z, h2, h3⟩ := h
    obtain ⟨w, h4, q4⟩ := q1.atI h2
    exact ix_tup value slice pins s σ H _ _ v u Q I rx ry ⟨_, _, _, _, rfl, rfl, sqT_mono r0.sub (hY ▸ h1), h4, k.here r0 h3 q4⟩ hs
  · obtain ⟨a1, xs1, rfl, h1, q1⟩ := qd.lstI
    cases qe
    obtain ⟨z, h2, h3⟩ := h
    obtain ⟨w, h4, q4⟩ := q1.atI h2
    exact ix_list value slice pins s σ H _ _ v u Q I rx ry ⟨_, _, _, _, rfl, rfl, SqL.of (r0.sub _ _ h1), h4, k.here r0 h3 q4⟩ hs
theorem de_ix {W : WX} {a b : Expr} {ma mb : ME} {pos : Pos} (hY : Y.K = X.K) (ha : DE X Y W a ma) (hb : DE X Y W b mb) (hs : PlainIx b := by intro _ _; rfl) : DE X Y W (.Subscript a b pos) (mOp ixD ma mb) :=
  peImp (pe_ix (ix_d hY) ha hb hs) (mOp_ok fun _ _ _ _ h => h)
/-! slices -/
def cutD {α : Type} (xs : List α) (lo hi : Option Int) : List α := (xs.drop (HT.sIx xs.length 0 lo)).take (HT.sIx xs.length xs.length hi - HT.sIx xs.length 0 lo)
abbrev MO1 := S → (Option Int → S → Prop) → PXT → Prop
def TOof (Y : Yc) (W : WX) (m : MO1) : TO := fun σ H Q => ∃ G st P PX, R Y G st σ H ∧ m st P PX ∧ XPost Y W G st σ H PX ∧
  ∀ b st' G' H', P b st' → Same G G' → Frm Y G st.mu H G' st'.mu H' → R Y G' st' σ H' → Q b H'
abbrev DO (X : Cx) (Y : Yc) (W : WX) (e : Option Expr) (m : MO1) : Prop := PO X e (TOof Y W m)
theorem poImp {e : Option Expr} {t t' : TO} (h : PO X e t) (i : ∀ σ H Q, t' σ H Q → t σ H Q) : PO X e t' := ⟨fun pins s σ H Q I q => h.run pins s σ H Q I (i σ H Q q)⟩
def mONone : MO1 := fun st P _ => P none st
def mOSome (m : ME) : MO1 := fun st P PX => m st (fun d s1 => ∃ i, d = .int i ∧ P (some i) s1) PX
theorem do_none {W : WX} : DO X Y W none mONone := poImp po_none fun σ H Q ⟨G, st, P, PX, rr, hm, xp, k⟩ => k _ _ G H hm (Same.refl G) .refl rr
theorem do_some {W : WX} {e : Expr} {m : ME} (h : DE X Y W e m) : DO X Y W (some e) (mOSome m) :=
  poImp (po_some h) fun σ H Q ⟨G, st, P, PX, rr, hm, xp, k⟩ => ⟨G, st, fun d s1 => ∃ i, d = .int i ∧ P (some i) s1, PX, rr, hm, xp, fun d s1 v G1 H1 ⟨i, e1, hp⟩ g f r q => by
    subst e1
    cases q
    exact ⟨i, rfl, k _ _ G1 H1 hp g f r⟩⟩
def slD (d : D) (lo hi : Option Int) (P : D → Prop) : Prop := match d with
  | .str a => a.length ≤ LINE ∧ P (.str ⟨(cutD a.cps.toList lo hi).toArray⟩)
  | .tup a => P (.tup (cutD a lo hi))
  | .lst a => P (.lst (cutD a lo hi))
  | _ => False
def mSl (m : ME) (l h : MO1) : ME := fun st P PX => m st (fun d s1 => l s1 (fun lo s2 => h s2 (fun hi s3 => slD d lo hi fun r => P r s3) PX) PX) PX
theorem Reps.cut {ds : List D} {vs : List V} (q : Reps Y G ds vs) (lo hi : Option Int) : Reps Y G (cutD ds lo hi) (cutV vs lo hi) := by
  unfold cutD cutV
  rw [q.length]
  exact (q.drop _).take _
theorem cutV_all {vs : List V} {lo hi : Option Int} (h : HT.sIx vs.length 0 lo = 0 ∧ HT.sIx vs.length vs.length hi = vs.length) : cutV vs lo hi = vs := by
  unfold cutV
  rw [h.1, h.2]
  simp
def lSl (Y : Yc) : V → Option Int → Option Int → Hp → VK → Prop := fun x lo hi H Q => ∃ G mu c d P, R0 Y G mu c H ∧ Rep Y G d x ∧ slD d lo hi P ∧ Post Y G mu c H P Q
theorem sl_d (hY : Y.K = X.K) : SlR X (lSl Y) := by
  intro pins s σ H x v vl vu lo hi sl Q I rx hs pl pu ⟨G, mu, c, d, P, r0, qd, h, k⟩
  have e0 := line_eq
  cases d <;> first | exact False.elim h | skip
  · cases qd
    exact sl_str pins s σ H _ v vl vu lo hi sl Q I rx hs pl pu ⟨_, rfl, by rw [e0]; exact h.1, k.here r0 h.2 (.str _)⟩
  · obtain ⟨a1, xs1, rfl, h1, q1⟩ := qd.tupI
    refine sl_tupA pins s σ H _ v vl vu lo hi sl Q I rx hs pl pu ⟨_, _, rfl, sqT_mono r0.sub (hY ▸ h1), fun hw => ?_, fun _ => k.tup r0 h (q1.cut lo hi)⟩
    have e := q1.cut lo hi
    rw [cutV_all hw] at e
    exact k.here r0 h (.tup h1 e)
  · obtain ⟨a1, xs1, rfl, h1, q1⟩ := qd.lstI
    exact sl_list pins s σ H _ v vl vu lo hi sl Q I rx hs pl pu ⟨_, _, rfl, SqL.of (r0.sub _ _ h1), k.lst r0 h (q1.cut lo hi)⟩
theorem de_sl {W : WX} {e : Expr} {m : ME} {lo hi : Option Expr} {l h : MO1} {p2 pos : Pos} (hY : Y.K = X.K) (he : DE X Y W e m) (hl : DO X Y W lo l) (hh : DO X Y W hi h) : DE X Y W (.Subscript e (.Slice lo hi none p2) pos) (mSl m l h) :=
  peImp (pe_slice (sl_d hY) he hl hh) fun σ H Q ⟨G, st, P, PX, rr, hm, xp, k⟩ => ⟨G, st, _, PX, rr, hm, xp, fun d s1 v G1 H1 hm1 g1 f1 r1 q1 =>
    ⟨G1, s1, _, PX, r1, hm1, xp.on g1 f1, fun lo s2 G2 H2 hm2 g2 f2 r2 =>
      ⟨G2, s2, _, PX, r2, hm2, xp.on (g1.trans g2) (f1.trans f2), fun hi s3 G3 H3 hm3 g3 f3 r3 =>
        ⟨G3, s3.mu, s3.c, d, _, r3.h, (q1.mono g2).mono g3, hm3, fun z v4 G4 H4 hp g4 h4 r4 q4 =>
          k z s3 v4 G4 H4 hp (((g1.trans g2).trans g3).trans g4) (((f1.trans f2).trans f3).trans h4) ⟨r4, r3.s.mono g4⟩ q4⟩⟩⟩⟩
/-! ### built-in functions -/
def lenD : OL := fun _ ds P => match ds with
  | [.str a] => a.length ≤ LINE ∧ P (.int a.length)
  | [.tup a] => P (.int a.length)
  | [.lst a] => P (.int a.length)
  | _ => False
theorem Reps.one {d : D} {xs : List V} (q : Reps Y G [d] xs) : ∃ v, xs = [v] ∧ Rep Y G d v := by
  cases q with
  | cons h r => cases r; exact ⟨_, rfl, h⟩
theorem Reps.two {d e : D} {xs : List V} (q : Reps Y G [d, e] xs) : ∃ v w, xs = [v, w] ∧ Rep Y G d v ∧ Rep Y G e w := by
  cases q with
  | cons h r =>
    obtain ⟨w, rfl, h2⟩ := r.one
    exact ⟨_, _, rfl, h, h2⟩
theorem cd_len (hY : Y.K = X.K) : CallD X Y (.builtin "len") lenD := by
  intro pins s σ H xs us Q I r ⟨G, mu, c, ds, P, r0, q, h, k⟩
  unfold lenD at h
  split at h
  · obtain ⟨v, rfl, q1⟩ := q.one
    cases q1
    exact call_len_str pins s σ H _ us Q I r ⟨_, rfl, by rw [line_eq]; exact h.1, k.here r0 h.2 (.int _)⟩
  · obtain ⟨v, rfl, q1⟩ := q.one
    obtain ⟨a1, xs1, rfl, h1, q1⟩ := q1.tupI
    exact call_len_seq pins s σ H _ us Q I r ⟨_, _, rfl, .inr (sqT_mono r0.sub (hY ▸ h1)), by rw [← q1.length]; exact k.here r0 h (.int _)⟩
  · obtain ⟨v, rfl, q1⟩ := q.one
    obtain ⟨a1, xs1, rfl, h1, q1⟩ := q1.lstI
    exact call_len_seq pins s σ H _ us Q I r ⟨_, _, rfl, .inl (SqL.of (r0.sub _ _ h1)), by rw [← q1.length]; exact k.here r0 h (.int _)⟩
  · exact h.elim
def absD : OL := fun _ ds P => match ds with
  | [.int i] => P (.int (if i < 0 then -i else i))
  | _ => False
theorem cd_abs : CallD X Y (.builtin "abs") absD := by
  intro pins s σ H xs us Q I r ⟨G, mu, c, ds, P, r0, q, h, k⟩
  unfold absD at h
  split at h
  · obtain ⟨v, rfl, q1⟩ := q.one
    cases q1
    exact call_abs pins s σ H _ us Q I r ⟨_, rfl, k.here r0 h (.int _)⟩
  · exact h.elim
/-- int(x) of a number -/
def toIntD : OL := fun _ ds P => match ds with
  | [.int i] => P (.int i)
  | [.bl b] => P (.int (if b then 1 else 0))
  | _ => False
theorem cd_int : CallD X Y (.type "int") toIntD := by
  intro pins s σ H xs us Q I r ⟨G, mu, c, ds, P, r0, q, h, k⟩
  unfold toIntD at h
  split at h
  · obtain ⟨v, rfl, q1⟩ := q.one
    cases q1
    exact call_int1 pins s σ H _ us Q I r (.inl ⟨_, rfl, k.here r0 h (.int _)⟩)
  · obtain ⟨v, rfl, q1⟩ := q.one
    cases q1
    exact call_int1 pins s σ H _ us Q I r (.inr ⟨_, rfl, k.here r0 h (.int _)⟩)
  · exact h.elim
/-- the ints of a list -/
def intsOf : List D → Option (List Int)
  | [] => some []
  | .int i :: r => (intsOf r).map (i :: ·)
  | _ => none
theorem intsOf_reps : ∀ {ds : List D} {vs : List V} {ns : List Int}, intsOf ds = some ns → Reps Y G ds vs → vs = ns.map V.int
  | [], _, _, h, q => by
    cases h
    cases q
    rfl
  | d :: ds, _, ns, h, q => by
    cases q with
    | cons q1 q2 =>
      cases d <;> first | cases h | skip
      rename_i i
      cases e : intsOf ds with
      | none => simp [intsOf, e] at h
      | some ms =>
        simp [intsOf, e] at h
        subst h
        cases q1
        rw [intsOf_reps e q2, List.map_cons]
def maxD : OL := fun _ ds P => match ds with
  | [.int i, .int j] => P (.int (if j > i then j else i))
  | [.lst a] => ∃ ns, intsOf a = some ns ∧ 0 < ns.length ∧ ∀ m, m ∈ ns → (∀ y, y ∈ ns → y ≤ m) → P (.int m)
  | _ => False
theorem cd_max (hc : X.calm = true) : CallD X Y (.builtin "max") maxD := by
  intro pins s σ H xs us Q I r ⟨G, mu, c, ds, P, r0, q, h, k⟩
  unfold maxD at h
  split at h
  · obtain ⟨v, w, rfl, q1, q2⟩ := q.two
    cases q1; cases q2
    exact call_max2 hc pins s σ H _ us Q I r ⟨_, _, rfl, k.here r0 h (.int _)⟩
  · obtain ⟨v, rfl, q1⟩ := q.one
    obtain ⟨a1, xs1, rfl, h1, q1⟩ := q1.lstI
    obtain ⟨ns, h2, h3, h4⟩ := h
    have e := intsOf_reps h2 q1
    subst e
    exact cr_max hc pins s σ H _ us Q I r ⟨_, _, rfl, SqL.of (r0.sub _ _ h1), h3, fun m m1 m2 => k.here r0 (h4 m m1 m2) (.int _)⟩
  · exact h.elim
def minD : OL := fun _ ds P => match ds with
  | [.int i, .int j] => P (.int (if j < i then j else i))
  | [.lst a] => ∃ ns, intsOf a = some ns ∧ 0 < ns.length ∧ ∀ m, m ∈ ns → (∀ y, y ∈ ns → m ≤ y) → P (.int m)
  | _ => False
theorem cd_min (hc : X.calm = true) : CallD X Y (.builtin "min") minD := by
  intro pins s σ H xs us Q I r ⟨G, mu, c, ds, P, r0, q, h, k⟩
  unfold minD at h
  split at h
  · obtain ⟨v, w, rfl, q1, q2⟩ := q.two
    cases q1; cases q2
    exact call_min2 hc pins s σ H _ us Q I r ⟨_, _, rfl, k.here r0 h (.int _)⟩
  · obtain ⟨v, rfl, q1⟩ := q.one
    obtain ⟨a1, xs1, rfl, h1, q1⟩ := q1.lstI
    obtain ⟨ns, h2, h3, h4⟩ := h
    have e := intsOf_reps h2 q1
    subst e
    exact cr_min hc pins s σ H _ us Q I r ⟨_, _, rfl, SqL.of (r0.sub _ _ h1), h3, fun m m1 m2 => k.here r0 (h4 m m1 m2) (.int _)⟩
  · exact h.elim
/-- the truths of a list -/
def blsOf : List D → Option (List Bool)
  | [] => some []
  | .bl i :: r => (blsOf r).map (i :: ·)
  | _ => none
theorem blsOf_reps : ∀ {ds : List D} {vs : List V} {ns : List Bool}, blsOf ds = some ns → Reps Y G ds vs → vs = ns.map V.bl
  | [], _, _, h, q => by
    cases h
    cases q
    rfl
  | d :: ds, _, ns, h, q => by
    cases q with
    | cons q1 q2 =>
      cases d <;> first | cases h | skip
      rename_i i
      cases e : blsOf ds with
      | none => simp [blsOf, e] at h
      | some ms =>
        simp [blsOf, e] at h
        subst h
        cases q1
        rw [blsOf_reps e q2, List.map_cons]
def allD : OL := fun _ ds P => match ds with
  | [.lst a] => ∃ bs, blsOf a = some bs ∧ P (.bl (bs.all id))
  | _ => False
theorem cd_all (hc : X.calm = true) : CallD X Y (.builtin "all") allD := by
  intro pins s σ H xs us Q I r ⟨G, mu, c, ds, P, r0, q, h, k⟩
  unfold allD at h
  split at h
  · obtain ⟨v, rfl, q1⟩ := q.one
    obtain ⟨a1, xs1, rfl, h1, q1⟩ := q1.lstI
    obtain ⟨ns, h2, h3⟩ := h
    have e := blsOf_reps h2 q1
    subst e
    exact cr_all hc pins s σ H _ us Q I r ⟨_, _, rfl, SqL.of (r0.sub _ _ h1), k.here r0 h3 (.bl _)⟩
  · exact h.elim
def anyD : OL := fun _ ds P => match ds with
  | [.lst a] => ∃ bs, blsOf a = some bs ∧ P (.bl (bs.any id))
  | _ => False
theorem cd_any (hc : X.calm = true) : CallD X Y (.builtin "any") anyD := by
  intro pins s σ H xs us Q I r ⟨G, mu, c, ds, P, r0, q, h, k⟩
  unfold anyD at h
  split at h
  · obtain ⟨v, rfl, q1⟩ := q.one
    obtain ⟨a1, xs1, rfl, h1, q1⟩ := q1.lstI
    obtain ⟨ns, h2, h3⟩ := h
    have e := blsOf_reps h2 q1
    subst e
    exact cr_any hc pins s σ H _ us Q I r ⟨_, _, rfl, SqL.of (r0.sub _ _ h1), k.here r0 h3 (.bl _)⟩
  · exact h.elim
def sumD : OL := fun _ ds P => match ds with
  | [.lst a] => ∃ ns, intsOf a = some ns ∧ P (.int ns.sum)
  | _ => False
theorem cd_sum (hc : X.calm = true) : CallD X Y (.builtin "sum") sumD := by
  intro pins s σ H xs us Q I r ⟨G, mu, c, ds, P, r0, q, h, k⟩
  unfold sumD at h
  split at h
  · obtain ⟨v, rfl, q1⟩ := q.one
    obtain ⟨a1, xs1, rfl, h1, q1⟩ := q1.lstI
    obtain ⟨ns, h2, h3⟩ := h
    have e := intsOf_reps h2 q1
    subst e
    exact cr_sum hc pins s σ H _ us Q I r ⟨_, _, rfl, SqL.of (r0.sub _ _ h1), k.here r0 h3 (.int _)⟩
  · exact h.elim
def listD : OL := fun _ ds P => match ds with
  | [.lst a] => P (.lst a)
  | [.tup a] => P (.lst a)
  | _ => False
theorem cd_list (hY : Y.K = X.K) : CallD X Y (.type "list") listD := by
  intro pins s σ H xs us Q I r ⟨G, mu, c, ds, P, r0, q, h, k⟩
  unfold listD at h
  split at h
  · obtain ⟨v, rfl, q1⟩ := q.one
    obtain ⟨a1, xs1, rfl, h1, q1⟩ := q1.lstI
    exact call_list_of pins s σ H _ us Q I r ⟨_, _, rfl, .inl (SqL.of (r0.sub _ _ h1)), k.lst r0 h q1⟩
  · obtain ⟨v, rfl, q1⟩ := q.one
    obtain ⟨a1, xs1, rfl, h1, q1⟩ := q1.tupI
    exact call_list_of pins s σ H _ us Q I r ⟨_, _, rfl, .inr (sqT_mono r0.sub (hY ▸ h1)), k.lst r0 h q1⟩
  · exact h.elim
def tupleD : OL := fun _ ds P => match ds with
  | [.lst a] => P (.tup a)
  | [.tup a] => P (.tup a)
  | _ => False
theorem cd_tuple (hY : Y.K = X.K) : CallD X Y (.type "tuple") tupleD := by
  intro pins s σ H xs us Q I r ⟨G, mu, c, ds, P, r0, q, h, k⟩
  unfold tupleD at h
  split at h
  · obtain ⟨v, rfl, q1⟩ := q.one
    obtain ⟨a1, xs1, rfl, h1, q1⟩ := q1.lstI
    exact call_tuple_of pins s σ H _ us Q I r ⟨_, _, rfl, .inl ⟨SqL.of (r0.sub _ _ h1), k.tup r0 h q1⟩⟩
  · obtain ⟨v, rfl, q1⟩ := q.one
    obtain ⟨a1, xs1, rfl, h1, q1⟩ := q1.tupI
    exact call_tuple_of pins s σ H _ us Q I r ⟨_, _, rfl, .inr ⟨sqT_mono r0.sub (hY ▸ h1), k.here r0 h (.tup h1 q1)⟩⟩
  · exact h.elim
end
end DL
namespace DL
open PySem L2
section
variable {X : Cx} {Y : Yc} {W : WX} {G : Hp} {mu : Mu} {c : Nat} {H : Hp} {P : D → Prop} {Q : VK} {a b e : Expr} {ma mb mc me : ME} {pos : Pos} {es : List Expr} {mas : MA}
def dixD : O2 := fun _ d e P => match d with
  | .dct es => ∃ k z, e.key = some k ∧ look es k = some z ∧ P z
  | _ => False
theorem ix_dct (hu : X.A.units + 1 < cLine) : IxR X (l2 Y dixD) := by
  intro value slice pins s σ H x y v u Q I rx ry ⟨G, mu, c, d, e, P, r0, qd, qe, h, k⟩ hs
  cases d <;> first | exact False.elim h | skip
  obtain ⟨k1, z, h1, h2, h3⟩ := h
  obtain ⟨a1, xs1, rfl, hd, q1⟩ := qd.dctI
  have ey := qe.key h1
  subst ey
  obtain ⟨w, h4, q4⟩ := (q1.look k1).1 z h2
  obtain rfl : v = Value.ref a1 := rx
  have g : DGet H a1 (kV k1) (some w) := by rw [← h4]; exact DGet.k (r0.sub _ _ hd)
  exact PyProof.Rows.tail_any (dict_typeIs I g) PySem.F.slot_dict_getitem.lookup (d_getItem hu I g ry fun w' s3 I3 rw' => ⟨w, H, I3, rw', k.here r0 h3 q4⟩) hs
theorem IxR.imp {r r' : R2} (h : IxR X r) (i : ∀ x y H Q, r' x y H Q → r x y H Q) : IxR X r' := fun value slice pins s σ H x y v u Q I rx ry q hs => h value slice pins s σ H x y v u Q I rx ry (i _ _ _ _ q) hs
/-- x[i], whatever x is -/
def subD : O2 := fun mu d e P => match d with
  | .dct es => dixD mu (.dct es) e P
  | d => ixD mu d e P
theorem ix_any (hY : Y.K = X.K) (hu : X.A.units + 1 < cLine) : IxR X (l2 Y subD) := by
  refine IxR.imp (r := fun x y H Q => l2 Y dixD x y H Q ∨ l2 Y ixD x y H Q) ((ix_dct hu).or (ix_d hY)) fun x y H Q ⟨G, mu, c, d, e, P, r0, qd, qe, h, k⟩ => ?_
  cases d <;> first
    | exact .inl ⟨G, mu, c, _, e, P, r0, qd, qe, h, k⟩
    | exact .inr ⟨G, mu, c, _, e, P, r0, qd, qe, h, k⟩
theorem de_sub (hY : Y.K = X.K) (hu : X.A.units + 1 < cLine) (ha : DE X Y W a ma) (hb : DE X Y W b mb) (hs : PlainIx b := by intro _ _; rfl) : DE X Y W (.Subscript a b pos) (mOp subD ma mb) :=
  peImp (pe_ix (ix_any hY hu) ha hb hs) (mOp_ok fun _ _ _ _ h => h)
/-! a display -/
def putD (es : List (Key × D)) (k : Key) (v : D) : List (Key × D) := if (es.any fun e => decide (e.1 = k)) = true then es.map fun e => if e.1 = k then (e.1, v) else e else es ++ [(k, v)]
def mergeD (es more : List (Key × D)) : List (Key × D) := more.foldl (fun acc e => putD acc e.1 e.2) es
theorem Repk.any {es : List (Key × D)} {vs : List (Key × V)} (q : Repk Y G es vs) (k : Key) : (es.any fun e => decide (e.1 = k)) = (vs.any fun e => decide (e.1 = k)) := by
  induction es generalizing vs with
  | nil => cases q; rfl
  | cons p es ih =>
    cases q with
    | cons k0 h r => rw [List.any_cons, List.any_cons, ih r]
theorem Repk.map {es : List (Key × D)} {vs : List (Key × V)} (q : Repk Y G es vs) (k : Key) {d : D} {v : V} (h : Rep Y G d v) : Repk Y G (es.map fun e => if e.1 = k then (e.1, d) else e) (vs.map fun e => if e.1 = k then (e.1, v) else e) := by
  induction es generalizing vs with
  | nil => cases q; exact .nil
  | cons p es ih =>
    cases q with
    | cons k0 h0 r =>
      rw [List.map_cons, List.map_cons]
      by_cases e : k0 = k
      · rw [if_pos e, if_pos e]; exact .cons k0 h (ih r)
      · rw [if_neg e, if_neg e]; exact .cons k0 h0 (ih r)
theorem Repk.append {es es2 : List (Key × D)} {vs vs2 : List (Key × V)} (q : Repk Y G es vs) (q2 : Repk Y G es2 vs2) : Repk Y G (es ++ es2) (vs ++ vs2) := by
  induction es generalizing vs with
  | nil => cases q; exact q2
  | cons p es ih =>
    cases q with
    | cons k0 h0 r => exact .cons k0 h0 (ih r)
theorem Repk.put {es : List (Key × D)} {vs : List (Key × V)} (q : Repk Y G es vs) (k : Key) {d : D} {v : V} (h : Rep Y G d v) : Repk Y G (putD es k d) (putK vs k v) := by
  unfold putD putK
  rw [q.any k]
  split
  · exact q.map k h
  · exact q.append (.cons k h .nil)
theorem Repk.merge {es : List (Key × D)} {vs : List (Key × V)} {more : List (Key × D)} {more2 : List (Key × V)} (q : Repk Y G es vs) (q2 : Repk Y G more more2) : Repk Y G (mergeD es more) (mergeK vs more2) := by
  induction more generalizing es vs more2 with
  | nil => cases q2; exact q
  | cons p more ih =>
    cases q2 with
    | cons k0 h0 r => exact ih (es := putD es k0 _) (vs := putK vs k0 _) (q.put k0 h0) r
/-- an object that the walk does not speak of -/
theorem R0.add (h : R0 Y G mu c H) {q : Addr} (hq : H q = none) (o : HO) : R0 Y G mu c (upd H q o) := by
  refine ⟨fun b x e => ?_, fun a m e => ?_, ?_, h.ext.laid hq o⟩
  · rw [upd_ne (ne_of_none (h.sub b x e) hq)]; exact h.sub b x e
  · obtain ⟨h1, x, h2, h3⟩ := h.mus a m e
    exact ⟨h1, x, by rw [upd_ne (ne_of_none h2 hq)]; exact h2, h3⟩
  · obtain ⟨x, h1, h2, h3, h4⟩ := h.pen
    exact ⟨x, by rw [upd_ne (ne_of_none h1 hq)]; exact h1, h2, h3, h4⟩
/-- .. is taken over as it then is -/
theorem R0.take (h : R0 Y G mu c H) {q : Addr} (hG : G q = none) (hm : mu q = none) (hp : q ≠ Y.p) (ho : ∀ o, H q = some o → plainO o) (o : HO) (hpo : plainO o := by first | exact plain_lst | exact plain_tup | exact plain_dK) : R0 Y (upd G q o) mu c (upd H q o) := by
  have sG : Same G (upd G q o) := same_upd hG
  refine ⟨fun b x e => ?_, fun a m e => ?_, ?_, (h.ext.grow ho o hpo hG).turn ho fun b x hb e => by rw [upd_ne hb]; exact e⟩
  · by_cases hb : b = q
    · subst hb; rw [upd_same] at e ⊢; exact e
    · rw [upd_ne hb] at e ⊢; exact h.sub b x e
  · obtain ⟨h1, x, h2, h3⟩ := h.mus a m e
    have hn : a ≠ q := fun z => by subst z; rw [hm] at e; cases e
    exact ⟨by rw [upd_ne hn]; exact h1, x, by rw [upd_ne hn]; exact h2, h3.mono sG⟩
  · obtain ⟨x, h1, h2, h3, h4⟩ := h.pen
    exact ⟨x, by rw [upd_ne hp.symm]; exact h1, Y.mono _ _ _ _ sG h2, by rw [upd_ne hp.symm]; exact h3, h4⟩
/-- .. changes and stays untold -/
theorem R0.turn (h : R0 Y G mu c H) {q : Addr} (hG : G q = none) (hm : mu q = none) (hp : q ≠ Y.p) (ho : ∀ o, H q = some o → plainO o) (o : HO) : R0 Y G mu c (upd H q o) := by
  refine ⟨fun b x e => ?_, fun a m e => ?_, ?_, h.ext.turn ho fun b x hb e => by rw [upd_ne hb]; exact e⟩
  · have hb : b ≠ q := fun z => by subst z; rw [hG] at e; cases e
    rw [upd_ne hb]; exact h.sub b x e
  · obtain ⟨h1, x, h2, h3⟩ := h.mus a m e
    have hn : a ≠ q := fun z => by subst z; rw [hm] at e; cases e
    exact ⟨h1, x, by rw [upd_ne hn]; exact h2, h3⟩
  · obtain ⟨x, h1, h2, h3, h4⟩ := h.pen
    exact ⟨x, by rw [upd_ne hp.symm]; exact h1, h2, h3, h4⟩
theorem R0.fresh (h : R0 Y G mu c H) {q : Addr} (hq : H q = none) : G q = none ∧ mu q = none ∧ q ≠ Y.p := by
  refine ⟨h.sub.free hq, ?_, fun z => ?_⟩
  · cases e : mu q with
    | none => rfl
    | some m =>
      obtain ⟨_, x, h2, _⟩ := h.mus q m e
      rw [hq] at h2; cases h2
  · subst z
    obtain ⟨x, h1, _⟩ := h.pen
    rw [hq] at h1; cases h1
/-- the pairs of a display -/
abbrev MP := List (ME × ME)
def pairsGo : MP → S → (List (D × D) → S → Prop) → PXT → Prop
  | [], st, P, _ => P [] st
  | (mk, mv) :: r, st, P, PX => mk st (fun k s1 => mv s1 (fun v s2 => pairsGo r s2 (fun ps s3 => P ((k, v) :: ps) s3) PX) PX) PX
def keysOf : List (D × D) → Option (List (Key × D))
  | [] => some []
  | (k, v) :: r => k.key.bind fun k => (keysOf r).map ((k, v) :: ·)
def mDisp (ms : MP) : ME := fun st P PX => pairsGo ms st (fun ps s1 => ∃ es, keysOf ps = some es ∧ es.length ≤ 15 ∧ P (.dct (mergeD [] es)) s1) PX
inductive DPs (X : Cx) (Y : Yc) (W : WX) : List (Option Expr) → List Expr → MP → Prop
  | nil : DPs X Y W [] [] []
  | cons {k v : Expr} {ks : List (Option Expr)} {vs : List Expr} {mk mv : ME} {r : MP} (hk : DE X Y W k mk) (hv : DE X Y W v mv) (hr : DPs X Y W ks vs r) : DPs X Y W (some k :: ks) (v :: vs) ((mk, mv) :: r)
def trsOf (Y : Yc) (W : WX) (ms : MP) : List (TE × TE) := ms.map fun p => (TEof Y W p.1, TEof Y W p.2)
theorem DPs.pps {ks : List (Option Expr)} {vs : List Expr} {ms : MP} (h : DPs X Y W ks vs ms) : PPs X pos ks vs (trsOf Y W ms) := by
  induction h with
  | nil => exact pps_nil
  | cons hk hv _ ih => exact pps_cons hk hv ih
inductive RepP (Y : Yc) (G : Hp) : List (D × D) → List (V × V) → Prop
  | nil : RepP Y G [] []
  | cons {k v : D} {x y : V} {r : List (D × D)} {s : List (V × V)} (hk : Rep Y G k x) (hv : Rep Y G v y) (hr : RepP Y G r s) : RepP Y G ((k, v) :: r) ((x, y) :: s)
theorem RepP.keys : ∀ {ps : List (D × D)} {qs : List (V × V)} {es : List (Key × D)}, RepP Y G ps qs → keysOf ps = some es → ∃ kvs, qs = kvs.map (fun kv => (kV kv.1, kv.2)) ∧ Repk Y G es kvs := by
  intro ps qs es h
  induction h generalizing es with
  | nil => intro e; cases e; exact ⟨[], rfl, .nil⟩
  | @cons k v x y r s hk hv hr ih =>
    intro e
    cases e1 : k.key with
    | none => simp [keysOf, e1] at e
    | some k0 =>
      cases e2 : keysOf r with
      | none => simp [keysOf, e1, e2] at e
      | some es0 =>
        simp [keysOf, e1, e2] at e
        subst e
        obtain ⟨kvs, rfl, q⟩ := ih e2
        have e3 := hk.key e1
        subst e3
        exact ⟨(k0, y) :: kvs, rfl, .cons k0 hv q⟩
theorem pairs_ok {σ : St} : ∀ {ms : MP} {G : Hp} {st : S} {H : Hp} {P : List (D × D) → S → Prop} {PX : PXT} {Q : List (V × V) → Hp → Prop}, R Y G st σ H → pairsGo ms st P PX → XPost Y W G st σ H PX →
    (∀ ps st' qs G' H', P ps st' → Same G G' → Frm Y G st.mu H G' st'.mu H' → R Y G' st' σ H' → RepP Y G' ps qs → Q qs H') → tPairs (trsOf Y W ms) σ H Q
  | [], G, st, H, P, PX, Q, r, h, xp, k => k [] st [] G H h (Same.refl G) .refl r .nil
  | (mk, mv) :: ms, G, st, H, P, PX, Q, r, h, xp, k =>
    ⟨G, st, _, PX, r, h, xp, fun d s1 v G1 H1 h1 g1 f1 r1 q1 => ⟨G1, s1, _, PX, r1, h1, xp.on g1 f1, fun e s2 w G2 H2 h2 g2 f2 r2 q2 =>
      pairs_ok r2 h2 (xp.on (g1.trans g2) (f1.trans f2)) fun ps st' qs G' H' h3 g3 f3 r3 q3 =>
        k _ st' _ G' H' h3 ((g1.trans g2).trans g3) ((f1.trans f2).trans f3) r3 (.cons ((q1.mono g2).mono g3) (q2.mono g3) q3)⟩⟩
theorem de_disp {ks : List (Option Expr)} {vs : List Expr} {ms : MP} (h : DPs X Y W ks vs ms) (hall : ks.all (·.isSome) = true := by rfl) (hl : ks.length = vs.length := by rfl) (h0 : ks ≠ [] := by exact List.cons_ne_nil _ _) (h15 : ks.length ≤ 15 := by decide) : DE X Y W (.Dict ks vs pos) (mDisp ms) :=
  peImp (pe_disp h.pps hall hl h0 h15) fun σ H Q ⟨G, st, P, PX, rr, hm, xp, k⟩ p hp => by
    have r1 : R Y G st σ (upd H p (.dK [])) := ⟨rr.h.add hp _, rr.s⟩
    obtain ⟨n1, n2, n3⟩ := rr.h.fresh hp
    refine pairs_ok r1 hm (xp.on (Same.refl G) (.add hp)) fun ps st' qs G' H' ⟨es, he, hlen, hP⟩ g f r q => ?_
    obtain ⟨e1, e2, e3⟩ := f p _ upd_same n1 n2 ⟨n3, frm_dK⟩
    obtain ⟨kvs, rfl, qk⟩ := q.keys he
    have hlk : ∀ {es : List (Key × D)} {kvs : List (Key × V)}, Repk Y G' es kvs → kvs.length = es.length := by
      intro es
      induction es with
      | nil => intro kvs q; cases q; rfl
      | cons p es ih => intro kvs q; cases q with | cons k0 h0 r => rw [List.length_cons, List.length_cons, ih r]
    refine ⟨e1, kvs, rfl, by rw [hlk qk]; exact hlen, k _ st' _ _ _ hP (g.trans (same_upd e2)) (fun a o h1 h2 h3 h4 => ?_) ⟨r.h.take e2 e3 n3 (fun o z => by rw [e1] at z; cases z; exact plain_dK) _, r.s.mono (same_upd e2)⟩ (.dct upd_same ((Repk.merge .nil qk).mono (same_upd e2)))⟩
    have n := ne_of_none h1 hp
    obtain ⟨f1, f2, f3⟩ := f a o (by rw [upd_ne n]; exact h1) h2 h3 h4
    exact ⟨by rw [upd_ne n]; exact f1, by rw [upd_ne n]; exact f2, f3⟩
/-- {} -/
theorem de_dct0 : DE X Y W (.Dict [] [] pos) (mC (.dct [])) :=
  peImp pe_dnewK fun σ H Q ⟨G, st, P, PX, rr, hm, xp, k⟩ p hp => k _ _ _ _ _ hm (rr.h.new hp (.dK [])).2.1 (.new hp) (rr.new hp _) (.dct upd_same .nil)
/-! ### isinstance of built-in classes -/
def D.ty : D → Option String
  | .non => some "NoneType"
  | .bl _ => some "bool"
  | .int _ => some "int"
  | .str _ => some "str"
  | .tup _ => some "tuple"
  | .lst _ => some "list"
  | .dct _ => some "dict"
  | .pen => none
  | .ref _ => none
def D.isTy (T : String) (d : D) : Bool := match d.ty with
  | some t => t == T || (t == "bool" && T == "int")
  | none => false
theorem Rep.tyx {d : D} {v : V} {t : String} (q : Rep Y G d v) (h : d.ty = some t) (s : Same G H) : TyX Y.K H v (.type t) := by
  cases q <;> cases h
  · exact .base .non
  · exact .base (.bl _)
  · exact .base (.int _)
  · exact .base (.str _)
  · rename_i h1 _
    rcases h1 with (h1 | ⟨o, h1⟩) | ⟨o, its, n, hk, hc, _⟩
    · exact .base (.tup (s _ _ h1))
    · exact .fTuple (s _ _ h1)
    · exact .kTuple hk hc
  · rename_i h1 _
    exact .base (.lst (s _ _ h1))
  · rename_i h1 _
    exact .base (.dK (s _ _ h1))
/-- the built-in classes that isinstance is asked of -/
def kits (T : String) : Bool := ["NoneType", "bool", "int", "str", "tuple", "list", "dict"].all fun t => decide (kitB t T = some (t == T || (t == "bool" && T == "int")))
theorem kits_ok {T : String} (h : kits T = true) {d : D} {t : String} (hd : d.ty = some t) : kitB t T = some (d.isTy T) := by
  have h' := List.all_eq_true.mp h
  unfold D.isTy
  rw [hd]
  have hm : t ∈ ["NoneType", "bool", "int", "str", "tuple", "list", "dict"] := by cases d <;> cases hd <;> simp
  exact of_decide_eq_true (h' t hm)
theorem kits_str : kits "str" = true := by decide +kernel
theorem kits_tuple : kits "tuple" = true := by decide +kernel
theorem kits_list : kits "list" = true := by decide +kernel
theorem kits_dict : kits "dict" = true := by decide +kernel
theorem kits_int : kits "int" = true := by decide +kernel
theorem kits_bool : kits "bool" = true := by decide +kernel
theorem bb_str : bootBuiltins "str" = some (.type "str") := by decide +kernel
theorem bb_tuple : bootBuiltins "tuple" = some (.type "tuple") := by decide +kernel
theorem bb_list : bootBuiltins "list" = some (.type "list") := by decide +kernel
theorem bb_dict : bootBuiltins "dict" = some (.type "dict") := by decide +kernel
theorem bb_int : bootBuiltins "int" = some (.type "int") := by decide +kernel
theorem bb_bool : bootBuiltins "bool" = some (.type "bool") := by decide +kernel
theorem bb_isi : bootBuiltins "isinstance" = some (.builtin "isinstance") := by decide +kernel
theorem bb_abs : bootBuiltins "abs" = some (.builtin "abs") := by decide +kernel
theorem bb_max : bootBuiltins "max" = some (.builtin "max") := by decide +kernel
theorem bb_min : bootBuiltins "min" = some (.builtin "min") := by decide +kernel
theorem bb_all : bootBuiltins "all" = some (.builtin "all") := by decide +kernel
theorem bb_any : bootBuiltins "any" = some (.builtin "any") := by decide +kernel
theorem bb_sum : bootBuiltins "sum" = some (.builtin "sum") := by decide +kernel
def mIsi (T : String) (m : ME) : ME := fun st P PX => m st (fun d s1 => d.ty.isSome = true ∧ P (.bl (d.isTy T)) s1) PX
theorem de_isi {x : Str} {p p2 : Pos} {T : String} (hY : Y.K = X.K) (hg : Gl X "isinstance") (hm : X.mg "isinstance" = none) (he : DE X Y W e me) (hgT : Gl X x) (hmT : X.mg x = none) (hbT : bootBuiltins x = some (.type T)) (hk : kits T = true)
    (hn : x ≠ "__name__" := by decide) (hdb : (x == ("__debug__" : Str)) = false := by decide) (hb : bootBuiltins "isinstance" = some (.builtin "isinstance") := bb_isi)
    (h1 : starEach [e, .Name x p2] X.env = (false, eval e X.env) :: starEach [.Name x p2] X.env := by rfl) (h2 : starEach [.Name x p2] X.env = (false, eval (.Name x p2) X.env) :: starEach [] X.env := by rfl)
    (hpl : (backTo pos (starEach [.Name x p2] X.env)).any (·.1) = false := by rfl) : DE X Y W (.Call (.Name "isinstance" p) [e, .Name x p2] [] pos) (mIsi T me) :=
  peImp (pe_callB call_isi hg hm hb (pa_cons he (pa_cons (pe_bltn (v := .ty T) hgT hmT hbT rfl hn hdb) pa_nil h2) h1) (by decide) (by decide) h1 hpl) fun σ H Q ⟨G, st, P, PX, rr, hm, xp, k⟩ =>
    ⟨G, st, fun d s1 => d.ty.isSome = true ∧ P (.bl (d.isTy T)) s1, PX, rr, hm, xp, fun d s1 v G1 H1 ⟨h1, hp⟩ g f r q => by
      cases et : d.ty with
      | none => rw [et] at h1; cases h1
      | some t => exact ⟨v, .ty T, .type t, .type T, d.isTy T, rfl, .ty T, hY ▸ q.tyx et r.h.sub, kit_ty (kits_ok hk et), k _ s1 _ G1 H1 hp g f r (.bl _)⟩⟩
/-! ### methods of texts -/
def strsOf : List D → Option (List Str)
  | [] => some []
  | .str i :: r => (strsOf r).map (i :: ·)
  | _ => none
theorem strsOf_reps : ∀ {ds : List D} {vs : List V} {ns : List Str}, strsOf ds = some ns → Reps Y G ds vs → vs = ns.map V.str
  | [], _, _, h, q => by
    cases h
    cases q
    rfl
  | d :: ds, _, ns, h, q => by
    cases q with
    | cons q1 q2 =>
      cases d <;> first | cases h | skip
      rename_i i
      cases e : strsOf ds with
      | none => simp [strsOf, e] at h
      | some ms =>
        simp [strsOf, e] at h
        subst h
        cases q1
        rw [strsOf_reps e q2, List.map_cons]
def joinD : O2 := fun _ d e P => match d, e with
  | .str a, .lst b => ∃ ys, strsOf b = some ys ∧ (ys.map (·.length)).sum + ys.length * a.length ≤ LINE ∧ P (.str (Txt.join a ys))
  | .str a, .tup b => ∃ ys, strsOf b = some ys ∧ (ys.map (·.length)).sum + ys.length * a.length ≤ LINE ∧ P (.str (Txt.join a ys))
  | _, _ => False
/-- s.m(e), s a text -/
def mM1 (g : O2) (m n : ME) : ME := fun st P PX => m st (fun d s1 => (∃ z, d = .str z) ∧ n s1 (fun e s2 => g s2.mu d e fun r => P r s2) PX) PX
theorem mM1_ok {g : O2} {r : V → List V → Hp → VK → Prop} (hr : ∀ x y H Q, l2 Y g x y H Q → r x [y] H Q) : ∀ σ H Q, TEof Y W (mM1 g ma mb) σ H Q → tM1 r (TEof Y W ma) (TEof Y W mb) σ H Q := fun σ H Q ⟨G, st, P, PX, rr, hm, xp, k⟩ =>
  ⟨G, st, fun d s1 => (∃ z, d = .str z) ∧ mb s1 (fun e s2 => g s2.mu d e fun r => P r s2) PX, PX, rr, hm, xp, fun d s1 v G1 H1 ⟨⟨z, ez⟩, hm1⟩ g1 f1 r1 q1 => by
    subst ez
    cases q1
    exact ⟨⟨_, rfl⟩, G1, s1, _, PX, r1, hm1, xp.on g1 f1, fun e s2 w G2 H2 hm2 g2 f2 r2 q2 =>
      hr _ _ _ _ ⟨G2, s2.mu, s2.c, _, e, _, r2.h, .str z, q2, hm2, fun z v3 G3 H3 hp g3 h3 r3 q3 =>
        k z s2 v3 G3 H3 hp ((g1.trans g2).trans g3) ((f1.trans f2).trans h3) ⟨r3, r2.s.mono g3⟩ q3⟩⟩⟩
theorem de_join {apos : Pos} (hY : Y.K = X.K) (ho : DE X Y W a ma) (he : DE X Y W e me) (hs : starEach [e] X.env = [(false, eval e X.env)] := by rfl) (hbase : attributeBase a "join" X.env (eval a X.env) = eval a X.env := by rfl) (hline : (apos.endLine == pos.line) = true := by rfl) :
    DE X Y W (.Call (.Attribute a "join" apos) [e] [] pos) (mM1 joinD ma me) :=
  peImp (pe_join ho he hs hbase hline) (mM1_ok (g := joinD) fun x y H Q => fun ⟨G, mu, c, d, e, P, r0, qd, qe, h, k⟩ => by
    unfold joinD at h
    split at h
    · obtain ⟨ys, h1, h2, h3⟩ := h
      cases qd
      obtain ⟨a1, xs1, rfl, h4, q1⟩ := qe.lstI
      have e1 := strsOf_reps h1 q1
      subst e1
      exact ⟨_, _, ys, rfl, rfl, .inl (SqL.of (r0.sub _ _ h4)), h2, k.here r0 h3 (.str _)⟩
    · obtain ⟨ys, h1, h2, h3⟩ := h
      cases qd
      obtain ⟨a1, xs1, rfl, h4, q1⟩ := qe.tupI
      have e1 := strsOf_reps h1 q1
      subst e1
      exact ⟨_, _, ys, rfl, rfl, .inr (sqT_mono r0.sub (hY ▸ h4)), h2, k.here r0 h3 (.str _)⟩
    · exact h.elim)
def upperD : O1 := fun _ d P => match d with
  | .str a => a.length ≤ 5592405 ∧ P (.str (Txt.upper a))
  | _ => False
theorem de_upper {apos : Pos} (ho : DE X Y W a ma) (hbase : attributeBase a "upper" X.env (eval a X.env) = eval a X.env := by rfl) (hline : (apos.endLine == pos.line) = true := by rfl) :
    DE X Y W (.Call (.Attribute a "upper" apos) [] [] pos) (mUn upperD ma) :=
  peImp (pe_upper ho hbase hline) fun σ H Q ⟨G, st, P, PX, rr, hm, xp, k⟩ =>
    ⟨G, st, _, PX, rr, hm, xp, fun d s1 v G1 H1 hm1 g1 f1 r1 q1 => by
      cases d <;> first | exact False.elim hm1 | skip
      cases q1
      exact ⟨⟨_, rfl⟩, _, rfl, rfl, hm1.1, k _ s1 _ G1 H1 hm1.2 g1 f1 r1 (.str _)⟩⟩
/-! ### a chain of two comparisons -/
theorem dt_chain {op op' : CmpOp} {g g' : O2} {cc : Expr} (ho : OpD X Y (compareOp op) g) (ho' : OpD X Y (compareOp op') g') (ha : DE X Y W a ma) (hb : DE X Y W b mb) (hc : DE X Y W cc mc)
    (hm : lastMarks [op, op'] [b, cc] = false := by with_unfolding_all rfl) : DT X Y W (.Compare a [op, op'] [b, cc] pos) (mChain g g' ma mb mc) :=
  ptImp (pt_chain ho ho' ha hb hc hm) fun σ H Q ⟨G, st, P, PX, rr, h, xp, k⟩ =>
    ⟨G, st, _, PX, rr, h, xp, fun d s1 v G1 H1 h1 g1 f1 r1 q1 => ⟨G1, s1, _, PX, r1, h1, xp.on g1 f1, fun e s2 w G2 H2 h2 g2 f2 r2 q2 =>
      ⟨G2, s2.mu, s2.c, d, e, fun z => ∃ k, z = .bl k ∧ if k = true then mc s2 (fun w s3 => g' s3.mu e w fun z' => ∃ k', z' = .bl k' ∧ P k' s3) PX else P false s2, r2.h, q1.mono g2, q2, h2, fun z v3 G3 H3 ⟨kk, ez, hp⟩ g3 f3 r3 q3 => by
        subst ez
        cases q3
        refine ⟨kk, rfl, ?_⟩
        cases kk with
        | false => exact ⟨false, rfl, k false s2 G3 H3 hp ((g1.trans g2).trans g3) ((f1.trans f2).trans f3) ⟨r3, r2.s.mono g3⟩⟩
        | true =>
          refine ⟨G3, s2, fun w s3 => g' s3.mu e w fun z' => ∃ k', z' = .bl k' ∧ P k' s3, PX, ⟨r3, r2.s.mono g3⟩, hp, xp.on ((g1.trans g2).trans g3) ((f1.trans f2).trans f3), fun w4 s4 v4 G4 H4 h4 g4 f4 r4 q4 => ?_⟩
          refine ⟨G4, s4.mu, s4.c, e, w4, fun z' => ∃ k', z' = .bl k' ∧ P k' s4, r4.h, (q2.mono g3).mono g4, q4, h4, fun z5 v5 G5 H5 ⟨k5, e5, hp5⟩ g5 f5 r5 q5 => ?_⟩
          subst e5
          cases q5
          exact ⟨k5, rfl, k k5 s4 G5 H5 hp5 (((g1.trans g2).trans g3).trans (g4.trans g5)) (((f1.trans f2).trans f3).trans (f4.trans f5)) ⟨r5, r4.s.mono g5⟩⟩⟩⟩⟩
end
end DL
namespace DL
open PySem L2
/-- the iterator J yields the things ds, wherever G stands -/
structure Wk (Y : Yc) (G : Hp) (J : It) (ds : List D) : Prop where
  go : ∀ i H, i < ds.length → Same G H → J.go i H
  stop : ∀ H, Same G H → J.stop ds.length H
  yld : ∀ i H x H' G' mu c, i < ds.length → Same G G' → R0 Y G' mu c H → J.yld i H x H' → ∃ d G'', ds[i]? = some d ∧ Same G' G'' ∧ Frm Y G' mu H G'' mu H' ∧ R0 Y G'' mu c H' ∧ Rep Y G'' d x
theorem Wk.mono {Y : Yc} {G G' : Hp} {J : It} {ds : List D} (w : Wk Y G J ds) (s : Same G G') : Wk Y G' J ds :=
  ⟨fun i H h1 h2 => w.go i H h1 (s.trans h2), fun H h => w.stop H (s.trans h), fun i H x H' G1 mu c h1 h2 h3 h4 => w.yld i H x H' G1 mu c h1 (s.trans h2) h3 h4⟩
def TIof (Y : Yc) (W : WX) (m : MA) : TI := fun σ H Rr => ∃ G st P PX, R Y G st σ H ∧ m st P PX ∧ XPost Y W G st σ H PX ∧
  ∀ ds st' G' H' J, P ds st' → Same G G' → Frm Y G st.mu H G' st'.mu H' → R Y G' st' σ H' → Wk Y G' J ds → Rr J H'
abbrev DI (X : Cx) (Y : Yc) (W : WX) (tg e : Expr) (m : MA) : Prop := PI X tg e (TIof Y W m)
theorem piImp {X : Cx} {tg e : Expr} {t t' : TI} (h : PI X tg e t) (i : ∀ σ H Q, t' σ H Q → t σ H Q) : PI X tg e t' := ⟨fun pins s σ H Q I q => h.run pins s σ H Q I (i σ H Q q)⟩
section
variable {X : Cx} {Y : Yc} {W : WX} {G : Hp} {mu : Mu} {c : Nat} {H : Hp} {a b e tg : Expr} {ma mb mc me : ME} {pos : Pos} {es : List Expr} {mas mi : MA}
theorem wk_lst {a : Addr} {vs : List V} {ds : List D} (h : G a = some (.lst vs)) (q : Reps Y G ds vs) (hK : Y.K = X.K) : Wk Y G (Itl X.K a) ds where
  go := fun i H hi s => by
    obtain ⟨v, e, _⟩ := q.get (List.getElem?_eq_getElem hi)
    exact ⟨vs, v, SqL.of (s _ _ h), e⟩
  stop := fun H s => ⟨vs, SqL.of (s _ _ h), by rw [q.length]; exact Nat.le_refl _⟩
  yld := fun i H x H' G' mu c hi s r ⟨e1, e2⟩ => by
    subst e1
    obtain ⟨v, e, qv⟩ := q.get (List.getElem?_eq_getElem hi)
    have e3 := e2 vs (SqL.of (r.sub _ _ (s _ _ h)))
    rw [e] at e3
    cases e3
    exact ⟨_, G', List.getElem?_eq_getElem hi, Same.refl _, .refl, r, qv.mono s⟩
theorem wk_tup {a : Addr} {vs : List V} {ds : List D} (h : SqT Y.K G a vs) (q : Reps Y G ds vs) (hK : Y.K = X.K) : Wk Y G (Itt X.K a) ds where
  go := fun i H hi s => by
    obtain ⟨v, e, _⟩ := q.get (List.getElem?_eq_getElem hi)
    exact ⟨vs, v, sqT_mono s (hK ▸ h), e⟩
  stop := fun H s => ⟨vs, sqT_mono s (hK ▸ h), by rw [q.length]; exact Nat.le_refl _⟩
  yld := fun i H x H' G' mu c hi s r ⟨e1, e2⟩ => by
    subst e1
    obtain ⟨v, e, qv⟩ := q.get (List.getElem?_eq_getElem hi)
    have e3 := e2 vs (sqT_mono r.sub (sqT_mono s (hK ▸ h)))
    rw [e] at e3
    cases e3
    exact ⟨_, G', List.getElem?_eq_getElem hi, Same.refl _, .refl, r, qv.mono s⟩
/-- the signs of a text -/
def signs (z : Str) : List D := z.cps.toList.map fun c => D.str ⟨#[c]⟩
theorem wk_str {z : Str} : Wk Y G (Its z) (signs z) where
  go := fun i H hi s => by simpa [signs, Its] using hi
  stop := fun H s => by simp [signs, Its]
  yld := fun i H x H' G' mu c hi s r ⟨e1, k, e2, e3⟩ => by
    subst e1
    subst e3
    refine ⟨.str ⟨#[k]⟩, G', ?_, Same.refl _, .refl, r, .str _⟩
    unfold signs
    rw [List.getElem?_map]
    have : z.cps.toList[i]? = some k := by simpa using e2
    rw [this]
    rfl
/-- lo, lo + 1, .. -/
def rngD (lo : Int) (n : Nat) : List D := (List.range n).map fun i => D.int (lo + (i : Nat))
theorem wk_rng {lo : Int} {n : Nat} : Wk Y G (Itr lo n) (rngD lo n) where
  go := fun i H hi s => by simpa [rngD, Itr] using hi
  stop := fun H s => by simp [rngD, Itr]
  yld := fun i H x H' G' mu c hi s r ⟨e1, e2⟩ => by
    subst e1
    subst e2
    have hi' : i < n := by simpa [rngD] using hi
    refine ⟨.int (lo + (i : Nat)), G', ?_, Same.refl _, .refl, r, .int _⟩
    unfold rngD
    rw [List.getElem?_map, List.getElem?_range hi']
    rfl
theorem pi_any {te : TE} (he : PE X e te) : PI X tg e (fun σ H Rr => te σ H fun x H1 => (∃ a, x = .ref a ∧ (∃ xs, SqL X.K H1 a xs) ∧ Rr (Itl X.K a) H1) ∨ (∃ a, x = .ref a ∧ (∃ xs, SqT X.K H1 a xs) ∧ Rr (Itt X.K a) H1) ∨ (∃ z, x = .str z ∧ Rr (Its z) H1)) := by
  refine ⟨fun pins s σ H Rr I h => ?_⟩
  refine thn (he.run pins s σ H _ I h) fun v s1 ⟨x, H1, I1, r1, q1⟩ => ?_
  rcases q1 with ⟨a, ea, ⟨xs, hq⟩, q⟩ | ⟨a, ea, ⟨xs, hq⟩, q⟩ | ⟨z, ez, q⟩
  · subst ea
    cases r1
    obtain ⟨its, rv, pl, hz⟩ := I1.list hq
    exact wpAny_pyIter_list pl.isList (pi_one (tk := s1.toks) I1 _ (turn_list a _) ⟨_, Heap.get?_push_size _ rfl, rfl, rfl⟩ q)
  · subst ea
    cases r1
    obtain ⟨its, rv, pl, hz⟩ := I1.tuple hq
    exact wpAny_pyIter_tuple (show s1.heap.IsTuple a its.toArray from pl) (pi_one (tk := s1.toks) I1 _ (turn_tuple a _) ⟨_, Heap.get?_push_size _ rfl, rfl, rfl⟩ q)
  · subst ez
    obtain ⟨t, rfl⟩ := r1
    cases ha : z.cps.all (· < 128)
    · exact wpAny_pyIter_wide ha (pi_one (tk := s1.toks) I1 _ (turn_str _ z t "str_iterator" (.inr rfl)) ⟨_, Heap.get?_push_size _ rfl, rfl, rfl⟩ q)
    · exact wpAny_pyIter_ascii ha (pi_one (tk := s1.toks) I1 _ (turn_str _ z t "str_ascii_iterator" (.inl rfl)) ⟨_, Heap.get?_push_size _ rfl, rfl, rfl⟩ q)
/-- the things of a list, a tuple, a text -/
def itemsD (d : D) (P : List D → Prop) : Prop := match d with
  | .lst ds => P ds
  | .tup ds => P ds
  | .str z => P (signs z)
  | _ => False
def mItems (m : ME) : MA := fun st P PX => m st (fun d s1 => itemsD d fun ds => P ds s1) PX
theorem di_any (hY : Y.K = X.K) (he : DE X Y W e me) : DI X Y W tg e (mItems me) :=
  piImp (pi_any he) fun σ H Rr ⟨G, st, P, PX, rr, hm, xp, k⟩ => ⟨G, st, fun d s1 => itemsD d fun ds => P ds s1, PX, rr, hm, xp, fun d s1 v G1 H1 h1 g1 f1 r1 q1 => by
    cases d <;> first | exact False.elim h1 | skip
    · cases q1
      exact .inr (.inr ⟨_, rfl, k _ s1 G1 H1 _ h1 g1 f1 r1 wk_str⟩)
    · obtain ⟨a1, xs1, rfl, h2, q1⟩ := q1.tupI
      exact .inr (.inl ⟨_, rfl, ⟨_, sqT_mono r1.h.sub (hY ▸ h2)⟩, k _ s1 G1 H1 _ h1 g1 f1 r1 (wk_tup h2 q1 hY)⟩)
    · obtain ⟨a1, xs1, rfl, h2, q1⟩ := q1.lstI
      exact .inl ⟨_, rfl, ⟨_, SqL.of (r1.h.sub _ _ h2)⟩, k _ s1 G1 H1 _ h1 g1 f1 r1 (wk_lst h2 q1 hY)⟩⟩
def mRng1 (n : MA) : MA := fun st P PX => n st (fun ds s1 => ∃ j : Int, ds = [.int j] ∧ -(2 ^ 62) ≤ j ∧ j < 2 ^ 62 ∧ P (rngD 0 j.toNat) s1) PX
theorem di_rng1 {p : Pos} (hg : Gl X "range") (hm : X.mg "range" = none) (ha : DA X Y W [a] mas) (hs : starEach [a] X.env = [(false, eval a X.env)] := by rfl) : DI X Y W tg (.Call (.Name "range" p) [a] [] pos) (mRng1 mas) :=
  piImp (pi_range1 hg hm ha hs) fun σ H Rr ⟨G, st, P, PX, rr, hm, xp, k⟩ => ⟨G, st, fun ds s1 => ∃ j : Int, ds = [.int j] ∧ -(2 ^ 62) ≤ j ∧ j < 2 ^ 62 ∧ P (rngD 0 j.toNat) s1, PX, rr, hm, xp, fun ds s1 vs G1 H1 ⟨j, e1, l1, l2, h1⟩ g1 f1 r1 q1 => by
    subst e1
    obtain ⟨v, rfl, qv⟩ := q1.one
    cases qv
    exact ⟨j, rfl, l1, l2, k _ s1 G1 H1 _ h1 g1 f1 r1 wk_rng⟩⟩
def mRng2 (n : MA) : MA := fun st P PX => n st (fun ds s1 => ∃ i j : Int, ds = [.int i, .int j] ∧ (-(2 ^ 62) ≤ i ∧ i < 2 ^ 62 ∧ -(2 ^ 62) ≤ j ∧ j < 2 ^ 62) ∧ P (rngD i (j - i).toNat) s1) PX
theorem di_rng2 {p : Pos} (hg : Gl X "range") (hm : X.mg "range" = none) (ha : DA X Y W [a, b] mas) (hs : starEach [a, b] X.env = [(false, eval a X.env), (false, eval b X.env)] := by rfl) (hs2 : starEach [b] X.env = [(false, eval b X.env)] := by rfl) :
    DI X Y W tg (.Call (.Name "range" p) [a, b] [] pos) (mRng2 mas) :=
  piImp (pi_range2 hg hm ha hs hs2) fun σ H Rr ⟨G, st, P, PX, rr, hm, xp, k⟩ => ⟨G, st, fun ds s1 => ∃ i j : Int, ds = [.int i, .int j] ∧ (-(2 ^ 62) ≤ i ∧ i < 2 ^ 62 ∧ -(2 ^ 62) ≤ j ∧ j < 2 ^ 62) ∧ P (rngD i (j - i).toNat) s1, PX, rr, hm, xp, fun ds s1 vs G1 H1 ⟨i, j, e1, l1, h1⟩ g1 f1 r1 q1 => by
    subst e1
    obtain ⟨v, w, rfl, qv, qw⟩ := q1.two
    cases qv; cases qw
    exact ⟨i, j, rfl, l1, k _ s1 G1 H1 _ h1 g1 f1 r1 wk_rng⟩⟩
/-! ### for -/
def forGo (g : MG) (body : MS) (E : DEnds) (PX : PXT) : List D → S → Prop
  | [], st => E.nx st
  | d :: ds, st => g d st fun s2 => body s2 { nx := fun s => forGo g body E PX ds s, ct := fun s => forGo g body E PX ds s, bk := E.nx, rt := E.rt } PX
def mFor (mi : MA) (g : MG) (body : MS) : MS := fun st E PX => mi st (fun ds s1 => forGo g body E PX ds s1) PX
theorem drop_one {α : Type} : ∀ {l : List α} {i : Nat} {x : α}, l[i]? = some x → l.drop i = x :: l.drop (i + 1)
  | [], i, x, h => by simp at h
  | y :: l, 0, x, h => by simp at h; subst h; rfl
  | y :: l, i + 1, x, h => drop_one (l := l) (i := i) (by simpa using h)
theorem ds_for {iter : Expr} {body : List Stmt} {g : MG} {ms : MS} (hp : PassesOwn (model X.prog X.w) X.A X.env X.xe) (hc : X.calm = true) (hi : DI X Y W tg iter mi) (hg : DG X Y tg g) (hb : DSs X Y W body ms)
    (hs : ∀ x, foldedSetIterable iter X.env x = pure x := by intro _; rfl) : DS X Y W (.For tg iter body [] pos) (mFor mi g ms) :=
  psImp (ps_for hp hc hi hg hb hs) fun D σ H ⟨G, st, E, PX, rr, hm, xp, k⟩ => ⟨G, st, fun ds s1 => forGo g ms E PX ds s1, PX, rr, hm, xp, fun ds s1 G1 H1 J h1 g1 f1 r1 wk => by
    refine ⟨fun i m σ H => m = ds.length - i ∧ i ≤ ds.length ∧ ∃ G' st', Same G1 G' ∧ Frm Y G1 s1.mu H1 G' st'.mu H ∧ R Y G' st' σ H ∧ forGo g ms E PX (ds.drop i) st', ⟨ds.length, by simp, Nat.zero_le _, G1, s1, Same.refl _, .refl, r1, by rw [List.drop_zero]; exact h1⟩, ?_⟩
    rintro i m σ2 H2 ⟨rfl, hi, G2, s2, g2, f2, r2, h2⟩
    have gg := g1.trans g2
    have ff := f1.trans f2
    by_cases hlt : i < ds.length
    · obtain ⟨d0, hd0⟩ : ∃ d, ds[i]? = some d := ⟨_, List.getElem?_eq_getElem hlt⟩
      refine .inr ⟨wk.go i H2 hlt (g2.trans r2.h.sub), fun σ' H' => ∃ G' st', Same G1 G' ∧ Frm Y G1 s1.mu H1 G' st'.mu H' ∧ R Y G' st' σ' H' ∧ forGo g ms E PX (ds.drop (i + 1)) st', fun σ' H' hn => ⟨ds.length - (i + 1), by omega, rfl, hlt, hn⟩, fun x H3 hy => ?_⟩
      obtain ⟨d, G3, hd, g3, f3, r3, q3⟩ := wk.yld i H2 x H3 G2 s2.mu s2.c hlt g2 r2.h hy
      rw [drop_one hd] at h2
      refine ⟨G3, s2, d, _, ⟨r3, r2.s.mono g3⟩, q3, h2, fun s4 σ4 G4 H4 h4 g4 f4 r4 => ?_⟩
      have gg4 := (gg.trans g3).trans g4
      have ff4 := (ff.trans f3).trans f4
      refine ⟨G4, s4, _, PX, r4, h4, xp.on gg4 ff4, ⟨fun s5 σ5 G5 H5 h5 g5 f5 r5 => ?_, fun d5 s5 v5 σ5 G5 H5 h5 g5 f5 r5 q5 => ?_, fun s5 σ5 G5 H5 h5 g5 f5 r5 => ?_, fun s5 σ5 G5 H5 h5 g5 f5 r5 => ?_⟩⟩
      · exact ⟨G5, s5, ((g2.trans g3).trans g4).trans g5, ((f2.trans f3).trans f4).trans f5, r5, h5⟩
      · exact k.rt d5 s5 v5 σ5 G5 H5 h5 (gg4.trans g5) (ff4.trans f5) r5 q5
      · exact k.nx s5 σ5 G5 H5 h5 (gg4.trans g5) (ff4.trans f5) r5
      · exact ⟨G5, s5, ((g2.trans g3).trans g4).trans g5, ((f2.trans f3).trans f4).trans f5, r5, h5⟩
    · have e : i = ds.length := by omega
      subst e
      rw [List.drop_length] at h2
      exact .inl ⟨wk.stop H2 (g2.trans r2.h.sub), k.nx s2 σ2 G2 H2 h2 gg ff r2⟩⟩
/-! ### while -/
def mWhile (t : MT) (body : MS) : MS := fun st E PX => ∃ I : Nat → S → Prop, (∃ m, I m st) ∧ ∀ m st, I m st → t st (fun b s1 => if b = true then body s1 { nx := fun s => ∃ m', m' < m ∧ I m' s, ct := fun s => ∃ m', m' < m ∧ I m' s, bk := E.nx, rt := E.rt } PX else E.nx s1) PX
theorem ds_while {cd : Expr} {body : List Stmt} {t : MT} {ms : MS} (hp : PassesOwn (model X.prog X.w) X.A X.env X.xe) (hc : DT X Y W cd t) (hb : DSs X Y W body ms) : DS X Y W (.While cd body [] pos) (mWhile t ms) :=
  psImp (ps_while hp hc hb) fun D σ H ⟨G, st, E, PX, rr, ⟨I, ⟨m0, i0⟩, step⟩, xp, k⟩ => by
    refine ⟨fun m σ' H' => ∃ G' st', Same G G' ∧ Frm Y G st.mu H G' st'.mu H' ∧ R Y G' st' σ' H' ∧ I m st', ⟨m0, G, st, Same.refl _, .refl, rr, i0⟩, ?_⟩
    rintro m σ1 H1 ⟨G1, s1, g1, f1, r1, i1⟩
    refine ⟨G1, s1, fun b s1 => if b = true then ms s1 { nx := fun s => ∃ m', m' < m ∧ I m' s, ct := fun s => ∃ m', m' < m ∧ I m' s, bk := E.nx, rt := E.rt } PX else E.nx s1, PX, r1, step m s1 i1, xp.on g1 f1, fun b s2 G2 H2 h2 g2 f2 r2 => ?_⟩
    cases b with
    | false =>
      rw [if_neg Bool.false_ne_true] at h2 ⊢
      exact k.nx s2 σ1 G2 H2 h2 (g1.trans g2) (f1.trans f2) r2
    | true =>
      rw [if_pos rfl] at h2 ⊢
      refine ⟨fun σ' H' => ∃ m', m' < m ∧ ∃ G' st', Same G G' ∧ Frm Y G st.mu H G' st'.mu H' ∧ R Y G' st' σ' H' ∧ I m' st', fun σ' H' hn => hn, G2, s2, _, PX, r2, h2, xp.on (g1.trans g2) (f1.trans f2), ⟨fun s5 σ5 G5 H5 ⟨m5, l5, i5⟩ g5 f5 r5 => ?_, fun d5 s5 v5 σ5 G5 H5 h5 g5 f5 r5 q5 => ?_, fun s5 σ5 G5 H5 h5 g5 f5 r5 => ?_, fun s5 σ5 G5 H5 ⟨m5, l5, i5⟩ g5 f5 r5 => ?_⟩⟩
      · exact ⟨m5, l5, G5, s5, (g1.trans g2).trans g5, (f1.trans f2).trans f5, r5, i5⟩
      · exact k.rt d5 s5 v5 σ5 G5 H5 h5 ((g1.trans g2).trans g5) ((f1.trans f2).trans f5) r5 q5
      · exact k.nx s5 σ5 G5 H5 h5 ((g1.trans g2).trans g5) ((f1.trans f2).trans f5) r5
      · exact ⟨m5, l5, G5, s5, (g1.trans g2).trans g5, (f1.trans f2).trans f5, r5, i5⟩
/-! ### list comprehensions -/
/-- the slots of the comprehension's own names forgotten -/
def wipeD (r : List (Option D)) : List Nat → List (Option D)
  | [] => r
  | v :: vs => (wipeD r vs).set v none
theorem Sl.none {r : List (Option D)} {σ : St} (h : Sl Y G r σ) (i : Nat) : Sl Y G (r.set i none) (σ.set i none) := by
  refine ⟨by simp [h.1], fun j e he => ?_⟩
  by_cases hj : i = j
  · subst hj
    by_cases hl : i < r.length
    · rw [List.getElem?_set_self hl] at he
      cases he
    · rw [List.getElem?_eq_none (by simpa using hl)] at he
      cases he
  · rw [List.getElem?_set_ne hj] at he ⊢
    exact h.2 j e he
theorem Sl.wipe {r : List (Option D)} {σ : St} (h : Sl Y G r σ) : ∀ vs : List Nat, Sl Y G (wipeD r vs) (L2.wipe σ vs)
  | [] => h
  | v :: vs => (h.wipe vs).none v
theorem wipe_len (σ : St) : ∀ vs : List Nat, (L2.wipe σ vs).length = σ.length
  | [] => rfl
  | v :: vs => by unfold L2.wipe; rw [List.length_set]; exact wipe_len σ vs
theorem wipe_get {σ : St} {j : Nat} : ∀ {vs : List Nat}, j ∈ vs → j < σ.length → (L2.wipe σ vs)[j]? = some none
  | v :: vs, h, l => by
    unfold L2.wipe
    by_cases e : v = j
    · subst e
      rw [List.getElem?_set_self (by rw [wipe_len]; exact l)]
    · rw [List.getElem?_set_ne e]
      exact wipe_get (by rcases List.mem_cons.mp h with z | z; exact absurd z.symm e; exact z) l
theorem set_same {α : Type} : ∀ {l : List α} {i : Nat} {x : α}, l[i]? = some x → l.set i x = l
  | [], _, _, h => by simp at h
  | y :: l, 0, x, h => by simp at h; subst h; rfl
  | y :: l, i + 1, x, h => by rw [List.set_cons_succ, set_same (l := l) (by simpa using h)]
theorem wipe_set {σ : St} {j : Nat} {v : Option V} : ∀ {vs : List Nat}, j ∈ vs → L2.wipe (σ.set j v) vs = L2.wipe σ vs
  | w :: vs, h => by
    unfold L2.wipe
    by_cases hm : j ∈ vs
    · rw [wipe_set hm]
    · have e : j = w := by rcases List.mem_cons.mp h with z | z; exact z; exact absurd z hm
      subst e
      have : ∀ us : List Nat, j ∉ us → L2.wipe (σ.set j v) us = (L2.wipe σ us).set j v := by
        intro us
        induction us with
        | nil => intro _; rfl
        | cons u us ih =>
          intro hn
          unfold L2.wipe
          rw [ih (fun z => hn (List.mem_cons_of_mem _ z)), List.set_comm _ _ (fun z => hn (by rw [z]; exact List.mem_cons_self))]
      rw [this vs hm, List.set_set]
theorem wipe_wipe {σ : St} : ∀ (us vs : List Nat), (∀ u ∈ us, u ∈ vs) → L2.wipe (L2.wipe σ us) vs = L2.wipe σ vs
  | [], _, _ => rfl
  | u :: us, vs, h => by
    show L2.wipe ((L2.wipe σ us).set u none) vs = _
    rw [wipe_set (h u List.mem_cons_self), wipe_wipe us vs fun x hx => h x (List.mem_cons_of_mem _ hx)]
def lcGo (body : D → S → (Option D → S → Prop) → Prop) : List D → List D → S → (List D → S → Prop) → Prop
  | [], acc, st, P => P acc st
  | d :: ds, acc, st, P => body d st fun o s1 => match o with
    | some y => acc.length < LINE ∧ lcGo body ds (acc ++ [y]) s1 P
    | none => lcGo body ds acc s1 P
abbrev W0 : WX := fun _ _ _ _ => False
abbrev PX0 : PXT := fun _ _ => False
/-- one turn: the item stored by g, the test, the element -/
def lcBody (r0 : List (Option D)) (vs : List Nat) (g : MG) (t : MT) (m : ME) : D → S → (Option D → S → Prop) → Prop := fun d st K =>
  g d { st with r := wipeD r0 vs } fun s2 => t s2 (fun b s3 => if b = true then m s3 (fun y s4 => K (some y) { st with mu := s4.mu, c := s4.c }) PX0 else K none { st with mu := s3.mu, c := s3.c }) PX0
def mLc (mi : MA) (vs : List Nat) (g : MG) (t : MT) (m : ME) : ME := fun st P PX => mi st (fun ds s1 => lcGo (lcBody s1.r vs g t m) ds [] s1 (fun ys s2 => P (.lst ys) s2)) PX
/-- a target within a comprehension: it stores at the slots vs alone -/
def GW (Y : Yc) (vs : List Nat) (g' : TG) (g : MG) : Prop := ∀ G st σ H d v P Q, R Y G st σ H → Rep Y G d v → g d st P →
  (∀ st' σ' G' H', P st' → Same G G' → Frm Y G st.mu H G' st'.mu H' → R Y G' st' σ' H' → L2.wipe σ' vs = L2.wipe σ vs → Q σ' H') → g' v σ H Q
def GWs (Y : Yc) (vs : List Nat) (g' : TGs) (g : MGs) : Prop := ∀ G st σ H d v P Q, R Y G st σ H → Reps Y G d v → g d st P →
  (∀ st' σ' G' H', P st' → Same G G' → Frm Y G st.mu H G' st'.mu H' → R Y G' st' σ' H' → L2.wipe σ' vs = L2.wipe σ vs → Q σ' H') → g' v σ H Q
theorem gw_name {vs : List Nat} {i : Nat} (hi : i ∈ vs) : GW Y vs (gName i) (gN i) := fun G st σ H d v P Q r q h k => k _ _ G H h (Same.refl G) .refl (r.put i q) (wipe_set hi)
theorem gws_nil {vs : List Nat} : GWs Y vs gNil gsN := fun G st σ H d v P Q r q ⟨e, h⟩ k => by
  subst e
  cases q
  exact ⟨rfl, k _ _ G H h (Same.refl G) .refl r rfl⟩
theorem gws_cons {vs : List Nat} {g' : TG} {g : MG} {gs' : TGs} {gs : MGs} (h1 : GW Y vs g' g) (h2 : GWs Y vs gs' gs) : GWs Y vs (gCons g' gs') (gsC g gs) := fun G st σ H d v P Q r q ⟨d1, dr, e, h⟩ k => by
  subst e
  cases q with
  | cons q1 q2 =>
    exact ⟨_, _, rfl, h1 G st σ H _ _ _ _ r q1 h fun s1 σ1 G1 H1 h3 g1 f1 r1 e1 => h2 G1 s1 σ1 H1 _ _ _ _ r1 (q2.mono g1) h3 fun s2 σ2 G2 H2 h4 g2 f2 r2 e2 => k s2 σ2 G2 H2 h4 (g1.trans g2) (f1.trans f2) r2 (e2.trans e1)⟩
theorem gw_tup {vs : List Nat} {n : Nat} {gs' : TGs} {gs : MGs} (hY : Y.K = X.K) (h : GWs Y vs gs' gs) : GW Y vs (gTup X.K n gs') (gT n gs) := fun G st σ H d v P Q r q ⟨ds, e, hl, hg⟩ k => by
  subst e
  obtain ⟨a1, xs1, rfl, h1, q1⟩ := q.tupI
  exact ⟨_, _, rfl, sqT_mono r.h.sub (hY ▸ h1), by rw [← q1.length]; exact hl, h G st σ H _ _ _ _ r q1 hg k⟩
/-- the tests of a comprehension -/
abbrev DTs (X : Cx) (Y : Yc) (W : WX) (ifs : List Expr) (m : MT) : Prop := PTs X ifs (TTof Y W m)
def mYes : MT := fun st P _ => P true st
theorem dts_nil : DTs X Y W [] mYes := by
  have h : PTs X [] tYes := pts_nil
  exact ⟨fun pins s σ H Q I q => h.run pins s σ H Q I (let ⟨G, st, P, PX, rr, hm, xp, k⟩ := q; k true st G H hm (Same.refl G) .refl rr)⟩
theorem dts_one {t : MT} (h : DT X Y W e t) : DTs X Y W [e] t := pts_one h
/-- the core: what the reading of a comprehension asks -/
theorem lc_ok {vs : List Nat} {g' : TG} {g : MG} {t : MT} {m : ME} {mi : MA} (hgw : GW Y vs g' g) : ∀ σ H Q, TEof Y W (mLc mi vs g t m) σ H Q → tLc (TIof Y W mi) g' (TTof Y W0 t) (TEof Y W0 m) vs σ H Q := fun σ H Q ⟨G, st, P, PX, rr, hm, xp, k⟩ =>
  ⟨G, st, _, PX, rr, hm, xp, fun ds s1 G1 H1 J h1 g1 f1 r1 wk A hA => by
    obtain ⟨n1, n2, n3⟩ := r1.h.fresh hA
    refine ⟨fun i m0 H => m0 = ds.length - i ∧ i ≤ ds.length ∧ ∃ G' mu' c' acc ys, Same G1 G' ∧ Frm Y G1 s1.mu H1 G' mu' H ∧ R0 Y G' mu' c' H ∧ (G' A = none ∧ mu' A = none) ∧ H A = some (.lst ys) ∧ Reps Y G' acc ys ∧ lcGo (lcBody s1.r vs g t m) (ds.drop i) acc { s1 with mu := mu', c := c' } (fun ys s2 => P (.lst ys) s2),
      ⟨ds.length, by simp, Nat.zero_le _, G1, s1.mu, s1.c, [], [], Same.refl _, .add hA, r1.h.add hA _, ⟨n1, n2⟩, upd_same, .nil, by rw [List.drop_zero]; exact h1⟩, ?_⟩
    rintro i m0 H2 ⟨rfl, hi, G2, mu2, c2, acc, ys, g2, f2, r2, ⟨a1, a2⟩, hH2, q2, h2⟩
    have sl2 : Sl Y G2 s1.r σ := r1.s.mono g2
    by_cases hlt : i < ds.length
    · refine .inr ⟨wk.go i H2 hlt (g2.trans r2.sub), fun H' => ∃ G' mu' c' acc ys, Same G1 G' ∧ Frm Y G1 s1.mu H1 G' mu' H' ∧ R0 Y G' mu' c' H' ∧ (G' A = none ∧ mu' A = none) ∧ H' A = some (.lst ys) ∧ Reps Y G' acc ys ∧ lcGo (lcBody s1.r vs g t m) (ds.drop (i + 1)) acc { s1 with mu := mu', c := c' } (fun ys s2 => P (.lst ys) s2),
        fun H' hn => ⟨ds.length - (i + 1), by omega, rfl, hlt, hn⟩, fun x H3 hy => ?_⟩
      obtain ⟨d, G3, hd, g3, f3, r3, q3⟩ := wk.yld i H2 x H3 G2 mu2 c2 hlt g2 r2 hy
      rw [drop_one hd] at h2
      refine hgw G3 { r := wipeD s1.r vs, mu := mu2, c := c2 } (L2.wipe σ vs) H3 d x _ _ ⟨r3, (sl2.mono g3).wipe vs⟩ q3 h2 fun s4 σ4 G4 H4 h4 g4 f4 r4 ew => ?_
      refine ⟨by rw [ew, wipe_wipe vs vs fun _ h => h], G4, s4, fun b s3 => if b = true then m s3 (fun y s4 => acc.length < LINE ∧ lcGo (lcBody s1.r vs g t m) (ds.drop (i + 1)) (acc ++ [y]) { s1 with mu := s4.mu, c := s4.c } (fun ys s2 => P (.lst ys) s2)) PX0 else lcGo (lcBody s1.r vs g t m) (ds.drop (i + 1)) acc { s1 with mu := s3.mu, c := s3.c } (fun ys s2 => P (.lst ys) s2), PX0, r4, h4, fun _ _ _ _ _ _ _ z => z.elim, fun b s5 G5 H5 h5 g5 f5 r5 => ?_⟩
      have ff := (f3.trans f4).trans f5
      have gg := (g3.trans g4).trans g5
      obtain ⟨e5, b1, b2⟩ := ff A _ hH2 a1 a2 ⟨n3, frm_lst⟩
      cases b with
      | false =>
        show ∃ G' mu' c' acc ys, Same G1 G' ∧ Frm Y G1 s1.mu H1 G' mu' H5 ∧ R0 Y G' mu' c' H5 ∧ (G' A = none ∧ mu' A = none) ∧ H5 A = some (.lst ys) ∧ Reps Y G' acc ys ∧ lcGo (lcBody s1.r vs g t m) (ds.drop (i + 1)) acc { s1 with mu := mu', c := c' } (fun ys s2 => P (.lst ys) s2)
        exact ⟨G5, s5.mu, s5.c, acc, ys, g2.trans gg, f2.trans ff, r5.h, ⟨b1, b2⟩, e5, q2.mono gg, h5⟩
      | true =>
        show TEof Y W0 m σ4 H5 _
        refine ⟨G5, s5, _, PX0, r5, h5, fun _ _ _ _ _ _ _ z => z.elim, fun y s6 v G6 H6 ⟨l6, h6⟩ g6 f6 r6 q6 => ?_⟩
        obtain ⟨e6, c1, c2'⟩ := f6 A _ e5 b1 b2 ⟨n3, frm_lst⟩
        have q7 := q2.mono (gg.trans g6)
        refine ⟨ys, e6, by rw [← q7.length, line_eq]; exact l6, G6, s6.mu, s6.c, acc ++ [y], ys ++ [v], g2.trans (gg.trans g6), fun a o z1 z2 z3 z4 => ?_, r6.h.turn c1 c2' n3 (fun o z => by rw [e6] at z; cases z; exact plain_lst) _, ⟨c1, c2'⟩, upd_same, q7.append (.cons q6 .nil), h6⟩
        obtain ⟨w1, w2, w3⟩ := (f2.trans ff).trans f6 a o z1 z2 z3 z4
        exact ⟨by rw [upd_ne (ne_of_none z1 hA)]; exact w1, w2, w3⟩
    · have e : i = ds.length := by omega
      subst e
      rw [List.drop_length] at h2
      refine .inl ⟨wk.stop H2 (g2.trans r2.sub), ?_⟩
      have eu : upd H2 A (.lst ys) = H2 := by
        funext b
        unfold upd
        split
        · rename_i hb
          rw [hb, hH2]
        · rfl
      have r3 := r2.take a1 a2 n3 (fun o z => by rw [hH2] at z; cases z; exact plain_lst) (.lst ys)
      rw [eu] at r3
      refine k _ { s1 with mu := mu2, c := c2 } _ (upd G2 A (.lst ys)) H2 h2 ((g1.trans g2).trans (same_upd a1)) (f1.trans fun a o z1 z2 z3 z4 => ?_) ⟨r3, sl2.mono (same_upd a1)⟩ (.lst upd_same (q2.mono (same_upd a1)))
      obtain ⟨w1, w2, w3⟩ := f2 a o z1 z2 z3 z4
      exact ⟨w1, by rw [upd_ne (ne_of_none z1 hA)]; exact w2, w3⟩⟩
theorem de_lc {elt iter : Expr} {ifs : List Expr} {scope : Scope} {own : List (Str × Nat)} {g' : TG} {g : MG} {t : MT} {m : ME} (hc : X.calm = true) (hN : X.N.Nodup) (hi : DI X Y W tg iter mi) (ok : BlkOk X.N X.env.scope scope own)
    (hgw : GW Y (own.map (·.2)) g' g)
    (hg : ∀ (s : Shared) (H : Hp) (C : Addr) (cl : List (Str × Addr)) (fp : List Addr), PG (X.blk s H scope (compEnvC scope cl C X.env) fp) tg g')
    (ht : ∀ (s : Shared) (H : Hp) (C : Addr) (cl : List (Str × Addr)) (fp : List Addr), DTs (X.blk s H scope (compEnvC scope cl C X.env) fp) Y W0 ifs t)
    (he : ∀ (s : Shared) (H : Hp) (C : Addr) (cl : List (Str × Addr)) (fp : List Addr), DE (X.blk s H scope (compEnvC scope cl C X.env) fp) Y W0 elt m) (hs : ∀ x, foldedSetIterable iter X.env x = pure x := by intro _; rfl) :
    DE X Y W (.ListComp elt [⟨tg, iter, ifs, 0⟩] scope pos) (mLc mi (own.map (·.2)) g t m) :=
  peImp (pe_lc hc hN hi ok hg ht he hs) (lc_ok hgw)
theorem ds_setLc {i : Nat} {y : Str} {py spos : Pos} {elt iter : Expr} {ifs : List Expr} {scope : Scope} {own : List (Str × Nat)} {g' : TG} {g : MG} {t : MT} {m : ME} (hc : X.calm = true) (hN : X.N.Nodup) (hy : X.N[i]? = some y) (hyl : X.env.scope.names.lookup y = some .local)
    (hsw : swapsWith (.ListComp elt [⟨tg, iter, ifs, 0⟩] scope pos) (some (.Name y py)) spos.line X.env = pure true) (hi : DI X Y W tg iter mi) (ok : BlkOk X.N X.env.scope scope own)
    (hgw : GW Y (own.map (·.2)) g' g)
    (hg : ∀ (s : Shared) (H : Hp) (C : Addr) (cl : List (Str × Addr)) (fp : List Addr), PG (X.blk s H scope (compEnvC scope cl C X.env) fp) tg g')
    (ht : ∀ (s : Shared) (H : Hp) (C : Addr) (cl : List (Str × Addr)) (fp : List Addr), DTs (X.blk s H scope (compEnvC scope cl C X.env) fp) Y W0 ifs t)
    (he : ∀ (s : Shared) (H : Hp) (C : Addr) (cl : List (Str × Addr)) (fp : List Addr), DE (X.blk s H scope (compEnvC scope cl C X.env) fp) Y W0 elt m) (hs : ∀ x, foldedSetIterable iter X.env x = pure x := by intro _; rfl) :
    DS X Y W (.Assign [.Name y py] (.ListComp elt [⟨tg, iter, ifs, 0⟩] scope pos) spos) (mSet i (mLc mi (own.map (·.2)) g t m)) :=
  psImp (ps_setLc hc hN hy hyl hsw hi ok hg ht he hs) fun D σ H ⟨G, st, E, PX, rr, hm, xp, k⟩ => lc_ok hgw σ H _ ⟨G, st, _, PX, rr, hm, xp, fun d s1 v G1 H1 h1 g1 f1 r1 q1 => k.nx _ _ _ _ h1 g1 f1 (r1.put i q1)⟩
end
end DL
namespace DL
open PySem L2
theorem k_cb : ¬ ((Sum.inr "cells" : Key) = .inr "begun") := by decide +kernel
theorem k_cl : ¬ ((Sum.inr "cells" : Key) = .inr "left") := by decide +kernel
theorem k_bl : ¬ ((Sum.inr "begun" : Key) = .inr "left") := by decide +kernel
theorem k_bc : ¬ ((Sum.inr "begun" : Key) = .inr "cells") := by decide +kernel
theorem k_lc : ¬ ((Sum.inr "left" : Key) = .inr "cells") := by decide +kernel
theorem k_lb : ¬ ((Sum.inr "left" : Key) = .inr "begun") := by decide +kernel
section
variable {H : Hp} {p ca : Addr} {b l : Int}
theorem pen_left (h : H p = some (.dK (penKvs ca b l))) : DGet H p (.str "left") (some (.int l)) := by
  have e : valV (penKvs ca b l) (.inr "left" : Key) = some (.int l) := by unfold penKvs; rw [valV_neg k_cl, valV_neg k_bl, valV_pos rfl]
  have g := DGet.k (k := (.inr "left" : Key)) h
  rw [e] at g
  exact g
theorem pen_begun (h : H p = some (.dK (penKvs ca b l))) : DGet H p (.str "begun") (some (.int b)) := by
  have e : valV (penKvs ca b l) (.inr "begun" : Key) = some (.int b) := by unfold penKvs; rw [valV_neg k_cb, valV_pos rfl]
  have g := DGet.k (k := (.inr "begun" : Key)) h
  rw [e] at g
  exact g
theorem pen_cells (h : H p = some (.dK (penKvs ca b l))) : DGet H p (.str "cells") (some (.ref ca)) := by
  have e : valV (penKvs ca b l) (.inr "cells" : Key) = some (.ref ca) := by unfold penKvs; rw [valV_pos rfl]
  have g := DGet.k (k := (.inr "cells" : Key)) h
  rw [e] at g
  exact g
theorem pen_left_put (l' : Int) (h : H p = some (.dK (penKvs ca b l))) : DPut H p (.str "left") (.int l') (upd H p (.dK (penKvs ca b l'))) := by
  have e : putK (penKvs ca b l) (.inr "left" : Key) (.int l') = penKvs ca b l' := by
    unfold penKvs putK
    rw [if_pos (by simp), List.map_cons, List.map_cons, List.map_cons, List.map_nil, if_neg k_cl, if_neg k_bl, if_pos rfl]
  have g := DPut.k (k := (.inr "left" : Key)) (v := .int l') h (by show 3 < sizeLine; rw [sizeLine_eq]; decide)
  rw [e] at g
  exact g
theorem pen_begun_put (l' : Int) (h : H p = some (.dK (penKvs ca b l))) : DPut H p (.str "begun") (.int l') (upd H p (.dK (penKvs ca l' l))) := by
  have e : putK (penKvs ca b l) (.inr "begun" : Key) (.int l') = penKvs ca l' l := by
    unfold penKvs putK
    rw [if_pos (by simp), List.map_cons, List.map_cons, List.map_cons, List.map_nil, if_neg k_cb, if_pos rfl, if_neg k_lb]
  have g := DPut.k (k := (.inr "begun" : Key)) (v := .int l') h (by show 3 < sizeLine; rw [sizeLine_eq]; decide)
  rw [e] at g
  exact g
end
def LIM : Nat := 1152921504606846976
/-- a draw -/
def spDraw0 : Sp := fun vs H Q E => ∃ (p ca : Addr) (n b l : Int) (ns : List Int), vs = [.ref p, .int n] ∧ 0 < n ∧ n < 1073741824 ∧ H p = some (.dK (penKvs ca b l)) ∧ H ca = some (.lst (ns.map V.int)) ∧ ns.length ≤ 63 ∧ 0 ≤ b ∧ b < 2 ^ 60 ∧ 0 ≤ l ∧
  ∀ m b' l' H', 0 ≤ m → m < n → b ≤ b' → b' ≤ b + 1 → 0 ≤ l' → H' p = some (.dK (penKvs ca b' l')) → (∀ a o, H a = some o → a ≠ p → H' a = some o) → Q (.int m) H'
def sp__law_draw : DSp := fun ds mu c P PX => ∃ n : Int, ds = [.pen, .int n] ∧ 0 < n ∧ n < 1073741824 ∧ c < LIM ∧ ∀ m : Int, 0 ≤ m → m < n → P (.int m) mu (c + 1)
theorem draw_of {K : PySem.W.Frag} {mg : Str → Option Value} {T : List (Addr × Str)} {q : Qp} : ∀ vs H Q E, SpOf (Yp K mg T q) sp__law_draw vs H Q E → spDraw0 vs H Q E := by
  rintro vs H Q E ⟨G, mu, c, ds, P, PX, r0, qv, ⟨n, rfl, hn0, hn1, hc, h⟩, kq, _⟩
  obtain ⟨v, w, rfl, q1, q2⟩ := qv.two
  cases q1; cases q2
  obtain ⟨o, hp, ⟨ca, b, l, ns, rfl, hca, hns, hb0, hb1, hl⟩, hG, hm⟩ := r0.pen
  refine ⟨q.p, ca, n, b, l, ns, rfl, hn0, hn1, hp, r0.sub _ _ hca, hns, hb0, by have : LIM = 1152921504606846976 := rfl; omega, hl, fun m b' l' H' m0 m1 l1 l2 l3 hp' hk => ?_⟩
  refine kq (.int m) mu (c + 1) _ G H' (h m m0 m1) (Same.refl G) (fun a o h1 h2 h3 h4 => ⟨hk a o h1 h4.1, h2, h3⟩) ⟨fun a o e => ?_, fun a mo e => ?_, ⟨_, hp', ⟨ca, b', l', ns, rfl, hca, hns, by omega, by omega, l3⟩, hG, hm⟩, r0.ext.turn (q := q.p) (fun o z => by have z' := hp.symm.trans z; cases z'; exact plain_dK) fun a o hb e => hk a o e hb⟩ (.int m)
  · exact hk a o (r0.sub a o e) (fun z => by rw [z] at e; have z2 : G q.p = none := hG; rw [z2] at e; cases e)
  · obtain ⟨h1, x, h2, h3⟩ := r0.mus a mo e
    exact ⟨h1, x, hk a x h2 (fun z => by rw [z] at e; have z2 : mu q.p = none := hm; rw [z2] at e; cases e), h3⟩
/-- the source's beginning -/
def spBegin0 (K : PySem.W.Frag) : Sp := fun vs H Q E => ∃ (a : Addr) (ns : List Int), vs = [.ref a] ∧ SqL K H a (ns.map V.int) ∧ ns.length ≤ 63 ∧
  ∀ (p ca : Addr) H', H p = none → H ca = none → p ≠ ca → H' p = some (.dK (penKvs ca 0 0)) → H' ca = some (.lst (ns.map V.int)) → Same H H' → Q (.ref p) H'
/-- one of some things -/
def sp__law_pick : DSp := fun ds mu c P PX => ∃ d, ds = [.pen, d] ∧ c < LIM ∧ match d with
  | .lst a => 0 < a.length ∧ a.length < 1073741824 ∧ ∀ x ∈ a, P x mu (c + 1)
  | .tup a => 0 < a.length ∧ a.length < 1073741824 ∧ ∀ x ∈ a, P x mu (c + 1)
  | .str z => 0 < z.length ∧ z.length ≤ LINE ∧ ∀ k ∈ z.cps.toList, P (.str ⟨#[k]⟩) mu (c + 1)
  | _ => False
theorem dp_ints {K : PySem.W.Frag} {H : Hp} {a : Addr} {ns : List Int} (h : H a = some (.lst (ns.map V.int))) : Dp K H (.ref a) (.list (ns.map PyData.int)) := by
  refine .lst (SqL.of h) ?_
  clear h
  induction ns with
  | nil => exact .nil
  | cons n r ih => exact .cons (.int n) ih
theorem shaped_ints (ns : List Int) : SeqAt.shaped (.list (ns.map PyData.int)) = true := by
  have h1 : PyData.canLayAll0 (ns.map PyData.int) = true := by
    induction ns with
    | nil => rfl
    | cons n r ih => simp only [List.map_cons, PyData.canLayAll0, PyData.canLay0, ih]; rfl
  have h2 : PyData.depthAll (ns.map PyData.int) = 0 := by
    induction ns with
    | nil => rfl
    | cons n r ih => simp only [List.map_cons, PyData.canLayAll0, PyData.canLay0, PyData.depthAll, PyData.depth] at h1 ⊢; rw [ih (by simpa using h1)]; rfl
  simp [SeqAt.shaped, PyData.canLay0, PyData.depth, h1, h2]
theorem fmod_nn {a b : Int} (hb : 0 < b) : 0 ≤ a % b ∧ a % b < b := ⟨Int.emod_nonneg _ (by omega), Int.emod_lt_of_pos _ hb⟩
end DL
namespace DL
open PySem L2
theorem bF {b : Bool} (h : ¬ b = true) : b = false := by cases b; rfl; exact absurd rfl h
theorem bN {b : Bool} (h : (!b) = true) : b = false := by cases b; rfl; cases h
theorem bT {b : Bool} (h : ¬ (!b) = true) : b = true := by cases b; exact absurd rfl h; rfl
/-! ### comprehensions by what each turn gives -/
inductive All2 {α β : Type} (R : α → β → Prop) : List α → List β → Prop
  | nil : All2 R [] []
  | cons {a : α} {b : β} {as : List α} {bs : List β} : R a b → All2 R as bs → All2 R (a :: as) (b :: bs)
theorem All2.length {α β : Type} {R : α → β → Prop} {as : List α} {bs : List β} (h : All2 R as bs) : as.length = bs.length := by
  induction h with
  | nil => rfl
  | cons _ _ ih => rw [List.length_cons, List.length_cons, ih]
theorem lc_rel {body : D → S → (Option D → S → Prop) → Prop} (Rl : D → D → Prop) (k : Nat) {mu : Mu} {r : List (Option D)} (M : Nat) {P : List D → S → Prop} :
    ∀ (ds acc : List D) (c : Nat), (∀ d ∈ ds, ∀ c K, c + k ≤ M → (∀ y, Rl d y → K (some y) ⟨r, mu, c + k⟩) → body d ⟨r, mu, c⟩ K) → acc.length + ds.length ≤ LINE → c + k * ds.length ≤ M →
    (∀ ys, All2 Rl ds ys → P (acc ++ ys) ⟨r, mu, c + k * ds.length⟩) → lcGo body ds acc ⟨r, mu, c⟩ P
  | [], acc, c, _, _, _, hP => by
    have h := hP [] .nil
    rw [List.append_nil] at h
    exact h
  | d :: ds, acc, c, hb, hl, hM, hP => by
    have e1 : k * (d :: ds).length = k + k * ds.length := by rw [List.length_cons, Nat.mul_succ, Nat.add_comm]
    rw [e1] at hM
    rw [List.length_cons] at hl
    refine hb d List.mem_cons_self c _ (by omega) fun y hy => ⟨by omega, ?_⟩
    refine lc_rel Rl k M ds (acc ++ [y]) (c + k) (fun d' hd => hb d' (List.mem_cons_of_mem _ hd)) (by rw [List.length_append, List.length_singleton]; omega) (by omega) fun ys hys => ?_
    have h := hP (y :: ys) (.cons hy hys)
    rw [e1, ← Nat.add_assoc] at h
    rw [List.append_assoc]
    exact h
/-- each turn gives just one thing, no draw -/
theorem lc_fun {body : D → S → (Option D → S → Prop) → Prop} (f : D → D) {mu : Mu} {r : List (Option D)} {c : Nat} {P : List D → S → Prop} :
    ∀ (ds acc : List D), (∀ d ∈ ds, ∀ K, K (some (f d)) ⟨r, mu, c⟩ → body d ⟨r, mu, c⟩ K) → acc.length + ds.length ≤ LINE → P (acc ++ ds.map f) ⟨r, mu, c⟩ → lcGo body ds acc ⟨r, mu, c⟩ P
  | [], acc, _, _, hP => by rw [List.map_nil, List.append_nil] at hP; exact hP
  | d :: ds, acc, hb, hl, hP => by
    rw [List.length_cons] at hl
    refine hb d List.mem_cons_self _ ⟨by omega, ?_⟩
    refine lc_fun f ds (acc ++ [f d]) (fun d' hd => hb d' (List.mem_cons_of_mem _ hd)) (by rw [List.length_append, List.length_singleton]; omega) ?_
    rw [List.append_assoc]
    exact hP
theorem blsOf_map {α : Type} (f : α → Bool) : ∀ l : List α, blsOf (l.map fun x => D.bl (f x)) = some (l.map f)
  | [] => rfl
  | x :: l => by simp [blsOf, blsOf_map f l]
theorem strsOf_map {α : Type} (f : α → Str) : ∀ l : List α, strsOf (l.map fun x => D.str (f x)) = some (l.map f)
  | [] => rfl
  | x :: l => by simp [strsOf, strsOf_map f l]
/-! ### plain data -/
mutual
/-- plain data at most n deep, its texts short -/
def D.pl : D → Nat → Bool
  | .non, _ => true
  | .bl _, _ => true
  | .int _, _ => true
  | .str s, _ => PyData.strOk s && decide (s.length ≤ 1000)
  | .tup ds, n => decide (0 < n) && D.pls ds (n - 1)
  | .lst ds, n => decide (0 < n) && D.pls ds (n - 1)
  | .dct _, _ => false
  | .pen, _ => false
  | .ref _, _ => false
def D.pls : List D → Nat → Bool
  | [], _ => true
  | d :: ds, n => D.pl d n && D.pls ds n
end
mutual
theorem D.pl_ok : ∀ (d : D) (n : Nat), d.pl n = true → d.ok n = true
  | .non, _, _ => rfl
  | .bl _, _, _ => rfl
  | .int _, _, _ => rfl
  | .str s, _, h => (Bool.and_eq_true_iff.mp h).1
  | .tup ds, n, h => Bool.and_eq_true_iff.mpr ⟨(Bool.and_eq_true_iff.mp h).1, D.pls_ok ds _ (Bool.and_eq_true_iff.mp h).2⟩
  | .lst ds, n, h => Bool.and_eq_true_iff.mpr ⟨(Bool.and_eq_true_iff.mp h).1, D.pls_ok ds _ (Bool.and_eq_true_iff.mp h).2⟩
  | .dct _, _, h => by cases h
  | .pen, _, h => by cases h
  | .ref _, _, h => by cases h
theorem D.pls_ok : ∀ (d : List D) (n : Nat), D.pls d n = true → D.oks d n = true
  | [], _, _ => rfl
  | d :: ds, n, h => Bool.and_eq_true_iff.mpr ⟨D.pl_ok d n (Bool.and_eq_true_iff.mp h).1, D.pls_ok ds n (Bool.and_eq_true_iff.mp h).2⟩
end
mutual
theorem D.pl_mono : ∀ (d : D) (n m : Nat), n ≤ m → d.pl n = true → d.pl m = true
  | .non, _, _, _, _ => rfl
  | .bl _, _, _, _, _ => rfl
  | .int _, _, _, _, _ => rfl
  | .str s, _, _, _, h => h
  | .tup ds, n, m, l, h => by
    simp only [D.pl, Bool.and_eq_true, decide_eq_true_eq] at h ⊢
    exact ⟨by omega, D.pls_mono ds _ _ (by omega) h.2⟩
  | .lst ds, n, m, l, h => by
    simp only [D.pl, Bool.and_eq_true, decide_eq_true_eq] at h ⊢
    exact ⟨by omega, D.pls_mono ds _ _ (by omega) h.2⟩
  | .dct _, _, _, _, h => by cases h
  | .pen, _, _, _, h => by cases h
  | .ref _, _, _, _, h => by cases h
theorem D.pls_mono : ∀ (d : List D) (n m : Nat), n ≤ m → D.pls d n = true → D.pls d m = true
  | [], _, _, _, _ => rfl
  | d :: ds, n, m, l, h => by
    simp only [D.pls, Bool.and_eq_true] at h ⊢
    exact ⟨D.pl_mono d n m l h.1, D.pls_mono ds n m l h.2⟩
end
theorem D.pls_mem {ds : List D} {n : Nat} (h : D.pls ds n = true) : ∀ d ∈ ds, d.pl n = true := by
  induction ds with
  | nil => intro d hd; cases hd
  | cons x ds ih =>
    intro d hd
    have h' := Bool.and_eq_true_iff.mp h
    rcases List.mem_cons.mp hd with e | e
    · rw [e]; exact h'.1
    · exact ih h'.2 d e
theorem D.pls_of {ds : List D} {n : Nat} (h : ∀ d ∈ ds, d.pl n = true) : D.pls ds n = true := by
  induction ds with
  | nil => rfl
  | cons x ds ih => exact Bool.and_eq_true_iff.mpr ⟨h x List.mem_cons_self, ih fun d hd => h d (List.mem_cons_of_mem _ hd)⟩
theorem D.pl_ty {d : D} {n : Nat} (h : d.pl n = true) : d.ty.isSome = true := by
  cases d <;> first | rfl | cases h
theorem D.pl_tup {ds : List D} {n : Nat} (h : D.pls ds n = true) : (D.tup ds).pl (n + 1) = true := by
  simp only [D.pl, Bool.and_eq_true, decide_eq_true_eq]
  exact ⟨by omega, h⟩
theorem D.pl_lst {ds : List D} {n : Nat} (h : D.pls ds n = true) : (D.lst ds).pl (n + 1) = true := by
  simp only [D.pl, Bool.and_eq_true, decide_eq_true_eq]
  exact ⟨by omega, h⟩
theorem D.pl_tupI {ds : List D} {n : Nat} (h : (D.tup ds).pl n = true) : 0 < n ∧ D.pls ds (n - 1) = true := by
  simpa only [D.pl, Bool.and_eq_true, decide_eq_true_eq] using h
/-! ### == with a text -/
theorem eqv_str (x : Str) (d : D) : eqvD (.str x) d = true ↔ d = .str x := by
  unfold eqvD
  cases d <;> simp [D.py, PyData.eqv]
  exact eq_comm
theorem eqv_str2 (x y : Str) : eqvD (.str x) (.str y) = (x == y) := by
  unfold eqvD
  simp [D.py, PyData.eqv]
theorem eqv_int2 (x y : Int) : eqvD (.int x) (.int y) = (x == y) := by
  unfold eqvD
  simp [D.py, PyData.eqv]
theorem eqv_bl2 (x y : Bool) : eqvD (.bl x) (.bl y) = (x == y) := by
  unfold eqvD
  simp [D.py, PyData.eqv]
theorem ceq_of {d e : D} {n m : Nat} (h1 : d.ok n = true) (h2 : e.ok m = true) (l1 : n ≤ 64 := by decide) (l2 : m ≤ 64 := by decide) : CEq d e := ⟨⟨n, l1, h1⟩, m, l2, h2⟩
/-! ### names -/
def letters : List Nat := (Str.ofString "abcdefghijklmnopqrstuvwxyz").cps.toList
def alnum : List Nat := (Str.ofString "abcdefghijklmnopqrstuvwxyz0123456789").cps.toList
def isNameL (l : List Nat) : Bool := match l with
  | [] => false
  | k :: r => decide ((k :: r).length ≤ 12) && (decide (k ∈ letters) && (k :: r).all fun k => decide (k ∈ alnum))
def isNameD : D → Bool
  | .str s => isNameL s.cps.toList
  | _ => false
theorem letters_alnum : ∀ k ∈ letters, k ∈ alnum := by decide +kernel
theorem alnum_lt : ∀ k ∈ alnum, k < 128 := by decide +kernel
theorem hasStr_one (k : Nat) (z : Str) : hasStr ⟨#[k]⟩ z = decide (k ∈ z.cps.toList) := StrLaws.found_one z k
theorem isNameL_len {l : List Nat} (h : isNameL l = true) : 1 ≤ l.length ∧ l.length ≤ 12 := by
  cases l with
  | nil => cases h
  | cons k r =>
    simp only [isNameL, Bool.and_eq_true, decide_eq_true_eq] at h
    exact ⟨by simp, h.1⟩
theorem isNameL_all {l : List Nat} (h : isNameL l = true) : ∀ k ∈ l, k ∈ alnum := by
  cases l with
  | nil => cases h
  | cons k r =>
    simp only [isNameL, Bool.and_eq_true, decide_eq_true_eq] at h
    intro j hj
    exact of_decide_eq_true (List.all_eq_true.mp h.2.2 j hj)
theorem str_len (s : Str) : s.length = s.cps.toList.length := by
  show s.cps.size = _
  rw [Array.length_toList]
theorem name_ok {s : Str} (h : isNameL s.cps.toList = true) : PyData.strOk s = true ∧ s.length ≤ 12 := by
  refine ⟨?_, by rw [str_len]; exact (isNameL_len h).2⟩
  unfold PyData.strOk
  rw [Array.all_eq_true']
  intro x hx
  have := alnum_lt x (isNameL_all h x (by simpa using hx))
  simp only [decide_eq_true_eq]
  omega
/-! ### what a value is as a form -/
def nameFine (d : D) : Bool := d.ty.isSome && (match d with | .str s => decide (s.length ≤ LINE) | _ => true)
theorem nameFine_ty {d : D} (h : nameFine d = true) : d.ty.isSome = true := (Bool.and_eq_true_iff.mp h).1
theorem nameFine_len {d : D} (h : nameFine d = true) : ∀ s, d = .str s → s.length ≤ LINE := fun s e => by
  subst e
  exact of_decide_eq_true (Bool.and_eq_true_iff.mp h).2
theorem nameFine_pl {d : D} {n : Nat} (h : d.pl n = true) : nameFine d = true := by
  unfold nameFine
  rw [D.pl_ty h, Bool.true_and]
  cases d <;> first | rfl | skip
  have h2 := of_decide_eq_true (Bool.and_eq_true_iff.mp h).2
  have : (LINE : Nat) = 16777216 := rfl
  exact decide_eq_true (by omega)
def leafWs : List D := [.str "good", .str "counter"]
def halfWs : List D := [.str "both", .str "between", .str "offered", .str "chosen"]
def leafW (w : D) : Bool := leafWs.any fun z => eqvD z w
def halfW (w : D) : Bool := halfWs.any fun z => eqvD z w
theorem leafWs_ok : (D.tup leafWs).ok 1 = true := by decide +kernel
theorem halfWs_ok : (D.tup halfWs).ok 1 = true := by decide +kernel
theorem leafWs_okl : (D.lst leafWs).ok 1 = true := by decide +kernel
theorem halfWs_okl : (D.lst halfWs).ok 1 = true := by decide +kernel
/-- the depth of a value as a form of depth m at most -/
def depthIn : Nat → D → Option Nat
  | _, .tup [w, n] => if (leafW w && isNameD n) = true then some 0 else none
  | m + 1, .tup [w, a, b] => if halfW w = true then (depthIn m a).bind fun x => (depthIn m b).map fun y => max x y + 1 else none
  | _, _ => none
def fineD : Nat → D → Bool
  | _, .tup [w, n] => w.ok 64 && nameFine n
  | m + 1, .tup [w, a, b] => w.ok 64 && (fineD m a && fineD m b)
  | 0, .tup [w, _, _] => w.ok 64
  | _, d => d.ty.isSome
theorem fineD_ty : ∀ {m : Nat} {d : D}, fineD m d = true → d.ty.isSome = true
  | m, d, h => by
    unfold fineD at h
    split at h <;> first | rfl | exact h
theorem fineD_pl : ∀ (m n : Nat) (d : D), n ≤ 64 → d.pl n = true → fineD m d = true
  | m, n, d, hn, h => by
    unfold fineD
    split
    · rename_i w x
      obtain ⟨h0, h1⟩ := D.pl_tupI h
      have h2 := D.pls_mem h1
      exact Bool.and_eq_true_iff.mpr ⟨D.ok_mono _ _ _ (by omega) (D.pl_ok _ _ (h2 w (by simp))), nameFine_pl (h2 x (by simp))⟩
    · rename_i m' w a b
      obtain ⟨h0, h1⟩ := D.pl_tupI h
      have h2 := D.pls_mem h1
      exact Bool.and_eq_true_iff.mpr ⟨D.ok_mono _ _ _ (by omega) (D.pl_ok _ _ (h2 w (by simp))), Bool.and_eq_true_iff.mpr ⟨fineD_pl m' _ a (by omega) (h2 a (by simp)), fineD_pl m' _ b (by omega) (h2 b (by simp))⟩⟩
    · rename_i w a b
      obtain ⟨h0, h1⟩ := D.pl_tupI h
      exact D.ok_mono _ _ _ (by omega) (D.pl_ok _ _ (D.pls_mem h1 w (by simp)))
    · exact D.pl_ty h
def optD : Option Nat → D
  | none => .non
  | some k => .int k
theorem len_in (ds : List D) : ([D.int 2, D.int 3].any fun z => eqvD z (.int ds.length)) = (ds.length == 2 || ds.length == 3) := by
  have h : ∀ (k : Nat), eqvD (.int k) (.int ds.length) = (ds.length == k) := fun k => by
    rw [eqv_int2, Bool.eq_iff_iff]
    simp
    omega
  simp only [List.any_cons, List.any_nil, Bool.or_false]
  rw [show (2 : Int) = ((2 : Nat) : Int) from rfl, show (3 : Int) = ((3 : Nat) : Int) from rfl, h, h]
end DL
namespace L2
open PySem PySem.Spec PyProof.Rows HT
theorem places_back (n : Nat) : Builtin.Slice.slicePlaces ((n : Int) - 1) (-1) (-1) = n := by
  unfold Builtin.Slice.slicePlaces
  have h1 : ¬ ((-1 : Int) > 0) := by omega
  simp only [h1, if_false]
  have e : (-(-1) : Int) = 1 := rfl
  rw [e]
  simp only [Int.ediv_one]
  split <;> omega
theorem pick_back (xs : Array Value) : ((List.range xs.size).filterMap fun (k : Nat) => xs[(((xs.size : Int) - 1) + (k : Int) * (-1)).toNat]?).toArray = xs.toList.reverse.toArray := by
  have h := PySem.W.krv_all xs
  have e : (List.range xs.size).filterMap (fun (k : Nat) => xs[(((xs.size : Int) - 1) + (k : Int) * (-1)).toNat]?) = ((List.range xs.size).map fun k => xs.size - 1 - k).filterMap (xs[·]?) := by
    rw [List.filterMap_map]
    congr 1
    funext k
    show _ = xs[xs.size - 1 - k]?
    by_cases hk : k < xs.size
    · have : (((xs.size : Int) - 1) + (k : Int) * (-1)).toNat = xs.size - 1 - k := by omega
      rw [this]
    · have e1 : (((xs.size : Int) - 1) + (k : Int) * (-1)).toNat = 0 := by omega
      have e2 : xs.size - 1 - k = 0 := by omega
      rw [e1, e2]
  rw [e, PySem.W.krv_range, List.filterMap_reverse, h]
section
variable {prog : Program} {w : World} {A : Around} {E : Value → Shared → Prop} {s : Shared}
theorem sliceApplied_back {sl : Addr} {vl vu vs : Value} {n : Nat} {Q : Int × Int × Nat → Shared → Prop} (hs : s.heap.IsSliceOf sl vl vu vs) (pl : IsPart vl none) (pu : IsPart vu none) (ps : IsPart vs (some (-1)))
    (h : Q (((n : Int) - 1), -1, n) s) : wpAny (model prog w) A (Builtin.Slice.sliceApplied (.ref sl) (pure (n : Int))) Q E s := by
  obtain ⟨os, hos, hcs, hds⟩ := id hs
  unfold Builtin.Slice.sliceApplied Builtin.Slice.sliceFields
  refine wpAny_bind (wpAny_bind (wpAny_field hos hds (x := vl) rfl (wpAny_bind (wpAny_field hos hds (x := vu) rfl (wpAny_bind (wpAny_field hos hds (x := vs) rfl (wpAny_pure ?_)))))))
  refine wpAny_bind (slicePart_ ps ?_)
  show wpAny _ _ (if ((-1 : Int) == 0) = true then _ else _) _ _ s
  rw [if_neg (by decide)]
  refine wpAny_bind (slicePart_ pl (wpAny_bind (slicePart_ pu (wpAny_bind (wpAny_pure ?_)))))
  show wpAny _ _ (pure (((n : Int) - 1), (-1 : Int), Builtin.Slice.slicePlaces ((n : Int) - 1) (-1) (-1))) _ _ s
  rw [places_back]
  exact wpAny_pure h
theorem getItem_tuple_back {t sl : Addr} {items : Array Value} {vl vu vs : Value} {Q : Value → Shared → Prop} (ht : IsTup s.heap t items) (hs : s.heap.IsSliceOf sl vl vu vs) (pl : IsPart vl none) (pu : IsPart vu none) (ps : IsPart vs (some (-1)))
    (h : Q (.ref s.heap.objs.size) { s with heap := s.heap.push { cls := .type "tuple", data := .seq items.toList.reverse.toArray } })
    (hsz : items.size ≤ sizeLine) : wpAny (model prog w) A (getItem (.ref t) (.ref sl)) Q E s := by
  have htake : sizeOk (.seq items.toList.reverse.toArray) := by
    show items.toList.reverse.toArray.size ≤ sizeLine
    rw [List.size_toArray, List.length_reverse, Array.length_toList]
    exact hsz
  obtain ⟨os, hos, hcs, hds⟩ := id hs
  have hTs : s.TypeIs (.ref sl) "slice" := ⟨os, hos, hcs⟩
  unfold getItem
  try with_reducible refine wpAny_holding ?_
  first | refine wpAny_bind (wpAny_pure ?_) | skip
  refine wpAny_bind (wpAny_sequenceKey ht.typeIs (by decide) ?_)
  refine wpAny_bind (wpAny_callSpecial?_slot (name := Str.ofString "__getitem__") ht.typeIs PyProof.Rows.slot_tuple_getitem
    (wpAny_call_entry PyProof.Rows.slot_tuple_getitem ht.typeIs entry_tuple_getitem ?_ (args_tuple_getitem _ _)))
  show wpAny _ _ (Builtin.Tuple.tupleItemsOf (.ref t) >>= _) _ _ s
  refine wpAny_bind (tupleItemsOf_ ht ?_)
  refine wpAny_bind (wpAny_typeOf hTs ?_)
  rw [if_pos (by decide)]
  refine wpAny_bind (sliceApplied_back hs pl pu ps ?_)
  have hno : ¬ ((((items.size : Int) - 1) == 0 && (-1 : Int) == 1 && items.size == items.size) = true) := by
    intro q
    rw [Bool.and_eq_true, Bool.and_eq_true] at q
    exact absurd q.1.2 (by decide)
  show wpAny _ _ (if (((items.size : Int) - 1) == 0 && (-1 : Int) == 1 && items.size == items.size) = true then _ else _) _ _ s
  rw [if_neg hno, pick_back]
  first
    | exact wpAny_bind (m := Builtin.Tuple.tupleExact _) (wpAny_newObj_type (wpAny_pure ⟨_, rfl, wpAny_pure h⟩) htake)
    | exact wpAny_bind (m := Builtin.Tuple.tupleExact _) (wpAny_newObj_type (wpAny_bind (wpAny_pure (wpAny_pure ⟨_, rfl, wpAny_pure h⟩))) htake)
    | exact wpAny_bind (wpAny_bind (m := Builtin.Tuple.tupleExact _) (wpAny_newObj_type (wpAny_pure (wpAny_pure ⟨_, rfl, wpAny_pure h⟩)) htake))
    | exact wpAny_bind (wpAny_bind (m := Builtin.Tuple.tupleExact _) (wpAny_newObj_type (wpAny_pure ⟨_, rfl, wpAny_pure h⟩) htake))
end
section
variable {X : Cx}
def tRevA (K : PySem.W.Frag) (te : TE) : TE := fun σ H Q => te σ H fun x H1 => ∃ a xs, x = .ref a ∧ ((SqL K H1 a xs ∧ ∀ p, H1 p = none → Q (.ref p) (upd H1 p (.lst xs.reverse))) ∨ (SqT K H1 a xs ∧ ∀ p, H1 p = none → Q (.ref p) (upd H1 p (.tup xs.reverse))))
theorem pe_revA {e : Expr} {te : TE} {k : Nat} {p1 p2 p3 pos : Pos} (he : PE X e te) : PE X (.Subscript e (.Slice none none (some (.UnaryOp .USub (.Constant (.int 1) k p1) p2)) p3) pos) (tRevA X.K te) := by
  refine ⟨fun pins s σ H Q I h => ?_⟩
  refine Subscript_ (thn (he.run pins s σ H _ I h) fun v s1 ⟨x, H1, I1, r1, q1⟩ => ?_)
  obtain ⟨a, xs, ex, qq⟩ := q1
  subst ex
  cases r1
  have hst : PO X (some (.UnaryOp .USub (.Constant (.int 1) k p1) p2)) (tPart (tUn (rU fun i => .int (-i)) (tC (.int 1)))) := po_some (pe_un un_neg pe_int)
  refine wpAny_Slice (thn (po_none.run pins s1 σ H1 (fun o H2 => o = none ∧ H2 = H1) I1 ⟨rfl, rfl⟩) fun vl s2 ⟨l, H2, I2, pl, el, e2⟩ => ?_)
  subst el e2
  refine thn (po_none.run pins s2 σ H2 (fun o H3 => o = none ∧ H3 = H2) I2 ⟨rfl, rfl⟩) fun vu s3 ⟨u, H3, I3, pu, eu, e3⟩ => ?_
  subst eu e3
  refine thn (hst.run pins s3 σ H3 (fun o H4 => o = some (-1) ∧ H4 = H3) I3 ⟨1, rfl, -1, rfl, rfl, rfl⟩) fun vs s4 ⟨o, H4, I4, ps, eo, e4⟩ => ?_
  subst eo e4
  have I5 : Inv X pins σ H4 { s4 with heap := s4.heap.push { cls := .type "slice", data := .fields #[vl, vu, vs] } } := I4.kept (t' := s4.toks) fun b ob q => Heap.get?_push_of_some _ q
  rcases qq with ⟨hx, q⟩ | ⟨hx, q⟩
  · obtain ⟨its, r, ht, hz⟩ := I5.list hx
    have hlen := r.length
    show wpAny (model X.prog X.w) X.A (subscriptTail e (.Slice none none (some (.UnaryOp .USub (.Constant (.int 1) k p1) p2)) p3) (.ref a) (.ref s4.heap.objs.size)) (EP X pins σ Q) X.xe { s4 with heap := s4.heap.push { cls := .type "slice", data := .fields #[vl, vu, vs] } }
    refine tail_any (ops := [.ref a, .ref s4.heap.objs.size]) ht.isList.typeIs (PySem.slot_list_getitem.lookup) ?_ (by with_unfolding_all rfl)
    refine wpAny_getItem_list_slice ht.isList (Heap.IsSliceOf.new _ vl vu vs) pl pu ps (by decide) ?_ (by rw [List.size_toArray]; omega)
    rw [PySem.W.krv_pick]
    refine ⟨.ref _, _, I5.laid (t' := s4.toks) (o := .lst xs.reverse) (fun b ob q => Heap.get?_push_of_some _ q) (Nat.le_refl _) ?_, rfl, q _ (I5.hok.fresh (Nat.le_refl _))⟩
    exact ⟨by rw [List.length_reverse]; exact hz, _, 0, r.reverse, Heap.get?_push_size _ rfl⟩
  · obtain ⟨its, r, ht, hz⟩ := I5.tuple hx
    have hlen := r.length
    show wpAny (model X.prog X.w) X.A (subscriptTail e (.Slice none none (some (.UnaryOp .USub (.Constant (.int 1) k p1) p2)) p3) (.ref a) (.ref s4.heap.objs.size)) (EP X pins σ Q) X.xe { s4 with heap := s4.heap.push { cls := .type "slice", data := .fields #[vl, vu, vs] } }
    refine tail_any (ops := [.ref a, .ref s4.heap.objs.size]) ht.typeIs (PyProof.Rows.slot_tuple_getitem.lookup) ?_ (by with_unfolding_all rfl)
    refine getItem_tuple_back ht (Heap.IsSliceOf.new _ vl vu vs) pl pu ps ?_ (by rw [List.size_toArray]; omega)
    refine ⟨.ref _, _, I5.laid (t' := s4.toks) (o := .tup xs.reverse) (fun b ob q => Heap.get?_push_of_some _ q) (Nat.le_refl _) ?_, rfl, q _ (I5.hok.fresh (Nat.le_refl _))⟩
    exact ⟨by rw [List.length_reverse]; exact hz, _, r.reverse, IsTup.new _ _⟩
end
end L2
namespace DL
open PySem L2
section
variable {X : Cx} {Y : Yc} {W : WX}
def revD : O1 := fun _ d P => match d with
  | .tup a => P (.tup a.reverse)
  | .lst a => P (.lst a.reverse)
  | _ => False
theorem de_rev {e : Expr} {m : ME} {k : Nat} {p1 p2 p3 pos : Pos} (hY : Y.K = X.K) (he : DE X Y W e m) : DE X Y W (.Subscript e (.Slice none none (some (.UnaryOp .USub (.Constant (.int 1) k p1) p2)) p3) pos) (mUn revD m) :=
  peImp (pe_revA he) fun σ H Q ⟨G, st, P, PX, rr, hm, xp, k⟩ => ⟨G, st, _, PX, rr, hm, xp, fun d s1 v G1 H1 hm1 g1 f1 r1 q1 => by
    cases d <;> first | exact False.elim hm1 | skip
    · obtain ⟨a1, xs1, rfl, h1, q1⟩ := q1.tupI
      refine ⟨_, _, rfl, .inr ⟨sqT_mono r1.h.sub (hY ▸ h1), fun p hp => ?_⟩⟩
      exact k _ s1 _ _ _ hm1 (g1.trans (r1.h.new hp (.tup xs1.reverse)).2.1) (f1.trans (.new hp)) ⟨(r1.h.new hp _).1, r1.s.mono (r1.h.new hp (.tup xs1.reverse)).2.1⟩ (.tup (.inl (.inl upd_same)) ((q1.mono (r1.h.new hp _).2.1).reverse))
    · obtain ⟨a1, xs1, rfl, h1, q1⟩ := q1.lstI
      refine ⟨_, _, rfl, .inl ⟨SqL.of (r1.h.sub _ _ h1), fun p hp => ?_⟩⟩
      exact k _ s1 _ _ _ hm1 (g1.trans (r1.h.new hp (.lst xs1.reverse)).2.1) (f1.trans (.new hp)) ⟨(r1.h.new hp _).1, r1.s.mono (r1.h.new hp (.lst xs1.reverse)).2.1⟩ (.lst upd_same ((q1.mono (r1.h.new hp _).2.1).reverse))⟩
def negD : O1 := fun _ d P => match d with
  | .int i => P (.int (-i))
  | _ => False
theorem ud_neg : UnD X Y (unaryOp .USub) negD := by
  intro pins s σ H x v Q I rx ⟨G, mu, c, d, P, r0, qd, h, k⟩
  cases d <;> first | exact False.elim h | skip
  cases qd
  exact un_neg pins s σ H _ v Q I rx ⟨_, rfl, k.here r0 h (.int _)⟩
end
end DL
namespace DL
open PySem L2
/-! ### texts by their signs -/
theorem app_cps (a b : Str) : (a ++ b).cps.toList = a.cps.toList ++ b.cps.toList := by
  show (a.cps ++ b.cps).toList = _
  rw [Array.toList_append]
theorem app_len (a b : Str) : (a ++ b).length = a.length + b.length := by
  rw [str_len, str_len, str_len, app_cps, List.length_append]
theorem foldl_app (g : Array Nat) : ∀ (l : List Str) (acc : Array Nat), g.toList = [] → (l.foldl (fun a t => a ++ g ++ t.cps) acc).toList = acc.toList ++ (l.map fun s => s.cps.toList).flatten
  | [], acc, _ => by simp
  | x :: l, acc, h => by
    rw [List.foldl_cons, foldl_app g l _ h, Array.toList_append, Array.toList_append, h, List.map_cons, List.flatten_cons, List.append_nil, List.append_assoc]
theorem join_cps (l : List Str) : (Txt.join (Str.ofString "") l).cps.toList = (l.map fun s => s.cps.toList).flatten := by
  cases l with
  | nil => rfl
  | cons x l =>
    show (l.foldl (fun a t => a ++ (Str.ofString "").cps ++ t.cps) x.cps).toList = _
    rw [foldl_app (Str.ofString "").cps l _ rfl, List.map_cons, List.flatten_cons]
theorem join_ones (l : List Nat) : (Txt.join (Str.ofString "") (l.map fun k => (⟨#[k]⟩ : Str))).cps.toList = l := by
  rw [join_cps, List.map_map]
  induction l with
  | nil => rfl
  | cons k l ih => rw [List.map_cons, List.flatten_cons, ih]; rfl
/-- plain signs -/
def asc (l : List Nat) : Prop := ∀ k ∈ l, k < 128
theorem asc_app {a b : List Nat} (h : asc a) (g : asc b) : asc (a ++ b) := fun k hk => by
  rcases List.mem_append.mp hk with e | e
  · exact h k e
  · exact g k e
theorem asc_cut {l : List Nat} (h : asc l) (lo hi : Option Int) : asc (cutD l lo hi) := fun k hk => h k (List.mem_of_mem_drop (List.mem_of_mem_take hk))
theorem cut_len {α : Type} (l : List α) (lo hi : Option Int) : (cutD l lo hi).length ≤ l.length := by
  unfold cutD
  rw [List.length_take, List.length_drop]
  omega
theorem asc_name {l : List Nat} (h : isNameL l = true) : asc l := fun k hk => alnum_lt k (isNameL_all h k hk)
theorem pl_str {s : Str} {n : Nat} (h : asc s.cps.toList) (l : s.cps.toList.length ≤ 1000) : (D.str s).pl n = true := by
  refine Bool.and_eq_true_iff.mpr ⟨?_, decide_eq_true (by rw [str_len]; exact l)⟩
  unfold PyData.strOk
  rw [Array.all_eq_true']
  intro x hx
  have := h x (by simpa using hx)
  simp only [decide_eq_true_eq]
  omega
theorem ofL_cps (l : List Nat) : (⟨l.toArray⟩ : Str).cps.toList = l := by simp
theorem upper_one : ∀ k ∈ alnum, (Unicode.upperOf k).length = 1 ∧ ∀ j ∈ Unicode.upperOf k, j < 128 := by decide +kernel
theorem upper_cps (s : Str) : (Txt.upper s).cps.toList = (s.cps.toList.map fun c => Unicode.upperOf c).flatten := by
  show (placed s fun _ c => Unicode.upperOf c).toList = _
  unfold placed
  have e : (s.cps.mapIdx fun i c => (Unicode.upperOf c).toArray) = s.cps.map fun c => (Unicode.upperOf c).toArray := by
    apply Array.ext
    · simp
    · intro i h1 h2
      simp
  rw [e]
  rw [Array.toList_flatten]
  simp [Function.comp_def]
theorem upper_asc {s : Str} (h : ∀ k ∈ s.cps.toList, k ∈ alnum) : asc (Txt.upper s).cps.toList ∧ (Txt.upper s).cps.toList.length = s.cps.toList.length := by
  rw [upper_cps]
  generalize s.cps.toList = l at h
  induction l with
  | nil => exact ⟨fun k hk => (by simp at hk), rfl⟩
  | cons k l ih =>
    obtain ⟨h1, h2⟩ := ih fun j hj => h j (List.mem_cons_of_mem _ hj)
    obtain ⟨h3, h4⟩ := upper_one k (h k List.mem_cons_self)
    rw [List.map_cons, List.flatten_cons]
    exact ⟨asc_app h4 h1, by rw [List.length_append, h2, h3, List.length_cons, Nat.add_comm]⟩
/-- what the turns of a comprehension gave -/
theorem all2_ex {α β γ : Type} (f : α → β) (p : α → Prop) {ds : List γ} {ys : List β} (h : All2 (fun _ y => ∃ s, y = f s ∧ p s) ds ys) : ∃ ns : List α, ys = ns.map f ∧ ns.length = ds.length ∧ ∀ s ∈ ns, p s := by
  induction h with
  | nil => exact ⟨[], rfl, rfl, fun s hs => (by cases hs)⟩
  | cons h1 h9 ih =>
    obtain ⟨s, rfl, hs⟩ := h1
    obtain ⟨ns, rfl, h2, h3⟩ := ih
    refine ⟨s :: ns, rfl, by rw [List.length_cons, List.length_cons, h2], fun x hx => ?_⟩
    rcases List.mem_cons.mp hx with e | e
    · rw [e]; exact hs
    · exact h3 x e
theorem rngD_len (lo : Int) (n : Nat) : (rngD lo n).length = n := by simp [rngD]
/-- no name -/
theorem noName_us (l : List Nat) : isNameL (l ++ [95]) = false := by
  cases e : isNameL (l ++ [95]) with
  | false => rfl
  | true => exact absurd (isNameL_all e 95 (by simp)) (by decide +kernel)
theorem noName_long {l : List Nat} (h : 12 < l.length) : isNameL l = false := by
  cases e : isNameL l with
  | false => rfl
  | true => have := (isNameL_len e).2; omega
theorem shortL {α : Type} {l : List α} (n : Nat) (h : l.length = n) (g : n ≤ 1000 := by decide) : l.length ≤ sizeLine := by
  rw [h, sizeLine_eq]
  omega
/-! ### forms -/
inductive Fm where
  | leaf (w n : Str)
  | node (w : Str) (l r : Fm)
def Fm.toD : Fm → D
  | .leaf w n => .tup [.str w, .str n]
  | .node w l r => .tup [.str w, l.toD, r.toD]
def Fm.ok : Fm → Bool
  | .leaf w n => leafW (.str w) && isNameL n.cps.toList
  | .node w l r => halfW (.str w) && (l.ok && r.ok)
def Fm.depth : Fm → Nat
  | .leaf _ _ => 0
  | .node _ l r => max l.depth r.depth + 1
theorem leafW_or {d : D} (h : leafW d = true) : d = .str "good" ∨ d = .str "counter" := by
  simp only [leafW, leafWs, List.any_cons, List.any_nil, Bool.or_false, Bool.or_eq_true, eqv_str] at h
  exact h
theorem halfW_or {d : D} (h : halfW d = true) : d = .str "both" ∨ d = .str "between" ∨ d = .str "offered" ∨ d = .str "chosen" := by
  simp only [halfW, halfWs, List.any_cons, List.any_nil, Bool.or_false, Bool.or_eq_true, eqv_str] at h
  exact h
theorem word_pl {d : D} {n : Nat} (h : leafW d = true ∨ halfW d = true) : ∃ s, d = .str s ∧ asc s.cps.toList ∧ s.cps.toList.length ≤ 10 := by
  rcases h with h | h
  · rcases leafW_or h with e | e <;> exact ⟨_, e, by unfold asc; decide +kernel, by decide +kernel⟩
  · rcases halfW_or h with e | e | e | e <;> exact ⟨_, e, by unfold asc; decide +kernel, by decide +kernel⟩
theorem leafW_asc {s : Str} (h : leafW (.str s) = true) : asc s.cps.toList ∧ s.cps.toList.length ≤ 10 := by
  obtain ⟨t, e, h1⟩ := word_pl (n := 0) (.inl h)
  cases e
  exact h1
theorem halfW_asc {s : Str} (h : halfW (.str s) = true) : asc s.cps.toList ∧ s.cps.toList.length ≤ 10 := by
  obtain ⟨t, e, h1⟩ := word_pl (n := 0) (.inr h)
  cases e
  exact h1
theorem Fm.dep : ∀ (f : Fm) (m : Nat), f.ok = true → depthIn m f.toD = if f.depth ≤ m then some f.depth else none
  | .leaf w n, m, h => by
    have e : depthIn m (Fm.leaf w n).toD = if (leafW (.str w) && isNameD (.str n)) = true then some 0 else none := by cases m <;> rfl
    have h' : (leafW (.str w) && isNameD (.str n)) = true := h
    rw [e, if_pos h', if_pos (show (Fm.leaf w n).depth ≤ m from Nat.zero_le _)]
    rfl
  | .node w l r, 0, h => by
    rw [if_neg (show ¬ (Fm.node w l r).depth ≤ 0 by unfold Fm.depth; omega)]
    rfl
  | .node w l r, m + 1, h => by
    have h' := Bool.and_eq_true_iff.mp h
    have h2 := Bool.and_eq_true_iff.mp h'.2
    show (if halfW (.str w) = true then (depthIn m l.toD).bind fun x => (depthIn m r.toD).map fun y => max x y + 1 else none) = _
    rw [if_pos h'.1, Fm.dep l m h2.1, Fm.dep r m h2.2]
    show _ = if max l.depth r.depth + 1 ≤ m + 1 then some (max l.depth r.depth + 1) else none
    by_cases h3 : l.depth ≤ m
    · by_cases h4 : r.depth ≤ m
      · rw [if_pos h3, if_pos h4, if_pos (by omega)]; rfl
      · rw [if_pos h3, if_neg h4, if_neg (by omega)]; rfl
    · rw [if_neg h3, if_neg (show ¬ max l.depth r.depth + 1 ≤ m + 1 from fun z => h3 (Nat.le_trans (Nat.le_max_left _ _) (Nat.le_of_succ_le_succ z)))]; rfl
theorem Fm.fine : ∀ (f : Fm) (m : Nat), f.ok = true → fineD m f.toD = true
  | .leaf w n, m, h => by
    have h' := Bool.and_eq_true_iff.mp h
    have e : fineD m (Fm.leaf w n).toD = ((D.str w).ok 64 && nameFine (.str n)) := by cases m <;> rfl
    rw [e]
    have a := leafW_asc h'.1
    refine Bool.and_eq_true_iff.mpr ⟨D.pl_ok _ 64 (pl_str a.1 (by omega)), nameFine_pl (n := 0) (pl_str (asc_name h'.2) (by have := (isNameL_len h'.2).2; omega))⟩
  | .node w l r, 0, h => by
    have h' := Bool.and_eq_true_iff.mp h
    have a := halfW_asc h'.1
    exact D.pl_ok (.str w) 64 (pl_str a.1 (by omega))
  | .node w l r, m + 1, h => by
    have h' := Bool.and_eq_true_iff.mp h
    have h2 := Bool.and_eq_true_iff.mp h'.2
    have a := halfW_asc h'.1
    exact Bool.and_eq_true_iff.mpr ⟨D.pl_ok (.str w) 64 (pl_str a.1 (by omega)), Bool.and_eq_true_iff.mpr ⟨Fm.fine l m h2.1, Fm.fine r m h2.2⟩⟩
theorem Fm.plain : ∀ (f : Fm) (n : Nat), f.ok = true → f.depth < n → f.toD.pl n = true
  | .leaf w x, n + 1, h, hn => by
    have h' := Bool.and_eq_true_iff.mp h
    have a := leafW_asc h'.1
    exact D.pl_tup (D.pls_of fun d hd => by
      rcases List.mem_cons.mp hd with e | e
      · rw [e]; exact pl_str a.1 (by omega)
      · rcases List.mem_cons.mp e with e | e
        · rw [e]; exact pl_str (asc_name h'.2) (by have := (isNameL_len h'.2).2; omega)
        · cases e)
  | .node w l r, n + 1, h, hn => by
    have h' := Bool.and_eq_true_iff.mp h
    have h2 := Bool.and_eq_true_iff.mp h'.2
    have a := halfW_asc h'.1
    have hd : max l.depth r.depth + 1 < n + 1 := hn
    exact D.pl_tup (D.pls_of fun d hd => by
      rcases List.mem_cons.mp hd with e | e
      · rw [e]; exact pl_str a.1 (by omega)
      · rcases List.mem_cons.mp e with e | e
        · rw [e]; exact Fm.plain l n h2.1 (by omega)
        · rcases List.mem_cons.mp e with e | e
          · rw [e]; exact Fm.plain r n h2.2 (by omega)
          · cases e)
def isFormIn (m : Nat) (d : D) : Bool := (depthIn m d).isSome
theorem Fm.isForm (f : Fm) (m : Nat) (h : f.ok = true) : isFormIn m f.toD = decide (f.depth ≤ m) := by
  unfold isFormIn
  rw [Fm.dep f m h]
  by_cases e : f.depth ≤ m
  · rw [if_pos e, decide_eq_true e]; rfl
  · rw [if_neg e, decide_eq_false e]; rfl
/-! ### short plain texts, lists by what stands in them -/
def sA (n : Nat) (s : Str) : Prop := asc s.cps.toList ∧ s.cps.toList.length ≤ n
theorem sA_cut {n : Nat} {s : Str} (h : sA n s) (lo hi : Option Int) : sA n ⟨(cutD s.cps.toList lo hi).toArray⟩ := by
  unfold sA
  rw [ofL_cps]
  exact ⟨asc_cut h.1 lo hi, Nat.le_trans (cut_len _ _ _) h.2⟩
theorem sA_app {n m : Nat} {a b : Str} (h : sA n a) (g : sA m b) : sA (n + m) (a ++ b) := by
  unfold sA
  rw [app_cps, List.length_append]
  exact ⟨asc_app h.1 g.1, Nat.add_le_add h.2 g.2⟩
theorem sA_one {k : Nat} (h : k < 128) : sA 1 ⟨#[k]⟩ := ⟨fun j hj => by
  have : j = k := by simpa using hj
  omega, Nat.le_refl _⟩
theorem sA_name {s : Str} (h : isNameL s.cps.toList = true) : sA 12 s := ⟨asc_name h, (isNameL_len h).2⟩
theorem sA.len {n : Nat} {s : Str} (h : sA n s) : s.length ≤ n := by rw [str_len]; exact h.2
theorem sA.line {n : Nat} {s : Str} (h : sA n s) (g : n ≤ 1000 := by decide) : s.length ≤ LINE := by
  have := h.len
  have e : (LINE : Nat) = 16777216 := rfl
  omega
theorem sA.two {n m : Nat} {a b : Str} (h : sA n a) (g : sA m b) (l : n + m ≤ 1000 := by decide) : a.length + b.length ≤ LINE := by
  have := h.len
  have := g.len
  have e : (LINE : Nat) = 16777216 := rfl
  omega
theorem sA.pl {n : Nat} {s : Str} (h : sA n s) {m : Nat} (g : n ≤ 1000 := by decide) : (D.str s).pl m = true := pl_str h.1 (Nat.le_trans h.2 g)
theorem sA_upper {s : Str} (h : isNameL s.cps.toList = true) : sA 12 (Txt.upper s) := ⟨(upper_asc (isNameL_all h)).1, by rw [(upper_asc (isNameL_all h)).2]; exact (isNameL_len h).2⟩
theorem atI_mem {α : Type} {l : List α} {i : Int} (h0 : 0 ≤ i) (h1 : i < l.length) : ∃ z, z ∈ l ∧ atI l i = some z := by
  obtain ⟨j, rfl⟩ := Int.eq_ofNat_of_zero_le h0
  have hj : j < l.length := by omega
  exact ⟨_, List.getElem_mem hj, atI_nat (List.getElem?_eq_getElem hj)⟩
theorem two_le {α β : Type} {a : List α} {b : List β} (n m : Nat) (ha : a.length ≤ n) (hb : b.length ≤ m) (l : n + m ≤ 1000 := by decide) : a.length + b.length ≤ LINE := by
  have e : (LINE : Nat) = 16777216 := rfl
  omega
theorem cut_le {α : Type} {l : List α} {n : Nat} (h : l.length ≤ n) (lo hi : Option Int) : (cutD l lo hi).length ≤ n := Nat.le_trans (cut_len l lo hi) h
theorem app_le {α : Type} {a b : List α} {n m : Nat} (ha : a.length ≤ n) (hb : b.length ≤ m) : (a ++ b).length ≤ n + m := by rw [List.length_append]; omega
section
variable {α : Type} {p : α → Prop}
theorem al_nil : ∀ d ∈ ([] : List α), p d := fun d hd => by cases hd
theorem al_cons {x : α} {l : List α} (h : p x) (g : ∀ d ∈ l, p d) : ∀ d ∈ x :: l, p d := fun d hd => by
  rcases List.mem_cons.mp hd with e | e
  · rw [e]; exact h
  · exact g d e
theorem al_one {x : α} (h : p x) : ∀ d ∈ [x], p d := al_cons h al_nil
theorem al_app {a b : List α} (h : ∀ d ∈ a, p d) (g : ∀ d ∈ b, p d) : ∀ d ∈ a ++ b, p d := fun d hd => by
  rcases List.mem_append.mp hd with e | e
  · exact h d e
  · exact g d e
theorem al_cut {a : List α} (h : ∀ d ∈ a, p d) (lo hi : Option Int) : ∀ d ∈ cutD a lo hi, p d := fun d hd => h d (List.mem_of_mem_drop (List.mem_of_mem_take hd))
theorem al_rev {a : List α} (h : ∀ d ∈ a, p d) : ∀ d ∈ a.reverse, p d := fun d hd => h d (List.mem_reverse.mp hd)
end
theorem tupP {ys : List D} {m : Nat} (h : ∀ d ∈ ys, d.pl m = true) : (D.tup ys).pl (m + 1) = true := D.pl_tup (D.pls_of h)
theorem lstP {ys : List D} {m : Nat} (h : ∀ d ∈ ys, d.pl m = true) : (D.lst ys).pl (m + 1) = true := D.pl_lst (D.pls_of h)
/-- what is no name -/
def noN (d : D) : Prop := isNameD d = false ∧ d.ty.isSome = true ∧ ∀ s, d = .str s → s.length ≤ LINE
theorem noN_non : noN .non := ⟨rfl, rfl, fun s e => by cases e⟩
theorem noN_bl {b : Bool} : noN (.bl b) := ⟨rfl, rfl, fun s e => by cases e⟩
theorem noN_int {b : Int} : noN (.int b) := ⟨rfl, rfl, fun s e => by cases e⟩
theorem noN_tup {b : List D} : noN (.tup b) := ⟨rfl, rfl, fun s e => by cases e⟩
theorem noN_lst {b : List D} : noN (.lst b) := ⟨rfl, rfl, fun s e => by cases e⟩
theorem noN_dct {b : List (Key × D)} : noN (.dct b) := ⟨rfl, rfl, fun s e => by cases e⟩
theorem noN_str {s : Str} (h : isNameL s.cps.toList = false) (l : s.length ≤ LINE) : noN (.str s) := ⟨h, rfl, fun t e => by cases e; exact l⟩
theorem rep_len {α : Type} (l : List α) (k : Int) : (repD l k).length = k.toNat * l.length := by
  unfold repD
  rw [List.length_flatten, List.map_replicate, List.sum_replicate_nat]
theorem all_true {α : Type} (l : List α) : ((l.map fun _ => true).all id) = true := by
  rw [List.all_map, List.all_eq_true]
  intro x _
  rfl
end DL
namespace DL
open PySem L2
/-! ### the law itself: its source of draws, then the rest over data -/
/-- the promise of a law: a list of at most 63 numbers comes in, True goes out -/
def spLaw (K : PySem.W.Frag) (T : List (Addr × Str)) : Sp := fun vs H Q E => ∃ (a : Addr) (ns : List Int), vs = [.ref a] ∧ SqL K H a (ns.map V.int) ∧ ns.length ≤ 63 ∧ LamX.Tabs T H ∧ ∀ H', Q (.bl true) H'
theorem rest_pen {X : Cx} {K : PySem.W.Frag} {mg : Str → Option Value} {T : List (Addr × Str)} {W : WX} {body : List Stmt} {m : MS} (h : ∀ q, DSs X (Yp K mg T q) W body m) : PSs X body (fun D σ H => ∃ q, TSof (Yp K mg T q) W m D σ H) :=
  ⟨fun pins s σ H D I ⟨p, q⟩ => (h p).run pins s σ H D I q⟩
def onlyAt (ca : Addr) (o : HO) : Hp := fun b => if b = ca then some o else none
theorem slPen {K : PySem.W.Frag} {mg : Str → Option Value} {T : List (Addr × Str)} {p : Addr} {G : Hp} {x : Option V} (k : Nat) : Sl (Yp K mg T ⟨p, [], fun _ => none⟩) G (none :: some .pen :: List.replicate k none) (x :: some (.ref p) :: List.replicate k none) := by
  refine ⟨by simp, fun i d e => ?_⟩
  match i, e with
  | 0, e => cases e
  | 1, e => cases e; exact ⟨.ref p, rfl, .pen⟩
  | i + 2, e =>
    have := List.mem_of_getElem? (show (List.replicate k (none : Option D))[i]? = some (some d) from e)
    simp at this
def lawEnd : DEnds := { nx := fun _ => False, rt := fun d _ => d = .bl true }
theorem law_fin {K : PySem.W.Frag} {mg : Str → Option Value} {T : List (Addr × Str)} {W : WX} {p ca : Addr} {H : Hp} {m : MS} {ns : List Int} {D : Ends} {x : Option V} (k : Nat) (npc : p ≠ ca) (h1 : H p = some (.dK (penKvs ca 0 0))) (h2 : H ca = some (.lst (ns.map V.int))) (hl : ns.length ≤ 63) (hT : LamX.Tabs T H)
    (hm : m ⟨none :: some .pen :: List.replicate k none, fun _ => none, 0⟩ lawEnd PX0) (hD : ∀ H, D.rt (.bl true) H) : TSof (Yp K mg T ⟨p, [], fun _ => none⟩) W m D (x :: some (.ref p) :: List.replicate k none) H := by
  refine ⟨onlyAt ca (.lst (ns.map V.int)), ⟨none :: some .pen :: List.replicate k none, fun _ => none, 0⟩, lawEnd, PX0, ⟨⟨fun b o e => ?_, fun a mo e => (by cases e), ⟨_, h1, ⟨ca, 0, 0, ns, rfl, ?_, hl, Int.le_refl _, Int.le_refl _, Int.le_refl _⟩, ?_, rfl⟩, ⟨hT, fun q hq => ⟨?_, rfl⟩, fun p hp => (by cases hp), fun b o e => ?_, fun b o e => (by cases e)⟩⟩, slPen k⟩, hm, fun _ _ _ _ _ _ _ z => z.elim, ⟨fun _ _ _ _ z => z.elim, fun d st' v σ' G' H' z _ _ _ q => ?_, fun _ _ _ _ z => z.elim, fun _ _ _ _ z => z.elim⟩⟩
  · unfold onlyAt at e
    split at e
    · rename_i hb
      rw [hb, h2]
      exact e
    · cases e
  · unfold onlyAt
    rw [if_pos rfl]
  · show onlyAt ca (.lst (ns.map V.int)) p = none
    unfold onlyAt
    rw [if_neg npc]
  · show onlyAt ca (.lst (ns.map V.int)) q.1 = none
    unfold onlyAt
    rw [if_neg (fun z => by
      obtain ⟨ps, e1, _⟩ := hT q hq
      rw [z, h2] at e1
      cases e1)]
  · unfold onlyAt at e
    split at e
    · cases e
      exact plain_lst
    · cases e
  · have z' : d = .bl true := z
    subst z'
    cases q
    exact hD H'
/-- turns that all gave True -/
theorem all_rel {γ : Type} {ds : List γ} {ys : List D} (h : All2 (fun _ y => y = .bl true) ds ys) : ∃ bs, blsOf ys = some bs ∧ bs.all id = true := by
  induction h with
  | nil => exact ⟨[], rfl, rfl⟩
  | cons h1 _ ih =>
    obtain ⟨bs, e1, e2⟩ := ih
    refine ⟨true :: bs, ?_, ?_⟩
    · rw [h1]
      simp [blsOf, e1]
    · simp [e2]
/-! ### the end -/
/-- what a module's name holds, by the written part -/
theorem glob_int {K : PySem.W.Frag} {h : Heap} {mg : Str → Option Value} {x : Str} {i : Int} {t : Tok} (X : K.In h) (G : h.Ns mainGlobals mg) (e : PySem.W.nsIn K mainGlobals x = some (some (.int i t))) : GlobD K mg x (.int i) :=
  ⟨.int i, _, PySem.W.mg_of X G e, ⟨_, rfl⟩, fun _ _ _ => .int i⟩
theorem glob_str {K : PySem.W.Frag} {h : Heap} {mg : Str → Option Value} {x : Str} {i : Str} {t : Tok} (X : K.In h) (G : h.Ns mainGlobals mg) (e : PySem.W.nsIn K mainGlobals x = some (some (.str i t))) : GlobD K mg x (.str i) :=
  ⟨.str i, _, PySem.W.mg_of X G e, ⟨_, rfl⟩, fun _ _ _ => .str i⟩
theorem glob_strL {K : PySem.W.Frag} {mg : Str → Option Value} {x : Str} {i : Str} (e : ∃ t, mg x = some (.str i t)) : GlobD K mg x (.str i) :=
  let ⟨_, e⟩ := e
  ⟨.str i, _, e, ⟨_, rfl⟩, fun _ _ _ => .str i⟩
mutual
/-- a value that the written part holds, as data -/
inductive KD (K : PySem.W.Frag) : Value → D → V → Prop
  | non : KD K .none .non .non
  | bl (b : Bool) : KD K (.bool b) (.bl b) (.bl b)
  | int (i : Int) (t : Tok) : KD K (.int i t) (.int i) (.int i)
  | str (i : Str) (t : Tok) : KD K (.str i t) (.str i) (.str i)
  | tup {a : Addr} {od : Option Addr} {its : Array Value} {n : Nat} {sl : Array (Option Value)} {ds : List D} {vs : List V} : K.lookup a = some ⟨.type "tuple", od, .seq its n, sl⟩ → its.size ≤ sizeLine → KDs K its.toList ds vs → KD K (.ref a) (.tup ds) (.ref a)
inductive KDs (K : PySem.W.Frag) : List Value → List D → List V → Prop
  | nil : KDs K [] [] []
  | cons {u : Value} {d : D} {v : V} {us : List Value} {ds : List D} {vs : List V} : KD K u d v → KDs K us ds vs → KDs K (u :: us) (d :: ds) (v :: vs)
end
theorem KD.rel {K : PySem.W.Frag} {u : Value} {d : D} {v : V} (h : KD K u d v) : RelV v u := by
  cases h with
  | non => rfl
  | bl b => rfl
  | int i t => exact ⟨t, rfl⟩
  | str i t => exact ⟨t, rfl⟩
  | tup _ _ _ => rfl
theorem KDs.vals {K : PySem.W.Frag} : ∀ {us : List Value} {ds : List D} {vs : List V}, KDs K us ds vs → Vals vs us
  | _, _, _, .nil => .nil
  | _, _, _, .cons h r => .cons h.rel (KDs.vals r)
mutual
theorem KD.rep {Y : Yc} {G : Hp} : ∀ {u : Value} {d : D} {v : V}, KD Y.K u d v → Rep Y G d v
  | _, _, _, .non => .non
  | _, _, _, .bl b => .bl b
  | _, _, _, .int i t => .int i
  | _, _, _, .str i t => .str i
  | _, _, _, .tup h hz r => .tup (.inr ⟨_, _, _, h, rfl, rfl, hz, r.vals⟩) (KDs.reps r)
theorem KDs.reps {Y : Yc} {G : Hp} : ∀ {us : List Value} {ds : List D} {vs : List V}, KDs Y.K us ds vs → Reps Y G ds vs
  | _, _, _, .nil => .nil
  | _, _, _, .cons h r => .cons (KD.rep h) (KDs.reps r)
end
theorem glob_kd {K : PySem.W.Frag} {h : Heap} {mg : Str → Option Value} {x : Str} {u : Value} {d : D} {v : V} (X : K.In h) (G : h.Ns mainGlobals mg) (e : PySem.W.nsIn K mainGlobals x = some (some u)) (k : KD K u d v) : GlobD K mg x d :=
  ⟨v, u, PySem.W.mg_of X G e, k.rel, fun Y hY G => by subst hY; exact k.rep⟩
/-- a law's end; what the top's loose names hold is told too -/
theorem endX {l : PySem.W.OpenLaw} {n k : Nat} {q : Program} {loose : List Str} {XP : (Str → Option Value) → Heap → Prop} {YP : World → Heap → Prop} {d : DefRec} {K : Params → PySem.W.Frag} {x : Str} (hn : l.most = some n) (hz : n ≤ sizeLine) (h63 : n ≤ 63)
    (hdf : d.params.defaults = []) (hr : Room k callerA) (hY : ∀ (w : World) (h : Heap), YP w h → (K w.params).In h)
    (F : ∀ (w : World) (mg : Str → Option Value) (fa : Addr) (h : Heap), XP mg h → (K w.params).In h → h.Ns mainGlobals mg → mg d.name = some (.ref fa) → ∃ fd : FuncData,
      (∀ (s : Shared) (u : Value), BindsTo s fd ⟨[u], []⟩ [(x, u)]) ∧ ∀ base : Heap, (K w.params).In base → base.Ns mainGlobals mg → FnOk l.prog w (K w.params) mg base (L2.CX l.prog w) k fa fd [x] (spLaw (K w.params) [])) :
    PySem.W.WalkO q loose XP YP l.row.toRowW d [] (fun f vs => PySem.call f vs) :=
  Att.attach_call hn hdf fun w s0 s1 mg mb fa o pm cd doc a vs ns G Y ho hd hcd hmg hobj hints hlen hg =>
    have KX := hY w _ Y
    let ⟨fd, hb, hF⟩ := F w mg fa _ G.X KX G.T.g hmg
    law_call KX G.T.g G.T.b G.T.builtins G.T.nolimit hg hobj hints (Nat.le_trans hlen hz) hr hF hb (fun H hO hS => ⟨a, ns, rfl, hS, Nat.le_trans hlen h63, fun _ z => (by cases z), fun _ => rfl⟩) fun H e s' ⟨_, _, _, _, _, _, _, _, _, _, _, _, z⟩ => z
theorem loose_str {h : Heap} {mg : Str → Option Value} {x s : Str} (e : ∃ v, mg x = some v ∧ PySem.W.ReadsLit h v (.str s) []) : ∃ t, mg x = some (.str s t) := by
  obtain ⟨v, e1, r⟩ := e
  cases r
  exact ⟨_, e1⟩
end DL
namespace DL
open PySem PySem.W PySem.Calls PyProof.Rows PySem.HandSPX
/-! ### own errors: class E(B): def __init__(self, f): super().__init__(f); self.f = f -/
abbrev veB : List Value := [.type "ValueError", .type "Exception", .type "BaseException", .type "object"]
def erA (fld : Str) (p1 p2 : Pos) : Arguments := { posonlyargs := [], args := [{ arg := "self", annotation := none, pos := p1 }, { arg := fld, annotation := none, pos := p2 }], vararg := none, kwonlyargs := [], kw_defaults := [], kwarg := none, defaults := [] }
def erB (fld : Str) (q0 q1 q2 q3 q4 q5 q6 q7 q8 q9 : Pos) : List Stmt :=
  [.Expr (.Call (.Attribute (.Call (.Name "super" q0) [] [] q1) "__init__" q2) [.Name fld q3] [] q4) q5, .Assign [.Attribute (.Name "self" q6) fld q7] (.Name fld q8) q9]
def erS (fld : Str) : Scope := { kind := .function, names := [("self", .local), (fld, .local), ("__class__", .free), ("super", .globalImplicit)], isGenerator := false, isCoroutine := false, more := [] }
/-- the field's name is none of the others, its def takes it -/
structure FldOk (fld : Str) : Prop where
  n1 : (fld == ("self" : Str)) = false
  n2 : (fld == ("super" : Str)) = false
  n3 : (fld == ("__class__" : Str)) = false
  n4 : (fld == ("__debug__" : Str)) = false
  look : (erS fld).names.lookup fld = some .local
  self : (erS fld).names.lookup ("self" : Str) = some .local
  cls : (erS fld).names.lookup ("__class__" : Str) = some .free
  sup : (erS fld).names.lookup ("super" : Str) = some .globalImplicit
  bind : ∀ (qual : Str) (p1 p2 : Pos) (body : List Stmt) (doc pm : Value) (an : Option Addr) (cdv ct : Value) (cc : Addr) (a b : Value), bindArgs (ksFn "__init__" qual (erA fld p1 p2) body (erS fld) .none .none doc pm an cdv ct cc) ⟨[a, b], []⟩ = pure [(("self" : Str), a), (fld, b)]
/-- how the two rows of __init__ run (their places in the text settle it) -/
structure ErTxt (fld : Str) (q0 q1 q2 q3 q4 q5 q6 q7 q8 q9 : Pos) : Prop where
  meth : ∃ pl : Sem Bool, ∀ env : Env, eval (.Call (.Attribute (.Call (.Name "super" q0) [] [] q1) "__init__" q2) [.Name fld q3] [] q4) env = (do
      let ov ← attributeBase (.Call (.Name "super" q0) [] [] q1) "__init__" env (eval (.Call (.Name "super" q0) [] [] q1) env)
      standAt q2.atName
      let (f, first) ← holding [ov] (getMethod ov "__init__" pl)
      callWith q4 f first (backTo q4 (starEach [.Name fld q3] env)) [])
  sw1 : ∀ env : Env, swapsWith (.Call (.Attribute (.Call (.Name "super" q0) [] [] q1) "__init__" q2) [.Name fld q3] [] q4) none q5.line env = pure false
  sw2 : ∀ env : Env, swapsWith (.Name fld q8) (some (.Attribute (.Name "self" q6) fld q7)) q9.line env = pure false
structure OwnErr (prog : Program) (K : Frag) (mg : Str → Option Value) (x fld : Str) (C fI : Addr) : Prop where
  fo : FldOk fld
  gC : mg x = some (.ref C)
  cls : ∃ nm q N bs bm sn sub ab col dd k0 k1 k2 k3 k5, K.lookup C = some (excClassObj nm q C N bs bm true sn sub ab col dd k0 k1 k2 k3 k5 "ValueError.__new__") ∧ refsVE bm = true
  sa : findIn K (.ref C) "__setattr__" = some (some (.builtin "object.__setattr__"))
  ga : findIn K (.ref C) "__getattribute__" = some (some (.builtin "BaseException.__getattribute__"))
  gg : findIn K (.ref C) "__getattr__" = some none
  noN : findIn K (.ref C) fld = some none
  iC : findIn K (.ref C) "__init__" = some (some (.ref fI))
  tC : typeIn K (.ref fI) = some (.type "function")
  kC : keepIn K (.ref C) = true
  exC : subIn K (.ref C) (.type "BaseException") = some true
  tyC : typeIn K (.ref C) = some (.type "type")
  hdC : hasDictIn K C = true
  te : exmOne K (.ref C) (.ref C) = some true
  sup : nsIn K mainGlobals "super" = some none
  top : (prog.main.scope.names.lookup ("super" : Str)).isSome = false
  any : nsIn K cStatics "thirdparty.any" = some none
  ini : ks_superIn K C C "__init__" = some (some (.builtin "ValueError.__init__"))
  ve : subIn K (.ref C) (.type "ValueError") = some true
  xi : excInitIn K C veB "ValueError.__new__" = true
  sub : mroIn K C (.ref C) = some true
  fn : ∃ (oc : Value) (od : Option Addr) (qual : Str) (doc pm : Value) (an : Option Addr) (cda : Addr) (ct : Value) (cc : Addr) (osl : Array (Option Value)) (p1 p2 q0 q1 q2 q3 q4 q5 q6 q7 q8 q9 : Pos),
    K.lookup fI = some ⟨oc, od, .func (ksFn "__init__" qual (erA fld p1 p2) (erB fld q0 q1 q2 q3 q4 q5 q6 q7 q8 q9) (erS fld) .none .none doc pm an (.ref cda) ct cc), osl⟩ ∧ codeIn K (.ref cda) qual = true ∧ q3.line = q3.line ∧
    (∃ (ccl : Value) (cdd : Option Addr) (vs : Array Value) (ccs : Array (Option Value)) (file : Str) (tf : Tok), K.lookup cda = some ⟨ccl, cdd, .fields vs, ccs⟩ ∧ vs[2]? = some (.str file tf) ∧ ((prog.main.file : Str) == file) = true) ∧
    (∃ (cl : Value) (cld : Option Addr) (csl : Array (Option Value)), K.lookup cc = some ⟨cl, cld, .cell (some (.ref C)), csl⟩) ∧ ErTxt fld q0 q1 q2 q3 q4 q5 q6 q7 q8 q9
/-- what __init__ leaves of a fresh exception at x -/
structure ErEnd (h h' : Heap) (x C dx t1 : Addr) (fld : Str) (v : Value) : Prop where
  keep : ∀ b o, h.get? b = some o → h'.get? b = some o
  obj : h'.get? x = some { cls := .ref C, dict := some dx, data := .fields #[.ref t1, .none, .none, .none, .bool false, .none] }
  dbig : h.objs.size ≤ dx
  dne : dx ≠ x
  ns : h'.Ns1 dx (fun y => if y = fld then some v else none)
/-- a made one -/
structure ErMade (h h' : Heap) (e C d : Addr) (fld : Str) (v : Value) : Prop where
  keep : ∀ b o, h.get? b = some o → h'.get? b = some o
  new : h.objs.size ≤ e
  obj : ∃ oe vs, h'.get? e = some oe ∧ oe.cls = .ref C ∧ oe.dict = some d ∧ oe.data = .fields vs ∧ vs[1]? = some .none
  dbig : h.objs.size ≤ d
  dne : d ≠ e
  ns : h'.Ns1 d (fun y => if y = fld then some v else none)
section
variable {prog : Program} {w : World} {A : Around} {E : Value → Shared → Prop} {R : Result → Shared → Prop} {s : Shared} {K : Frag} {mg : Str → Option Value} {C fI : Addr} {xn fld : Str}
/-- super() in __init__ -/
theorem er_super {h₀ : Heap} {L : Addr} {m mb : Str → Option Value} {news : List (Addr × Obj)} {body : List Stmt} {q : Str} {p0 p1 : Pos} {whole : Sem Value} {fd : FuncData} {ar : Arg} {vs : Array Value} {file : Str} {tf : Tok} {oc ccl cl : Value} {od cdd cld : Option Addr} {osl ccs csl : Array (Option Value)} {cdD : ClassData} {f cc cda x : Addr} {ox : Obj} {odx : Option Obj} {Q : Value → Shared → Prop}
    (fo : FldOk fld) (F : Fr h₀ L s.heap m) (X₀ : K.In h₀) (N : News h₀ L s.heap news) (Gm : h₀.Ns mainGlobals mg) (Gb : h₀.Ns builtinsNs mb) (hmb : mb "super" = some (.type "super"))
    (hf : K.lookup f = some ⟨oc, od, .func fd, osl⟩) (hp : (fd.params.posonlyargs ++ fd.params.args).head? = some ar) (har : ar.arg = "self") (hv : m "self" = some (.ref x)) (I : InstAt s.heap x ox C odx)
    (hcode : K.lookup cda = some ⟨ccl, cdd, .fields vs, ccs⟩) (hvs : vs[2]? = some (.str file tf)) (hfile : ((prog.main.file : Str) == file) = true)
    (hcell : K.lookup cc = some ⟨cl, cld, .cell (some (.ref C)), csl⟩) (hD : clsIn K C = some cdD) (hsub : mroIn K C (.ref C) = some true) (hsuper : nsIn K mainGlobals "super" = some none)
    (htop : (prog.main.scope.names.lookup ("super" : Str)).isSome = false)
    (h : ∀ so h', Fr h₀ L h' m → News h₀ L h' ((so, ks_superObj C x C) :: news) → (∀ p ∈ news, p.1 < so) → Q (.ref so) { s with heap := h' }) :
    PySem.wpAt (model prog w) A (.func body (ksEnv q (erS fld) L f (.ref cda) cc)) (attributeBase (.Call (.Name "super" p0) [] [] p1) "__init__" (ksEnv q (erS fld) L f (.ref cda) cc) whole) Q E s := by
  have X : K.In s.heap := X₀.keeps F.keep
  obtain ⟨hh, g, d, t, os⟩ := s
  obtain ⟨oD, hD1, hD2⟩ : ∃ oD, hh.get? C = some oD ∧ oD.data = .cls cdD := by
    unfold clsIn at hD
    split at hD
    · rename_i e1 e2 e3 e4 ho
      cases hD
      exact ⟨_, X _ _ ho, rfl⟩
    · cases hD
  refine ks_wpAt_super_base (env := ksEnv q (erS fld) L f (.ref cda) cc) fo.sup fo.cls (by decide) rfl (X _ _ hf) rfl hp rfl (X _ _ hcode) rfl hvs hfile htop ?_
  refine ks_loadName_global rfl fo.sup (loadGlobal_builtin (env := ksEnv q (erS fld) L f (.ref cda) cc) (Gm.keeps F.keep) (mg_none_of X₀ Gm hsuper) (Gb.keeps F.keep) hmb ⟨rfl, ?_⟩)
  refine wpAny_loadName_free rfl fo.cls rfl ⟨_, X _ _ hcell, rfl⟩ ?_
  rw [har]
  refine wpAny_loadName_local rfl fo.self F.ns hv ?_
  refine ks_wpAny_isType_cls hD1 hD2 ⟨rfl, ?_⟩
  refine ks_wpAny_call_super hD1 hD2 I.at_ I.cls (fun c e => ?_) (looks_mroIn X hsub) (fun h' e k => ?_)
  · have hno := I.no
    unfold notCls at hno
    rw [e] at hno
    exact Bool.noConfusion hno
  · obtain ⟨F', N', l'⟩ := ks_newsPush (s := ⟨hh, g, d, t, os⟩) F N rfl e k
    exact h _ _ F' N' l'
theorem er_le {h₀ h : Heap} (k : ∀ b o, h₀.get? b = some o → h.get? b = some o) : True := trivial
/-- __init__(e, v) of a fresh exception e -/
theorem er_init (T : OwnErr prog K mg xn fld C fI) {h₀ : Heap} {mb : Str → Option Value} {x t0 : Addr} {v : Value} (X₀ : K.In h₀) (Gm : h₀.Ns mainGlobals mg) (Gb : h₀.Ns builtinsNs mb) (hmb : mb "super" = some (.type "super")) (k0 : ∀ b o, h₀.get? b = some o → s.heap.get? b = some o) (hsz : h₀.objs.size ≤ s.heap.objs.size)
    (hlim : s.heap.NoLimit) (hx : s.heap.get? x = some (excO C t0)) (hnx : h₀.get? x = none) (hroom : A.depth < recursionLimit)
    (hq : ∀ h' tk dx t1, ErEnd h₀ h' x C dx t1 fld v → R (.ok (.ret .none)) { s with heap := h', toks := tk }) :
    codeAny (model prog w) A (.call (.ref fI) ⟨[.ref x, v], []⟩) R s := by
  obtain ⟨oc, od, qual, doc, pm, an, cda, ct, cc, osl, p1, p2, q0, q1, q2, q3, q4, q5, q6, q7, q8, q9, ho, hcd, _, ⟨ccl, cdd, vs, ccs, file, tf, hcode, hvs, hfile⟩, ⟨cl, cld, csl, hcell⟩, ⟨⟨pl, hmeth⟩, hsw1, hsw2⟩⟩ := T.fn
  obtain ⟨nm, q, N, bs, bm, sn, sub, ab, col, dd, k1, k2, k3, k4, k5, hC, hbm⟩ := T.cls
  have hcl : clsIn K C = some { name := nm, bases := bs, mro := .ref C :: bm, ns := N, qualname := q, hasDict := true, slotNames := sn, subclasses := sub, abstract := ab, collection := col, hasDel := false } := by unfold clsIn; rw [hC] <;> rfl
  have Xs : K.In s.heap := X₀.keeps k0
  have fo := T.fo
  have hle : ¬ (fld : Str) = "self" := fun z => by have := fo.n1; rw [z] at this; exact absurd this (by decide)
  have hle2 : (("self" : Str) == fld) = false := by
    cases e : (("self" : Str) == fld) with
    | false => rfl
    | true => exact absurd (eq_of_beq e).symm hle
  refine ks_codeAny_call_defAt (binds := [(("self" : Str), .ref x), (fld, v)]) (body := erB fld q0 q1 q2 q3 q4 q5 q6 q7 q8 q9) hroom (Xs _ _ ho) rfl hlim (codeRec_of Xs hcd) rfl (BindsTo.of_eq (fo.bind _ _ _ _ _ _ _ _ _ _ _ _)) (fun y hy => ?_) (fun y hy => ?_) (fun h1 hns hk => ?_) rfl rfl rfl
  · simp only [erS, List.mem_cons, List.not_mem_nil, or_false] at hy
    rcases hy with rfl | rfl | rfl | rfl <;> intro z <;> cases z
  · simp only [List.mem_cons, List.not_mem_nil, or_false] at hy
    rcases hy with rfl | rfl
    · exact fo.self
    · exact fo.look
  have mS : (List.reverse [(("self" : Str), Value.ref x), (fld, v)]).lookup ("self" : Str) = some (.ref x) := by
    show List.lookup ("self" : Str) [(fld, v), (("self" : Str), Value.ref x)] = _
    simp only [List.lookup, hle2, beq_self_eq_true]
  have mV : (List.reverse [(("self" : Str), Value.ref x), (fld, v)]).lookup fld = some v := by
    show List.lookup fld [(fld, v), (("self" : Str), Value.ref x)] = _
    simp only [List.lookup, beq_self_eq_true]
  have hxL : x ≠ s.heap.objs.size := Nat.ne_of_lt (Heap.lt_size hx)
  have F : Fr h₀ s.heap.objs.size h1 (fun y => (List.reverse [(("self" : Str), Value.ref x), (fld, v)]).lookup y) := ⟨hns, fun b o e => hk b o (k0 b o e), hsz⟩
  have N1 : News h₀ s.heap.objs.size h1 [(x, excO C t0)] := fun p hp => by
    rcases List.mem_cons.mp hp with e | e
    · rw [e]
      exact ⟨hk _ _ hx, hxL, hnx⟩
    · cases e
  refine ks_wpAt_execs_cons (ks_wpAt_Expr_any (ks_wpAt_MethodCall (er_super (odx := none) fo F X₀ N1 Gm Gb hmb ho rfl rfl mS ⟨hk _ _ hx, rfl, rfl, trivial⟩ hcode hvs hfile hcell hcl T.sub T.sup T.top fun so h2 F2 N2 l2 => ?_) (hmeth _)) (by rfl) (hsw1 _))
  refine kxs_method kxs_ValueError F2 X₀ N2 List.mem_cons_self (InstAt.of_exc0 (t := t0) (c2 := .none) N2 (List.mem_cons_of_mem _ List.mem_cons_self)) T.any T.ini T.ve (by decide) fun so2 h3 F3 N3 l3 => ?_
  refine kxs_callWith1 N3 List.mem_cons_self ?_ (by rfl) (by rfl)
  refine spliced_cons ?_
  refine wpAny_Name (wpAny_loadName_local rfl fo.look F3.ns mV ?_) fo.n4
  refine spliced_nil ⟨kxs_at N3 List.mem_cons_self, ?_⟩
  refine kxs_call (t := t0) (dv := none) (c2 := .none) F3 X₀ N3 PySem.F.excBase_ValueError T.xi List.mem_cons_self (.tail (fun z => ?_) (.tail (fun z => ?_) (.head (fun p hp => by cases hp)))) (by show 1 ≤ sizeLine; rw [sizeLine_eq]; decide) fun t1 h4 F4 N4 l4 => ?_
  · exact Nat.ne_of_gt (l3 (x, excO C t0) (by simp)) z
  · exact Nat.ne_of_gt (l2 (x, excO C t0) (by simp)) z
  have hx4 : h4.get? x = some (excO C t1) := (N4 (x, excObj C t1 none .none) (by simp)).1
  refine ks_wpAt_execs_cons (wpAt_of_wpAny ?_)
  refine plainObj_wpAny_Assign_Attribute ?_ (hsw2 _)
  refine wpAny_Name (wpAny_loadName_local rfl fo.look F4.ns mV ?_) fo.n4
  refine wpAny_Name (wpAny_loadName_local rfl fo.self F4.ns mS ?_)
  refine set_plain (X₀.keeps F4.keep) (ox := excO C t1) (od := none) ⟨hx4, rfl, rfl, trivial⟩ T.sa ?_
  refine exc_osa (X₀.keeps F4.keep) hx4 hcl (show refsVE (.ref C :: bm) = true from hbm) rfl T.noN (fun h5 tk5 dx k5 dn dne hx5 hn5 => ?_)
  refine wpAt_of_wpAny (wpAny_execs_nil (hq h5 tk5 dx t1 ⟨fun b o e => k5 b o (fun z => by rw [z, hnx] at e; cases e) (F4.keep b o e), hx5, ?_, dne, hn5⟩))
  exact Nat.le_trans (Nat.le_trans F4.above (Nat.le_of_lt F4.ns.lt)) dn
/-- the class called -/
theorem er_made (T : OwnErr prog K mg xn fld C fI) {mb : Str → Option Value} {v : Value} (X : K.In s.heap) (Gm : s.heap.Ns mainGlobals mg) (Gb : s.heap.Ns builtinsNs mb) (hmb : mb "super" = some (.type "super")) (hlim : s.heap.NoLimit) (hroom : A.depth + 1 < recursionLimit)
    (hq : ∀ h' tk e d, ErMade s.heap h' e C d fld v → R (.ok (.ret (.ref e))) { s with heap := h', toks := tk }) :
    codeAny (model prog w) A (.call (.ref C) ⟨[v], []⟩) R s := by
  obtain ⟨nm, q, N, bs, bm, sn, sub, ab, col, dd, k0, k1, k2, k3, k5, hC, hbm⟩ := T.cls
  obtain ⟨hp, g, dr, tk, os⟩ := s
  have k : ∀ b o, hp.get? b = some o → ((hp.push (kdv_tup [v])).push (excO C hp.objs.size)).get? b = some o := fun b o e => Heap.get?_push_of_some _ (Heap.get?_push_of_some _ e)
  have hget : ((hp.push (kdv_tup [v])).push (excO C hp.objs.size)).get? (hp.objs.size + 1) = some (excO C hp.objs.size) := by heap_get
  have hnone : hp.get? (hp.objs.size + 1) = none := by
    cases e : hp.get? (hp.objs.size + 1) with
    | none => rfl
    | some o => exact absurd (Nat.lt_of_succ_lt (Heap.lt_size e)) (Nat.lt_irrefl _)
  have hs2 : hp.objs.size ≤ ((hp.push (kdv_tup [v])).push (excO C hp.objs.size)).objs.size := by
    rw [Heap.size_push, Heap.size_push]
    omega
  refine call_own PySem.F.excBase_ValueError (fun Y => refsVE_contains Y bm hbm) (X _ _ hC) (looks_findIn X T.iC) (fun self => bind_fn X self T.tC) (by show 1 ≤ sizeLine; rw [sizeLine_eq]; decide) ?_
  refine er_init (s := ⟨(hp.push (kdv_tup [v])).push (excO C hp.objs.size), g, dr, tk, os⟩) T X Gm Gb hmb k hs2 (hlim.keeps k) hget hnone hroom fun h' tk' dx t1 ⟨k', hx, dn, dne, hns⟩ => ?_
  exact ⟨rfl, hq h' tk' (hp.objs.size + 1) dx ⟨k', Nat.le_succ _, ⟨_, _, hx, rfl, rfl, rfl, rfl⟩, dn, dne, hns⟩⟩
end
end DL
namespace DL
open PySem L2 PySem.Spec PyProof.Rows
theorem er_rel {v : V} {v' : Value} {fld : Str} (r : RelV v v') (f : Str) : RelO (List.lookup f [(fld, v)]) (if f = fld then some v' else none) := by
  by_cases hw : f = fld
  · subst hw
    rw [if_pos rfl, show List.lookup f [(f, v)] = some v by simp [List.lookup]]
    exact r
  · rw [if_neg hw]
    have qw : (f == fld) = false := by simpa using hw
    rw [show List.lookup f [(fld, v)] = none by simp [List.lookup, qw]]
    trivial
section
variable {X : Cx} {C fI : Addr} {xn fld : Str}
/-- E(e) -/
def tMkE (C : Addr) (fld : Str) (ta : TA) : L2.St → Hp → XK → Prop := fun σ H Q => ta σ H fun vs H1 => ∃ v, vs = [v] ∧ ∀ d, H1 d = none → Q (.ref C) (some d) (upd H1 d (.xd [(fld, v)]))
theorem pmk_e {a : Expr} {ta : TA} {p pos : Pos} {k : Nat} (T : OwnErr X.prog X.K X.mg xn fld C fI) (hr : Room k X.A) (ha : PA X [a] ta) (hg : Gl X xn) (hdb : (xn == ("__debug__" : Str)) = false)
    (he : starEach (a :: []) X.env = (false, eval a X.env) :: starEach [] X.env := by rfl) (hpl : (backTo pos (starEach [] X.env)).any (·.1) = false := by rfl) :
    PMk X (.Call (.Name xn p) [a] [] pos) (tMkE C fld ta) := by
  intro pins s σ H Q I h
  refine wpAny_Call_Name_kw (ld_glob I hg T.gC ?_ hdb)
  refine PySem.W.callWith_K (h₀ := X.base) I.ok.mod.kin T.kC (thn (ha.run pos pins s σ H _ I h) fun us s1 hh => ?_) he hpl
  obtain ⟨vs, H1, I1, r1, v, ev, q1⟩ := hh
  subst ev
  refine ⟨I1.kIn, ?_⟩
  cases r1 with
  | cons rv rn =>
    rename_i v' us'
    cases rn
    show wpAny _ _ (call (.ref C) [v']) _ _ _
    have hlim := I1.nolimit
    obtain ⟨mb, hb1, hb2⟩ := I1.mod.blt
    have Gm := I1.mod.glob.keeps I1.bk
    have Gb := hb1.keeps I1.bk
    have hsup : mb "super" = some (.type "super") := (hb2 "super" (by decide)).trans (by decide +kernel)
    obtain ⟨hp, g, dr, tk, os⟩ := s1
    refine wpAny_call (er_made T I1.kIn Gm Gb hsup hlim (by have := hr.dp; omega) fun h' tk' e d M => ?_)
    show MkP X pins σ Q (.ref e) ⟨h', g, dr, tk', os⟩
    obtain ⟨oe, fv, hoe, hc, hd, hdat, h1⟩ := M.obj
    have hns := M.ns
    obtain ⟨G', g1, g2⟩ := restrict h' fun b => decide (b ≠ e)
    have gk : ∀ b, b ≠ e → G'.get? b = h'.get? b := fun b hb => g1 b (decide_eq_true hb)
    have ge : G'.get? e = none := g2 e (by simp)
    have old : ∀ b o, hp.get? b = some o → G'.get? b = some o := fun b o q => (gk b (Nat.ne_of_lt (Nat.lt_of_lt_of_le (Heap.lt_size q) M.new))).trans (M.keep b o q)
    have ob : ObjOk X.prog X.w (upd H1 d (.xd [(fld, v)])) G' d (.xd [(fld, v)]) :=
      ⟨_, hns.at (fun o q => (gk d M.dne).trans q), fun f => er_rel rv f⟩
    have J : Inv X pins σ (upd H1 d (.xd [(fld, v)])) ⟨G', g, dr, tk', os⟩ := I1.laid (t' := tk') old M.dbig ob
    refine ⟨e, oe, fv, ⟨G', g, dr, tk', os⟩, _, .ref C, some d, rfl, J, fun b o q => ?_, ge, hoe, ⟨hc, hd⟩, hdat, h1, ?_, rfl, I1.bare, raises_own T.exC T.tyC, q1 d (I1.hok.fresh M.dbig)⟩
    · by_cases hb : b = e
      · have q' : G'.get? b = some o := q
        rw [hb, ge] at q'; cases q'
      · exact (gk b hb).symm.trans q
    · rw [upd_ne (Ne.symm M.dne)]
      exact I1.hok.fresh M.new
def tRaiseE (C : Addr) (fld : Str) (W : WX) (ta : TA) : TS := fun _ σ H => tMkE C fld ta σ H fun cls d H' => W cls d σ H'
theorem ps_raiseE {a : Expr} {ta : TA} {W : WX} {p pos pos2 : Pos} {k : Nat} (hc : X.calm = true) (T : OwnErr X.prog X.K X.mg xn fld C fI) (hr : Room k X.A) (tk : Takes X W) (ha : PA X [a] ta) (hg : Gl X xn) (hdb : (xn == ("__debug__" : Str)) = false)
    (he : starEach (a :: []) X.env = (false, eval a X.env) :: starEach [] X.env := by rfl) (hpl : (backTo pos (starEach [] X.env)).any (·.1) = false := by rfl) :
    PS X (.Raise (some (.Call (.Name xn p) [a] [] pos)) none pos2) (tRaiseE C fld W ta) := ps_raise hc tk (pmk_e T hr ha hg hdb he hpl)
/-- e.f, e the exception that the suite holds (at a; its class cls, its dict d) -/
def tByE (C : Addr) (fld : Str) (a : Addr) (cls : Value) (d : Option Addr) (te : TE) : TE := fun σ H Q => te σ H fun x H1 => x = .ref a ∧ cls = .ref C ∧ ∃ (dd : Addr) (v : V), d = some dd ∧ H1 dd = some (.xd [(fld, v)]) ∧ Q v H1
theorem pe_byE {a : Addr} {oe : Obj} {cls : Value} {d : Option Addr} {pn : List (Addr × Obj)} {e : Expr} {te : TE} {pos : Pos} (T : OwnErr X.prog X.K X.mg xn fld C fI) (hz : Zc cls d oe) (hf : ∃ vs, oe.data = .fields vs) (he : PE (X.suite a ((a, oe) :: pn)) e te)
    (hb : attributeBase e fld X.env (eval e X.env) = eval e X.env := by rfl) :
    PE (X.suite a ((a, oe) :: pn)) (.Attribute e fld pos) (tByE C fld a cls d te) := by
  refine ⟨fun pins s σ H Q I h => ?_⟩
  refine attr_of hb (thn (he.run pins s σ H _ I h) fun u s1 hh => ?_)
  obtain ⟨x, H1, I1, rx, ex, ec, dd, v, ed, ea, q⟩ := hh
  subst ex
  obtain rfl : u = Value.ref a := rx
  subst ec
  subst ed
  obtain ⟨ha, _⟩ := I1.pin (a, oe) (List.mem_append_left _ List.mem_cons_self)
  obtain ⟨vs, hd⟩ := hf
  have hx : ObjOk X.prog X.w H1 s1.heap dd (.xd [(fld, v)]) := I1.hok dd _ ea
  obtain ⟨mA, hns, hr⟩ := hx
  obtain ⟨od, ho, hl⟩ := lookIn_ns hns
  have l : List.lookup fld [(fld, v)] = some v := by simp [List.lookup]
  obtain ⟨u, hu, ru⟩ := RelO.some_of (v := v) (o := mA fld) (by rw [← l]; exact hr fld)
  have J : PySem.W.InstAt s1.heap a oe C (some od) := ⟨ha, hz.1, by unfold PySem.W.notCls; rw [hd] <;> rfl, by rw [hz.2]; exact ho⟩
  exact HandSPX.exc_get I1.kIn J T.ga T.gg T.exC (PySem.W.findObj_own T.hdC T.noN rfl (by rw [hl, hu])) (handed_of ru) ⟨v, H1, I1.tok _, ru, q⟩
end
end DL
namespace DL
open PySem L2
section
variable {X : Cx} {Y : Yc} {W : WX} {e : Expr} {es : List Expr} {me : ME} {pos p : Pos} {C fI : Addr} {xn fld : Str}
/-! ### raise E(e) -/
def mRaise (cn fld : Str) (m : ME) : MS := fun st _ PX => m st (fun d s1 => PX ⟨cn, [(fld, d)]⟩ s1) PX
theorem ds_raise {pos2 : Pos} {k : Nat} (hc : X.calm = true) (T : OwnErr X.prog X.K X.mg xn fld C fI) (hmg : Y.mg = X.mg) (hr : Room k X.A) (tk : Takes X W) (he : DE X Y W e me) (hg : Gl X xn) (hdb : (xn == ("__debug__" : Str)) = false := by decide)
    (hse : starEach (e :: []) X.env = (false, eval e X.env) :: starEach [] X.env := by rfl) (hpl : (backTo pos (starEach [] X.env)).any (·.1) = false := by rfl) : DS X Y W (.Raise (some (.Call (.Name xn p) [e] [] pos)) none pos2) (mRaise xn fld me) :=
  psImp (ps_raiseE hc T hr tk (pa_cons he pa_nil hse) hg hdb hse hpl) fun D σ H ⟨G, st, E, PX, rr, hm, xp, k⟩ => ⟨G, st, _, PX, rr, hm, xp, fun d s1 v G1 H1 h1 g1 f1 r1 q1 => ⟨v, rfl, fun dd hdd => by
    obtain ⟨n1, n2, n3⟩ := r1.h.fresh hdd
    exact xp ⟨xn, [(fld, d)]⟩ s1 _ _ σ G1 _ h1 g1 (f1.trans (.add hdd)) ⟨r1.h.add hdd _, r1.s⟩ ⟨⟨C, by rw [hmg]; exact T.gC, rfl⟩, .inr ⟨dd, _, rfl, upd_same, .cons fld q1 .nil, n1, n2, n3⟩⟩⟩⟩
/-! ### try: body, except E as x: suite -/
def muSet (mu : Mu) (a : Addr) (m : Option MO) : Mu := fun b => if b = a then m else mu b
theorem muSet_ne {mu : Mu} {a b : Addr} {m : Option MO} (h : b ≠ a) : muSet mu a m b = mu b := if_neg h
theorem muSet_same {mu : Mu} {a : Addr} {m : Option MO} : muSet mu a m a = m := if_pos rfl
theorem muSet_undo {mu : Mu} {dd : Addr} {m : Option MO} (h : mu dd = none) : muSet (muSet mu dd m) dd none = mu := by
  funext b
  by_cases hb : b = dd
  · rw [hb, muSet_same, h]
  · rw [muSet_ne hb, muSet_ne hb]
/-- the state as the suite finds it: x names the exception at a, its dict stands at dd -/
def S.caught (st : S) (i : Nat) (a dd : Addr) (fs : List (Str × D)) : S := { st with r := st.r.set i (some (.ref a)), mu := muSet st.mu dd (some (.xd fs)) }
/-- .. and as it is left -/
def S.left (st : S) (i : Nat) (dd : Addr) : S := { st with r := st.r.set i none, mu := muSet st.mu dd none }
def mTryAs (i : Nat) (cn : Str) (body : MS) (suite : Addr → Addr → MS) : MS := fun st E PX => body st E fun x s1 => x.cls = cn ∧ x.fs ≠ [] ∧ ∀ a dd, s1.mu dd = none → suite a dd (s1.caught i a dd x.fs) { nx := fun s => E.nx (s.left i dd), rt := fun d s => E.rt d { s with mu := muSet s.mu dd none }, bk := fun s => E.bk (s.left i dd), ct := fun s => E.ct (s.left i dd) } PX0
theorem R0.hold {G : Hp} {mu : Mu} {c : Nat} {H : Hp} (h : R0 Y G mu c H) {dd : Addr} {fs : List (Str × D)} {vs : List (Str × V)} (hd : H dd = some (.xd vs)) (q : RepF Y G fs vs) (hG : G dd = none) (hp : dd ≠ Y.p) : R0 Y G (muSet mu dd (some (.xd fs))) c H := by
  obtain ⟨a, b⟩ := h.ext.off (q := dd) (fun o z => by rw [hd] at z; cases z; exact plain_xd)
  refine ⟨h.sub, fun x m e => ?_, ?_, ⟨h.ext.tab, fun p hp => ⟨(h.ext.tabO p hp).1, by rw [muSet_ne (a p hp)]; exact (h.ext.tabO p hp).2⟩, fun p hp => ⟨(h.ext.raw p hp).1, (h.ext.raw p hp).2.1, by rw [muSet_ne (b p hp)]; exact (h.ext.raw p hp).2.2⟩, h.ext.pl, h.ext.lo⟩⟩
  · by_cases hx : x = dd
    · subst hx
      rw [muSet_same] at e
      cases e
      exact ⟨hG, _, hd, .xd q⟩
    · rw [muSet_ne hx] at e
      exact h.mus x m e
  · obtain ⟨o, h1, h2, h3, h4⟩ := h.pen
    exact ⟨o, h1, h2, h3, by rw [muSet_ne (Ne.symm hp)]; exact h4⟩
theorem R0.drop {G : Hp} {mu : Mu} {c : Nat} {H : Hp} (h : R0 Y G mu c H) (dd : Addr) : R0 Y G (muSet mu dd none) c H := by
  have n : ∀ a, mu a = none → muSet mu dd none a = none := fun a e => by
    by_cases hx : a = dd
    · rw [hx]; exact muSet_same
    · rw [muSet_ne hx]; exact e
  refine ⟨h.sub, fun x m e => ?_, ?_, ⟨h.ext.tab, fun p hp => ⟨(h.ext.tabO p hp).1, n _ (h.ext.tabO p hp).2⟩, fun p hp => ⟨(h.ext.raw p hp).1, (h.ext.raw p hp).2.1, n _ (h.ext.raw p hp).2.2⟩, h.ext.pl, h.ext.lo⟩⟩
  · by_cases hx : x = dd
    · rw [hx, muSet_same] at e; cases e
    · rw [muSet_ne hx] at e
      exact h.mus x m e
  · obtain ⟨o, h1, h2, h3, h4⟩ := h.pen
    exact ⟨o, h1, h2, h3, n _ h4⟩
theorem frm_through {G G1 G2 : Hp} {mu mu1 mu2 : Mu} {H H1 H2 : Hp} {dd : Addr} {m : Option MO} {vs : List (Str × V)} (f : Frm Y G mu H G1 mu1 H1) (hd : H1 dd = some (.xd vs)) (g : Frm Y G1 (muSet mu1 dd m) H1 G2 mu2 H2) : Frm Y G mu H G2 (muSet mu2 dd none) H2 := fun a o h1 h2 h3 h4 => by
  obtain ⟨e1, e2, e3⟩ := f a o h1 h2 h3 h4
  have n : a ≠ dd := fun z => by
    rw [z, hd] at e1
    cases e1
    exact h4.2.2 _ rfl
  obtain ⟨k1, k2, k3⟩ := g a o e1 e2 (by rw [muSet_ne n]; exact e3) h4
  exact ⟨k1, k2, by rw [muSet_ne n]; exact k3⟩
theorem ds_tryAs {n : Str} {i : Nat} {body suite : List Stmt} {b0 : Stmt} {np pos' : Pos} {mb : MS} {ms : Addr → Addr → MS} (hs : X.stack = X.env :: X.outer) (hf : X.env.frame = some X.env.locals) (T : OwnErr X.prog X.K X.mg xn fld C fI) (hmg : Y.mg = X.mg)
    (hN : X.N.Nodup) (hi : X.N[i]? = some n) (hln : X.env.kindOf n = some .local) (hg : Gl X xn)
    (hb : ∀ (W : WX) (pn : List (Addr × Obj)) (xe : Value → Shared → Prop), Takes (X.tr pn xe) W → PassesOwn (model X.prog X.w) X.A X.env xe → DSs (X.tr pn xe) Y W body mb)
    (hsu : ∀ (a : Addr) (oe : Obj) (dd : Addr) (pn : List (Addr × Obj)), Zc (.ref C) (some dd) oe → (∃ vs, oe.data = .fields vs) → DSs (X.suite a ((a, oe) :: pn)) Y W0 (b0 :: suite) (ms a dd)) (hdb : (xn == ("__debug__" : Str)) = false := by decide) :
    DS X Y W (.Try body [.ExceptHandler (some (.Name xn np)) (some n) (b0 :: suite) pos'] [] [] pos) (mTryAs i xn mb ms) := by
  refine psImp (ps_try_as (c := .ref C) (tb := fun W => TSof Y W mb) (ts := fun a cls d D σ H => ∃ dd, d = some dd ∧ cls = .ref C ∧ TSof Y W0 (ms a dd) D σ H) (Wout := fun _ _ _ _ => False) hs hf hN hi hln ⟨hg, hdb, .inl T.gC⟩ takes0 hb (fun a oe cls d pn hz hd => ?_)) fun D σ H ⟨G, st, E, PX, rr, hm, xp, k⟩ => ?_
  · refine ⟨fun pins s σ H D I ⟨dd, e1, e2, q⟩ => ?_⟩
    subst e1
    subst e2
    exact (hsu a oe dd pn hz hd).run pins s σ H D I q
  · refine ⟨G, st, E, _, rr, hm, fun x st' cls d σ' G' H' ⟨ecn, hne, hx⟩ g1 f1 r1 ⟨⟨C', e1, e2⟩, h3⟩ => ?_, k⟩
    subst e2
    have eC : C' = C := by
      rw [hmg, ecn, T.gC] at e1
      cases e1
      rfl
    subst eC
    refine ⟨true, T.te, fun _ a na => ?_, fun z => by cases z⟩
    rcases h3 with ⟨e4, e5⟩ | ⟨dd, vs, e4, e5, e6, e7, e8, e9⟩
    · exact absurd e4 hne
    · refine ⟨dd, e4, rfl, G', st'.caught i a dd x.fs, _, PX0, ⟨r1.h.hold e5 e6 e7 e9, r1.s.set i (.ref a)⟩, hx a dd e8, fun _ _ _ _ _ _ _ z => z.elim, ⟨fun s5 σ5 G5 H5 h5 g5 f5 r5 => ?_, fun d5 s5 v5 σ5 G5 H5 h5 g5 f5 r5 q5 => ?_, fun s5 σ5 G5 H5 h5 g5 f5 r5 => ?_, fun s5 σ5 G5 H5 h5 g5 f5 r5 => ?_⟩⟩
      · exact k.nx _ _ G5 H5 h5 (g1.trans g5) (frm_through f1 e5 f5) ⟨r5.h.drop dd, r5.s.none i⟩
      · exact k.rt _ _ v5 σ5 G5 H5 h5 (g1.trans g5) (frm_through f1 e5 f5) ⟨r5.h.drop dd, r5.s⟩ q5
      · exact k.bk _ _ G5 H5 h5 (g1.trans g5) (frm_through f1 e5 f5) ⟨r5.h.drop dd, r5.s.none i⟩
      · exact k.ct _ _ G5 H5 h5 (g1.trans g5) (frm_through f1 e5 f5) ⟨r5.h.drop dd, r5.s.none i⟩
/-- x.f, x the exception that the suite holds -/
def mBy (fld : Str) (dd : Addr) (m : ME) (a : Addr) : ME := fun st P PX => m st (fun d s1 => d = .ref a ∧ ∃ v, s1.mu dd = some (.xd [(fld, v)]) ∧ P v s1) PX
theorem de_by {a dd : Addr} {oe : Obj} {pn : List (Addr × Obj)} (T : OwnErr X.prog X.K X.mg xn fld C fI) (hz : Zc (.ref C) (some dd) oe) (hf : ∃ vs, oe.data = .fields vs) (he : DE (X.suite a ((a, oe) :: pn)) Y W e me) (hb : attributeBase e fld X.env (eval e X.env) = eval e X.env := by rfl) :
    DE (X.suite a ((a, oe) :: pn)) Y W (.Attribute e fld pos) (mBy fld dd me a) :=
  peImp (pe_byE T hz hf he hb) fun σ H Q ⟨G, st, P, PX, rr, hm, xp, k⟩ => ⟨G, st, _, PX, rr, hm, xp, fun d s1 v G1 H1 ⟨ed, w, hw, hp⟩ g1 f1 r1 q1 => by
    subst ed
    cases q1
    obtain ⟨_, o, ho, rm⟩ := r1.h.mus dd _ hw
    cases rm with
    | xd q =>
      cases q with
      | cons kk qw qn =>
        cases qn
        exact ⟨rfl, rfl, dd, _, rfl, ho, k w s1 _ G1 H1 hp g1 f1 r1 qw⟩⟩
end
end DL
namespace DL
open PySem L2 LamX PySem.Spec PyProof.Rows
/-! ### a lambda without parameters, handed to a def that calls it -/
abbrev Beh := Mu → Nat → (D → Mu → Nat → Prop) → (Ex → Mu → Nat → Prop) → Prop
abbrev LSp := Beh → Mu → Nat → (D → Mu → Nat → Prop) → (Ex → Mu → Nat → Prop) → Prop
def mAct (i : Nat) (f : Addr) (B : Beh) : ME := fun st P PX => st.r[i]? = some (some (.ref f)) ∧ B st.mu st.c (fun d mu c => P d { st with mu := mu, c := c }) (fun x mu c => PX x { st with mu := mu, c := c })
/-- what a call does may be told with less -/
def BMono (B : Beh) : Prop := ∀ mu c (P P' : D → Mu → Nat → Prop) (PX PX' : Ex → Mu → Nat → Prop), B mu c P PX → (∀ d mu c, P d mu c → P' d mu c) → (∀ x mu c, PX x mu c → PX' x mu c) → B mu c P' PX'
def mClo (m : ME) : ME := fun st P PX => ∃ (P0 : D → S → Prop) (PX0 : PXT), m st P0 PX0 ∧ (∀ d s, P0 d s → P d s) ∧ ∀ x s, PX0 x s → PX x s
theorem de_clo {X : Cx} {Y : Yc} {W : WX} {e : Expr} {m : ME} (h : DE X Y W e m) : DE X Y W e (mClo m) :=
  peImp h fun σ H Q ⟨G, st, P, PX, rr, ⟨P0, PX0, hm, h1, h2⟩, xp, k⟩ => ⟨G, st, P0, PX0, rr, hm, fun x st' cls d σ' G' H' z => xp x st' cls d σ' G' H' (h2 _ _ z), fun d st' v G' H' z => k d st' v G' H' (h1 _ _ z)⟩
def mLam (lsp : LSp) (m : ME) : ME := fun st P PX => lsp (fun mu c P1 PX1 => mClo m { st with mu := mu, c := c } (fun d s => P1 d s.mu s.c) (fun x s => PX1 x s.mu s.c)) st.mu st.c (fun d mu c => P d { st with mu := mu, c := c }) (fun x mu c => PX x { st with mu := mu, c := c })
/-! the same things where fewer code objects are known -/
section
variable {Y Y' : Yc} {G : Hp}
mutual
theorem Rep.conv (hK : Y.K = Y'.K) (hp : Y.p = Y'.p) : ∀ {d : D} {v : V}, Rep Y G d v → Rep Y' G d v
  | _, _, .non => .non
  | _, _, .bl b => .bl b
  | _, _, .int i => .int i
  | _, _, .str x => .str x
  | _, _, .pen => by rw [hp]; exact .pen
  | _, _, .ref a => .ref a
  | _, _, .tup h r => .tup (hK ▸ h) (Reps.conv hK hp r)
  | _, _, .lst h r => .lst h (Reps.conv hK hp r)
  | _, _, .dct h r => .dct h (Repk.conv hK hp r)
theorem Reps.conv (hK : Y.K = Y'.K) (hp : Y.p = Y'.p) : ∀ {d : List D} {v : List V}, Reps Y G d v → Reps Y' G d v
  | _, _, .nil => .nil
  | _, _, .cons h r => .cons (Rep.conv hK hp h) (Reps.conv hK hp r)
theorem Repk.conv (hK : Y.K = Y'.K) (hp : Y.p = Y'.p) : ∀ {d : List (Key × D)} {v : List (Key × V)}, Repk Y G d v → Repk Y' G d v
  | _, _, .nil => .nil
  | _, _, .cons k h r => .cons k (Rep.conv hK hp h) (Repk.conv hK hp r)
end
theorem RepF.conv (hK : Y.K = Y'.K) (hp : Y.p = Y'.p) {d : List (Str × D)} {v : List (Str × V)} (h : RepF Y G d v) : RepF Y' G d v := by
  induction h with
  | nil => exact .nil
  | cons k h _ ih => exact .cons k (h.conv hK hp) ih
theorem RM.conv (hK : Y.K = Y'.K) (hp : Y.p = Y'.p) (hm : Y.mg = Y'.mg) {m : MO} {o : HO} (h : RM Y G m o) : RM Y' G m o := by
  cases h with
  | lst h => exact .lst (h.conv hK hp)
  | dct h => exact .dct (h.conv hK hp)
  | ins e h => exact .ins (by rw [← hm]; exact e) (h.conv hK hp)
  | xd h => exact .xd (h.conv hK hp)
theorem Sl.conv (hK : Y.K = Y'.K) (hp : Y.p = Y'.p) {r : List (Option D)} {σ : L2.St} (h : Sl Y G r σ) : Sl Y' G r σ := ⟨h.1, fun i d e => let ⟨v, e1, q⟩ := h.2 i d e; ⟨v, e1, q.conv hK hp⟩⟩
end
section
variable {K : PySem.W.Frag} {mg : Str → Option Value} {T : List (Addr × Str)} {q : Qp} {G : Hp} {mu : Mu} {c : Nat} {H : Hp}
def Qp.add (q : Qp) (a : Addr) (n : Str) (G1 : Hp) : Qp := { q with raw := (a, n) :: q.raw, G0 := G1 }
theorem R0.less {a : Addr} {n : Str} {G1 : Hp} (h : R0 (Yp K mg T (q.add a n G1)) G mu c H) (lo : Same q.G0 G1) : R0 (Yp K mg T q) G mu c H :=
  ⟨h.sub, fun x m e => let ⟨h1, o, h2, h3⟩ := h.mus x m e; ⟨h1, o, h2, RM.conv (Y := Yp K mg T (q.add a n G1)) (Y' := Yp K mg T q) rfl rfl rfl h3⟩, h.pen, ⟨h.ext.tab, h.ext.tabO, fun p hp => h.ext.raw p (List.mem_cons_of_mem _ hp), h.ext.pl, lo.trans h.ext.lo⟩⟩
theorem R0.moreRaw {a : Addr} {n : Str} {G1 : Hp} (h : R0 (Yp K mg T q) G mu c H) (e : H a = some (CodeO a n)) (h1 : G a = none) (h2 : mu a = none) (lo : Same G1 G) : R0 (Yp K mg T (q.add a n G1)) G mu c H :=
  ⟨h.sub, fun x m e => let ⟨h1, o, h2, h3⟩ := h.mus x m e; ⟨h1, o, h2, RM.conv (Y := Yp K mg T q) (Y' := Yp K mg T (q.add a n G1)) rfl rfl rfl h3⟩, h.pen, ⟨h.ext.tab, h.ext.tabO, fun p hp => by
    rcases List.mem_cons.mp hp with z | z
    · rw [z]; exact ⟨e, h1, h2⟩
    · exact h.ext.raw p z, h.ext.pl, lo⟩⟩
theorem RepX.conv {Y Y' : Yc} {x : Ex} {cls : Value} {d : Option Addr} (hK : Y.K = Y'.K) (hp : Y.p = Y'.p) (hm : Y.mg = Y'.mg) (h : RepX Y G mu H x cls d) : RepX Y' G mu H x cls d := by
  obtain ⟨⟨C, e1, e2⟩, h⟩ := h
  refine ⟨⟨C, by rw [← hm]; exact e1, e2⟩, ?_⟩
  rcases h with h | ⟨dd, vs, h1, h2, h3, h4, h5, h6⟩
  · exact .inl h
  · exact .inr ⟨dd, vs, h1, h2, h3.conv hK hp, h4, h5, by rw [← hp]; exact h6⟩
theorem RepX.up {a : Addr} {n : Str} {G1 : Hp} {x : Ex} {cls : Value} {d : Option Addr} (h : RepX (Yp K mg T q) G mu H x cls d) : RepX (Yp K mg T (q.add a n G1)) G mu H x cls d := RepX.conv (Y := Yp K mg T q) (Y' := Yp K mg T (q.add a n G1)) rfl rfl rfl h
theorem RepX.dn {a : Addr} {n : Str} {G1 : Hp} {x : Ex} {cls : Value} {d : Option Addr} (h : RepX (Yp K mg T (q.add a n G1)) G mu H x cls d) : RepX (Yp K mg T q) G mu H x cls d := RepX.conv (Y' := Yp K mg T q) (Y := Yp K mg T (q.add a n G1)) rfl rfl rfl h
theorem Rep.up {a : Addr} {n : Str} {G1 : Hp} {d : D} {v : V} (h : Rep (Yp K mg T q) G d v) : Rep (Yp K mg T (q.add a n G1)) G d v := Rep.conv (Y := Yp K mg T q) (Y' := Yp K mg T (q.add a n G1)) rfl rfl h
theorem Rep.dn {a : Addr} {n : Str} {G1 : Hp} {d : D} {v : V} (h : Rep (Yp K mg T (q.add a n G1)) G d v) : Rep (Yp K mg T q) G d v := Rep.conv (Y' := Yp K mg T q) (Y := Yp K mg T (q.add a n G1)) rfl rfl h
theorem code_no {a : Addr} {n : Str} {o : HO} (h : o = CodeO a n) : (∀ ps, o ≠ .tbl ps) ∧ (∀ vs, o ≠ .xd vs) ∧ (∀ vs, o ≠ .lst vs) ∧ (∀ vs, o ≠ .dK vs) ∧ ∀ C d fs, o ≠ .ins C d fs := by
  subst h
  unfold CodeO
  exact ⟨fun _ z => (by cases z), fun _ z => (by cases z), fun _ z => (by cases z), fun _ z => (by cases z), fun _ _ _ z => (by cases z)⟩
theorem R0.codeOff {a : Addr} {n : Str} (h : R0 (Yp K mg T q) G mu c H) (e : H a = some (CodeO a n)) : G a = none ∧ mu a = none ∧ a ≠ q.p := by
  obtain ⟨c1, c2, c3, c4, c5⟩ := code_no (rfl : CodeO a n = CodeO a n)
  refine ⟨?_, ?_, fun z => ?_⟩
  · cases g : G a with
    | none => rfl
    | some o =>
      have e2 := h.sub a o g
      rw [e] at e2
      cases e2
      exact absurd rfl ((h.ext.pl a _ g).2 a n)
  · cases g : mu a with
    | none => rfl
    | some m =>
      obtain ⟨_, o, h2, h3⟩ := h.mus a m g
      rw [e] at h2
      have e3 : CodeO a n = o := Option.some.inj h2
      cases h3 with
      | lst _ => exact absurd e3 (c3 _)
      | dct _ => exact absurd e3 (c4 _)
      | ins _ _ => exact absurd e3 (c5 _ _ _)
      | xd _ => exact absurd e3 (c2 _)
  · obtain ⟨o, h1, ⟨ca, b, l, ns, h2, _⟩, _⟩ := h.pen
    have h1' : H q.p = some o := h1
    rw [← z, e, h2] at h1'
    exact c4 _ (Option.some.inj h1')
/-- the tables may have grown -/
theorem R0.extN {H1 : Hp} (h : R0 (Yp K mg T q) G mu c H) (e : ExtN H H1) (t : Tabs T H1) : R0 (Yp K mg T q) G mu c H1 := by
  refine ⟨fun a o g => e a o (h.sub a o g) (h.ext.pl a o g).1, fun x m g => ?_, ?_, ⟨t, h.ext.tabO, fun p hp => ⟨e _ _ (h.ext.raw p hp).1 (code_no rfl).1, (h.ext.raw p hp).2⟩, h.ext.pl, h.ext.lo⟩⟩
  · obtain ⟨h1, o, h2, h3⟩ := h.mus x m g
    refine ⟨h1, o, e _ _ h2 ?_, h3⟩
    cases h3 <;> exact fun _ z => by cases z
  · obtain ⟨o, h1, h2, h3⟩ := h.pen
    refine ⟨o, e _ _ h1 ?_, h2, h3⟩
    obtain ⟨ca, b, l, ns, h2, _⟩ := h2
    rw [h2]
    exact fun _ z => by cases z
theorem Frm.extN {H1 : Hp} (e : ExtN H H1) : Frm (Yp K mg T q) G mu H G mu H1 := fun a o h1 h2 h3 h4 => ⟨e a o h1 h4.2.1, h2, h3⟩
end
/-- x(), in the def that got the lambda -/
theorem pe_actA {X : Cx} {pins : List (Addr × Obj)} {σ : L2.St} {H : Hp} {s : Shared} {CXg : CXT} {Eg : XK} {Ng : List Str} {qg : Str} {sg : Scope} {g f c' : Addr} {cdg pm ctv : Value} {params : Arguments} {body : Expr} {scope : Scope} {k i : Nat} {a : Str} {pn : List (Addr × Obj)} {xe : Value → Shared → Prop} {W : WX} {tb : XK → TE} {p1 p2 : Pos}
    (I : Inv X pins σ H s) (L : LamS X.env.scope scope) (hf : s.heap.get? f = some (PySem.W.kla_obj "<lambda>" (X.env.qual ++ "<lambda>") params body scope (cloFrom X.env.cells scope.names []) pm c' ctv)) (hfn : H f = none) (hfr : f ∉ frs X.stack)
    (hbind : bindArgs (PySem.W.kla_fn "<lambda>" (X.env.qual ++ "<lambda>") params body scope (cloFrom X.env.cells scope.names []) pm (.ref c') ctv) ⟨[], []⟩ = pure [])
    (tk : Takes ((cxOf CXg X.prog X.w X.K X.mg X.base Ng qg sg g cdg X.A X.stack s H Eg).tr pn xe) W) (hr : Room (k + 1) (X.A.deeper (envOfC qg sg s.heap.objs.size g cdg)))
    (hbody : ∀ (A : Around) (outer : List Env) (s : Shared) (H : Hp) (E : XK), Room k (A.deeper (lamEnv X scope s.heap.objs.size f c')) → PE (lamCx X A outer s H E scope f c') body (tb E))
    (hN : Ng[i]? = some a) (hv : Vis sg a) (hd : (a == ("__debug__" : Str)) = false := by decide) (hcd : (a == ("__classdict__" : Str)) = false := by decide) :
    PE ((cxOf CXg X.prog X.w X.K X.mg X.base Ng qg sg g cdg X.A X.stack s H Eg).tr pn xe) (.Call (.Name a p1) [] [] p2)
      (fun σZ HZ Q => σZ[i]? = some (some (.ref f)) ∧ HZ c' = some (CodeO c' (X.env.qual ++ "<lambda>")) ∧ tb (WE W σZ) σ HZ Q) := by
  refine ⟨fun pinsZ sZ σZ HZ Q IZ ⟨hs, hc, ht⟩ => ?_⟩
  refine wpAny_Call_Name_kw (thn ((pe_var (pos := p1) (i := i) hN hv hd hcd).run pinsZ sZ σZ HZ (fun v H1 => v = .ref f ∧ H1 = HZ) IZ ⟨.ref f, hs, rfl, rfl⟩) fun u s1 ⟨v, H1, I1, r1, ev, eH⟩ => ?_)
  subst ev
  rw [eH] at I1
  obtain rfl : u = Value.ref f := r1
  have of1 : s1.heap.get? f = some (PySem.W.kla_obj "<lambda>" (X.env.qual ++ "<lambda>") params body scope (cloFrom X.env.cells scope.names []) pm c' ctv) := I1.base.keep f _ hf hfn hfr (fun z => nomatch (show f ∈ ([] : List Addr) from z))
  refine PySem.W.callWith_F0 ⟨_, _, _, _, of1⟩ ?_
  have un : Un (frs X.stack) [] H HZ s.heap s1.heap := I1.base
  obtain ⟨⟨oc, vs, t, hoc, hdc, hvc⟩, _, _⟩ := I1.hok c' _ hc
  have rc : codeAny (model X.prog X.w) (X.A.deeper (envOfC qg sg s.heap.objs.size g cdg)) (.call (.ref f) ⟨[], []⟩) (CR (L2.CX X.prog X.w) (envOfC qg sg s.heap.objs.size g cdg :: X.stack) X.prog X.w HZ s1 Q (WE W σZ)) s1 := by
    refine PySem.W.kla_callFunE hr.depth of1 rfl L.co L.gen rfl ⟨c', oc, vs, t, rfl, hoc, hdc, hvc⟩ ?_
    rw [hbind]
    refine wpAny_pure (wpAny_newFunctionEnv (fun y hy => (L.own y hy).2) (fun y hy => absurd hy (by simp)) (fun h₁ hns hsb => ⟨I1.nolimit.fresh _ hsb, ?_⟩) L.kind)
    show codeAny _ _ (.expr body (lamEnv X scope s1.heap.objs.size f c')) _ _
    have kp : ∀ b o, s1.heap.get? b = some o → h₁.get? b = some o := fun b o e => hsb.extBut b o (Nat.ne_of_lt (Heap.lt_size e)) (Heap.get?_push_of_some _ e)
    have J : Inv (lamCx X (X.A.deeper (envOfC qg sg s.heap.objs.size g cdg)) (envOfC qg sg s.heap.objs.size g cdg :: X.stack) s1 HZ (WE W σZ) scope f c') [] σ HZ { s1 with heap := h₁, toks := s1.toks + ([] : List (Str × Value)).length } :=
      lam_start2 I L I1.env0 hr.hd un hns kp
    refine PySem.W.kla_codeExpr (wpAny_mono ((hbody _ _ s1 HZ _ (hr.deeper _)).run [] _ _ HZ Q J ht) (fun v s' ⟨w', H', J', rv, q⟩ => ?_) fun e s' hq => hq)
    exact ⟨w', H', J'.os, J'.bare, J'.base, J'.hok, rv, q⟩
  have hx := passAt tk σZ
  refine wpAny_call (codeAny_mono rc fun r s' hq => ?_)
  cases r with
  | error e => exact hx pinsZ HZ s1 e s' I1 hq
  | ok fl =>
    cases fl with
    | ret u => exact I1.after hq
    | next => exact False.elim hq
    | brk => exact False.elim hq
    | cont => exact False.elim hq
/-- a def g with the parameter a that calls what it gets: its body over data, whatever the call does; what that means -/
structure LamFn (P : Program) (w : World) (K : PySem.W.Frag) (mg : Str → Option Value) (T : List (Addr × Str)) (base : Heap) (k : Nat) (x a : Str) (lsp : LSp) : Prop where
  ex : ∃ (g : Addr) (pg : Arguments) (bg : List Stmt) (sg : Scope) (doc pm cdv ct oc kV : Value) (an od : Option Addr) (osl : Array (Option Value)) (Ng : List Str) (mb : ME → MS), mg x = some (.ref g) ∧ PySem.W.keepIn K (.ref g) = true ∧
    K.lookup g = some ⟨oc, od, .func (PySem.W.fnOf x x pg bg sg .none kV doc pm an cdv ct), osl⟩ ∧ PySem.W.codeIn K cdv x = true ∧ L2.Binds K (PySem.W.fnOf x x pg bg sg .none kV doc pm an cdv ct) [a] [] ∧ FnScope Ng [a] sg ∧ Ng[0]? = some a ∧ Vis sg a ∧ (a == ("__debug__" : Str)) = false ∧ (a == ("__classdict__" : Str)) = false ∧
    (∀ (Z : Cx) (q : Qp) (W : WX) (act : ME), (∃ A outer s H E, Z = cxOf (L2.CX P w) P w K mg base Ng x sg g cdv A outer s H E) → Takes Z W → Room k Z.A → PassesOwn (model Z.prog Z.w) Z.A Z.env Z.xe →
      (∀ (W' : WX) (pn : List (Addr × Obj)) (xe : Value → Shared → Prop) (p1 p2 : Pos), Takes (Z.tr pn xe) W' → DE (Z.tr pn xe) (Yp K mg T q) W' (.Call (.Name a p1) [] [] p2) act) → DSs Z (Yp K mg T q) W bg (mb act)) ∧
    ∀ (f : Addr) (B : Beh) (_ : BMono B) (mu : Mu) (c : Nat) (P1 : D → Mu → Nat → Prop) (PX : Ex → Mu → Nat → Prop), lsp B mu c P1 PX → mb (mAct 0 f B) (S0 Ng [a] [.ref f] mu c) (EF P1) (XF PX)
section
variable {X : Cx} {T : List (Addr × Str)} {q : Qp} {W : WX} {lsp : LSp} {x a : Str} {c P : Addr} {k : Nat} {params : Arguments} {body : Expr} {scope : Scope} {mb : ME} {p lpos pos : Pos}
/-- x(lambda: body) -/
theorem de_lam (F : LamFn X.prog X.w X.K X.mg T X.base (k + 1) x a lsp) (tk : Takes X W) (hg : Gl X x) (TB : TabB X.base X.mg c P) (hcode : X.env.code = .ref c) (hmT : (P, X.env.qual ++ "<lambda>") ∈ T) (hu : ∀ p ∈ T, p.1 = P → p.2 = X.env.qual ++ "<lambda>")
    (hr : Room (k + 2) X.A) (L : LamS X.env.scope scope) (hdef : defaultsOf params X.env = ([], []))
    (hbind : ∀ (q : Str) (cl : List (Str × Addr)) (pm cv ctv : Value), bindArgs (PySem.W.kla_fn "<lambda>" q params body scope cl pm cv ctv) ⟨[], []⟩ = pure [])
    (hbody : ∀ (A : Around) (outer : List Env) (s : Shared) (H : Hp) (E : XK) (f c' : Addr), Room k (A.deeper (lamEnv X scope s.heap.objs.size f c')) → Takes (lamCx X A outer s H E scope f c') (fun cls d _ H => E cls d H) →
      DE (lamCx X A outer s H E scope f c') (Yp X.K X.mg T q) (fun cls d _ H => E cls d H) body mb)
    (hdb : (x == ("__debug__" : Str)) = false := by decide) : DE X (Yp X.K X.mg T q) W (.Call (.Name x p) [.Lambda params body scope lpos] [] pos) (mLam lsp mb) := by
  obtain ⟨g, pg, bg, sg, doc, pm, cdv, ct, oc, kV, an, od, osl, Ng, mf, hm, hk, lk, hcg, hb, Sg, hNg, hva, hd, hcd, hder, hrd⟩ := F.ex
  refine ⟨fun pins s σ H Q I ⟨G, st, P1, PX, rr, hmb, xp, kq⟩ => ?_⟩
  refine wpAny_Call_Name_kw (ld_glob I hg hm ?_ hdb)
  refine PySem.W.callWith_K (h₀ := X.base) I.ok.mod.kin hk ?_ (by rfl) (by rfl)
  show wpAny _ _ (spliced ((false, eval (.Lambda params body scope lpos) X.env) :: backTo pos (starEach [] X.env))) _ _ s
  refine Calls.spliced_cons (lam_make2 I TB hcode hmT hu rr.h.ext.tab hdef (L.has I.ok) fun f c' pm' ctv H1 s' I1 eN T1 hf hfn hfr hco => ?_)
  refine Calls.spliced_nil ⟨I1.kIn, ?_⟩
  have r1 := rr.h.extN eN T1
  obtain ⟨n1, n2, n3⟩ := r1.codeOff hco
  have r2 := r1.moreRaw (G1 := G) hco n1 n2 (Same.refl G)
  have lo0 : Same q.G0 G := rr.h.ext.lo
  have frC : frmO (CodeO c' (X.env.qual ++ "<lambda>")) := ⟨(code_no rfl).1, (code_no rfl).2.1⟩
  have rc : codeAny (model X.prog X.w) X.A (.call (.ref g) ⟨[.ref f], []⟩) (CR (L2.CX X.prog X.w) X.stack X.prog X.w H1 s' Q (WE W σ)) s' := by
    refine run_ofS (N := Ng) (ps := [a]) (us := [.ref f]) (vs := [.ref f]) lk hcg Sg hr I1.env0 (hb s' [.ref f] I1.kIn rfl) (.cons rfl .nil) rfl fun hr' => ?_
    let B : Beh := fun mu c P1 PX1 => mClo mb { st with mu := mu, c := c } (fun d s => P1 d s.mu s.c) (fun x s => PX1 x s.mu s.c)
    have hBM : BMono B := fun mu c P P' PX PX' ⟨P0, PX0, h0, h1, h2⟩ k1 k2 => ⟨P0, PX0, h0, fun d s z => k1 _ _ _ (h1 d s z), fun x s z => k2 _ _ _ (h2 x s z)⟩
    let Z := cxOf (L2.CX X.prog X.w) X.prog X.w X.K X.mg X.base Ng x sg g cdv X.A X.stack s' H1 (WE W σ)
    have hZ := hder Z (q.add c' (X.env.qual ++ "<lambda>") G) (fun cls d _ H => WE W σ cls d H) (mAct 0 f B) ⟨_, _, _, _, _, rfl⟩ (takes_of rfl rfl rfl rfl) hr' (passes_of rfl) fun W' pn xe p1 p2 tk' => by
      refine peImp (pe_actA (i := 0) (tb := fun E => TEof (Yp X.K X.mg T q) (fun cls d _ H => E cls d H) (mClo mb)) I1 L hf hfn hfr (hbind _ _ _ _ _) tk' hr' (fun A outer s H E hr2 => de_clo (hbody A outer s H E f c' hr2 (takes_of rfl rfl rfl rfl))) hNg hva hd hcd) fun σZ HZ QZ ⟨GZ, sZ, PZ, PXZ, rZ, ⟨hr0, hB⟩, xpZ, kZ⟩ => ?_
      obtain ⟨v0, e0, q0⟩ := rZ.s.2 0 _ hr0
      obtain ⟨hc1, hc2, hc3⟩ := rZ.h.ext.raw (c', X.env.qual ++ "<lambda>") List.mem_cons_self
      have lo1 : Same G GZ := rZ.h.ext.lo
      cases q0
      refine ⟨e0, hc1, GZ, { st with mu := sZ.mu, c := sZ.c }, _, _, ⟨rZ.h.less lo0, rr.s.mono lo1⟩, hB, fun x s5 cls d σ5 G5 H5 hx g5 f5 r5 rx => ?_, fun d s5 v G5 H5 hd g5 f5 r5 q5 => ?_⟩
      · obtain ⟨k1, k2, k3⟩ := f5 c' _ hc1 hc2 hc3 ⟨n3, frC⟩
        exact xpZ x { sZ with mu := s5.mu, c := s5.c } cls d σZ G5 H5 hx g5 f5 ⟨r5.h.moreRaw k1 k2 k3 (lo1.trans g5), rZ.s.mono g5⟩ rx.up
      · obtain ⟨k1, k2, k3⟩ := f5 c' _ hc1 hc2 hc3 ⟨n3, frC⟩
        exact kZ d { sZ with mu := s5.mu, c := s5.c } v G5 H5 hd g5 f5 ⟨r5.h.moreRaw k1 k2 k3 (lo1.trans g5), rZ.s.mono g5⟩ q5.up
    refine ⟨_, hZ, G, S0 Ng [a] [.ref f] st.mu st.c, _, _, ⟨r2, ?_⟩, hrd f B hBM st.mu st.c _ _ hmb, fun x s5 cls d σ5 G5 H5 ⟨c5, l5, hx⟩ g5 f5 r5 rx => ?_, ⟨fun s5 σ5 G5 H5 ⟨c5, l5, hP⟩ g5 f5 r5 => ?_, fun d s5 v σ5 G5 H5 ⟨c5, l5, hP⟩ g5 f5 r5 q5 => ?_, fun _ _ _ _ z => z.elim, fun _ _ _ _ z => z.elim⟩⟩
    · show Sl _ G _ (L2.start Ng [.ref f])
      exact Sl.start (.cons (.ref f) .nil) _
    · exact xp x { st with mu := s5.mu, c := c5 } cls d σ G5 H5 hx g5 ((Frm.extN eN).trans f5) ⟨(r5.h.less lo0).more l5, rr.s.mono g5⟩ rx.dn
    · exact kq .non { st with mu := s5.mu, c := c5 } .non G5 H5 hP g5 ((Frm.extN eN).trans f5) ⟨(r5.h.less lo0).more l5, rr.s.mono g5⟩ .non
    · exact kq d { st with mu := s5.mu, c := c5 } v G5 H5 hP g5 ((Frm.extN eN).trans f5) ⟨(r5.h.less lo0).more l5, rr.s.mono g5⟩ q5.dn
  have hx := passAt tk σ
  refine wpAny_call (codeAny_mono rc fun r s2 hq => ?_)
  cases r with
  | error e => exact hx pins H1 s' e s2 I1 hq
  | ok fl =>
    cases fl with
    | ret u => exact I1.after hq
    | next => exact False.elim hq
    | brk => exact False.elim hq
    | cont => exact False.elim hq
end
/-! ### a def whose code object is known (it makes lambdas) -/
section
variable {P : Program} {w : World} {K : PySem.W.Frag} {mg : Str → Option Value} {T : List (Addr × Str)} {base : Heap}
theorem okXc {x qual : Str} {st : Stmt} {f c : Addr} {fd : FuncData} {N ps : List Str} {k : Nat} {sp : Sp} (F : Fun K x qual st f fd) (hc : fd.code = .ref c) (S : FnScope N ps (defScope st)) (len : ∀ vs H Q E, sp vs H Q E → vs.length = ps.length)
    (hbody : ∀ (A : Around) (outer : List Env) (s : Shared) (H : Hp) (vs : List V) (Q : VK) (E : XK), Room k (A.deeper (envOfC qual (defScope st) s.heap.objs.size f (.ref c))) → sp vs H Q E →
      ∃ t, PSs (cxOf (L2.CX P w) P w K mg base N qual (defScope st) f (.ref c) A outer s H E) (defBody st) t ∧ t { nx := fun _ H' => Q .non H', rt := Q } (L2.start N vs) H) : FnOk P w K mg base (L2.CX P w) (k + 1) f fd ps sp := by
  obtain ⟨oc, od, kV, doc, pm, an, cdv, ct, osl, e, lk, hcd⟩ := F.ex
  subst e
  have e2 : cdv = .ref c := hc
  subst e2
  exact fn_of lk hcd S len fun A outer s H vs Q E hr hsp => hbody A outer s H vs Q E hr hsp
theorem fnDc {x : Str} {st : Stmt} {f c : Addr} {fd : FuncData} {N ps : List Str} {k : Nat} {sp : DSp} (F : Fun K x x st f fd) (hc : fd.code = .ref c) (hmg : mg x = some (.ref f)) (b : Binds K fd ps []) (Sc : FnScope N ps (defScope st))
    (len : ∀ ds mu c P PX, sp ds mu c P PX → ds.length = ps.length)
    (hbody : ∀ (X : Cx) (q : Qp) (W : WX), (∃ A outer s H E, X = cxOf (L2.CX P w) P w K mg base N x (defScope st) f (.ref c) A outer s H E) → Takes X W → Room k X.A → PassesOwn (model X.prog X.w) X.A X.env X.xe →
      ∃ m, DSs X (Yp K mg T q) W (defBody st) m ∧ ∀ ds mu c P PX, sp ds mu c P PX → m (S0 N ps ds mu c) (EF P) (XF PX)) :
    FnD P w K mg T base (k + 1) x ps sp := by
  refine ⟨f, fd, hmg, F.kp, b, fun q => ?_⟩
  refine okXc F hc Sc (fun vs H Q E ⟨G, mu, c, ds, P, PX, r0, qv, h, _⟩ => ?_) fun A outer s H vs Q E hr ⟨G, mu, c, ds, P, PX, r0, qv, h, kq, kx⟩ => ?_
  · rw [← qv.length]
    exact len _ _ _ _ _ h
  · obtain ⟨m, hm, hs⟩ := hbody (cxOf (L2.CX _ w) _ w K mg base N x (defScope st) f _ A outer s H E) q (fun cls d _ H => E cls d H) ⟨A, outer, s, H, E, rfl⟩ (takes_of rfl rfl rfl rfl) hr (passes_of rfl)
    have e1 : N.length - vs.length = N.length - ps.length := by rw [← qv.length, len _ _ _ _ _ h]
    refine ⟨_, hm, G, _, _, _, ⟨r0, ?_⟩, hs ds mu c _ _ h, ?_, ?_⟩
    · show Sl (Yp K mg T q) G _ (L2.start N vs)
      unfold L2.start
      rw [e1]
      exact Sl.start qv _
    · exact fun ex st' cls d σ' G' H' ⟨c', l, h1⟩ h2 h3 h4 h5 => kx ex _ _ cls d G' H' h1 h2 h3 (h4.h.more l) h5
    · exact ⟨fun st' σ' G' H' ⟨c', l, h1⟩ h2 h3 h4 => kq _ _ _ _ G' H' h1 h2 h3 (h4.h.more l) .non, fun d st' v σ' G' H' ⟨c', l, h1⟩ h2 h3 h4 h5 => kq _ _ _ _ G' H' h1 h2 h3 (h4.h.more l) h5, fun _ _ _ _ h => h.elim, fun _ _ _ _ h => h.elim⟩
/-- a def that calls what it gets -/
theorem lamFn {x a : Str} {st : Stmt} {f : Addr} {fd : FuncData} {N : List Str} {k : Nat} {lsp : LSp} (F : Fun K x x st f fd) (hmg : mg x = some (.ref f)) (b : Binds K fd [a] []) (Sc : FnScope N [a] (defScope st)) (h0 : N[0]? = some a) (hv : Vis (defScope st) a) (hd : (a == ("__debug__" : Str)) = false) (hcd : (a == ("__classdict__" : Str)) = false) (mb : ME → MS)
    (hbody : ∀ (X : Cx) (q : Qp) (W : WX) (act : ME), (∃ cdv A outer s H E, X = cxOf (L2.CX P w) P w K mg base N x (defScope st) f cdv A outer s H E) → Takes X W → Room k X.A → PassesOwn (model X.prog X.w) X.A X.env X.xe →
      (∀ (W' : WX) (pn : List (Addr × Obj)) (xe : Value → Shared → Prop) (p1 p2 : Pos), Takes (X.tr pn xe) W' → DE (X.tr pn xe) (Yp K mg T q) W' (.Call (.Name a p1) [] [] p2) act) → DSs X (Yp K mg T q) W (defBody st) (mb act))
    (rd : ∀ (f : Addr) (B : Beh) (_ : BMono B) (mu : Mu) (c : Nat) (P1 : D → Mu → Nat → Prop) (PX : Ex → Mu → Nat → Prop), lsp B mu c P1 PX → mb (mAct 0 f B) (S0 N [a] [.ref f] mu c) (EF P1) (XF PX)) : LamFn P w K mg T base k x a lsp := by
  obtain ⟨oc, od, kV, doc, pm, an, cdv, ct, osl, e, lk, hcd'⟩ := F.ex
  subst e
  exact ⟨f, _, _, _, doc, pm, cdv, ct, oc, kV, an, od, osl, N, mb, hmg, F.kp, lk, hcd', b, Sc, h0, hv, hd, hcd, fun Z q W act ⟨A, outer, s, H, E, eZ⟩ tk hr hp ha => hbody Z q W act ⟨cdv, A, outer, s, H, E, eZ⟩ tk hr hp ha, rd⟩
end
end DL
namespace DL
open PySem L2
section
variable {X : Cx} {Y : Yc} {W : WX} {a e : Expr} {ma me : ME} {pos : Pos}
/-! ### T.index(x), T a module's tuple of texts -/
def GlobT (K : PySem.W.Frag) (mg : Str → Option Value) (x : Str) (ys : List Str) : Prop := ∃ (p : Addr) (its : Array Value) (n : Nat) (sl : Array (Option Value)), mg x = some (.ref p) ∧ K.lookup p = some ⟨.type "tuple", none, .seq its n, sl⟩ ∧ its.size ≤ sizeLine ∧ Vals (ys.map V.str) its.toList
def indexG (ys : List Str) : O1 := fun _ e P => match e with
  | .str z => ∃ j : Nat, ys[j]? = some z ∧ (∀ m, m < j → ys[m]? ≠ some z) ∧ P (.int (j : Nat))
  | _ => False
theorem de_indexG {x : Str} {ys : List Str} {apos p : Pos} (hx : GlobT X.K X.mg x ys) (hg : Gl X x) (he : DE X Y W e me) (hd : (x == ("__debug__" : Str)) = false := by decide) (hs : starEach [e] X.env = (false, eval e X.env) :: starEach [] X.env := by rfl) (hbase : attributeBase (.Name x p) "index" X.env (eval (.Name x p) X.env) = eval (.Name x p) X.env := by rfl)
    (hfew : ((backTo pos (starEach [e] X.env)).all (fun x => !x.1) && (backToKw pos (keywordEach [] X.env)).all (fun x => x.1.isSome) && decide ([e].length + ([] : List Keyword).length + (if ([] : List Keyword).isEmpty then 0 else 1) < 30)) = true := by rfl)
    (hline : (apos.endLine == pos.line) = true := by rfl) (hplain : (backTo pos (starEach [] X.env)).any (·.1) = false := by rfl) : DE X Y W (.Call (.Attribute (.Name x p) "index" apos) [e] [] pos) (mUn (indexG ys) me) := by
  obtain ⟨q, its, n, sl, h1, h2, h3, h4⟩ := hx
  refine peImp (pe_bm PySem.F.plainAttrs_tuple PySem.F.slot_tuple_index PySem.F.type_tuple_index mt_tup_index (pe_glob (v := .ref q) hg h1 rfl hd) (pa_cons he pa_nil hs) hbase hfew hline hs hplain) fun σ H Q ⟨G, st, P, PX, rr, hm, xp, k⟩ => ?_
  refine ⟨.inr (.inl ⟨rfl, _, h2, rfl, rfl⟩), G, st, _, PX, rr, hm, xp, fun e s2 w G2 H2 hm2 g2 f2 r2 q2 => ?_⟩
  cases e <;> first | exact False.elim hm2 | skip
  obtain ⟨j, e2, e3, hp⟩ := hm2
  cases q2
  exact ⟨q, ys, _, j, rfl, rfl, .inr ⟨_, its, n, h2, rfl, rfl, h3, h4⟩, e2, e3, k _ s2 _ G2 H2 hp g2 f2 r2 (.int _)⟩
/-! ### sorted(texts) -/
def sortedD : OL := fun _ ds P => match ds with
  | [.lst a] => ∃ xs : List Str, strsOf a = some xs ∧ xs.length < 64 ∧ ∀ ys : List Str, ys.Perm xs → PyProof.Rows.sortedS ys = true → P (.lst (ys.map D.str))
  | _ => False
theorem reps_strs {G : Hp} : ∀ ys : List Str, Reps Y G (ys.map D.str) (ys.map V.str)
  | [] => .nil
  | y :: ys => .cons (.str y) (reps_strs ys)
theorem cd_sorted : CallD X Y (.builtin "sorted") sortedD := by
  intro pins s σ H xs us Q I r ⟨G, mu, c, ds, P, r0, q, h, k⟩
  unfold sortedD at h
  split at h
  · obtain ⟨v, rfl, q1⟩ := q.one
    obtain ⟨a1, xs1, rfl, h1, q1⟩ := q1.lstI
    obtain ⟨ns, h2, h3, h4⟩ := h
    have e := strsOf_reps h2 q1
    subst e
    exact cr_sortedS pins s σ H _ us Q I r ⟨_, ns, rfl, SqL.of (r0.sub _ _ h1), h3, fun ys p h5 h6 hp => k.lst r0 (h4 ys h5 h6) (reps_strs ys) p hp⟩
  · exact h.elim
theorem bb_sorted : bootBuiltins "sorted" = some (.builtin "sorted") := by decide +kernel
end
end DL
namespace DL
open PySem L2 LamX PySem.Spec PyProof.Rows
/-! ### closures handed on through several defs -/
theorem unComp {fr fs2 : List Addr} {H0 H1 H2 : Hp} {h0 h1 h2 : Heap} (a : Un fr [] H0 H1 h0 h1) (b : Un fs2 [] H1 H2 h1 h2) (hf : ∀ x ∈ fs2, x ∈ fr ∨ h0.get? x = none) : Un fr [] H0 H2 h0 h2 where
  keep := fun x o e n hx hn => b.keep x o (a.keep x o e n hx hn) (a.free x o e n hn) (fun z => by
    rcases hf x z with k | k
    · exact hx k
    · rw [e] at k; cases k) hn
  slot := fun x o e n hx hn => by
    obtain ⟨sl, e1⟩ := a.slot x o e n hx hn
    obtain ⟨sl2, e2⟩ := b.any e1 (a.free x o e n hn) hn
    exact ⟨sl2, e2⟩
  free := fun x o e n hn => by
    obtain ⟨sl, e1⟩ := a.any e n hn
    exact b.free x _ e1 (a.free x o e n hn) hn
  there := fun x o e hn => by
    obtain ⟨o1, e1⟩ := a.there x o e hn
    exact b.there x o1 e1 hn
  tups := fun x xs e => b.tups x xs (a.tups x xs e)
  frzs := fun x o u e => b.frzs x o u (a.frzs x o u e)
  tbls := fun x ps e => by
    obtain ⟨m1, e1⟩ := a.tbls x ps e
    obtain ⟨m2, e2⟩ := b.tbls x _ e1
    exact ⟨m1 ++ m2, by rw [e2, Array.append_assoc]⟩
/-- the closure at f behaves as B, wherever it is called after (H0, h0) while the frames fr stand -/
def CloOk (P : Program) (w : World) (K : PySem.W.Frag) (mg : Str → Option Value) (T : List (Addr × Str)) (base : Heap) (fr : List Addr) (h0 : Heap) (H0 : Hp) (q : Qp) (f : Addr) (k : Nat) (B : Beh) : Prop :=
  ∀ (A : Around) (outer : List Env) (s1 : Shared) (HZ : Hp) (G1 : Hp) (mu1 : Mu) (c1 : Nat) (P1 : D → Mu → Nat → Prop) (PX1 : Ex → Mu → Nat → Prop) (Q : VK) (E : XK), Room (k + 1) A → Env0 P w K mg base A outer s1 HZ → Un fr [] H0 HZ h0 s1.heap → R0 (Yp K mg T q) G1 mu1 c1 HZ → B mu1 c1 P1 PX1 →
    (∀ d mu' c' v G' H', P1 d mu' c' → Same G1 G' → Frm (Yp K mg T q) G1 mu1 HZ G' mu' H' → R0 (Yp K mg T q) G' mu' c' H' → Rep (Yp K mg T q) G' d v → Q v H') →
    (∀ x mu' c' cls d G' H', PX1 x mu' c' → Same G1 G' → Frm (Yp K mg T q) G1 mu1 HZ G' mu' H' → R0 (Yp K mg T q) G' mu' c' H' → RepX (Yp K mg T q) G' mu' H' x cls d → E cls d H') →
    PySem.W.FnAt f s1.heap ∧ codeAny (model P w) A (.call (.ref f) ⟨[], []⟩) (CR (L2.CX P w) outer P w HZ s1 Q E) s1
def behOf (st : S) (m : ME) : Beh := fun mu c P1 PX1 => mClo m { st with mu := mu, c := c } (fun d s => P1 d s.mu s.c) (fun x s => PX1 x s.mu s.c)
theorem behOf_mono (st : S) (m : ME) : BMono (behOf st m) := fun mu c P P' PX PX' ⟨P0, PX0, h0, h1, h2⟩ k1 k2 => ⟨P0, PX0, h0, fun d s z => k1 _ _ _ (h1 d s z), fun x s z => k2 _ _ _ (h2 x s z)⟩
theorem clo_of_lam {X : Cx} {pins : List (Addr × Obj)} {σ : L2.St} {H : Hp} {s : Shared} {T : List (Addr × Str)} {q : Qp} {G : Hp} {st : S} {f c' : Addr} {pm ctv : Value} {params : Arguments} {body : Expr} {scope : Scope} {k : Nat} {mb : ME}
    (I : Inv X pins σ H s) (L : LamS X.env.scope scope) (hf : s.heap.get? f = some (PySem.W.kla_obj "<lambda>" (X.env.qual ++ "<lambda>") params body scope (cloFrom X.env.cells scope.names []) pm c' ctv)) (hfn : H f = none) (hfr : f ∉ frs X.stack)
    (hbind : bindArgs (PySem.W.kla_fn "<lambda>" (X.env.qual ++ "<lambda>") params body scope (cloFrom X.env.cells scope.names []) pm (.ref c') ctv) ⟨[], []⟩ = pure [])
    (hbody : ∀ (A : Around) (outer : List Env) (s : Shared) (H : Hp) (E : XK), Room k (A.deeper (lamEnv X scope s.heap.objs.size f c')) → DE (lamCx X A outer s H E scope f c') (Yp X.K X.mg T q) (fun cls d _ H => E cls d H) body mb)
    (rr : R (Yp X.K X.mg T q) G st σ H) (n3 : c' ≠ q.p) : CloOk X.prog X.w X.K X.mg T X.base (frs X.stack) s.heap H (q.add c' (X.env.qual ++ "<lambda>") G) f k (behOf st mb) := by
  intro A outer s1 HZ G1 mu1 c1 P1 PX1 Q E hr e0 un r1 hB kq kx
  have lo0 : Same q.G0 G := rr.h.ext.lo
  have lo1 : Same G G1 := r1.ext.lo
  obtain ⟨hc1, hc2, hc3⟩ := r1.ext.raw (c', X.env.qual ++ "<lambda>") List.mem_cons_self
  have frC : frmO (CodeO c' (X.env.qual ++ "<lambda>")) := ⟨(code_no rfl).1, (code_no rfl).2.1⟩
  have of1 : s1.heap.get? f = some (PySem.W.kla_obj "<lambda>" (X.env.qual ++ "<lambda>") params body scope (cloFrom X.env.cells scope.names []) pm c' ctv) := un.keep f _ hf hfn hfr (fun z => nomatch (show f ∈ ([] : List Addr) from z))
  refine ⟨⟨_, _, _, _, of1⟩, ?_⟩
  obtain ⟨⟨oc, vs, t, hoc, hdc, hvc⟩, _, _⟩ := e0.hok c' _ hc1
  refine PySem.W.kla_callFunE hr.depth of1 rfl L.co L.gen rfl ⟨c', oc, vs, t, rfl, hoc, hdc, hvc⟩ ?_
  rw [hbind]
  have lim : s1.heap.NoLimit := e0.mod.nolimit.keeps fun b o e => (e0.bs b o e).1
  refine wpAny_pure (wpAny_newFunctionEnv (fun y hy => (L.own y hy).2) (fun y hy => absurd hy (by simp)) (fun h₁ hns hsb => ⟨lim.fresh _ hsb, ?_⟩) L.kind)
  show codeAny _ _ (.expr body (lamEnv X scope s1.heap.objs.size f c')) _ _
  have kp : ∀ b o, s1.heap.get? b = some o → h₁.get? b = some o := fun b o e => hsb.extBut b o (Nat.ne_of_lt (Heap.lt_size e)) (Heap.get?_push_of_some _ e)
  have J : Inv (lamCx X A outer s1 HZ E scope f c') [] σ HZ { s1 with heap := h₁, toks := s1.toks + ([] : List (Str × Value)).length } := lam_start2 I L e0 hr.hd un hns kp
  have ht : TEof (Yp X.K X.mg T q) (fun cls d _ H => E cls d H) (mClo mb) σ HZ Q := by
    refine ⟨G1, { st with mu := mu1, c := c1 }, _, _, ⟨r1.less lo0, rr.s.mono lo1⟩, hB, fun x s5 cls d σ5 G5 H5 hx g5 f5 r5 rx => ?_, fun d s5 v G5 H5 hd g5 f5 r5 q5 => ?_⟩
    · obtain ⟨k1, k2, k3⟩ := f5 c' _ hc1 hc2 hc3 ⟨n3, frC⟩
      exact kx x s5.mu s5.c cls d G5 H5 hx g5 f5 (r5.h.moreRaw k1 k2 k3 (lo1.trans g5)) rx.up
    · obtain ⟨k1, k2, k3⟩ := f5 c' _ hc1 hc2 hc3 ⟨n3, frC⟩
      exact kq d s5.mu s5.c v G5 H5 hd g5 f5 (r5.h.moreRaw k1 k2 k3 (lo1.trans g5)) q5.up
  refine PySem.W.kla_codeExpr (wpAny_mono (((de_clo (hbody _ _ s1 HZ E (hr.deeper _)))).run [] _ _ HZ Q J ht) (fun v s' ⟨w', H', J', rv, q⟩ => ?_) fun e s' hq => hq)
  exact ⟨w', H', J'.os, J'.bare, J'.base, J'.hok, rv, q⟩
/-- .. as the context Z finds it at its entry -/
def CloAt (Z : Cx) (T : List (Addr × Str)) (q : Qp) (f : Addr) (k : Nat) (B : Beh) : Prop :=
  ∃ (fr : List Addr) (h0 : Heap) (H0 : Hp), CloOk Z.prog Z.w Z.K Z.mg T Z.base fr h0 H0 q f k B ∧ Un fr [] H0 Z.H_0 h0 Z.s_0.heap ∧ (∀ x ∈ frs Z.outer, x ∈ fr ∨ h0.get? x = none) ∧ Z.ex = []
/-- x(), x the parameter that holds the closure -/
theorem de_act {Z : Cx} {T : List (Addr × Str)} {q : Qp} {f : Addr} {k i : Nat} {B : Beh} {W : WX} {a : Str} {p1 p2 : Pos} (h : CloAt Z T q f k B) (tk : Takes Z W) (hr : Room (k + 1) Z.A) (hN : Z.N[i]? = some a) (hv : Vis Z.env.scope a) (hd : (a == ("__debug__" : Str)) = false := by decide) (hcd : (a == ("__classdict__" : Str)) = false := by decide) :
    DE Z (Yp Z.K Z.mg T q) W (.Call (.Name a p1) [] [] p2) (mAct i f B) := by
  obtain ⟨fr, h0, H0, hc, hu, hf, hex⟩ := h
  refine ⟨fun pins s σ H Q I ⟨G, st, P1, PX1, rr, ⟨hr0, hB⟩, xp, kq⟩ => ?_⟩
  obtain ⟨v0, e0, q0⟩ := rr.s.2 i _ hr0
  cases q0
  refine wpAny_Call_Name_kw (thn ((pe_var (pos := p1) (i := i) hN hv hd hcd).run pins s σ H (fun v H1 => v = .ref f ∧ H1 = H) I ⟨.ref f, e0, rfl, rfl⟩) fun u s1 ⟨v, H1, I1, r1, ev, eH⟩ => ?_)
  subst ev
  rw [eH] at I1
  obtain rfl : u = Value.ref f := r1
  have ub : Un Z.fs [] Z.H_0 H Z.s_0.heap s1.heap := by
    have := I1.base
    rw [hex] at this
    exact this
  obtain ⟨h1, rc⟩ := hc Z.A Z.stack s1 H G st.mu st.c _ _ Q (WE W σ) hr I1.env0 (unComp hu ub hf) rr.h hB (fun d mu' c' v G' H' hP g f5 r5 q5 => kq d { st with mu := mu', c := c' } v G' H' hP g f5 ⟨r5, rr.s.mono g⟩ q5)
    (fun x mu' c' cls d G' H' hP g f5 r5 rx => xp x { st with mu := mu', c := c' } cls d σ G' H' hP g f5 ⟨r5, rr.s.mono g⟩ rx)
  refine PySem.W.callWith_F0 h1 ?_
  refine wpAny_call (codeAny_mono rc fun r s' hq => ?_)
  cases r with
  | error e => exact passAt tk σ pins H s1 e s' I1 hq
  | ok fl =>
    cases fl with
    | ret u => exact I1.after hq
    | next => exact False.elim hq
    | brk => exact False.elim hq
    | cont => exact False.elim hq
/-- the promise of a def whose first parameter is a closure -/
abbrev CSp := Beh → DSp
structure CFn (P : Program) (w : World) (K : PySem.W.Frag) (mg : Str → Option Value) (T : List (Addr × Str)) (base : Heap) (j : Nat) (x : Str) (csp : CSp) : Prop where
  ex : ∃ (g : Addr) (pg : Arguments) (bg : List Stmt) (sg : Scope) (doc pm cdv ct oc kV : Value) (an od : Option Addr) (osl : Array (Option Value)) (Ng ps : List Str) (a : Str) (mb : Addr → Beh → MS), mg x = some (.ref g) ∧ PySem.W.keepIn K (.ref g) = true ∧
    K.lookup g = some ⟨oc, od, .func (PySem.W.fnOf x x pg bg sg .none kV doc pm an cdv ct), osl⟩ ∧ PySem.W.codeIn K cdv x = true ∧ L2.Binds K (PySem.W.fnOf x x pg bg sg .none kV doc pm an cdv ct) (a :: ps) [] ∧ FnScope Ng (a :: ps) sg ∧
    (∀ (Z : Cx) (q : Qp) (W : WX) (f : Addr) (kB : Nat) (B : Beh), BMono B → (∃ A outer s H E, Z = cxOf (L2.CX P w) P w K mg base Ng x sg g cdv A outer s H E) → CloAt Z T q f kB B → Takes Z W → Room (kB + j) Z.A → PassesOwn (model Z.prog Z.w) Z.A Z.env Z.xe → DSs Z (Yp K mg T q) W bg (mb f B)) ∧
    ∀ (f : Addr) (B : Beh) (_ : BMono B) (ds : List D) (mu : Mu) (c : Nat) (P1 : D → Mu → Nat → Prop) (PX : Ex → Mu → Nat → Prop), csp B ds mu c P1 PX → ds.length = ps.length ∧ mb f B (S0 Ng (a :: ps) (.ref f :: ds) mu c) (EF P1) (XF PX)
def mLamC (csp : CSp) (m : ME) (n : MA) : ME := fun st P PX => n st (fun ds s1 => csp (behOf s1 m) ds s1.mu s1.c (fun d mu c => P d { s1 with mu := mu, c := c }) (fun x mu c => PX x { s1 with mu := mu, c := c })) PX
def mPassC (csp : CSp) (i : Nat) (f : Addr) (B : Beh) (n : MA) : ME := fun st P PX => st.r[i]? = some (some (.ref f)) ∧ n st (fun ds s1 => csp B ds s1.mu s1.c (fun d mu c => P d { s1 with mu := mu, c := c }) (fun x mu c => PX x { s1 with mu := mu, c := c })) PX
section
variable {X : Cx} {T : List (Addr × Str)} {q : Qp} {W : WX} {csp : CSp} {x : Str} {c P : Addr} {k j : Nat} {params : Arguments} {body : Expr} {rest : List Expr} {scope : Scope} {mb : ME} {mn : MA} {p lpos pos : Pos}
/-- x(lambda: body, ..) -/
theorem de_lamC (F : CFn X.prog X.w X.K X.mg T X.base j x csp) (tk : Takes X W) (hg : Gl X x) (hst : X.stack = X.env :: X.outer) (hfl : X.env.frame = some X.env.locals) (TB : TabB X.base X.mg c P) (hcode : X.env.code = .ref c) (hmT : (P, X.env.qual ++ "<lambda>") ∈ T) (hu : ∀ p ∈ T, p.1 = P → p.2 = X.env.qual ++ "<lambda>")
    (hr : Room (k + j + 1) X.A) (L : LamS X.env.scope scope) (hdef : defaultsOf params X.env = ([], []))
    (hbind : ∀ (q : Str) (cl : List (Str × Addr)) (pm cv ctv : Value), bindArgs (PySem.W.kla_fn "<lambda>" q params body scope cl pm cv ctv) ⟨[], []⟩ = pure [])
    (hbody : ∀ (A : Around) (outer : List Env) (s : Shared) (H : Hp) (E : XK) (f c' : Addr), Room k (A.deeper (lamEnv X scope s.heap.objs.size f c')) → Takes (lamCx X A outer s H E scope f c') (fun cls d _ H => E cls d H) →
      DE (lamCx X A outer s H E scope f c') (Yp X.K X.mg T q) (fun cls d _ H => E cls d H) body mb)
    (ha : DA X (Yp X.K X.mg T q) W rest mn) (hpl : (backTo pos (starEach rest X.env)).any (·.1) = false := by rfl)
    (hdb : (x == ("__debug__" : Str)) = false := by decide) : DE X (Yp X.K X.mg T q) W (.Call (.Name x p) (.Lambda params body scope lpos :: rest) [] pos) (mLamC csp mb mn) := by
  obtain ⟨g, pg, bg, sg, doc, pm, cdv, ct, oc, kV, an, od, osl, Ng, ps, a, mf, hm, hk, lk, hcg, hb, Sg, hder, hrd⟩ := F.ex
  refine ⟨fun pins s σ H Q I ⟨G, st, P1, PX, rr, hmn, xp, kq⟩ => ?_⟩
  refine wpAny_Call_Name_kw (ld_glob I hg hm ?_ hdb)
  refine PySem.W.callWith_K (h₀ := X.base) I.ok.mod.kin hk ?_ (by rfl) hpl
  show wpAny _ _ (spliced ((false, eval (.Lambda params body scope lpos) X.env) :: backTo pos (starEach rest X.env))) _ _ s
  refine Calls.spliced_cons (lam_make2 I TB hcode hmT hu rr.h.ext.tab hdef (L.has I.ok) fun f c' pm' ctv H1 s' I1 eN T1 hf hfn hfr hco => ?_)
  have r1 := rr.h.extN eN T1
  obtain ⟨n1, n2, n3⟩ := r1.codeOff hco
  have frC : frmO (CodeO c' (X.env.qual ++ "<lambda>")) := ⟨(code_no rfl).1, (code_no rfl).2.1⟩
  have hfr' : f ≠ X.env.locals ∧ f ∉ X.fs := by
    rw [hst] at hfr
    unfold frs at hfr
    rw [List.filterMap_cons, hfl] at hfr
    exact ⟨fun z => hfr (by rw [z]; exact List.mem_cons_self), fun z => hfr (List.mem_cons_of_mem _ z)⟩
  have I1p : Inv X (pins ++ [(f, PySem.W.kla_obj "<lambda>" (X.env.qual ++ "<lambda>") params body scope (cloFrom X.env.cells scope.names []) pm' c' ctv)]) σ H1 s' := I1.pins_of fun pp hp => by
    rcases List.mem_append.mp hp with hp | hp
    · exact I1.pin pp (List.mem_append_right _ hp)
    · rcases List.mem_cons.mp hp with e | e
      · rw [e]
        exact ⟨hf, hfn, hfr'.1, hfr'.2, fun v z => by cases z⟩
      · cases e
  have xp1 : XPost (Yp X.K X.mg T q) W G st σ H1 PX := fun y s5 cls d σ5 G5 H5 h5 g5 f5 r5 rx => xp y s5 cls d σ5 G5 H5 h5 g5 ((Frm.extN eN).trans f5) r5 rx
  refine thn (ha.run pos _ s' σ H1 (fun vs H2 => ∃ ds s2 G2, csp (behOf s2 mb) ds s2.mu s2.c (fun d mu c => P1 d { s2 with mu := mu, c := c }) (fun x mu c => PX x { s2 with mu := mu, c := c }) ∧ Same G G2 ∧ Frm (Yp X.K X.mg T q) G st.mu H1 G2 s2.mu H2 ∧ R (Yp X.K X.mg T q) G2 s2 σ H2 ∧ Reps (Yp X.K X.mg T q) G2 ds vs) I1p
    ⟨G, st, _, PX, ⟨r1, rr.s⟩, hmn, xp1, fun ds s2 vs G2 H2 h2 g2 f2 r2 q2 => ⟨ds, s2, G2, h2, g2, f2, r2, q2⟩⟩) fun us s2 ⟨vs, H2, I2p, rv, ds, st2, G2, hcs, g2, f2, r2, q2⟩ => ?_
  have I2 : Inv X pins σ H2 s2 := I2p.unpinned
  obtain ⟨hf2, hfn2, _⟩ := I2p.pin (f, _) (List.mem_append_right _ (List.mem_append_right _ List.mem_cons_self))
  obtain ⟨hco2, m1, m2⟩ := f2 c' _ hco n1 n2 ⟨n3, frC⟩
  have r3 := r2.h.moreRaw (G1 := G2) hco2 m1 m2 (Same.refl G2)
  have lo2 : Same q.G0 G2 := r2.h.ext.lo
  refine ⟨I2.kIn, ?_⟩
  have hck := hrd f (behOf st2 mb) (behOf_mono _ _) ds st2.mu st2.c _ _ hcs
  have rc : codeAny (model X.prog X.w) X.A (.call (.ref g) ⟨.ref f :: us, []⟩) (CR (L2.CX X.prog X.w) X.stack X.prog X.w H2 s2 Q (WE W σ)) s2 := by
    have hlen : us.length = ps.length := by rw [← rv.length, ← q2.length]; exact hck.1
    have hb2 := hb s2 (.ref f :: us) I2.kIn (by rw [List.append_nil, List.length_cons, List.length_cons, hlen])
    rw [List.append_nil] at hb2
    refine run_ofS (N := Ng) (ps := a :: ps) (us := .ref f :: us) (vs := .ref f :: vs) lk hcg Sg hr I2.env0 hb2 (.cons rfl rv) (by rw [List.length_cons, List.length_cons, rv.length, hlen]) fun hr' => ?_
    have hZ := hder (cxOf (L2.CX X.prog X.w) X.prog X.w X.K X.mg X.base Ng x sg g cdv X.A X.stack s2 H2 (WE W σ)) (q.add c' (X.env.qual ++ "<lambda>") G2) (fun cls d _ H => WE W σ cls d H) f k (behOf st2 mb) (behOf_mono _ _) ⟨_, _, _, _, _, rfl⟩
      ⟨frs X.stack, s2.heap, H2, clo_of_lam I2 L hf2 hfn2 hfr (hbind _ _ _ _ _) (fun A outer s H E hr2 => hbody A outer s H E f c' hr2 (takes_of rfl rfl rfl rfl)) r2 n3, Un.refl, fun y hy => .inl hy, rfl⟩ (takes_of rfl rfl rfl rfl) hr' (passes_of rfl)
    refine ⟨_, hZ, G2, S0 Ng (a :: ps) (.ref f :: ds) st2.mu st2.c, _, _, ⟨r3, ?_⟩, hck.2, fun y s5 cls d σ5 G5 H5 ⟨c5, l5, hx⟩ g5 f5 r5 rx => ?_, ⟨fun s5 σ5 G5 H5 ⟨c5, l5, hP⟩ g5 f5 r5 => ?_, fun d s5 v σ5 G5 H5 ⟨c5, l5, hP⟩ g5 f5 r5 q5 => ?_, fun _ _ _ _ z => z.elim, fun _ _ _ _ z => z.elim⟩⟩
    · have e1 : Ng.length - (V.ref f :: vs).length = Ng.length - (a :: ps).length := by rw [List.length_cons, List.length_cons, rv.length, hlen]
      show Sl _ G2 _ (L2.start Ng (.ref f :: vs))
      unfold L2.start
      rw [e1]
      exact Sl.start (.cons (.ref f) (Reps.conv (Y := Yp X.K X.mg T q) (Y' := Yp X.K X.mg T (q.add c' (X.env.qual ++ "<lambda>") G2)) rfl rfl q2)) _
    · exact xp y { st2 with mu := s5.mu, c := c5 } cls d σ G5 H5 hx (g2.trans g5) (((Frm.extN eN).trans f2).trans f5) ⟨(r5.h.less lo2).more l5, r2.s.mono g5⟩ rx.dn
    · exact kq .non { st2 with mu := s5.mu, c := c5 } .non G5 H5 hP (g2.trans g5) (((Frm.extN eN).trans f2).trans f5) ⟨(r5.h.less lo2).more l5, r2.s.mono g5⟩ .non
    · exact kq d { st2 with mu := s5.mu, c := c5 } v G5 H5 hP (g2.trans g5) (((Frm.extN eN).trans f2).trans f5) ⟨(r5.h.less lo2).more l5, r2.s.mono g5⟩ q5.dn
  refine wpAny_call (codeAny_mono rc fun r s3 hq => ?_)
  cases r with
  | error e => exact passAt tk σ pins H2 s2 e s3 I2 hq
  | ok fl =>
    cases fl with
    | ret u => exact I2.after hq
    | next => exact False.elim hq
    | brk => exact False.elim hq
    | cont => exact False.elim hq
/-- x(v, ..), v the parameter that holds a closure -/
theorem de_passC {f : Addr} {kB i : Nat} {B : Beh} {v : Str} {pv : Pos} (F : CFn X.prog X.w X.K X.mg T X.base j x csp) (hB : BMono B) (tk : Takes X W) (hg : Gl X x) (hst : X.stack = X.env :: X.outer) (hfl : X.env.frame = some X.env.locals) (hloc : X.env.locals = X.s_0.heap.objs.size) (hclo : CloAt X T q f kB B)
    (hr : Room (kB + j + 1) X.A) (hN : X.N[i]? = some v) (hvis : Vis X.env.scope v) (ha : DA X (Yp X.K X.mg T q) W rest mn) (hse : starEach (.Name v pv :: rest) X.env = (false, eval (.Name v pv) X.env) :: starEach rest X.env := by rfl) (hpl : (backTo pos (starEach rest X.env)).any (·.1) = false := by rfl)
    (hdb : (x == ("__debug__" : Str)) = false := by decide) (hd : (v == ("__debug__" : Str)) = false := by decide) (hcd : (v == ("__classdict__" : Str)) = false := by decide) : DE X (Yp X.K X.mg T q) W (.Call (.Name x p) (.Name v pv :: rest) [] pos) (mPassC csp i f B mn) := by
  obtain ⟨g, pg, bg, sg, doc, pm, cdv, ct, oc, kV, an, od, osl, Ng, ps, a, mf, hm, hk, lk, hcg, hb, Sg, hder, hrd⟩ := F.ex
  obtain ⟨fr, h0, H0, hcok, hun, hfrs, hex⟩ := hclo
  refine ⟨fun pins s σ H Q I ⟨G, st, P1, PX, rr, ⟨hr0, hmn⟩, xp, kq⟩ => ?_⟩
  obtain ⟨v0, e0, q0⟩ := rr.s.2 i _ hr0
  cases q0
  refine wpAny_Call_Name_kw (ld_glob I hg hm ?_ hdb)
  have hpv : PE X (.Name v pv) (tVar i) := pe_var (i := i) hN hvis hd hcd
  refine PySem.W.callWith_K (h₀ := X.base) I.ok.mod.kin hk (thn ((pa_cons hpv ha hse).run pos pins s σ H (fun us H2 => ∃ vs ds s2 G2, us = .ref f :: vs ∧ csp B ds s2.mu s2.c (fun d mu c => P1 d { s2 with mu := mu, c := c }) (fun x mu c => PX x { s2 with mu := mu, c := c }) ∧ Same G G2 ∧ Frm (Yp X.K X.mg T q) G st.mu H G2 s2.mu H2 ∧ R (Yp X.K X.mg T q) G2 s2 σ H2 ∧ Reps (Yp X.K X.mg T q) G2 ds vs) I
    ⟨.ref f, e0, G, st, _, PX, rr, hmn, xp, fun ds s2 vs G2 H2 h2 g2 f2 r2 q2 => ⟨vs, ds, s2, G2, rfl, h2, g2, f2, r2, q2⟩⟩) fun us s2 ⟨vs1, H2, I2, rv1, vs, ds, st2, G2, evs, hcs, g2, f2, r2, q2⟩ => ?_) hse hpl
  subst evs
  refine ⟨I2.kIn, ?_⟩
  have hck := hrd f B hB ds st2.mu st2.c _ _ hcs
  have ub : Un X.fs [] X.H_0 H2 X.s_0.heap s2.heap := by
    have := I2.base
    rw [hex] at this
    exact this
  have rc : codeAny (model X.prog X.w) X.A (.call (.ref g) ⟨us, []⟩) (CR (L2.CX X.prog X.w) X.stack X.prog X.w H2 s2 Q (WE W σ)) s2 := by
    have hlen : us.length = (a :: ps).length := by rw [← rv1.length, List.length_cons, ← q2.length, hck.1, List.length_cons]
    have hb2 := hb s2 us I2.kIn (by rw [List.append_nil]; exact hlen)
    rw [List.append_nil] at hb2
    refine run_ofS (N := Ng) (ps := a :: ps) (us := us) (vs := .ref f :: vs) lk hcg Sg hr I2.env0 hb2 rv1 (by rw [rv1.length]; exact hlen) fun hr' => ?_
    have hZ := hder (cxOf (L2.CX X.prog X.w) X.prog X.w X.K X.mg X.base Ng x sg g cdv X.A X.stack s2 H2 (WE W σ)) q (fun cls d _ H => WE W σ cls d H) f kB B hB ⟨_, _, _, _, _, rfl⟩
      ⟨fr, h0, H0, hcok, unComp hun ub hfrs, fun y hy => by
        have hy' : y ∈ frs X.stack := hy
        rw [hst] at hy'
        unfold frs at hy'
        rw [List.filterMap_cons, hfl] at hy'
        rcases List.mem_cons.mp hy' with e | e
        · refine .inr ?_
          cases z : h0.get? y with
          | none => rfl
          | some o =>
            obtain ⟨o', e'⟩ := hun.there y o z (by simp)
            rw [e, hloc] at e'
            exact absurd (Heap.lt_size e') (Nat.lt_irrefl _)
        · exact hfrs y e, rfl⟩ (takes_of rfl rfl rfl rfl) hr' (passes_of rfl)
    refine ⟨_, hZ, G2, S0 Ng (a :: ps) (.ref f :: ds) st2.mu st2.c, _, _, ⟨r2.h, ?_⟩, hck.2, fun y s5 cls d σ5 G5 H5 ⟨c5, l5, hx⟩ g5 f5 r5 rx => ?_, ⟨fun s5 σ5 G5 H5 ⟨c5, l5, hP⟩ g5 f5 r5 => ?_, fun d s5 v σ5 G5 H5 ⟨c5, l5, hP⟩ g5 f5 r5 q5 => ?_, fun _ _ _ _ z => z.elim, fun _ _ _ _ z => z.elim⟩⟩
    · have e1 : Ng.length - (V.ref f :: vs).length = Ng.length - (a :: ps).length := by rw [List.length_cons, List.length_cons, ← q2.length, hck.1]
      show Sl _ G2 _ (L2.start Ng (.ref f :: vs))
      unfold L2.start
      rw [e1]
      exact Sl.start (.cons (.ref f) q2) _
    · exact xp y { st2 with mu := s5.mu, c := c5 } cls d σ G5 H5 hx (g2.trans g5) (f2.trans f5) ⟨r5.h.more l5, r2.s.mono g5⟩ rx
    · exact kq .non { st2 with mu := s5.mu, c := c5 } .non G5 H5 hP (g2.trans g5) (f2.trans f5) ⟨r5.h.more l5, r2.s.mono g5⟩ .non
    · exact kq d { st2 with mu := s5.mu, c := c5 } v G5 H5 hP (g2.trans g5) (f2.trans f5) ⟨r5.h.more l5, r2.s.mono g5⟩ q5
  refine wpAny_call (codeAny_mono rc fun r s3 hq => ?_)
  cases r with
  | error e => exact passAt tk σ pins H2 s2 e s3 I2 hq
  | ok fl =>
    cases fl with
    | ret u => exact I2.after hq
    | next => exact False.elim hq
    | brk => exact False.elim hq
    | cont => exact False.elim hq
end
section
variable {P : Program} {w : World} {K : PySem.W.Frag} {mg : Str → Option Value} {T : List (Addr × Str)} {base : Heap}
/-- a def whose first parameter is a closure -/
theorem cFn {x a : Str} {st : Stmt} {f : Addr} {fd : FuncData} {N ps : List Str} {j : Nat} {csp : CSp} (F : Fun K x x st f fd) (hmg : mg x = some (.ref f)) (b : Binds K fd (a :: ps) []) (Sc : FnScope N (a :: ps) (defScope st)) (mb : Addr → Beh → MS)
    (hbody : ∀ (X : Cx) (q : Qp) (W : WX) (g : Addr) (kB : Nat) (B : Beh), BMono B → (∃ cdv A outer s H E, X = cxOf (L2.CX P w) P w K mg base N x (defScope st) f cdv A outer s H E) → CloAt X T q g kB B → Takes X W → Room (kB + j) X.A → PassesOwn (model X.prog X.w) X.A X.env X.xe → DSs X (Yp K mg T q) W (defBody st) (mb g B))
    (rd : ∀ (g : Addr) (B : Beh) (_ : BMono B) (ds : List D) (mu : Mu) (c : Nat) (P1 : D → Mu → Nat → Prop) (PX : Ex → Mu → Nat → Prop), csp B ds mu c P1 PX → ds.length = ps.length ∧ mb g B (S0 N (a :: ps) (.ref g :: ds) mu c) (EF P1) (XF PX)) : CFn P w K mg T base j x csp := by
  obtain ⟨oc, od, kV, doc, pm, an, cdv, ct, osl, e, lk, hcd'⟩ := F.ex
  subst e
  exact ⟨f, _, _, _, doc, pm, cdv, ct, oc, kV, an, od, osl, N, ps, a, mb, hmg, F.kp, lk, hcd', b, Sc, fun Z q W g kB B hB ⟨A, outer, s, H, E, eZ⟩ hc tk hr hp => hbody Z q W g kB B hB ⟨cdv, A, outer, s, H, E, eZ⟩ hc tk hr hp, rd⟩
end
end DL
namespace L2
open PySem PySem.Spec PyProof.Rows
/-! ### try with several clauses, some with a name -/
structure ExCl where
  c : Value
  i : Option Nat
  ts : Addr → Value → Option Addr → TS
/-- one clause's suite entered with the exception at a -/
def ExCl.go (cl : ExCl) (D : Ends) (a : Addr) (cls : Value) (d : Option Addr) (σ : St) (H : Hp) : Prop := match cl.i with
  | some i => cl.ts a cls d { nx := fun σ' H' => D.nx (σ'.set i none) H', rt := D.rt, bk := fun σ' H' => D.bk (σ'.set i none) H', ct := fun σ' H' => D.ct (σ'.set i none) H' } (σ.set i (some (.ref a))) H
  | none => cl.ts a cls d D σ H
def wCls (K : PySem.W.Frag) (Wout : WX) (D : Ends) : List ExCl → WX
  | [] => Wout
  | cl :: r => fun cls d σ H => ∃ b, PySem.W.exmOne K cls cl.c = some b ∧ (b = true → ∀ a, H a = none → cl.go D a cls d σ H) ∧ (b = false → wCls K Wout D r cls d σ H)
inductive ClsOk (X : Cx) : List ExceptHandler → List ExCl → Prop
  | nil : ClsOk X [] []
  | plain {x : Str} {c : Value} {ts : Addr → Value → Option Addr → TS} {b0 : Stmt} {suite : List Stmt} {np pos' : Pos} {hds : List ExceptHandler} {l : List ExCl} (hc : Names X x c)
      (hsu : ∀ (a : Addr) (oe : Obj) (cls : Value) (d : Option Addr) (pn : List (Addr × Obj)), Zc cls d oe → (∃ vs, oe.data = .fields vs) → PSs (X.suite a ((a, oe) :: pn)) (b0 :: suite) (ts a cls d)) (r : ClsOk X hds l) :
      ClsOk X (.ExceptHandler (some (.Name x np)) none (b0 :: suite) pos' :: hds) (⟨c, none, ts⟩ :: l)
  | named {x n : Str} {c : Value} {i : Nat} {ts : Addr → Value → Option Addr → TS} {b0 : Stmt} {suite : List Stmt} {np pos' : Pos} {hds : List ExceptHandler} {l : List ExCl} (hi : X.N[i]? = some n) (hln : X.env.kindOf n = some .local) (hc : Names X x c)
      (hsu : ∀ (a : Addr) (oe : Obj) (cls : Value) (d : Option Addr) (pn : List (Addr × Obj)), Zc cls d oe → (∃ vs, oe.data = .fields vs) → PSs (X.suite a ((a, oe) :: pn)) (b0 :: suite) (ts a cls d)) (r : ClsOk X hds l) :
      ClsOk X (.ExceptHandler (some (.Name x np)) (some n) (b0 :: suite) pos' :: hds) (⟨c, some i, ts⟩ :: l)
section
variable {X : Cx} {body : List Stmt} {h0 : ExceptHandler} {hds : List ExceptHandler} {l : List ExCl} {pos : Pos} {tb : WX → TS} {Wout : WX}
theorem ps_try_cls (hs : X.stack = X.env :: X.outer) (hf : X.env.frame = some X.env.locals) (hN : X.N.Nodup) (tk : Takes X Wout)
    (hb : ∀ (W : WX) (pn : List (Addr × Obj)) (xe : Value → Shared → Prop), Takes (X.tr pn xe) W → PassesOwn (model X.prog X.w) X.A X.env xe → PSs (X.tr pn xe) body (tb W))
    (hh : ClsOk X (h0 :: hds) l) : PS X (.Try body (h0 :: hds) [] [] pos) (fun D σ H => tb (wCls X.K Wout D l) D σ H) := by
  refine ⟨fun pins s σ H D I h => ?_⟩
  have ok := I.ok
  have hfr : X.A.frames = some (X.env :: X.outer) := by rw [ok.frames, hs]
  refine wpAny_Try_except ?_
  refine wpAny_mono ((hb (wCls X.K Wout D l) (X.pn ++ pins) (fun e s₁ => wpAny (model X.prog X.w) X.A (noteFrame e X.env) (fun _ s₂ => wpAny (model X.prog X.w) X.A (setFlight e none) (fun _ s₃ =>
    wpAny (model X.prog X.w) X.A (handleBy e X.env (h0 :: hds)) (SP X pins D) X.xe s₃) X.xe s₂) X.xe s₁) (fun u s' xx => ?_) PassesOwn.looking).run [] s σ H D (I.toTry _) h) (fun f s1 hsp => ?_) (fun e s1 he => he)
  · obtain ⟨a, B, sI, pins', σ', H', cls, d, rfl, J', nb, up, sky, na, os, ag, w⟩ := xx
    have J : Inv X pins σ' H' sI := J'.ofTry ok
    have sky' : Sky B (X.env :: X.outer) a (Zc cls d) X.env.locals s'.heap := by rw [← hs]; exact sky
    show wpAny (model X.prog X.w) X.A (noteFrame (.ref a) X.env) _ _ _
    refine Sky.land Zc.steady hfr hf sky' fun h3 fl3 up3 => ?_
    have J3 : Inv X pins σ' H' { s' with heap := h3 } := J.landed nb fl3.1 (up.trans up3) os ag
    obtain ⟨oe3, vs3, he3, hz3, hd3⟩ := fl3.there
    have nfr : a ∉ frs (X.env :: X.outer) := fun hm => by
      obtain ⟨_, o', e', hnf⟩ := fl3.2.2.1.mem hm
      rw [he3] at e'; cases e'
      exact hnf _ hd3
    have nL : a ≠ X.env.locals := fun z => nfr (List.mem_filterMap.mpr ⟨X.env, List.mem_cons_self, by rw [hf, z]⟩)
    have nF : a ∉ X.fs := fun hm => by
      obtain ⟨e, he, q⟩ := List.mem_filterMap.mp hm
      exact nfr (List.mem_filterMap.mpr ⟨e, List.mem_cons_of_mem _ he, q⟩)
    have S3 := J3.suite he3 hd3 na nL nF
    have LT : PySem.W.Looks (model X.prog X.w) h3 (typeOf (.ref a)) cls := fun A Q E s k q => wpAny_typeOf_ref (k _ _ he3) (by rw [hz3.1]; exact q)
    have test : ∀ {x : Str} {np : Pos} {c : Value} {Q : Value → Shared → Prop} {E : Value → Shared → Prop}, Names X x c → Q c { s' with heap := h3 } → wpAny (model X.prog X.w) (X.A.mark (some (.ref a))) (eval (.Name x np) X.env) Q E { s' with heap := h3 } := fun {x np c Q E} hc q => by
      obtain ⟨hg, hdbg, hm | ⟨hm, hv, hnn⟩⟩ := hc
      · exact ld_glob (X := X.suite a ((a, oe3) :: (X.pn ++ pins))) S3 hg hm q hdbg
      · exact ld_blt (X := X.suite a ((a, oe3) :: (X.pn ++ pins))) S3 hg hm hv q hnn hdbg
    have go : ∀ {hds' : List ExceptHandler} {l' : List ExCl}, ClsOk X hds' l' → wCls X.K Wout D l' cls d σ' H' →
        wpAny (model X.prog X.w) X.A (handleBy (.ref a) X.env hds') (SP X pins D) X.xe { s' with heap := h3 } := by
      intro hds' l' hk
      induction hk with
      | nil =>
        intro w
        refine wpAny_handleBy_nil ?_
        obtain ⟨k1, k2, k3, oe, vs, T, oT, ts', he, hz, hd, h1, hr⟩ := id fl3
        unfold PySem.passOn
        refine wpAny_bind (wpAny_field he hd h1 ?_)
        rw [if_neg (show ¬ ((Value.ref T == Value.none) = true) from by simp)]
        have fin : wpAny (model X.prog X.w) X.A (setFlight (.ref a) X.env.frame) (fun _ s4 => wpAny (model X.prog X.w) X.A (throw (.ref a) : Sem Flow) (SP X pins D) X.xe s4) X.xe { s' with heap := h3 } := by
          rw [hf]
          refine HandSPX.setFlight_upZ fl3 fun h4 hh4 up4 => wpAny_throw (tk _ _ ?_)
          exact ⟨a, B, sI, pins, σ', H', cls, d, rfl, J, nb, (up.trans up3).trans up4, .inr (.inr (by rw [hs]; exact hh4)), na, os, ag, w⟩
        first
          | exact wpAny_bind (wpAny_pure (wpAny_bind fin))
          | exact wpAny_bind fin
      | @plain x c ts b0 suite np pos' hds2 l2 hc hsu r ih =>
        intro ⟨b, hb1, hyes, hno⟩
        refine wpAny_handleBy_cons (codeAny_handlers_test ?_) (by intro q; cases q)
        have LM := PySem.W.exm_one (M := model X.prog X.w) (J3.kIn) LT hb1
        refine test hc (LM.here ?_)
        cases b with
        | true =>
          refine codeAny_handlers_suite ?_
          refine HandSPX.lands_againZ fl3 fun h4 fl4 up4 => ?_
          have J4 : Inv X pins σ' H' { s' with heap := h4 } := J.landed nb fl4.1 ((up.trans up3).trans up4) os ag
          obtain ⟨oe4, vs4, he4, hz4, hd4⟩ := fl4.there
          have S4 := J4.suite he4 hd4 na nL nF
          refine wpAny_mono ((hsu a oe4 cls d (X.pn ++ pins) hz4 ⟨_, hd4⟩).run [] _ _ H' _ S4 (hyes rfl a na)) (fun f s6 hsp => ?_) (fun _ _ z => False.elim z)
          cases f with
          | next => obtain ⟨σ6, H6, S6, q6⟩ := hsp; exact ⟨_, _, S6.unsuite ok, q6⟩
          | brk => obtain ⟨σ6, H6, S6, q6⟩ := hsp; exact ⟨_, _, S6.unsuite ok, q6⟩
          | cont => obtain ⟨σ6, H6, S6, q6⟩ := hsp; exact ⟨_, _, S6.unsuite ok, q6⟩
          | ret u => obtain ⟨v6, σ6, H6, S6, r6, q6⟩ := hsp; exact ⟨_, _, _, S6.unsuite ok, r6, q6⟩
        | false =>
          show wpAny _ X.A (handleBy (.ref a) X.env hds2) _ _ _
          exact ih (hno rfl)
      | @named x n c i ts b0 suite np pos' hds2 l2 hi hln hc hsu r ih =>
        intro ⟨b, hb1, hyes, hno⟩
        have hloc : Loc X.env.scope n := .inl hln
        refine wpAny_handleBy_cons (codeAny_handlers_test ?_) (by intro q; cases q)
        have LM := PySem.W.exm_one (M := model X.prog X.w) (J3.kIn) LT hb1
        refine test hc (LM.here ?_)
        cases b with
        | true =>
          refine codeAny_handlers_suite_as ?_
          refine HandSPX.lands_againZ fl3 fun h4 fl4 up4 => ?_
          have J4 : Inv X pins σ' H' { s' with heap := h4 } := J.landed nb fl4.1 ((up.trans up3).trans up4) os ag
          obtain ⟨oe4, vs4, he4, hz4, hd4⟩ := fl4.there
          have S4 := J4.suite he4 hd4 na nL nF
          refine store_ok (X := X.suite a ((a, oe4) :: (X.pn ++ pins))) (v := .ref a) S4 hN hi hloc rfl (fun s5 S5 => ?_) (.inr hln)
          refine wpAny_mono ((hsu a oe4 cls d (X.pn ++ pins) hz4 ⟨_, hd4⟩).run [] s5 _ H' _ S5 (hyes rfl a na)) (fun f s6 hsp => ?_) (fun _ _ z => False.elim z)
          have end_ : ∀ {σ6 : St} {H6 : Hp} {Q : Shared → Prop}, Inv (X.suite a ((a, oe4) :: (X.pn ++ pins))) [] σ6 H6 s6 → (∀ s7, Inv X pins (σ6.set i none) H6 s7 → Q s7) →
              wpAny (model X.prog X.w) X.A (do bindName X.env n .none; unbindBehindTheSuite X.env n pos') (fun _ s7 => Q s7) X.xe s6 := fun {σ6 H6 Q} S6 hq => gone_ok (S6.unsuite ok) hN hi hln hq
          cases f with
          | next => obtain ⟨σ6, H6, S6, q6⟩ := hsp; exact end_ S6 fun s7 J7 => ⟨_, _, J7, q6⟩
          | brk => obtain ⟨σ6, H6, S6, q6⟩ := hsp; exact end_ S6 fun s7 J7 => ⟨_, _, J7, q6⟩
          | cont => obtain ⟨σ6, H6, S6, q6⟩ := hsp; exact end_ S6 fun s7 J7 => ⟨_, _, J7, q6⟩
          | ret u => obtain ⟨v6, σ6, H6, S6, r6, q6⟩ := hsp; exact end_ S6 fun s7 J7 => ⟨_, _, _, J7, r6, q6⟩
        | false =>
          show wpAny _ X.A (handleBy (.ref a) X.env hds2) _ _ _
          exact ih (hno rfl)
    exact go hh w
  · cases f with
    | next => obtain ⟨σ', H', J', q⟩ := hsp; exact wpAny_execs_nil ⟨σ', H', J'.ofTry ok, q⟩
    | brk => obtain ⟨σ', H', J', q⟩ := hsp; exact ⟨σ', H', J'.ofTry ok, q⟩
    | cont => obtain ⟨σ', H', J', q⟩ := hsp; exact ⟨σ', H', J'.ofTry ok, q⟩
    | ret u => obtain ⟨v, σ', H', J', r, q⟩ := hsp; exact ⟨v, σ', H', J'.ofTry ok, r, q⟩
end
end L2
namespace DL
open PySem L2
/-! ### try with several clauses, over data -/
structure DCl where
  cn : Str
  i : Option Nat
  suite : Addr → Addr → MS
def DCl.go (cl : DCl) (E : DEnds) (x : Ex) (s1 : S) : Prop := match cl.i with
  | some i => x.fs ≠ [] ∧ ∀ a dd, s1.mu dd = none → cl.suite a dd (s1.caught i a dd x.fs) { nx := fun s => E.nx (s.left i dd), rt := fun d s => E.rt d { s with mu := muSet s.mu dd none }, bk := fun s => E.bk (s.left i dd), ct := fun s => E.ct (s.left i dd) } PX0
  | none => ∀ a dd, cl.suite a dd s1 E PX0
def mGo : List DCl → DEnds → Ex → S → Prop
  | [], _, _, _ => False
  | cl :: r, E, x, s1 => if x.cls = cl.cn then cl.go E x s1 else mGo r E x s1
def mTryM (body : MS) (l : List DCl) : MS := fun st E PX => body st E fun x s1 => mGo l E x s1
theorem mGo_mem : ∀ {l : List DCl} {E : DEnds} {x : Ex} {s : S}, mGo l E x s → ∃ cl ∈ l, x.cls = cl.cn
  | cl :: r, E, x, s, h => by
    unfold mGo at h
    by_cases e : x.cls = cl.cn
    · exact ⟨cl, List.mem_cons_self, e⟩
    · rw [if_neg e] at h
      obtain ⟨c2, h1, h2⟩ := mGo_mem h
      exact ⟨c2, List.mem_cons_of_mem _ h1, h2⟩
theorem mGo_hit {cl : DCl} {r : List DCl} {E : DEnds} {x : Ex} {s : S} (e : x.cls = cl.cn) (h : cl.go E x s) : mGo (cl :: r) E x s := by
  unfold mGo
  rw [if_pos e]
  exact h
theorem mGo_skip {cl : DCl} {r : List DCl} {E : DEnds} {x : Ex} {s : S} (e : ¬ x.cls = cl.cn) (h : mGo r E x s) : mGo (cl :: r) E x s := by
  unfold mGo
  rw [if_neg e]
  exact h
/-- an error of the class B is none of the class A -/
def Miss (K : PySem.W.Frag) (mg : Str → Option Value) (B A : Str) : Prop := ∀ CB CA : Addr, mg B = some (.ref CB) → mg A = some (.ref CA) → PySem.W.exmOne K (.ref CB) (.ref CA) = some false
inductive DCls (X : Cx) (Y : Yc) : List ExceptHandler → List DCl → Prop
  | nil : DCls X Y [] []
  | named {xn n : Str} {C : Addr} {i : Nat} {ms : Addr → Addr → MS} {b0 : Stmt} {suite : List Stmt} {np pos' : Pos} {hds : List ExceptHandler} {l : List DCl} (gC : X.mg xn = some (.ref C)) (te : PySem.W.exmOne X.K (.ref C) (.ref C) = some true) (hi : X.N[i]? = some n) (hln : X.env.kindOf n = some .local) (hg : Gl X xn) (hdb : (xn == ("__debug__" : Str)) = false)
      (hsu : ∀ (a : Addr) (oe : Obj) (dd : Addr) (pn : List (Addr × Obj)), Zc (.ref C) (some dd) oe → (∃ vs, oe.data = .fields vs) → DSs (X.suite a ((a, oe) :: pn)) Y W0 (b0 :: suite) (ms a dd)) (miss : ∀ cl ∈ l, Miss X.K X.mg cl.cn xn) (r : DCls X Y hds l) :
      DCls X Y (.ExceptHandler (some (.Name xn np)) (some n) (b0 :: suite) pos' :: hds) (⟨xn, some i, ms⟩ :: l)
  | plain {xn : Str} {C : Addr} {ms : Addr → Addr → MS} {b0 : Stmt} {suite : List Stmt} {np pos' : Pos} {hds : List ExceptHandler} {l : List DCl} (gC : X.mg xn = some (.ref C)) (te : PySem.W.exmOne X.K (.ref C) (.ref C) = some true) (hg : Gl X xn) (hdb : (xn == ("__debug__" : Str)) = false)
      (hsu : ∀ (a : Addr) (oe : Obj) (pn : List (Addr × Obj)), (∃ vs, oe.data = .fields vs) → DSs (X.suite a ((a, oe) :: pn)) Y W0 (b0 :: suite) (ms a a)) (miss : ∀ cl ∈ l, Miss X.K X.mg cl.cn xn) (r : DCls X Y hds l) :
      DCls X Y (.ExceptHandler (some (.Name xn np)) none (b0 :: suite) pos' :: hds) (⟨xn, none, ms⟩ :: l)
def Fit (X : Cx) (Y : Yc) (l : List DCl) (l' : List ExCl) : Prop := ∀ (D : Ends) (E : DEnds) (G : Hp) (st : S) (H : Hp) (x : Ex) (st' : S) (cls : Value) (d : Option Addr) (σ' : St) (G' H' : Hp), EndsOk Y G st H E D → mGo l E x st' → Same G G' → Frm Y G st.mu H G' st'.mu H' → R Y G' st' σ' H' → RepX Y G' st'.mu H' x cls d → wCls X.K (fun _ _ _ _ => False) D l' cls d σ' H'
section
variable {X : Cx} {Y : Yc} {W : WX} {pos : Pos}
theorem DCls.fit (hmg : Y.mg = X.mg) {hds : List ExceptHandler} {l : List DCl} (h : DCls X Y hds l) : ∃ l', ClsOk X hds l' ∧ Fit X Y l l' := by
  induction h with
  | nil => exact ⟨[], .nil, fun _ _ _ _ _ _ _ _ _ _ _ _ _ z => z.elim⟩
  | @named xn n C i ms b0 suite np pos' hds l gC te hi hln hg hdb hsu miss r ih =>
    obtain ⟨l', ok, fit⟩ := ih
    refine ⟨⟨.ref C, some i, fun a cls d D σ H => ∃ dd, d = some dd ∧ cls = .ref C ∧ TSof Y W0 (ms a dd) D σ H⟩ :: l', .named hi hln ⟨hg, hdb, .inl gC⟩ (fun a oe cls d pn hz hd => ⟨fun pins s σ H D I ⟨dd, e1, e2, q⟩ => ?_⟩) ok, fun D E G st H x st' cls d σ' G' H' k hgo g1 f1 r1 rx => ?_⟩
    · subst e1
      subst e2
      exact (hsu a oe dd pn hz hd).run pins s σ H D I q
    · have rx' := rx
      obtain ⟨⟨C', e1, e2⟩, h3⟩ := rx
      subst e2
      rw [hmg] at e1
      by_cases ec : x.cls = xn
      · have eC : C' = C := by
          rw [ec, gC] at e1
          cases e1
          rfl
        subst eC
        have hgo' : DCl.go ⟨xn, some i, ms⟩ E x st' := by
          unfold mGo at hgo
          rw [if_pos ec] at hgo
          exact hgo
        obtain ⟨hne, hx⟩ := hgo'
        refine ⟨true, te, fun _ a na => ?_, fun z => by cases z⟩
        rcases h3 with ⟨e4, e5⟩ | ⟨dd, vs, e4, e5, e6, e7, e8, e9⟩
        · exact absurd e4 hne
        · refine ⟨dd, e4, rfl, G', st'.caught i a dd x.fs, _, PX0, ⟨r1.h.hold e5 e6 e7 e9, r1.s.set i (.ref a)⟩, hx a dd e8, fun _ _ _ _ _ _ _ z => z.elim, ⟨fun s5 σ5 G5 H5 h5 g5 f5 r5 => ?_, fun d5 s5 v5 σ5 G5 H5 h5 g5 f5 r5 q5 => ?_, fun s5 σ5 G5 H5 h5 g5 f5 r5 => ?_, fun s5 σ5 G5 H5 h5 g5 f5 r5 => ?_⟩⟩
          · exact k.nx _ _ G5 H5 h5 (g1.trans g5) (frm_through f1 e5 f5) ⟨r5.h.drop dd, r5.s.none i⟩
          · exact k.rt _ _ v5 σ5 G5 H5 h5 (g1.trans g5) (frm_through f1 e5 f5) ⟨r5.h.drop dd, r5.s⟩ q5
          · exact k.bk _ _ G5 H5 h5 (g1.trans g5) (frm_through f1 e5 f5) ⟨r5.h.drop dd, r5.s.none i⟩
          · exact k.ct _ _ G5 H5 h5 (g1.trans g5) (frm_through f1 e5 f5) ⟨r5.h.drop dd, r5.s.none i⟩
      · have hgo' : mGo l E x st' := by
          unfold mGo at hgo
          rw [if_neg ec] at hgo
          exact hgo
        obtain ⟨c2, m1, m2⟩ := mGo_mem hgo'
        exact ⟨false, miss c2 m1 C' C (by rw [← m2]; exact e1) gC, fun z => (by cases z), fun _ => fit D E G st H x st' _ d σ' G' H' k hgo' g1 f1 r1 rx'⟩
  | @plain xn C ms b0 suite np pos' hds l gC te hg hdb hsu miss r ih =>
    obtain ⟨l', ok, fit⟩ := ih
    refine ⟨⟨.ref C, none, fun a cls d D σ H => TSof Y W0 (ms a a) D σ H⟩ :: l', .plain ⟨hg, hdb, .inl gC⟩ (fun a oe cls d pn hz hd => ⟨fun pins s σ H D I q => (hsu a oe pn hd).run pins s σ H D I q⟩) ok, fun D E G st H x st' cls d σ' G' H' k hgo g1 f1 r1 rx => ?_⟩
    have rx' := rx
    obtain ⟨⟨C', e1, e2⟩, h3⟩ := rx
    subst e2
    rw [hmg] at e1
    by_cases ec : x.cls = xn
    · have eC : C' = C := by
        rw [ec, gC] at e1
        cases e1
        rfl
      subst eC
      have hgo' : DCl.go ⟨xn, none, ms⟩ E x st' := by
        unfold mGo at hgo
        rw [if_pos ec] at hgo
        exact hgo
      exact ⟨true, te, fun _ a na => ⟨G', st', E, PX0, r1, hgo' a a, fun _ _ _ _ _ _ _ z => z.elim, k.on g1 f1⟩, fun z => by cases z⟩
    · have hgo' : mGo l E x st' := by
        unfold mGo at hgo
        rw [if_neg ec] at hgo
        exact hgo
      obtain ⟨c2, m1, m2⟩ := mGo_mem hgo'
      exact ⟨false, miss c2 m1 C' C (by rw [← m2]; exact e1) gC, fun z => (by cases z), fun _ => fit D E G st H x st' _ d σ' G' H' k hgo' g1 f1 r1 rx'⟩
theorem ds_tryM {body : List Stmt} {h0 : ExceptHandler} {hds : List ExceptHandler} {l : List DCl} {mb : MS} (hs : X.stack = X.env :: X.outer) (hf : X.env.frame = some X.env.locals) (hmg : Y.mg = X.mg) (hN : X.N.Nodup)
    (hb : ∀ (W : WX) (pn : List (Addr × Obj)) (xe : Value → Shared → Prop), Takes (X.tr pn xe) W → PassesOwn (model X.prog X.w) X.A X.env xe → DSs (X.tr pn xe) Y W body mb) (hc : DCls X Y (h0 :: hds) l) :
    DS X Y W (.Try body (h0 :: hds) [] [] pos) (mTryM mb l) := by
  obtain ⟨l', ok, fit⟩ := hc.fit hmg
  refine psImp (ps_try_cls (l := l') (tb := fun W => TSof Y W mb) (Wout := fun _ _ _ _ => False) hs hf hN takes0 hb ok) fun D σ H ⟨G, st, E, PX, rr, hm, xp, k⟩ => ?_
  exact ⟨G, st, E, _, rr, hm, fun x st' cls d σ' G' H' hgo g1 f1 r1 rx => fit D E G st H x st' cls d σ' G' H' k hgo g1 f1 r1 rx, k⟩
end
end DL
namespace DL
open PySem L2 RZ
/-! ### enumerate, zip -/
section
variable {X : Cx} {Y : Yc} {W : WX} {G : Hp} {mu : Mu} {c : Nat} {H : Hp} {a b e tg : Expr} {pos : Pos} {mas : MA}
theorem yld_pair {G' : Hp} {H H' : Hp} {T : Addr} {d1 d2 : D} {v1 v2 : V} (r : R0 Y G' mu c H) (hT : H T = none) (eH : H' = upd H T (.tup [v1, v2])) (q1 : Rep Y G' d1 v1) (q2 : Rep Y G' d2 v2) :
    ∃ G'', Same G' G'' ∧ Frm Y G' mu H G'' mu H' ∧ R0 Y G'' mu c H' ∧ Rep Y G'' (.tup [d1, d2]) (.ref T) := by
  subst eH
  obtain ⟨n1, n2, n3⟩ := r.new hT (.tup [v1, v2])
  exact ⟨_, n2, .new hT, n1, .tup (.inl (.inl upd_same)) (.cons (q1.mono n2) (.cons (q2.mono n2) .nil))⟩
def enumD (ds : List D) : List D := (List.range ds.length).map fun i => .tup [.int (i : Nat), ds.getD i .non]
theorem enumD_get {ds : List D} {i : Nat} {d : D} (h : ds[i]? = some d) : (enumD ds)[i]? = some (.tup [.int (i : Nat), d]) := by
  have hi : i < ds.length := (List.getElem?_eq_some_iff.mp h).1
  unfold enumD
  rw [List.getElem?_map, List.getElem?_range hi]
  simp [h]
theorem enumD_len (ds : List D) : (enumD ds).length = ds.length := by simp [enumD]
theorem wk_enum {a : Addr} {vs : List V} {ds : List D} (h : G a = some (.lst vs)) (q : Reps Y G ds vs) : Wk Y G (Ite X.K a) (enumD ds) where
  go := fun i H hi s => by
    rw [enumD_len] at hi
    obtain ⟨v, e, _⟩ := q.get (List.getElem?_eq_getElem hi)
    exact ⟨vs, v, SqL.of (s _ _ h), e⟩
  stop := fun H s => ⟨vs, SqL.of (s _ _ h), by rw [enumD_len, q.length]; exact Nat.le_refl _⟩
  yld := fun i H x H' G' mu c hi s r ⟨T, y, e1, e2, e3, e4⟩ => by
    rw [enumD_len] at hi
    subst e1
    obtain ⟨v, e, qv⟩ := q.get (List.getElem?_eq_getElem hi)
    have e5 := e4 vs (SqL.of (r.sub _ _ (s _ _ h)))
    rw [e] at e5
    cases e5
    obtain ⟨G'', g1, f1, r1, q1⟩ := yld_pair r e2 e3 (.int (i : Nat)) (qv.mono s)
    exact ⟨_, G'', enumD_get (List.getElem?_eq_getElem hi), g1, f1, r1, q1⟩
def mEnum (n : MA) : MA := fun st P PX => n st (fun ds s1 => ∃ xs, ds = [.lst xs] ∧ P (enumD xs) s1) PX
theorem di_enum {p tpos : Pos} {elts : List Expr} {kk : Nat} (hg : Gl X "enumerate") (hm : X.mg "enumerate" = none) (ha : DA X Y W [a] mas) (hs : starEach [a] X.env = [(false, eval a X.env)] := by rfl) : DI X Y W (.Tuple elts kk tpos) (.Call (.Name "enumerate" p) [a] [] pos) (mEnum mas) :=
  piImp (pi_enum hg hm ha hs) fun σ H Rr ⟨G, st, P, PX, rr, hm, xp, k⟩ => ⟨G, st, _, PX, rr, hm, xp, fun ds s1 vs G1 H1 ⟨xs, e1, h1⟩ g1 f1 r1 q1 => by
    subst e1
    obtain ⟨v, rfl, qv⟩ := q1.one
    obtain ⟨a1, xs1, rfl, h2, q2⟩ := qv.lstI
    exact ⟨a1, xs1, rfl, SqL.of (r1.h.sub _ _ h2), k _ s1 G1 H1 _ h1 g1 f1 r1 (wk_enum h2 q2)⟩⟩
def zipD (xs ys : List D) : List D := (List.range (min xs.length ys.length)).map fun i => .tup [xs.getD i .non, ys.getD i .non]
theorem zipD_len (xs ys : List D) : (zipD xs ys).length = min xs.length ys.length := by simp [zipD]
theorem zipD_get {xs ys : List D} {i : Nat} {d e : D} (h : xs[i]? = some d) (g : ys[i]? = some e) : (zipD xs ys)[i]? = some (.tup [d, e]) := by
  have hi : i < xs.length := (List.getElem?_eq_some_iff.mp h).1
  have hj : i < ys.length := (List.getElem?_eq_some_iff.mp g).1
  unfold zipD
  rw [List.getElem?_map, List.getElem?_range (by omega)]
  simp [h, g]
theorem wk_zip {a b : Addr} {vs us : List V} {xs ys : List D} (h : G a = some (.lst vs)) (g : G b = some (.lst us)) (q : Reps Y G xs vs) (p : Reps Y G ys us) : Wk Y G (Itz X.K a b) (zipD xs ys) where
  go := fun i H hi s => by
    rw [zipD_len] at hi
    obtain ⟨v, e, _⟩ := q.get (List.getElem?_eq_getElem (show i < xs.length by omega))
    obtain ⟨u, e2, _⟩ := p.get (List.getElem?_eq_getElem (show i < ys.length by omega))
    exact ⟨vs, us, v, u, SqL.of (s _ _ h), SqL.of (s _ _ g), e, e2⟩
  stop := fun H s => ⟨vs, us, SqL.of (s _ _ h), SqL.of (s _ _ g), by rw [zipD_len, q.length, p.length]; omega⟩
  yld := fun i H x H' G' mu c hi s r ⟨T, y, z, e1, e2, e3, e4, e5⟩ => by
    rw [zipD_len] at hi
    subst e1
    obtain ⟨v, e, qv⟩ := q.get (List.getElem?_eq_getElem (show i < xs.length by omega))
    obtain ⟨u, e', qu⟩ := p.get (List.getElem?_eq_getElem (show i < ys.length by omega))
    have e6 := e4 vs (SqL.of (r.sub _ _ (s _ _ h)))
    have e7 := e5 us (SqL.of (r.sub _ _ (s _ _ g)))
    rw [e] at e6
    rw [e'] at e7
    cases e6
    cases e7
    obtain ⟨G'', g1, f1, r1, q1⟩ := yld_pair r e2 e3 (qv.mono s) (qu.mono s)
    exact ⟨_, G'', zipD_get (List.getElem?_eq_getElem (by omega)) (List.getElem?_eq_getElem (by omega)), g1, f1, r1, q1⟩
theorem wk_zipT {a b : Addr} {vs us : List V} {xs ys : List D} (hK : Y.K = X.K) (h : SqT Y.K G a vs) (g : SqT Y.K G b us) (q : Reps Y G xs vs) (p : Reps Y G ys us) : Wk Y G (ItzT X.K a b) (zipD xs ys) where
  go := fun i H hi s => by
    rw [zipD_len] at hi
    obtain ⟨v, e, _⟩ := q.get (List.getElem?_eq_getElem (show i < xs.length by omega))
    obtain ⟨u, e2, _⟩ := p.get (List.getElem?_eq_getElem (show i < ys.length by omega))
    exact ⟨vs, us, v, u, sqT_mono s (hK ▸ h), sqT_mono s (hK ▸ g), e, e2⟩
  stop := fun H s => ⟨vs, us, sqT_mono s (hK ▸ h), sqT_mono s (hK ▸ g), by rw [zipD_len, q.length, p.length]; omega⟩
  yld := fun i H x H' G' mu c hi s r ⟨T, y, z, e1, e2, e3, e4, e5⟩ => by
    rw [zipD_len] at hi
    subst e1
    obtain ⟨v, e, qv⟩ := q.get (List.getElem?_eq_getElem (show i < xs.length by omega))
    obtain ⟨u, e', qu⟩ := p.get (List.getElem?_eq_getElem (show i < ys.length by omega))
    have e6 := e4 vs (sqT_mono r.sub (sqT_mono s (hK ▸ h)))
    have e7 := e5 us (sqT_mono r.sub (sqT_mono s (hK ▸ g)))
    rw [e] at e6
    rw [e'] at e7
    cases e6
    cases e7
    obtain ⟨G'', g1, f1, r1, q1⟩ := yld_pair r e2 e3 (qv.mono s) (qu.mono s)
    exact ⟨_, G'', zipD_get (List.getElem?_eq_getElem (by omega)) (List.getElem?_eq_getElem (by omega)), g1, f1, r1, q1⟩
def mZip (n : MA) : MA := fun st P PX => n st (fun ds s1 => ∃ xs ys, (ds = [.lst xs, .lst ys] ∨ ds = [.tup xs, .tup ys]) ∧ P (zipD xs ys) s1) PX
theorem di_zip {p tpos : Pos} {elts : List Expr} {kk : Nat} (hY : Y.K = X.K) (hg : Gl X "zip") (hm : X.mg "zip" = none) (ha : DA X Y W [a, b] mas) (hs : starEach [a, b] X.env = (false, eval a X.env) :: starEach [b] X.env := by rfl) (hpl : (backTo pos (starEach [b] X.env)).any (·.1) = false := by rfl) :
    DI X Y W (.Tuple elts kk tpos) (.Call (.Name "zip" p) [a, b] [] pos) (mZip mas) :=
  piImp (pi_zipA hg hm ha hs hpl) fun σ H Rr ⟨G, st, P, PX, rr, hm, xp, k⟩ => ⟨G, st, _, PX, rr, hm, xp, fun ds s1 vs G1 H1 ⟨xs, ys, e1, h1⟩ g1 f1 r1 q1 => by
    rcases e1 with e1 | e1
    · subst e1
      obtain ⟨v, u, rfl, qv, qu⟩ := q1.two
      obtain ⟨a1, xs1, rfl, h2, q2⟩ := qv.lstI
      obtain ⟨b1, ys1, rfl, h3, q3⟩ := qu.lstI
      exact ⟨a1, b1, xs1, ys1, rfl, .inl ⟨SqL.of (r1.h.sub _ _ h2), SqL.of (r1.h.sub _ _ h3), k _ s1 G1 H1 _ h1 g1 f1 r1 (wk_zip h2 h3 q2 q3)⟩⟩
    · subst e1
      obtain ⟨v, u, rfl, qv, qu⟩ := q1.two
      obtain ⟨a1, xs1, rfl, h2, q2⟩ := qv.tupI
      obtain ⟨b1, ys1, rfl, h3, q3⟩ := qu.tupI
      exact ⟨a1, b1, xs1, ys1, rfl, .inr ⟨sqT_mono r1.h.sub (hY ▸ h2), sqT_mono r1.h.sub (hY ▸ h3), k _ s1 G1 H1 _ h1 g1 f1 r1 (wk_zipT hY h2 h3 q2 q3)⟩⟩⟩
/-! ### isinstance of one of two built-in classes -/
def mIsi2 (T1 T2 : String) (m : ME) : ME := fun st P PX => m st (fun d s1 => d.ty.isSome = true ∧ P (.bl (d.isTy T1 || d.isTy T2)) s1) PX
theorem de_isi2 {x y : Str} {p p1 p2 tp : Pos} {kk : Nat} {T1 T2 : String} {me : ME} (hY : Y.K = X.K) (hg : Gl X "isinstance") (hm : X.mg "isinstance" = none) (he : DE X Y W e me) (hg1 : Gl X x) (hm1 : X.mg x = none) (hb1 : bootBuiltins x = some (.type T1)) (hk1 : kits T1 = true) (hg2 : Gl X y) (hm2 : X.mg y = none) (hb2 : bootBuiltins y = some (.type T2)) (hk2 : kits T2 = true)
    (n1 : x ≠ "__name__" := by decide) (n2 : y ≠ "__name__" := by decide) (d1 : (x == ("__debug__" : Str)) = false := by decide) (d2 : (y == ("__debug__" : Str)) = false := by decide)
    (h1 : starEach [e, .Tuple [.Name x p1, .Name y p2] kk tp] X.env = (false, eval e X.env) :: starEach [.Tuple [.Name x p1, .Name y p2] kk tp] X.env := by rfl) (h2 : starEach [.Tuple [.Name x p1, .Name y p2] kk tp] X.env = (false, eval (.Tuple [.Name x p1, .Name y p2] kk tp) X.env) :: starEach [] X.env := by rfl)
    (h3 : starEach [.Name x p1, .Name y p2] X.env = (false, eval (.Name x p1) X.env) :: starEach [.Name y p2] X.env := by rfl) (h4 : starEach [.Name y p2] X.env = (false, eval (.Name y p2) X.env) :: starEach [] X.env := by rfl)
    (hpl : (backTo pos (starEach [.Tuple [.Name x p1, .Name y p2] kk tp] X.env)).any (·.1) = false := by rfl) : DE X Y W (.Call (.Name "isinstance" p) [e, .Tuple [.Name x p1, .Name y p2] kk tp] [] pos) (mIsi2 T1 T2 me) :=
  peImp (pe_callB call_isiT hg hm bb_isi (pa_cons he (pa_cons (pe_tup (pa_cons (pe_bltn (v := .ty T1) hg1 hm1 hb1 rfl n1 d1) (pa_cons (pe_bltn (v := .ty T2) hg2 hm2 hb2 rfl n2 d2) pa_nil h4) h3)) pa_nil h2) h1) (by decide) (by decide) h1 hpl) fun σ H Q ⟨G, st, P, PX, rr, hm, xp, k⟩ =>
    ⟨G, st, _, PX, rr, hm, xp, fun d s1 v G1 H1 ⟨hty, hp⟩ g f r q => ⟨shortL 2 rfl, fun T hT => by
      cases et : d.ty with
      | none => rw [et] at hty; cases hty
      | some t =>
        have r' : R Y G1 s1 σ (upd H1 T (.tup [.ty T1, .ty T2])) := ⟨r.h.add hT _, r.s⟩
        refine ⟨v, T, [.ty T1, .ty T2], .type t, [.type T1, .type T2], d.isTy T1 || d.isTy T2, rfl, upd_same, .cons (.ty T1) (.cons (.ty T2) .nil), hY ▸ q.tyx et r'.h.sub, ?_, k _ s1 _ G1 _ hp g (f.trans (.add hT)) r' (.bl _)⟩
        refine kitAny_cons (kit_ty (kits_ok hk1 et)) (fun e1 => kitAny_cons (kit_ty (kits_ok hk2 et)) (fun e2 => ?_) (fun e2 => ?_)) (fun e1 => ?_)
        · rw [e1, e2]; exact kitAny_nil
        · rw [e1, e2]; rfl
        · rw [e1]; rfl⟩⟩
end
end DL
namespace DL
open PySem L2
/-! ### instances -/
theorem RM.plain {Y : Yc} {G : Hp} {m : MO} {o : HO} (h : RM Y G m o) : plainO o := by
  cases h with
  | lst _ => exact plain_lst
  | dct _ => exact plain_dK
  | ins _ _ => exact plain_ins
  | xd _ => exact plain_xd
theorem RepF.look {Y : Yc} {G : Hp} {fs : List (Str × D)} {vs : List (Str × V)} (h : RepF Y G fs vs) (f : Str) : (∀ d, fs.lookup f = some d → ∃ v, vs.lookup f = some v ∧ Rep Y G d v) ∧ (fs.lookup f = none → vs.lookup f = none) := by
  induction h with
  | nil => exact ⟨fun d e => (by cases e), fun _ => rfl⟩
  | cons k q _ ih =>
    by_cases hk : f = k
    · subst hk
      refine ⟨fun d e => ?_, fun e => ?_⟩
      · simp only [List.lookup, beq_self_eq_true] at e ⊢
        cases e
        exact ⟨_, rfl, q⟩
      · simp [List.lookup] at e
    · have hb : (f == k) = false := by simpa using hk
      simp only [List.lookup, hb]
      exact ih
theorem RepF.length {Y : Yc} {G : Hp} {fs : List (Str × D)} {vs : List (Str × V)} (h : RepF Y G fs vs) : fs.length = vs.length := by
  induction h with
  | nil => rfl
  | cons _ _ _ ih => rw [List.length_cons, List.length_cons, ih]
section
variable {X : Cx} {Y : Yc} {W : WX} {G : Hp} {mu : Mu} {c : Nat} {H : Hp} {o value : Expr} {mo mv : ME} {pos pos' : Pos} {cn f : Str} {C : Addr}
/-- an object that may change is changed -/
theorem R0.set {a : Addr} {m m' : MO} {o' : HO} (h : R0 Y G mu c H) (hm : mu a = some m) (q : RM Y G m' o') : R0 Y G (muSet mu a (some m')) c (upd H a o') := by
  obtain ⟨hG, o, ho, rm⟩ := h.mus a m hm
  have hpl : ∀ o1, H a = some o1 → plainO o1 := fun o1 e => by rw [ho] at e; cases e; exact rm.plain
  obtain ⟨n1, n2⟩ := h.ext.off hpl
  have ext' := h.ext.turn (H' := upd H a o') hpl fun b x hb e => by rw [upd_ne hb]; exact e
  refine ⟨fun b x e => ?_, fun b mb e => ?_, ?_, ⟨ext'.tab, fun p hp => ⟨(ext'.tabO p hp).1, by rw [muSet_ne (n1 p hp)]; exact (ext'.tabO p hp).2⟩, fun p hp => ⟨(ext'.raw p hp).1, (ext'.raw p hp).2.1, by rw [muSet_ne (n2 p hp)]; exact (ext'.raw p hp).2.2⟩, ext'.pl, ext'.lo⟩⟩
  · have hb : b ≠ a := fun z => by rw [z, hG] at e; cases e
    rw [upd_ne hb]
    exact h.sub b x e
  · by_cases hb : b = a
    · subst hb
      rw [muSet_same] at e
      cases e
      exact ⟨hG, o', upd_same, q⟩
    · rw [muSet_ne hb] at e
      obtain ⟨g1, x, g2, g3⟩ := h.mus b mb e
      exact ⟨g1, x, by rw [upd_ne hb]; exact g2, g3⟩
  · obtain ⟨x, h1, h2, h3, h4⟩ := h.pen
    have hp : Y.p ≠ a := fun z => by rw [z, hm] at h4; cases h4
    exact ⟨x, by rw [upd_ne hp]; exact h1, h2, h3, by rw [muSet_ne hp]; exact h4⟩
theorem Frm.set {a : Addr} {m m' : MO} {o' : HO} (hm : mu a = some m) : Frm Y G mu H G (muSet mu a (some m')) (upd H a o') := fun b x h1 h2 h3 _ => by
  have hb : b ≠ a := fun z => by rw [z, hm] at h3; cases h3
  exact ⟨by rw [upd_ne hb]; exact h1, h2, by rw [muSet_ne hb]; exact h3⟩
/-- o.f -/
def mFld (cn f : Str) (m : ME) : ME := fun st P PX => m st (fun d s1 => ∃ a fs v, d = .ref a ∧ s1.mu a = some (.ins cn fs) ∧ fs.lookup f = some v ∧ P v s1) PX
theorem de_fld (hY : Y.mg = X.mg) (gC : X.mg cn = some (.ref C)) (cl : Cls X.K C) (na : NoAttr X.K C f) (ho : DE X Y W o mo) (hb : attributeBase o f X.env (eval o X.env) = eval o X.env := by rfl) : DE X Y W (.Attribute o f pos) (mFld cn f mo) :=
  peImp (pe_fld ho hb) fun σ H Q ⟨G, st, P, PX, rr, hm, xp, k⟩ => ⟨G, st, _, PX, rr, hm, xp, fun d s1 v G1 H1 ⟨a, fs, w, ed, hmu, hl, hp⟩ g1 f1 r1 q1 => by
    subst ed
    cases q1
    obtain ⟨_, ob, hob, rm⟩ := r1.h.mus a _ hmu
    cases rm with
    | @ins _ C' dx _ vs e q =>
      have eC : C' = C := by rw [hY, gC] at e; cases e; rfl
      subst eC
      obtain ⟨u, hu, qu⟩ := (q.look f).1 w hl
      exact ⟨a, C', dx, vs, u, rfl, hob, cl, na, hu, k w s1 u G1 H1 hp g1 f1 r1 qu⟩⟩
/-- o.f = value (the value first) -/
def putFD (f : Str) (v : D) : List (Str × D) → List (Str × D)
  | [] => [(f, v)]
  | (g, x) :: r => if g = f then (g, v) :: r else (g, x) :: putFD f v r
theorem RepF.put {fs : List (Str × D)} {vs : List (Str × V)} (h : RepF Y G fs vs) (f : Str) {d : D} {v : V} (q : Rep Y G d v) : RepF Y G (putFD f d fs) (putF f v vs) := by
  induction h with
  | nil => exact .cons f q .nil
  | @cons k d0 v0 ds vs q0 r ih =>
    unfold putFD putF
    by_cases hk : k = f
    · rw [if_pos hk, if_pos hk]
      exact .cons k q r
    · rw [if_neg hk, if_neg hk]
      exact .cons k q0 ih
def mPutF (cn f : Str) (mo mv : ME) : MS := fun st E PX => mv st (fun d s1 => mo s1 (fun e s2 => ∃ a fs, e = .ref a ∧ s2.mu a = some (.ins cn fs) ∧ fs.length < 1000 ∧ E.nx { s2 with mu := muSet s2.mu a (some (.ins cn (putFD f d fs))) }) PX) PX
theorem ds_fld (hY : Y.mg = X.mg) (gC : X.mg cn = some (.ref C)) (cl : Cls X.K C) (na : NoAttr X.K C f) (ho : DE X Y W o mo) (hv : DE X Y W value mv) (hs : swapsWith value (some (.Attribute o f pos')) pos.line X.env = pure false := by rfl) : DS X Y W (.Assign [.Attribute o f pos'] value pos) (mPutF cn f mo mv) :=
  psImp (ps_fld ho hv hs) fun D σ H ⟨G, st, E, PX, rr, hm, xp, k⟩ => ⟨G, st, _, PX, rr, hm, xp, fun d s1 v G1 H1 h1 g1 f1 r1 q1 => ⟨G1, s1, _, PX, r1, h1, xp.on g1 f1, fun e s2 u G2 H2 ⟨a, fs, ee, hmu, hl, hn⟩ g2 f2 r2 q2 => by
    subst ee
    cases q2
    obtain ⟨_, ob, hob, rm⟩ := r2.h.mus a _ hmu
    cases rm with
    | @ins _ C' dx _ vs e q =>
      have eC : C' = C := by rw [hY, gC] at e; cases e; rfl
      subst eC
      refine ⟨a, C', dx, vs, rfl, hob, cl, na, by rw [← q.length]; exact hl, ?_⟩
      exact k.nx _ _ G2 _ hn (g1.trans g2) ((f1.trans f2).trans (.set hmu)) ⟨r2.h.set hmu (.ins e (q.put f (q1.mono g2))), r2.s⟩⟩⟩
end
end DL
namespace DL
open PySem L2
/-! ### methods, instances -/
/-- the def at f keeps the promise sp -/
structure FnF (P : Program) (w : World) (K : PySem.W.Frag) (mg : Str → Option Value) (T : List (Addr × Str)) (base : Heap) (k : Nat) (f : Addr) (ps : List Str) (sp : DSp) : Prop where
  ex : ∃ fd : FuncData, Binds K fd ps [] ∧ ∀ (q : Qp), FnOk P w K mg base (L2.CX P w) k f fd ps (SpOf (Yp K mg T q) sp)
theorem FnF.mono {P : Program} {w : World} {K : PySem.W.Frag} {mg : Str → Option Value} {T : List (Addr × Str)} {base : Heap} {j k : Nat} {f : Addr} {ps : List Str} {sp : DSp} (F : FnF P w K mg T base j f ps sp) (h : j ≤ k) : FnF P w K mg T base k f ps sp :=
  let ⟨fd, h3, h4⟩ := F.ex
  ⟨fd, h3, fun q => (h4 q).mono h⟩
section
variable {P : Program} {w : World} {K : PySem.W.Frag} {mg : Str → Option Value} {T : List (Addr × Str)} {base : Heap}
/-- THE RULE for a method over data -/
theorem fnF {x qual : Str} {st : Stmt} {f : Addr} {fd : FuncData} {N ps : List Str} {k : Nat} {sp : DSp} (F : Fun K x qual st f fd) (b : Binds K fd ps []) (Sc : FnScope N ps (defScope st))
    (len : ∀ ds mu c P PX, sp ds mu c P PX → ds.length = ps.length)
    (hbody : ∀ (X : Cx) (q : Qp) (W : WX), (∃ cdv A outer s H E, X = cxOf (L2.CX P w) P w K mg base N qual (defScope st) f cdv A outer s H E) → Takes X W → Room k X.A → PassesOwn (model X.prog X.w) X.A X.env X.xe →
      ∃ m, DSs X (Yp K mg T q) W (defBody st) m ∧ ∀ ds mu c P PX, sp ds mu c P PX → m (S0 N ps ds mu c) (EF P) (XF PX)) :
    FnF P w K mg T base (k + 1) f ps sp := by
  refine ⟨fd, b, fun q => ?_⟩
  refine F.okX Sc (fun vs H Q E ⟨G, mu, c, ds, P, PX, r0, qv, h, _⟩ => ?_) fun cdv A outer s H vs Q E hr ⟨G, mu, c, ds, P, PX, r0, qv, h, kq, kx⟩ => ?_
  · rw [← qv.length]
    exact len _ _ _ _ _ h
  · obtain ⟨m, hm, hs⟩ := hbody (cxOf (L2.CX _ w) _ w K mg base N qual (defScope st) f cdv A outer s H E) q (fun cls d _ H => E cls d H) ⟨cdv, A, outer, s, H, E, rfl⟩ (takes_of rfl rfl rfl rfl) hr (passes_of rfl)
    have e1 : N.length - vs.length = N.length - ps.length := by rw [← qv.length, len _ _ _ _ _ h]
    refine ⟨_, hm, G, _, _, _, ⟨r0, ?_⟩, hs ds mu c _ _ h, ?_, ?_⟩
    · show Sl (Yp K mg T q) G _ (L2.start N vs)
      unfold L2.start
      rw [e1]
      exact Sl.start qv _
    · exact fun ex st' cls d σ' G' H' ⟨c', l, h1⟩ h2 h3 h4 h5 => kx ex _ _ cls d G' H' h1 h2 h3 (h4.h.more l) h5
    · exact ⟨fun st' σ' G' H' ⟨c', l, h1⟩ h2 h3 h4 => kq _ _ _ _ G' H' h1 h2 h3 (h4.h.more l) .non, fun d st' v σ' G' H' ⟨c', l, h1⟩ h2 h3 h4 h5 => kq _ _ _ _ G' H' h1 h2 h3 (h4.h.more l) h5, fun _ _ _ _ h => h.elim, fun _ _ _ _ h => h.elim⟩
theorem FnF.none {x qual : Str} {st : Stmt} {f : Addr} {fd : FuncData} {N ps : List Str} {k : Nat} {sp : DSp} (F : Fun K x qual st f fd) (b : Binds K fd ps []) (Sc : FnScope N ps (defScope st)) (h0 : ∀ ds mu c P PX, ¬ sp ds mu c P PX) : FnF P w K mg T base (k + 1) f ps sp :=
  fnF F b Sc (fun ds mu c P PX h => (h0 ds mu c P PX h).elim) fun X q W _ _ _ _ => ⟨_, dss_never, fun ds mu c P PX h => (h0 ds mu c P PX h).elim⟩
end
section
variable {X : Cx} {CX : CXT} {k : Nat} {f C : Addr} {fd : FuncData} {ps : List Str} {sp : Sp} {E : St → XK} {x m : Str} {p pos apos : Pos} {e o : Expr} {es : List Expr} {ta : TE} {t : TA}
def tMethD (C : Addr) (m : Str) (sp : Sp) (E : St → XK) (ta : TE) (t : TA) : TE := fun σ H Q => ta σ H fun x H1 => ∃ a dx fs, x = .ref a ∧ H1 a = some (.ins C dx fs) ∧ fs.lookup m = none ∧
  t σ H1 fun vs H2 => sp (x :: (vs ++ [])) H2 Q (E σ)
theorem pe_methD {pl : Sem Bool} (he : PE X o ta) (c : Cls X.K C) (hm : Meth X.K C m f) (F : FnOk X.prog X.w X.K X.mg X.base CX k f fd ps sp) (hr : Room k X.A) (hb : Binds X.K fd ps []) (hx : ∀ σ, PassesAt CX X σ (E σ)) (ha : PA X (e :: es) t)
    (hst : starEach (e :: es) X.env = (false, eval e X.env) :: starEach es X.env := by rfl) (hpl : (backTo pos (starEach es X.env)).any (·.1) = false := by rfl)
    (ht : eval (.Call (.Attribute o m apos) (e :: es) [] pos) X.env = (do
      let ov ← eval o X.env
      standAt apos.atName
      let (f, first) ← holding [ov] (getMethod ov m pl)
      callWith pos f first (backTo pos (starEach (e :: es) X.env)) (backToKw pos (keywordEach [] X.env))) := by rfl) :
    PE X (.Call (.Attribute o m apos) (e :: es) [] pos) (tMethD C m sp E ta t) := by
  refine ⟨fun pins s σ H Q I h => ?_⟩
  refine PySem.W.methodCall_KW (pl := pl) (thn (he.run pins s σ H _ I h) fun u s1 ⟨x, H1, I1, rx, a, dx, fs, ex, ea, l, q⟩ => ?_) ht
  subst ex
  obtain rfl : u = Value.ref a := rx
  refine getmeth_ok I1 ea c hm l ?_
  refine PySem.W.callWith_K (first := [.ref a]) (h₀ := X.base) I.ok.mod.kin hm.kp (thn (ha.run pos pins s1 σ H1 _ I1 q) fun us s2 ⟨vs, H2, I2, r, q2⟩ => ⟨I2.kIn, ?_⟩) hst hpl
  exact run_fnSD (us := .ref a :: us) (vs := .ref a :: vs) F hr hb .nil (hx σ) I2 (.cons rfl r) q2
theorem pe_methD0 {pl : Sem Bool} (he : PE X o ta) (c : Cls X.K C) (hm : Meth X.K C m f) (F : FnOk X.prog X.w X.K X.mg X.base CX k f fd ps sp) (hr : Room k X.A) (hb : Binds X.K fd ps []) (hx : ∀ σ, PassesAt CX X σ (E σ))
    (ht : eval (.Call (.Attribute o m apos) [] [] pos) X.env = (do
      let ov ← eval o X.env
      standAt apos.atName
      let (f, first) ← holding [ov] (getMethod ov m pl)
      callWith pos f first (backTo pos (starEach [] X.env)) (backToKw pos (keywordEach [] X.env))) := by rfl) :
    PE X (.Call (.Attribute o m apos) [] [] pos) (tMethD C m sp E ta tNil) := by
  refine ⟨fun pins s σ H Q I h => ?_⟩
  refine PySem.W.methodCall_KW (pl := pl) (thn (he.run pins s σ H _ I h) fun u s1 ⟨x, H1, I1, rx, a, dx, fs, ex, ea, l, q⟩ => ?_) ht
  subst ex
  obtain rfl : u = Value.ref a := rx
  refine getmeth_ok I1 ea c hm l ?_
  exact PySem.W.callWith_K0 (first := [.ref a]) I1.kIn hm.kp (run_fnSD (us := [.ref a]) (vs := [.ref a]) F hr hb .nil (hx σ) I1 (.cons rfl .nil) q)
def tMakeSD (C : Addr) (sp : Sp) (E : St → XK) (t : TA) : TE := fun σ H Q => t σ H fun vs H1 => ∀ x dx, H1 x = none → H1 dx = none → dx ≠ x →
  sp (.ref x :: (vs ++ [])) (upd (upd H1 dx (.own x)) x (.ins C dx [])) (fun v H2 => v = .non ∧ Q (.ref x) H2) (E σ)
theorem run_makeSD {pins : List (Addr × Obj)} {σ : St} {H : Hp} {s : Shared} {Q : VK} {us : List Value} {vs dvs : List V} {ds : List Value} (M : Mk X.K C f) (F : FnOk X.prog X.w X.K X.mg X.base CX k f fd ps sp) (hr : Room (k + 1) X.A) (hb : Binds X.K fd ps ds) (hd : Vals dvs ds)
    (hx : PassesAt CX X σ (E σ)) (I : Inv X pins σ H s) (r : Vals vs us)
    (h : ∀ x dx, H x = none → H dx = none → dx ≠ x → sp (.ref x :: (vs ++ dvs)) (upd (upd H dx (.own x)) x (.ins C dx [])) (fun v H2 => v = .non ∧ Q (.ref x) H2) (E σ)) :
    wpAny (model X.prog X.w) X.A (call (.ref C) us) (EP X pins σ Q) X.xe s := by
  have hq := h (s.heap.objs.size + 1) s.heap.objs.size (I.hok.fresh (Nat.le_succ _)) (I.hok.fresh (Nat.le_refl _)) (Nat.ne_of_lt (Nat.lt_succ_self _))
  have I2 := Inv.made (C := C) I
  have r2 : Vals (V.ref (s.heap.objs.size + 1) :: (vs ++ dvs)) (Value.ref (s.heap.objs.size + 1) :: (us ++ ds)) := .cons rfl (r.append hd)
  have hl : (Value.ref (s.heap.objs.size + 1) :: us ++ ds).length = ps.length := by
    have e := r2.length
    rw [F.len _ _ _ _ hq] at e
    exact e.symm
  refine wpAny_call (make_map (f := f) I.kIn M.makes M.init (beq_iff_eq.mp M.fn) (codeAny_mono (F.run _ X.stack _ _ ⟨Value.ref (s.heap.objs.size + 1) :: us, []⟩ (Value.ref (s.heap.objs.size + 1) :: (us ++ ds)) _ _ (E σ) (hr.make C us [])
    (I2.env0.make C us []) (hb _ (Value.ref (s.heap.objs.size + 1) :: us) I2.kIn hl) r2 hq) fun r s' hq' => ?_))
  cases r with
  | error e => exact hx pins _ _ e s' I2 hq'
  | ok fl =>
    cases fl with
    | ret u =>
      obtain ⟨v, H', I3, rv, ev, q3⟩ := I2.after hq'
      subst ev
      exact ⟨rv, ⟨V.ref (s.heap.objs.size + 1), H', I3, rfl, q3⟩⟩
    | next => exact False.elim hq'
    | brk => exact False.elim hq'
    | cont => exact False.elim hq'
theorem pe_makeSD (M : Mk X.K C f) (F : FnOk X.prog X.w X.K X.mg X.base CX k f fd ps sp) (hr : Room (k + 1) X.A) (hg : Gl X x) (hm : X.mg x = some (.ref C)) (hb : Binds X.K fd ps []) (hx : ∀ σ, PassesAt CX X σ (E σ))
    (ha : PA X (e :: es) t) (hdb : (x == ("__debug__" : Str)) = false := by decide) (he : starEach (e :: es) X.env = (false, eval e X.env) :: starEach es X.env := by rfl) (hpl : (backTo pos (starEach es X.env)).any (·.1) = false := by rfl) :
    PE X (.Call (.Name x p) (e :: es) [] pos) (tMakeSD C sp E t) := by
  refine ⟨fun pins s σ H Q I h => ?_⟩
  refine wpAny_Call_Name_kw (ld_glob I hg hm ?_ hdb)
  refine PySem.W.callWith_K (h₀ := X.base) I.ok.mod.kin M.kp (thn (ha.run pos pins s σ H _ I h) fun us s1 ⟨vs, H1, I1, r, q⟩ => ⟨I1.kIn, ?_⟩) he hpl
  exact run_makeSD (dvs := []) (ds := []) M F hr hb .nil (hx σ) I1 r q
end
section
variable {Y : Yc} {G : Hp} {mu : Mu} {c : Nat} {H : Hp}
/-- a fresh object is told as one that may change -/
theorem R0.told (h : R0 Y G mu c H) {a : Addr} {m : MO} {o : HO} (ha : H a = some o) (q : RM Y G m o) (hG : G a = none) (hp : a ≠ Y.p) : R0 Y G (muSet mu a (some m)) c H := by
  obtain ⟨n1, n2⟩ := h.ext.off (q := a) (fun o1 z => by rw [ha] at z; cases z; exact q.plain)
  refine ⟨h.sub, fun x mx e => ?_, ?_, ⟨h.ext.tab, fun p hp => ⟨(h.ext.tabO p hp).1, by rw [muSet_ne (n1 p hp)]; exact (h.ext.tabO p hp).2⟩, fun p hp => ⟨(h.ext.raw p hp).1, (h.ext.raw p hp).2.1, by rw [muSet_ne (n2 p hp)]; exact (h.ext.raw p hp).2.2⟩, h.ext.pl, h.ext.lo⟩⟩
  · by_cases hx : x = a
    · subst hx
      rw [muSet_same] at e
      cases e
      exact ⟨hG, _, ha, q⟩
    · rw [muSet_ne hx] at e
      exact h.mus x mx e
  · obtain ⟨o1, h1, h2, h3, h4⟩ := h.pen
    exact ⟨o1, h1, h2, h3, by rw [muSet_ne (Ne.symm hp)]; exact h4⟩
theorem R0.made (h : R0 Y G mu c H) {x dx C : Addr} {cn : Str} (hx : H x = none) (hd : H dx = none) (n : dx ≠ x) (e : Y.mg cn = some (.ref C)) :
    mu x = none ∧ R0 Y G (muSet mu x (some (.ins cn []))) c (upd (upd H dx (.own x)) x (.ins C dx [])) ∧ Frm Y G mu H G (muSet mu x (some (.ins cn []))) (upd (upd H dx (.own x)) x (.ins C dx [])) := by
  obtain ⟨f1, f2, f3⟩ := h.fresh hx
  have h1 := h.add hd (.own x)
  have hx1 : upd H dx (.own x) x = none := by rw [upd_ne (Ne.symm n)]; exact hx
  have h2 := h1.add hx1 (.ins C dx [])
  refine ⟨f2, h2.told upd_same (.ins e .nil) f1 f3, fun b o e1 e2 e3 _ => ?_⟩
  have nx : b ≠ x := ne_of_none e1 hx
  have nd : b ≠ dx := ne_of_none e1 hd
  exact ⟨by rw [upd_ne nx, upd_ne nd]; exact e1, e2, by rw [muSet_ne nx]; exact e3⟩
end
section
variable {X : Cx} {W : WX} {q : Qp} {T : List (Addr × Str)} {o e : Expr} {es : List Expr} {mo : ME} {mas : MA} {pos p apos : Pos} {cn m x : Str} {C f : Addr} {k : Nat} {ps : List Str} {sp : DSp}
/-- o.m(..), o an instance of cn -/
def mMeth (cn m : Str) (sp : DSp) (mo : ME) (n : MA) : ME := fun st P PX => mo st (fun d s1 => ∃ a fs, d = .ref a ∧ s1.mu a = some (.ins cn fs) ∧ fs.lookup m = none ∧
  n s1 (fun ds s2 => sp (.ref a :: ds) s2.mu s2.c (fun d mu' c' => P d { s2 with mu := mu', c := c' }) (fun x mu' c' => PX x { s2 with mu := mu', c := c' })) PX) PX
def mMeth0 (cn m : Str) (sp : DSp) (mo : ME) : ME := fun st P PX => mo st (fun d s1 => ∃ a fs, d = .ref a ∧ s1.mu a = some (.ins cn fs) ∧ fs.lookup m = none ∧
  sp [.ref a] s1.mu s1.c (fun d mu' c' => P d { s1 with mu := mu', c := c' }) (fun x mu' c' => PX x { s1 with mu := mu', c := c' })) PX
theorem de_meth {pl : Sem Bool} (gC : X.mg cn = some (.ref C)) (cl : Cls X.K C) (hm : Meth X.K C m f) (F : FnF X.prog X.w X.K X.mg T X.base k f ps sp) (tk : Takes X W) (hr : Room k X.A) (ho : DE X (Yp X.K X.mg T q) W o mo) (ha : DA X (Yp X.K X.mg T q) W (e :: es) mas)
    (hst : starEach (e :: es) X.env = (false, eval e X.env) :: starEach es X.env := by rfl) (hpl : (backTo pos (starEach es X.env)).any (·.1) = false := by rfl)
    (ht : eval (.Call (.Attribute o m apos) (e :: es) [] pos) X.env = (do
      let ov ← eval o X.env
      standAt apos.atName
      let (f, first) ← holding [ov] (getMethod ov m pl)
      callWith pos f first (backTo pos (starEach (e :: es) X.env)) (backToKw pos (keywordEach [] X.env))) := by rfl) : DE X (Yp X.K X.mg T q) W (.Call (.Attribute o m apos) (e :: es) [] pos) (mMeth cn m sp mo mas) := by
  obtain ⟨fd, h3, h4⟩ := F.ex
  refine peImp (pe_methD (E := WE W) (pl := pl) ho cl hm (h4 q) hr h3 (fun σ => passAt tk σ) ha hst hpl ht) fun σ H Q ⟨G, st, P, PX, rr, hm, xp, k⟩ => ?_
  refine ⟨G, st, _, PX, rr, hm, xp, fun d s1 v G1 H1 ⟨a, fs, ed, hmu, hl, hn⟩ g1 f1 r1 q1 => ?_⟩
  subst ed
  cases q1
  obtain ⟨_, ob, hob, rm⟩ := r1.h.mus a _ hmu
  cases rm with
  | @ins _ C' dx _ vs e q =>
    have eC : C' = C := by
      have e' : X.mg cn = some (.ref C') := e
      rw [gC] at e'; cases e'; rfl
    subst eC
    refine ⟨a, dx, vs, rfl, hob, (q.look m).2 hl, ?_⟩
    refine ⟨G1, s1, _, PX, r1, hn, xp.on g1 f1, fun ds s2 vs2 G2 H2 hp2 g2 f2 r2 q2 => ?_⟩
    refine ⟨G2, s2.mu, s2.c, .ref a :: ds, _, _, r2.h, .cons (.ref a) (by rw [List.append_nil]; exact q2), hp2, fun d mu' c' v G' H' hp g f r q => ?_, fun ex mu' c' cls d G' H' hp g f r q => ?_⟩
    · exact k d _ v G' H' hp ((g1.trans g2).trans g) ((f1.trans f2).trans f) ⟨r, r2.s.mono g⟩ q
    · exact xp ex _ cls d σ G' H' hp ((g1.trans g2).trans g) ((f1.trans f2).trans f) ⟨r, r2.s.mono g⟩ q
theorem de_meth0 {pl : Sem Bool} (gC : X.mg cn = some (.ref C)) (cl : Cls X.K C) (hm : Meth X.K C m f) (F : FnF X.prog X.w X.K X.mg T X.base k f ps sp) (tk : Takes X W) (hr : Room k X.A) (ho : DE X (Yp X.K X.mg T q) W o mo)
    (ht : eval (.Call (.Attribute o m apos) [] [] pos) X.env = (do
      let ov ← eval o X.env
      standAt apos.atName
      let (f, first) ← holding [ov] (getMethod ov m pl)
      callWith pos f first (backTo pos (starEach [] X.env)) (backToKw pos (keywordEach [] X.env))) := by rfl) : DE X (Yp X.K X.mg T q) W (.Call (.Attribute o m apos) [] [] pos) (mMeth0 cn m sp mo) := by
  obtain ⟨fd, h3, h4⟩ := F.ex
  refine peImp (pe_methD0 (E := WE W) (pl := pl) ho cl hm (h4 q) hr h3 (fun σ => passAt tk σ) ht) fun σ H Q ⟨G, st, P, PX, rr, hm, xp, k⟩ => ?_
  refine ⟨G, st, _, PX, rr, hm, xp, fun d s1 v G1 H1 ⟨a, fs, ed, hmu, hl, hn⟩ g1 f1 r1 q1 => ?_⟩
  subst ed
  cases q1
  obtain ⟨_, ob, hob, rm⟩ := r1.h.mus a _ hmu
  cases rm with
  | @ins _ C' dx _ vs e q =>
    have eC : C' = C := by
      have e' : X.mg cn = some (.ref C') := e
      rw [gC] at e'; cases e'; rfl
    subst eC
    refine ⟨a, dx, vs, rfl, hob, (q.look m).2 hl, ?_⟩
    show SpOf _ sp [.ref a] H1 Q (WE W σ)
    refine ⟨G1, s1.mu, s1.c, [.ref a], _, _, r1.h, .cons (.ref a) .nil, hn, fun d mu' c' v G' H' hp g f r q => ?_, fun ex mu' c' cls d G' H' hp g f r q => ?_⟩
    · exact k d _ v G' H' hp (g1.trans g) (f1.trans f) ⟨r, r1.s.mono g⟩ q
    · exact xp ex _ cls d σ G' H' hp (g1.trans g) (f1.trans f) ⟨r, r1.s.mono g⟩ q
/-- C(..): a new instance, then its __init__ -/
def mMake (cn : Str) (sp : DSp) (n : MA) : ME := fun st P PX => n st (fun ds s1 => ∀ x, s1.mu x = none → sp (.ref x :: ds) (muSet s1.mu x (some (.ins cn []))) s1.c
  (fun d mu' c' => d = .non ∧ P (.ref x) { s1 with mu := mu', c := c' }) (fun ex mu' c' => PX ex { s1 with mu := mu', c := c' })) PX
theorem de_make (gC : X.mg x = some (.ref C)) (M : Mk X.K C f) (F : FnF X.prog X.w X.K X.mg T X.base k f ps sp) (tk : Takes X W) (hr : Room (k + 1) X.A) (hg : Gl X x) (ha : DA X (Yp X.K X.mg T q) W (e :: es) mas) (hdb : (x == ("__debug__" : Str)) = false := by decide)
    (he : starEach (e :: es) X.env = (false, eval e X.env) :: starEach es X.env := by rfl) (hpl : (backTo pos (starEach es X.env)).any (·.1) = false := by rfl) : DE X (Yp X.K X.mg T q) W (.Call (.Name x p) (e :: es) [] pos) (mMake x sp mas) := by
  obtain ⟨fd, h3, h4⟩ := F.ex
  refine peImp (pe_makeSD (E := WE W) M (h4 q) hr hg gC h3 (fun σ => passAt tk σ) ha hdb he hpl) fun σ H Q ⟨G, st, P, PX, rr, hm, xp, k⟩ => ?_
  refine ⟨G, st, _, PX, rr, hm, xp, fun ds s1 vs G1 H1 hm1 g1 f1 r1 q1 z dz hz hd n => ?_⟩
  obtain ⟨n1, r2, f2⟩ := r1.h.made (cn := x) hz hd n gC
  refine ⟨G1, _, s1.c, .ref z :: ds, _, _, r2, .cons (.ref z) (by rw [List.append_nil]; exact q1), hm1 z n1, fun d mu' c' v G' H' ⟨ed, hp⟩ g f r q => ?_, fun ex mu' c' cls d G' H' hp g f r q => ?_⟩
  · subst ed
    cases q
    exact ⟨rfl, k _ _ _ G' H' hp (g1.trans g) ((f1.trans f2).trans f) ⟨r, r1.s.mono g⟩ (.ref z)⟩
  · exact xp ex _ cls d σ G' H' hp (g1.trans g) ((f1.trans f2).trans f) ⟨r, r1.s.mono g⟩ q
end
end DL
namespace DL
open PySem L2
/-! ### lists that change -/
section
variable {Y : Yc} {G : Hp} {mu : Mu} {c : Nat} {H : Hp}
theorem R0.madeL (h : R0 Y G mu c H) {a : Addr} {ds : List D} {vs : List V} (ha : H a = none) (q : Reps Y G ds vs) :
    mu a = none ∧ R0 Y G (muSet mu a (some (.lst ds))) c (upd H a (.lst vs)) ∧ Frm Y G mu H G (muSet mu a (some (.lst ds))) (upd H a (.lst vs)) := by
  obtain ⟨f1, f2, f3⟩ := h.fresh ha
  refine ⟨f2, (h.add ha (.lst vs)).told upd_same (.lst q) f1 f3, fun b o e1 e2 e3 _ => ?_⟩
  have na : b ≠ a := ne_of_none e1 ha
  exact ⟨by rw [upd_ne na]; exact e1, e2, by rw [muSet_ne na]; exact e3⟩
/-- a list that changed is frozen as it is -/
theorem R0.freeze (h : R0 Y G mu c H) {a : Addr} {ds : List D} (hm : mu a = some (.lst ds)) :
    ∃ vs, H a = some (.lst vs) ∧ Reps Y G ds vs ∧ Same G (upd G a (.lst vs)) ∧ R0 Y (upd G a (.lst vs)) (muSet mu a none) c H ∧ Frm Y G mu H (upd G a (.lst vs)) (muSet mu a none) H := by
  obtain ⟨hG, o, ho, rm⟩ := h.mus a _ hm
  cases rm with
  | @lst _ vs q =>
    have sG : Same G (upd G a (.lst vs)) := same_upd hG
    have hpl : ∀ o1, H a = some o1 → plainO o1 := fun o1 e => by rw [ho] at e; cases e; exact plain_lst
    obtain ⟨n1, n2⟩ := h.ext.off hpl
    have e2 := h.ext.grow hpl (.lst vs) plain_lst hG
    refine ⟨vs, ho, q, sG, ⟨fun b x e => ?_, fun b m e => ?_, ?_, ⟨e2.tab, fun p hp => ⟨(e2.tabO p hp).1, by rw [muSet_ne (n1 p hp)]; exact (e2.tabO p hp).2⟩, fun p hp => ⟨(e2.raw p hp).1, (e2.raw p hp).2.1, by rw [muSet_ne (n2 p hp)]; exact (e2.raw p hp).2.2⟩, e2.pl, e2.lo⟩⟩, fun b x e1 e2 e3 _ => ?_⟩
    · by_cases hb : b = a
      · subst hb; rw [upd_same] at e; cases e; exact ho
      · rw [upd_ne hb] at e; exact h.sub b x e
    · by_cases hb : b = a
      · rw [hb, muSet_same] at e; cases e
      · rw [muSet_ne hb] at e
        obtain ⟨g1, x, g2, g3⟩ := h.mus b m e
        exact ⟨by rw [upd_ne hb]; exact g1, x, g2, g3.mono sG⟩
    · obtain ⟨x, h1, h2, h3, h4⟩ := h.pen
      have hp : Y.p ≠ a := fun z => by rw [z, hm] at h4; cases h4
      exact ⟨x, h1, Y.mono _ _ _ _ sG h2, by rw [upd_ne hp]; exact h3, by rw [muSet_ne hp]; exact h4⟩
    · have hb : b ≠ a := fun z => by rw [z, hm] at e3; cases e3
      exact ⟨e1, by rw [upd_ne hb]; exact e2, by rw [muSet_ne hb]; exact e3⟩
end
section
variable {X : Cx} {Y : Yc} {W : WX} {e o : Expr} {es : List Expr} {me mo : ME} {mas : MA} {pos apos : Pos}
/-- [..], a list that will change -/
def mNewL (n : MA) : ME := fun st P PX => n st (fun ds s1 => ds.length ≤ sizeLine ∧ ∀ a, s1.mu a = none → P (.ref a) { s1 with mu := muSet s1.mu a (some (.lst ds)) }) PX
theorem de_newL (h : DA X Y W es mas) : DE X Y W (.List es pos) (mNewL mas) :=
  peImp (pe_lst h) fun σ H Q ⟨G, st, P, PX, rr, hm, xp, k⟩ => ⟨G, st, _, PX, rr, hm, xp, fun ds s1 vs G1 H1 hm1 g1 f1 r1 q1 =>
    ⟨by rw [← q1.length]; exact hm1.1, fun q hq => by
      obtain ⟨n, r2, f2⟩ := r1.h.madeL hq q1
      exact k _ _ _ G1 _ (hm1.2 q n) g1 (f1.trans f2) ⟨r2, r1.s⟩ (.ref q)⟩⟩
/-- xs.append(e), xs a list that changes -/
def mApp (mo me : ME) : ME := fun st P PX => mo st (fun x s1 => ∃ a ds0, x = .ref a ∧ s1.mu a = some (.lst ds0) ∧ me s1 (fun d s2 => ∃ ds, s2.mu a = some (.lst ds) ∧ ds.length < sizeLine ∧ P .non { s2 with mu := muSet s2.mu a (some (.lst (ds ++ [d]))) }) PX) PX
theorem Reps.snoc {G : Hp} {ds : List D} {vs : List V} (h : Reps Y G ds vs) {d : D} {v : V} (q : Rep Y G d v) : Reps Y G (ds ++ [d]) (vs ++ [v]) := by
  induction ds generalizing vs with
  | nil => cases h; exact .cons q .nil
  | cons d0 ds ih => cases h with | cons h1 h2 => exact .cons h1 (ih h2)
theorem de_app (ho : DE X Y W o mo) (he : DE X Y W e me) (hs : starEach [e] X.env = (false, eval e X.env) :: starEach [] X.env := by rfl) (hbase : attributeBase o "append" X.env (eval o X.env) = eval o X.env := by rfl)
    (hfew : ((backTo pos (starEach [e] X.env)).all (fun x => !x.1) && (backToKw pos (keywordEach [] X.env)).all (fun x => x.1.isSome) && decide ([e].length + ([] : List Keyword).length + (if ([] : List Keyword).isEmpty then 0 else 1) < 30)) = true := by rfl)
    (hline : (apos.endLine == pos.line) = true := by rfl) (hplain : (backTo pos (starEach [] X.env)).any (·.1) = false := by rfl) : DE X Y W (.Call (.Attribute o "append" apos) [e] [] pos) (mApp mo me) := by
  refine peImp (pe_bm PySem.F.plainAttrs_list PySem.F.slot_list_append PySem.F.type_list_append mt_append ho (pa_cons he pa_nil hs) hbase hfew hline hs hplain) fun σ H Q ⟨G, st, P, PX, rr, hm, xp, k⟩ => ?_
  refine ⟨G, st, _, PX, rr, hm, xp, fun x s1 v G1 H1 ⟨a, ds0, ex, hmu, hn⟩ g1 f1 r1 q1 => ?_⟩
  subst ex
  cases q1
  obtain ⟨_, ob, hob, rm⟩ := r1.h.mus a _ hmu
  cases rm with
  | @lst _ vs0 q0 =>
    refine ⟨.inl ⟨rfl, _, SqL.of hob⟩, G1, s1, _, PX, r1, hn, xp.on g1 f1, fun d s2 w G2 H2 ⟨ds, hmu2, hl, hp⟩ g2 f2 r2 q2 => ?_⟩
    obtain ⟨_, ob2, hob2, rm2⟩ := r2.h.mus a _ hmu2
    cases rm2 with
    | @lst _ vs q3 =>
      exact ⟨a, vs, w, rfl, rfl, hob2, by rw [← q3.length]; exact hl, k _ _ _ G2 _ hp (g1.trans g2) ((f1.trans f2).trans (.set hmu2)) ⟨r2.h.set hmu2 (.lst (q3.snoc q2)), r2.s⟩ .non⟩
/-- an expression that gives a list that changes, taken as it is from here on -/
def mFrz (m : ME) : ME := fun st P PX => m st (fun x s1 => ∃ a ds, x = .ref a ∧ s1.mu a = some (.lst ds) ∧ P (.lst ds) { s1 with mu := muSet s1.mu a none }) PX
theorem de_frz (h : DE X Y W e me) : DE X Y W e (mFrz me) :=
  peImp h fun σ H Q ⟨G, st, P, PX, rr, hm, xp, k⟩ => ⟨G, st, _, PX, rr, hm, xp, fun x s1 v G1 H1 ⟨a, ds, ex, hmu, hp⟩ g1 f1 r1 q1 => by
    subst ex
    cases q1
    obtain ⟨vs, ha, q, sG, r2, f2⟩ := r1.h.freeze hmu
    exact k _ _ _ _ H1 hp (g1.trans sG) (f1.trans f2) ⟨r2, r1.s.mono sG⟩ (.lst upd_same (q.mono sG))⟩
/-- xs.pop(), xs a list that changes -/
def mPop (mo : ME) : ME := fun st P PX => mo st (fun x s1 => ∃ a ds d, x = .ref a ∧ s1.mu a = some (.lst ds) ∧ ds[ds.length - 1]? = some d ∧ P d { s1 with mu := muSet s1.mu a (some (.lst ds.dropLast)) }) PX
theorem de_pop (ho : DE X Y W o mo) (hbase : attributeBase o "pop" X.env (eval o X.env) = eval o X.env := by rfl) (hline : (apos.endLine == pos.line) = true := by rfl) : DE X Y W (.Call (.Attribute o "pop" apos) [] [] pos) (mPop mo) := by
  refine peImp (pe_bm0 PySem.F.plainAttrs_list PySem.F.slot_list_pop PySem.F.type_list_pop mt_pop ho hbase hline) fun σ H Q ⟨G, st, P, PX, rr, hm, xp, k⟩ => ?_
  refine ⟨G, st, _, PX, rr, hm, xp, fun x s1 v G1 H1 ⟨a, ds, d, ex, hmu, hd, hp⟩ g1 f1 r1 q1 => ?_⟩
  subst ex
  cases q1
  obtain ⟨_, ob, hob, rm⟩ := r1.h.mus a _ hmu
  cases rm with
  | @lst _ vs q =>
    obtain ⟨u, hu, qu⟩ := q.get hd
    refine ⟨.inl ⟨rfl, _, SqL.of hob⟩, a, vs, u, rfl, rfl, hob, by rw [← q.length]; exact hu, ?_⟩
    have q2 : Reps Y G1 ds.dropLast vs.dropLast := by
      rw [List.dropLast_eq_take, List.dropLast_eq_take, ← q.length]
      exact q.take _
    exact k d _ _ G1 _ hp g1 (f1.trans (.set hmu)) ⟨r1.h.set hmu (.lst q2), r1.s⟩ qu
/-- xs.extend(e), xs a list that changes, e a frozen list -/
def mExt (mo me : ME) : ME := fun st P PX => mo st (fun x s1 => ∃ a ds0, x = .ref a ∧ s1.mu a = some (.lst ds0) ∧ me s1 (fun d s2 => ∃ ds es, d = .lst es ∧ s2.mu a = some (.lst ds) ∧ ds.length + es.length ≤ sizeLine ∧ P .non { s2 with mu := muSet s2.mu a (some (.lst (ds ++ es))) }) PX) PX
theorem de_ext (ho : DE X Y W o mo) (he : DE X Y W e me) (hs : starEach [e] X.env = (false, eval e X.env) :: starEach [] X.env := by rfl) (hbase : attributeBase o "extend" X.env (eval o X.env) = eval o X.env := by rfl)
    (hfew : ((backTo pos (starEach [e] X.env)).all (fun x => !x.1) && (backToKw pos (keywordEach [] X.env)).all (fun x => x.1.isSome) && decide ([e].length + ([] : List Keyword).length + (if ([] : List Keyword).isEmpty then 0 else 1) < 30)) = true := by rfl)
    (hline : (apos.endLine == pos.line) = true := by rfl) (hplain : (backTo pos (starEach [] X.env)).any (·.1) = false := by rfl) : DE X Y W (.Call (.Attribute o "extend" apos) [e] [] pos) (mExt mo me) := by
  refine peImp (pe_bm PySem.F.plainAttrs_list PySem.F.slot_list_extend PySem.F.type_list_extend mt_extend ho (pa_cons he pa_nil hs) hbase hfew hline hs hplain) fun σ H Q ⟨G, st, P, PX, rr, hm, xp, k⟩ => ?_
  refine ⟨G, st, _, PX, rr, hm, xp, fun x s1 v G1 H1 ⟨a, ds0, ex, hmu, hn⟩ g1 f1 r1 q1 => ?_⟩
  subst ex
  cases q1
  obtain ⟨_, ob, hob, rm⟩ := r1.h.mus a _ hmu
  cases rm with
  | @lst _ vs0 q0 =>
    refine ⟨.inl ⟨rfl, _, SqL.of hob⟩, G1, s1, _, PX, r1, hn, xp.on g1 f1, fun d s2 w G2 H2 ⟨ds, es, ed, hmu2, hl, hp⟩ g2 f2 r2 q2 => ?_⟩
    subst ed
    obtain ⟨b, us, rfl, hb, qb⟩ := q2.lstI
    obtain ⟨_, ob2, hob2, rm2⟩ := r2.h.mus a _ hmu2
    cases rm2 with
    | @lst _ vs q3 =>
      exact ⟨a, b, vs, us, rfl, rfl, hob2, r2.h.sub _ _ hb, by rw [← q3.length, ← qb.length]; exact hl, k _ _ _ G2 _ hp (g1.trans g2) ((f1.trans f2).trans (.set hmu2)) ⟨r2.h.set hmu2 (.lst (q3.append qb)), r2.s⟩ .non⟩
/-- xs[i], xs a list that changes -/
def ixM : O2 := fun mu d e P => match d, e with
  | .ref a, .int i => ∃ ds z, mu a = some (.lst ds) ∧ atI ds i = some z ∧ P z
  | _, _ => False
theorem ix_m : IxR X (l2 Y ixM) := by
  intro value slice pins s σ H x y v u Q I rx ry ⟨G, mu, c, d, e, P, r0, qd, qe, h, k⟩ hs
  cases d <;> cases e <;> first | exact False.elim h | skip
  cases qd; cases qe
  obtain ⟨ds, z, hmu, h2, h3⟩ := h
  obtain ⟨_, ob, hob, rm⟩ := r0.mus _ _ hmu
  cases rm with
  | @lst _ vs q1 =>
    obtain ⟨w, h4, q4⟩ := q1.atI h2
    exact ix_list value slice pins s σ H _ _ v u Q I rx ry ⟨_, _, _, _, rfl, rfl, SqL.of hob, h4, k.here r0 h3 q4⟩ hs
theorem de_ixM {a b : Expr} {ma mb : ME} {pos : Pos} (ha : DE X Y W a ma) (hb : DE X Y W b mb) (hs : PlainIx b := by intro _ _; rfl) : DE X Y W (.Subscript a b pos) (mOp ixM ma mb) :=
  peImp (pe_ix ix_m ha hb hs) (mOp_ok fun _ _ _ _ h => h)
def lenM : OL := fun mu ds P => match ds with
  | [.ref a] => ∃ es, mu a = some (.lst es) ∧ P (.int (es.length : Nat))
  | _ => False
theorem cd_lenM : CallD X Y (.builtin "len") lenM := by
  intro pins s σ H xs us Q I r ⟨G, mu, c, ds, P, r0, q, h, k⟩
  unfold lenM at h
  split at h
  · obtain ⟨v, rfl, q1⟩ := q.one
    cases q1
    obtain ⟨es, hmu, hp⟩ := h
    obtain ⟨_, ob, hob, rm⟩ := r0.mus _ _ hmu
    cases rm with
    | @lst _ vs q1 =>
      exact call_len_seq pins s σ H _ us Q I r ⟨_, _, rfl, .inl (SqL.of hob), by rw [← q1.length]; exact k.here r0 hp (.int _)⟩
  · exact h.elim
/-- the truth of a value -/
def truD (mu : Mu) : D → Bool → Prop
  | .non, k => k = false
  | .bl b, k => k = b
  | .int i, k => k = (i != 0)
  | .str y, k => y.length ≤ LINE ∧ k = ((y.length : Int) != 0)
  | .tup ds, k => k = !ds.isEmpty
  | .lst ds, k => k = !ds.isEmpty
  | .ref a, k => ∃ ds, mu a = some (.lst ds) ∧ k = !ds.isEmpty
  | _, _ => False
theorem Reps.empty {G : Hp} {ds : List D} {vs : List V} (h : Reps Y G ds vs) : ds.isEmpty = vs.isEmpty := by
  cases h <;> rfl
def mTru (m : ME) : MT := fun st P PX => m st (fun d s1 => ∃ k, truD s1.mu d k ∧ P k s1) PX
theorem dt_tru {m : ME} (hY : Y.K = X.K) (h : DE X Y W e m) (he : ∀ whole, isTrue e X.env whole = (do let v ← whole; standAt e.pos; holding [v] (truthy v)) := by intro _; rfl) : DT X Y W e (mTru m) :=
  ptImp (pt_truth h he) fun σ H Q ⟨G, st, P, PX, rr, hm, xp, k⟩ => ⟨G, st, _, PX, rr, hm, xp, fun d s1 v G1 H1 ⟨b, ht, hp⟩ g1 f1 r1 q1 => by
    refine ⟨b, ?_, k b s1 G1 H1 hp g1 f1 r1⟩
    cases d <;> try exact False.elim ht
    · cases q1; exact ht
    · cases q1; exact ht
    · cases q1; exact ht
    · cases q1; exact ⟨by rw [line_eq]; exact ht.1, ht.2⟩
    · obtain ⟨a1, xs1, rfl, h1, q2⟩ := q1.tupI
      exact .inr (.inl ⟨xs1, sqT_mono r1.h.sub (hY ▸ h1), by rw [← q2.empty]; exact ht⟩)
    · obtain ⟨a1, xs1, rfl, h1, q2⟩ := q1.lstI
      exact .inl ⟨xs1, SqL.of (r1.h.sub _ _ h1), by rw [← q2.empty]; exact ht⟩
    · cases q1
      obtain ⟨ds, hmu, ek⟩ := ht
      obtain ⟨_, ob, hob, rm⟩ := r1.h.mus _ _ hmu
      cases rm with
      | @lst _ vs q2 => exact .inl ⟨vs, SqL.of hob, by rw [← q2.empty]; exact ek⟩⟩
/-- a, b, c = x, y, z -/
def mPar3 (i j l : Nat) (n : MA) : MS := fun st E PX => n st (fun ds s1 => ∃ d e g, ds = [d, e, g] ∧ E.nx (((s1.put i d).put j e).put l g)) PX
theorem ds_par3 {i j l : Nat} {x y z : Str} {a b c : Expr} {px py pz pt : Pos} {kt k2 : Nat} {pt2 : Pos} (hc : X.calm = true) (hN : X.N.Nodup) (hi : X.N[i]? = some x) (hj : X.N[j]? = some y) (hl : X.N[l]? = some z) (hij : i ≠ j) (hil : i ≠ l) (hjl : j ≠ l)
    (hx : X.env.scope.names.lookup x = some .local) (hy : X.env.scope.names.lookup y = some .local) (hz : X.env.scope.names.lookup z = some .local) (ha : DA X Y W [a, b, c] mas)
    (hw : swappedStores [.Tuple [.Name x px, .Name y py, .Name z pz] kt pt] (.Tuple [a, b, c] k2 pt2) X.env = pure (some [x, y, z]) := by rfl)
    (hs : swapsWithSole [.Tuple [.Name x px, .Name y py, .Name z pz] kt pt] (.Tuple [a, b, c] k2 pt2) pos.line X.env = pure false := by rfl) :
    DS X Y W (.Assign [.Tuple [.Name x px, .Name y py, .Name z pz] kt pt] (.Tuple [a, b, c] k2 pt2) pos) (mPar3 i j l mas) :=
  psImp (ps_par3 hc hN hi hj hl hij hil hjl hx hy hz ha hw hs) fun D σ H ⟨G, st, E, PX, rr, hm, xp, k⟩ => ⟨G, st, _, PX, rr, hm, xp, fun ds s1 vs G1 H1 ⟨d, e, g, e1, h⟩ gg f r q => by
    subst e1
    cases q with
    | cons q1 q2 =>
      cases q2 with
      | cons q2 q3 =>
        cases q3 with
        | cons q3 q4 =>
          cases q4
          exact ⟨_, _, _, rfl, k.nx _ _ _ _ h gg f (((r.put i q1).put j q2).put l q3)⟩⟩
end
end DL
namespace DL
open PySem L2
/-! ### the end, with the tables of the defs that make lambdas -/
theorem tabs_nil {H : Hp} {P : Addr} {q : Str} (h : H P = some (.tbl #[])) : LamX.TabS H P q := by
  refine ⟨#[], h, trivial, fun pos cv e => ?_⟩
  cases e
theorem tabs_all {H : Hp} : ∀ (cs : List (Addr × Addr)) (T : List (Addr × Str)), T.map (·.1) = cs.map (·.2) → (∀ p ∈ cs, H p.2 = some (.tbl #[])) → LamX.Tabs T H := by
  intro cs T e h p hp
  have : p.1 ∈ cs.map (·.2) := by rw [← e]; exact List.mem_map.mpr ⟨p, hp, rfl⟩
  obtain ⟨q, hq, e2⟩ := List.mem_map.mp this
  have := h q hq
  rw [e2] at this
  exact tabs_nil this
theorem endXT {l : PySem.W.OpenLaw} {n k : Nat} {q : Program} {loose : List Str} {XP : (Str → Option Value) → Heap → Prop} {YP : World → Heap → Prop} {d : DefRec} {K : Params → PySem.W.Frag} {x : Str} (Ls : List Str) (hn : l.most = some n) (hz : n ≤ sizeLine) (h63 : n ≤ 63)
    (hdf : d.params.defaults = []) (hr : Room k callerA) (hrec : (Ls.all fun x => (PyProof.Rows.recsOf q).any fun e => e.name == x) = true) (hY : ∀ (w : World) (h : Heap), YP w h → (K w.params).In h)
    (F : ∀ (w : World) (mg : Str → Option Value) (fa : Addr) (h : Heap), XP mg h → (K w.params).In h → h.Ns mainGlobals mg → mg d.name = some (.ref fa) → (∀ x ∈ Ls, ∀ a, mg x = some (.ref a) → LamX.OwnTab (K w.params) a h) → LamX.LawAtS l w (K w.params) (L2.CX l.prog w) k n x mg fa h) :
    PySem.W.WalkO q loose XP YP l.row.toRowW d [] (fun f vs => PySem.call f vs) := by
  refine Att.attach_callB hn hdf fun w s₀ s₁ mg mb fa o pm cd doc a vs ns G Y ho hd hcd hmg hobj hints hlen hbits hg => ?_
  have KX := hY w _ Y
  have own : ∀ x ∈ Ls, ∀ a, mg x = some (.ref a) → LamX.OwnTab (K w.params) a s₁.heap := fun x hx fx hfx c P o1 fd1 e dd vs1 sl k1 k2 k3 k4 k5 => by
    obtain ⟨dL, hm, hn1⟩ := List.any_eq_true.mp (List.all_eq_true.mp hrec x hx)
    have hn2 : dL.name = x := beq_iff_eq.mp hn1
    obtain ⟨a', o', fd', c', P', h1, h2, h3, h4, h5, h6⟩ := G.T.tab dL hm
    rw [hn2, hfx] at h1
    cases h1
    have g1 := KX _ _ k1
    rw [g1] at h2
    cases h2
    rw [k2] at h3
    cases h3
    rw [k3] at h4
    cases h4
    obtain ⟨⟨oc, vc, e1, _, e3, e4⟩, hP⟩ := h6
    have g2 := KX _ _ k4
    rw [g2] at e1
    cases e1
    cases e3
    rw [k5] at e4
    cases e4
    exact hP
  obtain ⟨fd, cs, sp, hT, nT, C, hb, hsp, hF⟩ := F w mg fa _ G.X KX G.T.g hmg own
  exact LamX.law_callTs KX G.T.g G.T.b G.T.builtins G.T.nolimit hg hT nT C G.T.bmain hobj hints (Nat.le_trans hlen hz) hr hF hb (fun H hH hS => hsp H a ns hlen hbits hH hS) fun H e s' ⟨_, _, _, _, _, _, _, _, _, _, _, _, z⟩ => z
/-- a def's table, by what the written part says of it -/
theorem own_at {K : PySem.W.Frag} {h : Heap} {f c P : Addr} {oc e : Value} {od dd : Option Addr} {fd : FuncData} {vs : Array Value} {osl sl : Array (Option Value)} (O : LamX.OwnTab K f h) (l : K.lookup f = some ⟨oc, od, .func fd, osl⟩) (hc : fd.code = .ref c) (lc : K.lookup c = some ⟨e, dd, .fields vs, sl⟩) (hp : vs[11]? = some (.ref P)) :
    h.get? P = some { cls := .none, data := .fields #[] } := O c P _ _ e dd vs sl l rfl hc lc hp
end DL
namespace DL
open PySem L2
/-! ### targets o.f; lists taken apart -/
section
variable {X : Cx} {Y : Yc} {W : WX} {o : Expr} {es : List Expr} {ta : TE} {mo : ME} {cn f : Str} {C : Addr} {pos : Pos}
def gFldT (K : PySem.W.Frag) (ta : TE) (f : Str) : TG := fun v σ H Q => ta σ H fun x H2 => ∃ a C dx fs, x = .ref a ∧ H2 a = some (.ins C dx fs) ∧ Cls K C ∧ NoAttr K C f ∧ fs.length < 1000 ∧ Q σ (upd H2 a (.ins C dx (putF f v fs)))
theorem pg_fld (ha : PE X o ta) : PG X (.Attribute o f pos) (gFldT X.K ta f) := by
  refine ⟨fun pins s σ H v u Q I r h => ?_⟩
  refine PySem.W.kas_attr (thn (ha.run pins s σ H _ I h) fun ov s2 ⟨x, H2, I2, rx, a, C, dx, fs, ex, ea, c, n, l, q2⟩ => ?_)
  subst ex
  obtain rfl : ov = Value.ref a := rx
  exact setattr_ok I2 ea c n l r fun s3 I3 => ⟨σ, _, I3, q2⟩
def gF (cn f : Str) (mo : ME) : MG := fun d st P => mo st (fun e s2 => ∃ a fs, e = .ref a ∧ s2.mu a = some (.ins cn fs) ∧ fs.length < 1000 ∧ P { s2 with mu := muSet s2.mu a (some (.ins cn (putFD f d fs))) }) PX0
/-- the facts of a class: it is plain, its fields are no names of the class -/
structure ClsD (K : PySem.W.Frag) (mg : Str → Option Value) (cn : Str) (fl : List Str) : Prop where
  ex : ∃ C, mg cn = some (.ref C) ∧ Cls K C ∧ ∀ f ∈ fl, NoAttr K C f
theorem dg_fld {fl : List Str} (hY : Y.mg = X.mg) (c : ClsD X.K X.mg cn fl) (hf : f ∈ fl) (ho : DE X Y W0 o mo) : DG X Y (.Attribute o f pos) (gF cn f mo) := by
  obtain ⟨C, gC, cl, hna⟩ := c.ex
  have na := hna f hf
  refine pgImp (pg_fld ho) fun v σ H Q ⟨G, st, d, P, r, q, h, k⟩ => ⟨G, st, _, PX0, r, h, fun _ _ _ _ _ _ _ z => z.elim, fun e s2 u G2 H2 ⟨a, fs, ee, hmu, hl, hn⟩ g2 f2 r2 q2 => ?_⟩
  subst ee
  cases q2
  obtain ⟨_, ob, hob, rm⟩ := r2.h.mus a _ hmu
  cases rm with
  | @ins _ C' dx _ vs e q' =>
    have eC : C' = C := by rw [hY, gC] at e; cases e; rfl
    subst eC
    refine ⟨a, C', dx, vs, rfl, hob, cl, na, by rw [← q'.length]; exact hl, ?_⟩
    exact k _ _ G2 _ hn g2 (f2.trans (.set hmu)) ⟨r2.h.set hmu (.ins e (q'.put f (q.mono g2))), r2.s⟩
theorem de_fldN {fl : List Str} (hY : Y.mg = X.mg) (c : ClsD X.K X.mg cn fl) (hf : f ∈ fl) (ho : DE X Y W o mo) (hb : attributeBase o f X.env (eval o X.env) = eval o X.env := by rfl) : DE X Y W (.Attribute o f pos) (mFld cn f mo) :=
  let ⟨_, gC, cl, na⟩ := c.ex
  de_fld hY gC cl (na f hf) ho hb
theorem ds_fldN {fl : List Str} {value : Expr} {mv : ME} {pos' : Pos} (hY : Y.mg = X.mg) (c : ClsD X.K X.mg cn fl) (hf : f ∈ fl) (ho : DE X Y W o mo) (hv : DE X Y W value mv) (hs : swapsWith value (some (.Attribute o f pos')) pos.line X.env = pure false := by rfl) : DS X Y W (.Assign [.Attribute o f pos'] value pos) (mPutF cn f mo mv) :=
  let ⟨_, gC, cl, na⟩ := c.ex
  ds_fld hY gC cl (na f hf) ho hv hs
theorem pg_or {e : Expr} {t t' : TG} (h : PG X e t) (h' : PG X e t') : PG X e (fun v σ H Q => t v σ H Q ∨ t' v σ H Q) :=
  ⟨fun pins s σ H v u Q I r q => q.elim (h.run pins s σ H v u Q I r) (h'.run pins s σ H v u Q I r)⟩
/-- a tuple or a list, taken apart -/
def gU (n : Nat) (gs : MGs) : MG := fun d st P => ∃ ds, (d = .tup ds ∨ d = .lst ds) ∧ ds.length = n ∧ gs ds st P
theorem dg_un {k : Nat} {gs : MGs} {n : Nat} (hY : Y.K = X.K) (hc : X.calm = true) (h : DGs X Y es gs) (hn : (assignEach es X.env).length = n := by rfl) (hst : (assignEach es X.env).findIdx? (·.1) = none := by rfl) : DG X Y (.Tuple es k pos) (gU n gs) :=
  pgImp (pg_or (pg_tup hc h hn hst) (pg_lst hc h hn hst)) fun v σ H Q ⟨G, st, d, P, r, q, ⟨ds, e, hl, h⟩, k⟩ => by
    rcases e with e | e
    · subst e
      cases q with
      | tup q1 q2 => exact .inl ⟨_, _, rfl, sqT_mono r.h.sub (hY ▸ q1), by rw [← q2.length]; exact hl, G, st, ds, P, r, q2, h, k⟩
    · subst e
      cases q with
      | lst q1 q2 => exact .inr ⟨_, _, rfl, SqL.of (r.h.sub _ _ q1), by rw [← q2.length]; exact hl, G, st, ds, P, r, q2, h, k⟩
end
/-! ### methods, made instances, by the class's name -/
structure FnM (P : Program) (w : World) (K : PySem.W.Frag) (mg : Str → Option Value) (T : List (Addr × Str)) (base : Heap) (k : Nat) (cn m : Str) (ps : List Str) (sp : DSp) : Prop where
  ex : ∃ C f, mg cn = some (.ref C) ∧ Cls K C ∧ Meth K C m f ∧ FnF P w K mg T base k f ps sp
structure FnI (P : Program) (w : World) (K : PySem.W.Frag) (mg : Str → Option Value) (T : List (Addr × Str)) (base : Heap) (k : Nat) (cn : Str) (ps : List Str) (sp : DSp) : Prop where
  ex : ∃ C f, mg cn = some (.ref C) ∧ Mk K C f ∧ FnF P w K mg T base k f ps sp
section
variable {X : Cx} {W : WX} {q : Qp} {T : List (Addr × Str)} {o e : Expr} {es : List Expr} {mo : ME} {mas : MA} {pos p apos : Pos} {cn m x : Str} {k j : Nat} {ps : List Str} {sp : DSp}
theorem de_methN {pl : Sem Bool} (F : FnM X.prog X.w X.K X.mg T X.base j cn m ps sp) (tk : Takes X W) (hr : Room j X.A) (ho : DE X (Yp X.K X.mg T q) W o mo) (ha : DA X (Yp X.K X.mg T q) W (e :: es) mas)
    (hst : starEach (e :: es) X.env = (false, eval e X.env) :: starEach es X.env := by rfl) (hpl : (backTo pos (starEach es X.env)).any (·.1) = false := by rfl)
    (ht : eval (.Call (.Attribute o m apos) (e :: es) [] pos) X.env = (do
      let ov ← eval o X.env
      standAt apos.atName
      let (f, first) ← holding [ov] (getMethod ov m pl)
      callWith pos f first (backTo pos (starEach (e :: es) X.env)) (backToKw pos (keywordEach [] X.env))) := by rfl) : DE X (Yp X.K X.mg T q) W (.Call (.Attribute o m apos) (e :: es) [] pos) (mMeth cn m sp mo mas) :=
  let ⟨_, _, gC, cl, hm, G⟩ := F.ex
  de_meth gC cl hm G tk hr ho ha hst hpl ht
theorem de_methN0 {pl : Sem Bool} (F : FnM X.prog X.w X.K X.mg T X.base j cn m ps sp) (tk : Takes X W) (hr : Room j X.A) (ho : DE X (Yp X.K X.mg T q) W o mo)
    (ht : eval (.Call (.Attribute o m apos) [] [] pos) X.env = (do
      let ov ← eval o X.env
      standAt apos.atName
      let (f, first) ← holding [ov] (getMethod ov m pl)
      callWith pos f first (backTo pos (starEach [] X.env)) (backToKw pos (keywordEach [] X.env))) := by rfl) : DE X (Yp X.K X.mg T q) W (.Call (.Attribute o m apos) [] [] pos) (mMeth0 cn m sp mo) :=
  let ⟨_, _, gC, cl, hm, G⟩ := F.ex
  de_meth0 gC cl hm G tk hr ho ht
theorem de_makeN (F : FnI X.prog X.w X.K X.mg T X.base j x ps sp) (tk : Takes X W) (hr : Room (j + 1) X.A) (hg : Gl X x) (ha : DA X (Yp X.K X.mg T q) W (e :: es) mas) (hdb : (x == ("__debug__" : Str)) = false := by decide)
    (he : starEach (e :: es) X.env = (false, eval e X.env) :: starEach es X.env := by rfl) (hpl : (backTo pos (starEach es X.env)).any (·.1) = false := by rfl) : DE X (Yp X.K X.mg T q) W (.Call (.Name x p) (e :: es) [] pos) (mMake x sp mas) :=
  let ⟨_, _, gC, M, G⟩ := F.ex
  de_make gC M G tk hr hg ha hdb he hpl
end
/-! ### a block's end told as less -/
/-- what comes behind a statement, by a word of one's own -/
def mCut (m : MS) : MS := fun st E PX => ∃ I : S → Prop, m st { E with nx := I } PX ∧ ∀ s, I s → E.nx s
theorem ds_cut {X : Cx} {Y : Yc} {W : WX} {st : Stmt} {m : MS} (h : DS X Y W st m) : DS X Y W st (mCut m) :=
  psImp h fun D σ H ⟨G, st, E, PX, rr, ⟨I, hm, hi⟩, xp, k⟩ => ⟨G, st, { E with nx := I }, PX, rr, hm, xp, ⟨fun s σ G H z => k.nx _ _ _ _ (hi _ z), k.rt, k.bk, k.ct⟩⟩
/-! ### a def's end may forget objects that change -/
def Less (mu' mu : Mu) : Prop := ∀ a m, mu' a = some m → mu a = some m
theorem Less.refl (mu : Mu) : Less mu mu := fun _ _ h => h
theorem Less.trans {a b c : Mu} (h : Less a b) (g : Less b c) : Less a c := fun x m e => g x m (h x m e)
theorem Less.none {a b : Mu} (h : Less a b) {x : Addr} (e : b x = Option.none) : a x = Option.none := by
  cases z : a x with
  | none => rfl
  | some m => rw [h x m z] at e; cases e
theorem Less.set {mu : Mu} {a : Addr} {m : Option MO} (h : mu a = Option.none) : Less mu (muSet mu a m) := fun x y e => by
  unfold muSet
  by_cases hx : x = a
  · subst hx; rw [h] at e; cases e
  · rw [if_neg hx]; exact e
theorem Less.over {mu mu' : Mu} {a : Addr} {m : Option MO} (l : Less mu mu') (h : mu a = Option.none) : Less mu (muSet mu' a m) := fun x y e => by
  unfold muSet
  by_cases hx : x = a
  · subst hx; rw [h] at e; cases e
  · rw [if_neg hx]; exact l x y e
section
variable {Y : Yc} {G G' : Hp} {mu mu' mu1 : Mu} {c : Nat} {H H' : Hp}
theorem R0.lessMu (h : R0 Y G mu c H) (l : Less mu' mu) : R0 Y G mu' c H :=
  ⟨h.sub, fun a m e => h.mus a m (l a m e), let ⟨o, h1, h2, h3, h4⟩ := h.pen; ⟨o, h1, h2, h3, l.none h4⟩, ⟨h.ext.tab, fun p hp => ⟨(h.ext.tabO p hp).1, l.none (h.ext.tabO p hp).2⟩, fun p hp => ⟨(h.ext.raw p hp).1, (h.ext.raw p hp).2.1, l.none (h.ext.raw p hp).2.2⟩, h.ext.pl, h.ext.lo⟩⟩
theorem Frm.lessMu (f : Frm Y G mu H G' mu1 H') (l : Less mu' mu1) : Frm Y G mu H G' mu' H' := fun a o h1 h2 h3 h4 =>
  let ⟨e1, e2, e3⟩ := f a o h1 h2 h3 h4
  ⟨e1, e2, l.none e3⟩
theorem RepX.lessMu {x : Ex} {cls : Value} {d : Option Addr} (h : RepX Y G mu H x cls d) (l : Less mu' mu) : RepX Y G mu' H x cls d := by
  obtain ⟨h0, h⟩ := h
  refine ⟨h0, ?_⟩
  rcases h with h | ⟨dd, vs, h1, h2, h3, h4, h5, h6⟩
  · exact .inl h
  · exact .inr ⟨dd, vs, h1, h2, h3, h4, l.none h5, h6⟩
end
def fg {α : Type} (P : α → Mu → Nat → Prop) : α → Mu → Nat → Prop := fun d mu c => ∃ mu', Less mu' mu ∧ P d mu' c
def spG (sp : DSp) : DSp := fun ds mu c P1 PX1 => ∃ P PX, sp ds mu c P PX ∧ P1 = fg P ∧ PX1 = fg PX
theorem spG_of {K : PySem.W.Frag} {mg : Str → Option Value} {T : List (Addr × Str)} {q : Qp} {sp : DSp} {vs : List V} {H : Hp} {Q : VK} {E : XK} (h : SpOf (Yp K mg T q) sp vs H Q E) : SpOf (Yp K mg T q) (spG sp) vs H Q E := by
  obtain ⟨G, mu, c, ds, P, PX, r0, qv, h, kq, kx⟩ := h
  exact ⟨G, mu, c, ds, fg P, fg PX, r0, qv, ⟨P, PX, h, rfl, rfl⟩, fun d mu1 c1 v G' H' ⟨mu', l, hp⟩ g f r q => kq d mu' c1 v G' H' hp g (f.lessMu l) (r.lessMu l) q, fun x mu1 c1 cls d G' H' ⟨mu', l, hp⟩ g f r q => kx x mu' c1 cls d G' H' hp g (f.lessMu l) (r.lessMu l) (q.lessMu l)⟩
theorem FnD.forget {P : Program} {w : World} {K : PySem.W.Frag} {mg : Str → Option Value} {T : List (Addr × Str)} {base : Heap} {k : Nat} {x : Str} {ps : List Str} {sp : DSp} (F : FnD P w K mg T base k x ps (spG sp)) : FnD P w K mg T base k x ps sp :=
  let ⟨f, fd, h1, h2, h3, h4⟩ := F.ex
  ⟨f, fd, h1, h2, h3, fun q => (h4 q).imp fun _ _ _ _ h => spG_of h⟩
theorem FnF.forget {P : Program} {w : World} {K : PySem.W.Frag} {mg : Str → Option Value} {T : List (Addr × Str)} {base : Heap} {k : Nat} {f : Addr} {ps : List Str} {sp : DSp} (F : FnF P w K mg T base k f ps (spG sp)) : FnF P w K mg T base k f ps sp :=
  let ⟨fd, h3, h4⟩ := F.ex
  ⟨fd, h3, fun q => (h4 q).imp fun _ _ _ _ h => spG_of h⟩
/-! ### loops by a word -/
theorem for_ind {g : MG} {body : MS} {E : DEnds} {PX : PXT} (I : List D → S → Prop) : ∀ (ds : List D) (st : S), I ds st → (∀ s, I [] s → E.nx s) →
    (∀ d r s, I (d :: r) s → ∀ K : S → Prop, (∀ s, I r s → K s) → g d s fun s1 => body s1 { nx := K, rt := E.rt, bk := E.nx, ct := K } PX) → forGo g body E PX ds st
  | [], st, h, h0, _ => h0 st h
  | d :: ds, st, h, h0, h1 => h1 d ds st h (fun s => forGo g body E PX ds s) fun s hs => for_ind I ds s hs h0 h1
theorem muSet_set {mu : Mu} {a : Addr} {x y : Option MO} : muSet (muSet mu a x) a y = muSet mu a y := by
  funext b
  unfold muSet
  by_cases h : b = a
  · rw [if_pos h, if_pos h]
  · rw [if_neg h, if_neg h, if_neg h]
end DL
namespace DL
open PySem PySem.W PySem.Calls PyProof.Rows PySem.HandSPX L2
/-! ### facts for the end -/
theorem noat {K : Frag} {C : Addr} {f : Str} (h : findIn K (.ref C) f = some none) : NoAttr K C f := h
theorem exm_self {K : Frag} {S : Addr} (h1 : subIn K (.ref S) (.type "BaseException") = some true) (h2 : isClsIn K S = true) (h3 : typeIn K (.ref S) = some (.type "type")) (h4 : subIn K (.ref S) (.ref S) = some true) :
    exmOne K (.ref S) (.ref S) = some true := by
  have e1 : (subIn K (.ref S) (.type "BaseException") == some true) = true := by rw [h1] <;> rfl
  have e2 : ((clsIn K S).isSome && typeIn K (.ref S) == some (.type "type")) = true := by
    have h2' : (clsIn K S).isSome = true := h2
    rw [h2', h3] <;> rfl
  show (if (subIn K (.ref S) (.type "BaseException") == some true) = true then (if ((clsIn K S).isSome && typeIn K (.ref S) == some (.type "type")) = true then subIn K (.ref S) (.ref S) else none) else none) = some true
  rw [if_pos e1, if_pos e2]
  exact h4
theorem exm_other {K : Frag} {A B : Addr} (h1 : subIn K (.ref A) (.type "BaseException") = some true) (h2 : isClsIn K A = true) (h3 : typeIn K (.ref A) = some (.type "type")) (h4 : subIn K (.ref B) (.ref A) = some false) :
    exmOne K (.ref B) (.ref A) = some false := by
  have e1 : (subIn K (.ref A) (.type "BaseException") == some true) = true := by rw [h1] <;> rfl
  have e2 : ((clsIn K A).isSome && typeIn K (.ref A) == some (.type "type")) = true := by
    have h2' : (clsIn K A).isSome = true := h2
    rw [h2', h3] <;> rfl
  show (if (subIn K (.ref A) (.type "BaseException") == some true) = true then (if ((clsIn K A).isSome && typeIn K (.ref A) == some (.type "type")) = true then subIn K (.ref B) (.ref A) else none) else none) = some false
  rw [if_pos e1, if_pos e2]
  exact h4
/-- the text of an own error's __init__ -/
def ErrTx (st : Stmt) (fld : Str) : Prop := ∃ p1 p2 q0 q1 q2 q3 q4 q5 q6 q7 q8 q9, defArgs st = erA fld p1 p2 ∧ defBody st = erB fld q0 q1 q2 q3 q4 q5 q6 q7 q8 q9 ∧ defScope st = erS fld ∧ ErTxt fld q0 q1 q2 q3 q4 q5 q6 q7 q8 q9
theorem own_mk {prog : Program} {K : Frag} {h : Heap} {mg : Str → Option Value} {x fld qual : Str} {C fI cda cc : Addr} {st : Stmt} {oc doc pm ct ccl cl : Value} {od an cdd cld : Option Addr} {osl ccs csl : Array (Option Value)} {vs : Array Value} {file : Str} {tf : Tok}
    (X : K.In h) (G : h.Ns mainGlobals mg) (fo : FldOk fld) (tx : ErrTx st fld) (aC : nsIn K mainGlobals x = some (some (.ref C)))
    {nm q : Str} {N : Addr} {bs bm : List Value} {sn : List Str} {sub : List Value} {ab : Bool} {col : Option Bool} {dd : Option Addr} {m0 m1 m2 m3 m5 : Option Value}
    (cls : K.lookup C = some (excClassObj nm q C N bs bm true sn sub ab col dd m0 m1 m2 m3 m5 "ValueError.__new__")) (rv : refsVE bm = true)
    (sa : findIn K (.ref C) "__setattr__" = some (some (.builtin "object.__setattr__"))) (ga : findIn K (.ref C) "__getattribute__" = some (some (.builtin "BaseException.__getattribute__"))) (gg : findIn K (.ref C) "__getattr__" = some none) (noN : findIn K (.ref C) fld = some none)
    (iC : findIn K (.ref C) "__init__" = some (some (.ref fI))) (tC : typeIn K (.ref fI) = some (.type "function")) (kC : keepIn K (.ref C) = true) (exC : subIn K (.ref C) (.type "BaseException") = some true) (tyC : typeIn K (.ref C) = some (.type "type")) (hdC : hasDictIn K C = true)
    (isC : isClsIn K C = true) (sC : subIn K (.ref C) (.ref C) = some true) (sup : nsIn K mainGlobals "super" = some none) (top : (prog.main.scope.names.lookup ("super" : Str)).isSome = false) (any : nsIn K cStatics "thirdparty.any" = some none)
    (ini : ks_superIn K C C "__init__" = some (some (.builtin "ValueError.__init__"))) (ve : subIn K (.ref C) (.type "ValueError") = some true) (xi : excInitIn K C veB "ValueError.__new__" = true) (mro : mroIn K C (.ref C) = some true)
    (l : K.lookup fI = some ⟨oc, od, .func (ksFn "__init__" qual (defArgs st) (defBody st) (defScope st) .none .none doc pm an (.ref cda) ct cc), osl⟩) (hcd : codeIn K (.ref cda) qual = true)
    (lcd : K.lookup cda = some ⟨ccl, cdd, .fields vs, ccs⟩) (v2 : vs[2]? = some (.str file tf)) (ff : ((prog.main.file : Str) == file) = true) (lcc : K.lookup cc = some ⟨cl, cld, .cell (some (.ref C)), csl⟩) : ∃ C fI, OwnErr prog K mg x fld C fI := by
  obtain ⟨p1, p2, q0, q1, q2, q3, q4, q5, q6, q7, q8, q9, e1, e2, e3, et⟩ := tx
  rw [e1, e2, e3] at l
  exact ⟨C, fI, OwnErr.mk fo (mg_of X G aC) ⟨nm, q, N, bs, bm, sn, sub, ab, col, dd, m0, m1, m2, m3, m5, cls, rv⟩ sa ga gg noN iC tC kC exC tyC hdC (exm_self exC isC tyC sC) sup top any ini ve xi mro
    ⟨oc, od, qual, doc, pm, an, cda, ct, cc, osl, p1, p2, q0, q1, q2, q3, q4, q5, q6, q7, q8, q9, l, hcd, rfl, ⟨ccl, cdd, vs, ccs, file, tf, lcd, v2, ff⟩, ⟨cl, cld, csl, lcc⟩, et⟩⟩
theorem miss_mk {K : Frag} {h : Heap} {mg : Str → Option Value} {A B : Str} {CA CB : Addr} (X : K.In h) (G : h.Ns mainGlobals mg) (aB : nsIn K mainGlobals B = some (some (.ref CB))) (aA : nsIn K mainGlobals A = some (some (.ref CA)))
    (h1 : subIn K (.ref CA) (.type "BaseException") = some true) (h2 : isClsIn K CA = true) (h3 : typeIn K (.ref CA) = some (.type "type")) (h4 : subIn K (.ref CB) (.ref CA) = some false) : Miss K mg B A := by
  intro CB' CA' e1 e2
  rw [mg_of X G aB] at e1
  rw [mg_of X G aA] at e2
  cases e1
  cases e2
  exact exm_other h1 h2 h3 h4
theorem globT_mk {K : Frag} {h : Heap} {mg : Str → Option Value} {x : Str} {p : Addr} {its : Array Value} {n : Nat} {sl : Array (Option Value)} {ys : List Str} (X : K.In h) (G : h.Ns mainGlobals mg) (a : nsIn K mainGlobals x = some (some (.ref p))) (l : K.lookup p = some ⟨.type "tuple", none, .seq its n, sl⟩) (s : its.size ≤ 1000) (v : Vals (ys.map V.str) its.toList) : GlobT K mg x ys :=
  ⟨p, its, n, sl, mg_of X G a, l, by rw [sizeLine_eq]; omega, v⟩
theorem cls_mk {K : Frag} {h : Heap} {mg : Str → Option Value} {x : Str} {C : Addr} {fl : List Str} (X : K.In h) (G : h.Ns mainGlobals mg) (a : nsIn K mainGlobals x = some (some (.ref C))) (cl : Cls K C) (na : ∀ f ∈ fl, NoAttr K C f) : ClsD K mg x fl := ⟨C, mg_of X G a, cl, na⟩
end DL
namespace DL
open PySem L2
/-! ### a reader of a text: its signs, its place -/
abbrev LN : Nat := 1000000
def scanO (s : Str) (i : Nat) : MO := .ins "Scan" [("string", .str s), ("place", .int i)]
structure ScA where
  a : Addr
  s : Str
  i : Nat
def ScA.l (q : ScA) : List Nat := q.s.cps.toList
/-- what is left to be read -/
def ScA.rest (q : ScA) : List Nat := q.l.drop q.i
structure ScA.At (q : ScA) (mu : Mu) : Prop where
  here : mu q.a = some (scanO q.s q.i)
  asc : asc q.l
  len : q.l.length ≤ LN
  le : q.i ≤ q.l.length
def ScA.to (q : ScA) (j : Nat) : ScA := { q with i := j }
theorem ScA.At.go {q : ScA} {mu : Mu} (h : q.At mu) {j : Nat} (hj : j ≤ q.l.length) : (q.to j).At (muSet mu q.a (some (scanO q.s j))) := ⟨muSet_same, h.asc, h.len, hj⟩
theorem sp_ne : ¬ (("string" : Str) = "place") := by decide +kernel
theorem lk_string (x y : D) : List.lookup ("string" : Str) [(("string" : Str), x), ("place", y)] = some x := by simp [List.lookup]
theorem lk_place (x y : D) : List.lookup ("place" : Str) [(("string" : Str), x), ("place", y)] = some y := by
  have e : (("place" : Str) == ("string" : Str)) = false := by decide +kernel
  simp [List.lookup, e]
theorem lk_no {m : Str} (x y : D) (h : (m == ("string" : Str)) = false ∧ (m == ("place" : Str)) = false) : List.lookup m [(("string" : Str), x), ("place", y)] = none := by
  simp [List.lookup, h.1, h.2]
theorem pt_place (x y z : D) : putFD "place" z [(("string" : Str), x), (("place" : Str), y)] = [(("string" : Str), x), (("place" : Str), z)] := by
  unfold putFD
  rw [if_neg sp_ne]
  unfold putFD
  rw [if_pos rfl]
section
variable {q : ScA} {mu : Mu} {Q : D → Prop} {Q2 : Addr → Prop}
theorem fld_string (h : q.At mu) (k : Q (.str q.s)) : ∃ b fs v, D.ref q.a = .ref b ∧ mu b = some (.ins "Scan" fs) ∧ fs.lookup ("string" : Str) = some v ∧ Q v := ⟨_, _, _, rfl, h.here, lk_string _ _, k⟩
theorem fld_place (h : q.At mu) (k : Q (.int q.i)) : ∃ b fs v, D.ref q.a = .ref b ∧ mu b = some (.ins "Scan" fs) ∧ fs.lookup ("place" : Str) = some v ∧ Q v := ⟨_, _, _, rfl, h.here, lk_place _ _, k⟩
theorem mth_scan {m : Str} (h : q.At mu) (n : (m == ("string" : Str)) = false ∧ (m == ("place" : Str)) = false) (k : Q2 q.a) : ∃ b fs, D.ref q.a = .ref b ∧ mu b = some (.ins "Scan" fs) ∧ fs.lookup m = none ∧ Q2 b := ⟨_, _, rfl, h.here, lk_no _ _ n, k⟩
theorem put_place {st : S} {K : S → Prop} {j : Nat} {z : D} (e : z = .int j) (h : q.At st.mu) (k : K { st with mu := muSet st.mu q.a (some (scanO q.s j)) }) : ∃ b fs, D.ref q.a = .ref b ∧ st.mu b = some (.ins "Scan" fs) ∧ fs.length < 1000 ∧ K { st with mu := muSet st.mu b (some (.ins "Scan" (putFD "place" z fs))) } :=
  ⟨_, _, rfl, h.here, by show 2 < 1000; decide, by subst e; rw [pt_place]; exact k⟩
end
theorem cut_nat {α : Type} (l : List α) (i j : Nat) : cutD l (some (i : Int)) (some (j : Int)) = (l.drop (min i l.length)).take (min j l.length - min i l.length) := by
  unfold cutD
  rw [HT.sIx_nat, HT.sIx_nat]
theorem cut_one {l : List Nat} {i : Nat} (h : i ≤ l.length) : cutD l (some (i : Int)) (some ((i : Int) + 1)) = (l.drop i).take 1 := by
  have e : ((i : Int) + 1) = ((i + 1 : Nat) : Int) := by omega
  rw [e, cut_nat, Nat.min_eq_left h]
  by_cases h1 : i < l.length
  · rw [Nat.min_eq_left (by omega), Nat.add_sub_cancel_left]
  · have : i = l.length := by omega
    subst this
    rw [List.drop_length, List.take_nil, List.take_nil]
theorem asc_drop {l : List Nat} (h : asc l) (n : Nat) : asc (l.drop n) := fun k hk => h k (List.mem_of_mem_drop hk)
theorem asc_take {l : List Nat} (h : asc l) (n : Nat) : asc (l.take n) := fun k hk => h k (List.mem_of_mem_take hk)
theorem ok_asc {l : List Nat} (h : asc l) (n : Nat) : (D.str ⟨l.toArray⟩).ok n = true := by
  show PyData.strOk _ = true
  unfold PyData.strOk
  rw [Array.all_eq_true']
  intro x hx
  have := h x (by simpa using hx)
  simp only [decide_eq_true_eq]
  omega
theorem ok_ascS {s : Str} (h : asc s.cps.toList) (n : Nat) : (D.str s).ok n = true := by
  show PyData.strOk _ = true
  unfold PyData.strOk
  rw [Array.all_eq_true']
  intro x hx
  have := h x (by simpa using hx)
  simp only [decide_eq_true_eq]
  omega
/-- the sign that is seen -/
def ScA.see (q : ScA) : Str := ⟨(q.rest.take 1).toArray⟩
theorem ScA.At.see_ok {q : ScA} {mu : Mu} (h : q.At mu) (n : Nat) : (D.str q.see).ok n = true := ok_asc (asc_take (asc_drop h.asc _) _) n
theorem ScA.At.line {q : ScA} {mu : Mu} (h : q.At mu) : q.s.length ≤ LINE := by
  have := h.len
  have e : (LINE : Nat) = 16777216 := rfl
  have e2 : (LN : Nat) = 1000000 := rfl
  rw [str_len]
  show q.l.length ≤ LINE
  omega
theorem str_eq {a b : Str} : a = b ↔ a.cps.toList = b.cps.toList := by
  constructor
  · intro h; rw [h]
  · intro h
    obtain ⟨x⟩ := a
    obtain ⟨y⟩ := b
    have : x = y := Array.toList_inj.mp h
    rw [this]
theorem ScA.see_eq (q : ScA) (s : Str) : eqvD (.str q.see) (.str s) = decide (q.rest.take 1 = s.cps.toList) := by
  rw [eqv_str2, Bool.eq_iff_iff]
  simp only [beq_iff_eq, decide_eq_true_eq]
  rw [str_eq]
  show (q.rest.take 1).toArray.toList = _ ↔ _
  simp
/-- how many spaces stand ahead -/
def skipN : List Nat → Nat
  | [] => 0
  | k :: r => if k = 32 then skipN r + 1 else 0
theorem skipN_le : ∀ l : List Nat, skipN l ≤ l.length
  | [] => Nat.le_refl _
  | k :: r => by
    unfold skipN
    have := skipN_le r
    split
    · rw [List.length_cons]; omega
    · exact Nat.zero_le _
def ScA.skip (q : ScA) : ScA := q.to (q.i + skipN q.rest)
theorem ScA.rest_len (q : ScA) : q.rest.length = q.l.length - q.i := by unfold ScA.rest; rw [List.length_drop]
theorem ScA.skip_le {q : ScA} (h : q.i ≤ q.l.length) : q.skip.i ≤ q.l.length := by
  have := skipN_le q.rest
  have := q.rest_len
  show q.i + skipN q.rest ≤ q.l.length
  omega
end DL
namespace DL
open PySem L2
theorem muSet_id {mu : Mu} {a : Addr} {m : Option MO} (h : mu a = m) : muSet mu a m = mu := by
  funext b
  unfold muSet
  by_cases hb : b = a
  · rw [if_pos hb, hb, h]
  · rw [if_neg hb]
theorem take_one {l : List Nat} {k : Nat} : l.take 1 = [k] ↔ l.head? = some k := by
  cases l with
  | nil => simp
  | cons j r => simp
theorem ScA.see_one (q : ScA) {s : Str} {k : Nat} (h : s.cps.toList = [k]) : eqvD (.str q.see) (.str s) = decide (q.rest.head? = some k) := by
  rw [q.see_eq, h, Bool.eq_iff_iff]
  simp only [decide_eq_true_eq]
  exact take_one
theorem ScA.hd_lt {q : ScA} {k : Nat} (h : q.rest.head? = some k) : q.i + 1 ≤ q.l.length := by
  have := q.rest_len
  cases e : q.rest with
  | nil => rw [e] at h; cases h
  | cons j r => rw [e, List.length_cons] at this; omega
theorem ScA.to_rest (q : ScA) (n : Nat) : (q.to (q.i + n)).rest = q.rest.drop n := by
  show q.l.drop (q.i + n) = _
  rw [← List.drop_drop]
  rfl
theorem ScA.At.self {q : ScA} {mu : Mu} (h : q.At mu) : muSet mu q.a (some (scanO q.s q.i)) = mu := muSet_id h.here
/-- how many letters and digits stand ahead -/
def runN (l : List Nat) : Nat := (l.takeWhile fun k => decide (k ∈ alnum)).length
theorem runN_le (l : List Nat) : runN l ≤ l.length := by
  unfold runN
  exact (List.takeWhile_prefix _).length_le
/-- a name is read: its length, or where it stops -/
def nameR (r : List Nat) : Except Nat Nat := match r with
  | [] => .error 0
  | k :: _ => if k ∈ letters then (if runN r ≤ 12 then .ok (runN r) else .error 12) else .error 0
def notText (i : Nat) : Ex := ⟨"NotAText", [("at", .int (i : Int))]⟩
def ScA.set (q : ScA) (mu : Mu) (j : Nat) : Mu := muSet mu q.a (some (scanO q.s j))
theorem ScA.At.go' {q : ScA} {mu : Mu} (h : q.At mu) {n : Nat} (hj : n ≤ q.rest.length) : (q.to (q.i + n)).At (q.set mu (q.i + n)) := h.go (by have := q.rest_len; have := h.le; omega)
theorem ScA.set_set (q : ScA) (mu : Mu) (i j : Nat) : (q.to i).set (q.set mu i) j = q.set mu j := muSet_set
end DL
namespace DL
open PySem L2
/-! ### texts of forms -/
def sL (l : List Nat) : Str := ⟨l.toArray⟩
theorem sL_cps (l : List Nat) : (sL l).cps.toList = l := by unfold sL; simp
theorem sL_app (a b : List Nat) : sL a ++ sL b = sL (a ++ b) := by rw [str_eq, app_cps, sL_cps, sL_cps, sL_cps]
theorem sL_self (s : Str) : sL s.cps.toList = s := by rw [str_eq, sL_cps]
theorem sL_len (l : List Nat) : (sL l).length = l.length := by rw [str_len, sL_cps]
theorem app_sL (s : Str) (b : List Nat) : s ++ sL b = sL (s.cps.toList ++ b) := by rw [str_eq, app_cps, sL_cps, sL_cps]
theorem lit_lp : (Str.ofString "(") = sL [40] := by decide +kernel
theorem lit_rp : (Str.ofString ")") = sL [41] := by decide +kernel
theorem lit_sp : (Str.ofString " ") = sL [32] := by decide +kernel
theorem lit_ti : (Str.ofString "~") = sL [126] := by decide +kernel
def markC (w : Str) : Nat := if w = "both" then 42 else if w = "between" then 124 else if w = "offered" then 38 else 43
def tilde (w : Str) : List Nat := if w = "counter" then [126] else []
def Fm.txt : Fm → Bool → List Nat
  | .leaf w n, _ => n.cps.toList ++ tilde w
  | .node w l r, h => if h = true then 40 :: (l.txt true ++ [32, markC w, 32] ++ r.txt true ++ [41]) else l.txt true ++ [32, markC w, 32] ++ r.txt true
def Fm.toks : Fm → Bool → List (List Nat)
  | .leaf w n, _ => [n.cps.toList ++ tilde w]
  | .node w l r, h => if h = true then [40] :: (l.toks true ++ [[markC w]] ++ r.toks true ++ [[41]]) else l.toks true ++ [[markC w]] ++ r.toks true
/-- tokens with any spaces between -/
inductive Spd : List (List Nat) → List Nat → Prop
  | nil (n : Nat) : Spd [] (List.replicate n 32)
  | cons (n : Nat) {t : List Nat} {ts : List (List Nat)} {r : List Nat} : Spd ts r → Spd (t :: ts) (List.replicate n 32 ++ (t ++ r))
theorem Spd.split : ∀ {ts us : List (List Nat)} {l : List Nat}, Spd ts l → Spd us [] → True := fun _ _ => trivial
theorem skip_rep (n : Nat) : ∀ (r : List Nat), r.head? ≠ some 32 → (List.replicate n 32 ++ r).drop (skipN (List.replicate n 32 ++ r)) = r := by
  induction n with
  | zero =>
    intro r h
    show r.drop (skipN r) = r
    cases r with
    | nil => rfl
    | cons k r =>
      unfold skipN
      rw [if_neg (fun z => h (by rw [z]; rfl))]
      rfl
  | succ n ih =>
    intro r h
    rw [List.replicate_succ, List.cons_append]
    unfold skipN
    rw [if_pos rfl, List.drop_succ_cons]
    exact ih r h
/-! ### the reader as a machine -/
abbrev Lv := Option (Fm × Nat × Str)
inductive FR where
  | ok (f : Fm) (d : Nat) (r : List Nat)
  | err (r : List Nat)
inductive Cfg where
  | A (st : List Lv) (r : List Nat)
  | B (st : List Lv) (f : Fm) (d : Nat) (r : List Nat)
def leafR (r : List Nat) : Except Nat (Fm × Nat) := match nameR r with
  | .error e => .error e
  | .ok n => if (r.drop n).head? = some 126 then .ok (.leaf "counter" (sL (r.take n)), n + 1) else .ok (.leaf "good" (sL (r.take n)), n)
def markOf (r : List Nat) : Option Str := match r with
  | [] => none
  | k :: _ => if k = 42 then some "both" else if k = 124 then some "between" else if k = 38 then some "offered" else if k = 43 then some "chosen" else none
def skp (r : List Nat) : List Nat := r.drop (skipN r)
def mach : Nat → Cfg → Option FR
  | 0, _ => none
  | n + 1, .A st r => match skp r with
    | 40 :: r2 => mach n (.A (none :: st) r2)
    | r1 => match leafR r1 with
      | .error e => some (.err (r1.drop e))
      | .ok (f, m) => mach n (.B st f 0 (r1.drop m))
  | n + 1, .B [] _ _ _ => none
  | n + 1, .B (some (g, e, w) :: st) f d r => match st with
    | [] => some (.ok (.node w g f) (max e d + 1) r)
    | _ :: _ => match skp r with
      | 41 :: r2 => mach n (.B st (.node w g f) (max e d + 1) r2)
      | r1 => some (.err r1)
  | n + 1, .B (none :: st) f d r => match markOf (skp r) with
    | none => if 0 < st.length ∨ 0 < d then some (.err (skp r)) else some (.ok f d (skp r))
    | some w => mach n (.A (some (f, d, w) :: st) ((skp r).drop 1))
/-- what may stand behind a leaf -/
def Stop (ts : List (List Nat)) : Prop := match ts with
  | [] => True
  | t :: _ => t = [41] ∨ t = [42] ∨ t = [124] ∨ t = [38] ∨ t = [43] ∨ t = [44]
def Steps (c c' : Cfg) : Prop := ∃ k, ∀ n, mach (n + k) c = mach n c'
theorem Steps.refl (c : Cfg) : Steps c c := ⟨0, fun _ => rfl⟩
theorem Steps.trans {a b c : Cfg} (h : Steps a b) (g : Steps b c) : Steps a c := by
  obtain ⟨k, h⟩ := h
  obtain ⟨j, g⟩ := g
  exact ⟨j + k, fun n => by rw [← Nat.add_assoc, h, g]⟩
theorem stop_no {ts : List (List Nat)} {r : List Nat} (h : Spd ts r) (s : Stop ts) : ∀ k, r.head? = some k → k ∉ alnum ∧ k ≠ 126 := by
  intro k hk
  cases h with
  | nil n =>
    cases n with
    | zero => cases hk
    | succ n => cases hk; decide +kernel
  | cons n h =>
    cases n with
    | succ n => cases hk; decide +kernel
    | zero =>
      rcases s with s | s | s | s | s | s <;> (subst s; cases hk; decide +kernel)
theorem runN_app : ∀ {a r : List Nat}, (∀ k ∈ a, k ∈ alnum) → (∀ k, r.head? = some k → k ∉ alnum) → runN (a ++ r) = a.length
  | [], r, _, h => by
    cases r with
    | nil => rfl
    | cons k r =>
      show runN (k :: r) = 0
      unfold runN
      rw [List.takeWhile_cons_of_neg (by simpa using h k rfl)]
      rfl
  | k :: a, r, ha, h => by
    have hk := ha k List.mem_cons_self
    have ih := runN_app (a := a) (r := r) (fun j hj => ha j (List.mem_cons_of_mem _ hj)) h
    show runN (k :: (a ++ r)) = _
    unfold runN at ih ⊢
    rw [List.takeWhile_cons_of_pos (by simpa using hk), List.length_cons, ih, List.length_cons]
theorem nameR_app {a r : List Nat} (ha : isNameL a = true) (h : ∀ k, r.head? = some k → k ∉ alnum) : nameR (a ++ r) = .ok a.length := by
  have hr := runN_app (isNameL_all ha) h
  have hl := isNameL_len ha
  cases a with
  | nil => cases ha
  | cons k a =>
    simp only [isNameL, Bool.and_eq_true, decide_eq_true_eq] at ha
    show (if k ∈ letters then (if runN (k :: a ++ r) ≤ 12 then _ else _) else _) = _
    rw [if_pos ha.2.1, hr, if_pos ha.1]
theorem leafW_str {w : Str} (h : leafW (.str w) = true) : w = "good" ∨ w = "counter" := by
  rcases leafW_or h with e | e <;> cases e
  · exact .inl rfl
  · exact .inr rfl
theorem halfW_str {w : Str} (h : halfW (.str w) = true) : w = "both" ∨ w = "between" ∨ w = "offered" ∨ w = "chosen" := by
  rcases halfW_or h with e | e | e | e <;> cases e
  · exact .inl rfl
  · exact .inr (.inl rfl)
  · exact .inr (.inr (.inl rfl))
  · exact .inr (.inr (.inr rfl))
theorem tilde_good : tilde "good" = [] := by unfold tilde; rw [if_neg (by decide +kernel)]
theorem tilde_counter : tilde "counter" = [126] := by unfold tilde; rw [if_pos rfl]
theorem leafR_app {w n : Str} {r : List Nat} (h : (Fm.leaf w n).ok = true) (hr : ∀ k, r.head? = some k → k ∉ alnum ∧ k ≠ 126) : leafR (n.cps.toList ++ tilde w ++ r) = .ok (.leaf w n, (n.cps.toList ++ tilde w).length) := by
  obtain ⟨h1, h2⟩ := Bool.and_eq_true_iff.mp h
  unfold leafR
  rcases leafW_str h1 with rfl | rfl
  · rw [tilde_good, List.append_nil, nameR_app h2 fun k hk => (hr k hk).1]
    simp only [List.drop_left, List.take_left, sL_self]
    rw [if_neg]
    intro z
    exact (hr _ z).2 rfl
  · rw [tilde_counter, List.append_assoc, nameR_app h2 fun k hk => by cases hk; decide +kernel]
    simp only [List.drop_left, List.take_left, sL_self]
    show (if (some 126 : Option Nat) = some 126 then _ else _) = _
    rw [if_pos rfl, List.length_append]
    rfl
theorem name_head {a : List Nat} (h : isNameL a = true) : ∃ k t, a = k :: t ∧ k ∈ letters := by
  cases a with
  | nil => cases h
  | cons k a =>
    simp only [isNameL, Bool.and_eq_true, decide_eq_true_eq] at h
    exact ⟨k, a, rfl, h.2.1⟩
theorem letter_no {k : Nat} (h : k ∈ letters) : k ≠ 32 ∧ k ≠ 40 ∧ k ≠ 41 ∧ k ≠ 126 := by
  refine ⟨?_, ?_, ?_, ?_⟩ <;> (rintro rfl; revert h; decide +kernel)
theorem mark_is {w : Str} (h : halfW (.str w) = true) (r : List Nat) : markOf (markC w :: r) = some w ∧ markC w ≠ 32 ∧ (markC w = 42 ∨ markC w = 124 ∨ markC w = 38 ∨ markC w = 43) := by
  have e1 : markC "both" = 42 := by decide +kernel
  have e2 : markC "between" = 124 := by decide +kernel
  have e3 : markC "offered" = 38 := by decide +kernel
  have e4 : markC "chosen" = 43 := by decide +kernel
  rcases halfW_str h with rfl | rfl | rfl | rfl
  · rw [e1]; exact ⟨rfl, by decide, by decide⟩
  · rw [e2]; exact ⟨rfl, by decide, by decide⟩
  · rw [e3]; exact ⟨rfl, by decide, by decide⟩
  · rw [e4]; exact ⟨rfl, by decide, by decide⟩
theorem skp_rep (n : Nat) {r : List Nat} (h : r.head? ≠ some 32) : skp (List.replicate n 32 ++ r) = r := skip_rep n r h
theorem Spd.one {k : Nat} {ts : List (List Nat)} {r : List Nat} (h : Spd ([k] :: ts) r) (hk : k ≠ 32) : ∃ r', skp r = k :: r' ∧ Spd ts r' := by
  cases h with
  | cons n h => exact ⟨_, skp_rep n (by intro z; cases z; exact hk rfl), h⟩
theorem half_reads : ∀ (f : Fm), f.ok = true → ∀ (st : List Lv) (ts : List (List Nat)) (r : List Nat), st ≠ [] → Stop ts → Spd (f.toks true ++ ts) r → ∃ r', Spd ts r' ∧ Steps (.A st r) (.B st f f.depth r')
  | .leaf w n, ho, st, ts, r, _, hs, h => by
    have h' : Spd ((n.cps.toList ++ tilde w) :: ts) r := h
    cases h' with
    | @cons m _ _ r' h' =>
      refine ⟨r', h', 1, fun k => ?_⟩
      obtain ⟨h1, h2⟩ := Bool.and_eq_true_iff.mp ho
      obtain ⟨c, t, e, hc⟩ := name_head h2
      have hne := letter_no hc
      have e1 : skp (List.replicate m 32 ++ (n.cps.toList ++ tilde w ++ r')) = n.cps.toList ++ tilde w ++ r' := skp_rep m (by rw [e]; intro z; cases z; exact hne.1 rfl)
      show (match skp (List.replicate m 32 ++ (n.cps.toList ++ tilde w ++ r')) with
        | 40 :: r2 => mach k (.A (none :: st) r2)
        | r1 => match leafR r1 with
          | .error e => some (.err (r1.drop e))
          | .ok (f, m) => mach k (.B st f 0 (r1.drop m))) = _
      rw [e1]
      have e2 := leafR_app ho (stop_no h' hs)
      split
      · rename_i r2 heq
        rw [e] at heq
        cases heq
        exact absurd rfl hne.2.1
      · rw [e2]
        simp only [List.drop_left]
        rfl
  | .node w a b, ho, st, ts, r, hst, hs, h => by
    obtain ⟨hw, ho2⟩ := Bool.and_eq_true_iff.mp ho
    obtain ⟨hoa, hob⟩ := Bool.and_eq_true_iff.mp ho2
    have ek : (Fm.node w a b).toks true ++ ts = [40] :: (a.toks true ++ ([markC w] :: (b.toks true ++ ([41] :: ts)))) := by
      show (if true = true then _ else _) ++ ts = _
      rw [if_pos rfl]
      simp [List.append_assoc]
    rw [ek] at h
    obtain ⟨r1, e1, h1⟩ := h.one (by decide)
    obtain ⟨mk1, mk2, mk3⟩ := mark_is hw ([] : List Nat)
    obtain ⟨r2, h2, s2⟩ := half_reads a hoa (none :: st) _ r1 (by simp) (by rcases mk3 with z | z | z | z <;> (rw [z]; simp [Stop])) h1
    obtain ⟨r3, e3, h3⟩ := h2.one mk2
    obtain ⟨r4, h4, s4⟩ := half_reads b hob (some (a, a.depth, w) :: st) _ r3 (by simp) (by simp [Stop]) h3
    obtain ⟨r5, e5, h5⟩ := h4.one (by decide)
    refine ⟨r5, h5, ?_⟩
    have t1 : Steps (.A st r) (.A (none :: st) r1) := ⟨1, fun n => by simp only [mach, e1]⟩
    have t3 : Steps (.B (none :: st) a a.depth r2) (.A (some (a, a.depth, w) :: st) r3) := ⟨1, fun n => by simp only [mach, e3, (mark_is hw r3).1, List.drop_succ_cons, List.drop_zero]⟩
    refine (t1.trans s2).trans (t3.trans (s4.trans ⟨1, fun n => ?_⟩))
    cases st with
    | nil => exact absurd rfl hst
    | cons x st =>
      simp only [mach, e5, Fm.depth]
theorem Spd.nil_skp {r : List Nat} (h : Spd [] r) : skp r = [] := by
  cases h with
  | nil n =>
    have := skp_rep n (r := []) (by simp)
    rwa [List.append_nil] at this
theorem whole_reads (f : Fm) (ho : f.ok = true) (r : List Nat) (h : Spd (f.toks false) r) : ∃ k r', skp r' = [] ∧ ∀ n, mach (n + k) (.A [none] r) = some (.ok f f.depth r') := by
  cases f with
  | leaf w n =>
    obtain ⟨r', h', k, hk⟩ := half_reads (.leaf w n) ho [none] [] r (by simp) trivial (by simpa [Fm.toks] using h)
    have e := h'.nil_skp
    refine ⟨1 + k, [], rfl, fun n => ?_⟩
    rw [← Nat.add_assoc, hk]
    simp [mach, e, markOf, Fm.depth]
  | node w a b =>
    obtain ⟨hw, ho2⟩ := Bool.and_eq_true_iff.mp ho
    obtain ⟨hoa, hob⟩ := Bool.and_eq_true_iff.mp ho2
    have ek : (Fm.node w a b).toks false = a.toks true ++ ([markC w] :: (b.toks true ++ [])) := by
      show (if false = true then _ else _) = _
      rw [if_neg Bool.false_ne_true]
      simp [List.append_assoc]
    rw [ek] at h
    obtain ⟨mk1, mk2, mk3⟩ := mark_is hw ([] : List Nat)
    obtain ⟨r2, h2, s2⟩ := half_reads a hoa [none] _ r (by simp) (by rcases mk3 with z | z | z | z <;> (rw [z]; simp [Stop])) h
    obtain ⟨r3, e3, h3⟩ := h2.one mk2
    obtain ⟨r4, h4, s4⟩ := half_reads b hob [some (a, a.depth, w)] [] r3 (by simp) trivial h3
    have t3 : Steps (.B [none] a a.depth r2) (.A [some (a, a.depth, w)] r3) := ⟨1, fun n => by simp only [mach, e3, (mark_is hw r3).1, List.drop_succ_cons, List.drop_zero]⟩
    obtain ⟨k, hk⟩ := s2.trans (t3.trans s4)
    refine ⟨1 + k, r4, h4.nil_skp, fun n => ?_⟩
    rw [← Nat.add_assoc, hk]
    rfl
/-- a text with its spaces, and the text itself -/
theorem Spd.pre : ∀ {ts us : List (List Nat)} {l m : List Nat}, Spd ts l → Spd us m → Spd (ts ++ us) (l ++ m) := by
  intro ts us l m h g
  induction h with
  | nil n =>
    cases g with
    | nil k => rw [List.replicate_append_replicate]; exact .nil _
    | @cons k t ts r g => rw [← List.append_assoc, List.replicate_append_replicate]; exact .cons _ g
  | @cons n t ts r h ih =>
    rw [List.append_assoc, List.append_assoc, List.cons_append]
    exact .cons n ih
theorem Spd.tok (t : List Nat) : Spd [t] t := by
  have := Spd.cons 0 (t := t) (Spd.nil 0)
  simpa using this
theorem Spd.sp : Spd [] [32] := .nil 1
theorem txt_spd : ∀ (f : Fm) (h : Bool), Spd (f.toks h) (f.txt h)
  | .leaf w n, _ => Spd.tok _
  | .node w a b, h => by
    have ha := txt_spd a true
    have hb := txt_spd b true
    have core : Spd (a.toks true ++ [[markC w]] ++ b.toks true) (a.txt true ++ [32, markC w, 32] ++ b.txt true) :=
      ((ha.pre (Spd.sp.pre ((Spd.tok [markC w]).pre Spd.sp))).pre hb)
    cases h with
    | false => exact core
    | true =>
      have := (Spd.tok [40]).pre (core.pre (Spd.tok [41]))
      show Spd (if true = true then _ else _) (if true = true then _ else _)
      rw [if_pos rfl, if_pos rfl]
      exact this
theorem join_spd : ∀ ts : List (List Nat), Spd ts ts.flatten
  | [] => .nil 0
  | t :: ts => (Spd.tok t).pre (join_spd ts)
end DL
namespace DL
theorem iteTh {b : Bool} {A B : Prop} (h : b = true) (a : A) : if b = true then A else B := by rw [if_pos h]; exact a
theorem iteFh {b : Bool} {A B : Prop} (h : b = false) (x : B) : if b = true then A else B := by rw [h, if_neg Bool.false_ne_true]; exact x
end DL
namespace DL
open PySem L2
/-! ### sizes of texts -/
theorem asc_lit {l : List Nat} (h : (l.all fun k => decide (k < 128)) = true) : asc l := fun k hk => of_decide_eq_true (List.all_eq_true.mp h k hk)
theorem tilde_len (w : Str) : (tilde w).length ≤ 1 := by unfold tilde; split <;> simp
theorem tilde_asc (w : Str) : asc (tilde w) := by unfold tilde; split <;> exact asc_lit rfl
theorem markC_lt (w : Str) : markC w < 128 := by
  unfold markC
  split
  · decide
  · split
    · decide
    · split <;> decide
theorem txt_le : ∀ f : Fm, (f.txt false).length ≤ (f.txt true).length
  | .leaf _ _ => Nat.le_refl _
  | .node w a b => by
    show (if false = true then _ else _ : List Nat).length ≤ (if true = true then _ else _ : List Nat).length
    rw [if_pos rfl, if_neg Bool.false_ne_true]
    simp only [List.length_cons, List.length_append]
    omega
theorem txt_size : ∀ f : Fm, f.ok = true → (f.txt true).length + 5 ≤ 18 * 2 ^ f.depth
  | .leaf w n, h => by
    have h2 := (Bool.and_eq_true_iff.mp h).2
    have := (isNameL_len h2).2
    have := tilde_len w
    show (n.cps.toList ++ tilde w).length + 5 ≤ 18 * 2 ^ 0
    rw [List.length_append]
    omega
  | .node w a b, h => by
    have h2 := Bool.and_eq_true_iff.mp (Bool.and_eq_true_iff.mp h).2
    have ia := txt_size a h2.1
    have ib := txt_size b h2.2
    show (if true = true then _ else _ : List Nat).length + 5 ≤ 18 * 2 ^ (max a.depth b.depth + 1)
    rw [if_pos rfl]
    simp only [List.length_cons, List.length_append, List.length_nil]
    have pa : 2 ^ a.depth ≤ 2 ^ max a.depth b.depth := Nat.pow_le_pow_right (by decide) (Nat.le_max_left _ _)
    have pb : 2 ^ b.depth ≤ 2 ^ max a.depth b.depth := Nat.pow_le_pow_right (by decide) (Nat.le_max_right _ _)
    rw [Nat.pow_succ]
    omega
theorem toks_le : ∀ f : Fm, (f.toks false).length ≤ (f.toks true).length
  | .leaf _ _ => Nat.le_refl _
  | .node w a b => by
    show (if false = true then _ else _ : List (List Nat)).length ≤ (if true = true then _ else _ : List (List Nat)).length
    rw [if_pos rfl, if_neg Bool.false_ne_true]
    simp only [List.length_cons, List.length_append]
    omega
theorem toks_size : ∀ f : Fm, (f.toks true).length + 3 ≤ 4 * 2 ^ f.depth
  | .leaf w n => by
    show 1 + 3 ≤ 4 * 2 ^ 0
    decide
  | .node w a b => by
    have ia := toks_size a
    have ib := toks_size b
    show (if true = true then _ else _ : List (List Nat)).length + 3 ≤ 4 * 2 ^ (max a.depth b.depth + 1)
    rw [if_pos rfl]
    simp only [List.length_cons, List.length_append, List.length_nil]
    have pa : 2 ^ a.depth ≤ 2 ^ max a.depth b.depth := Nat.pow_le_pow_right (by decide) (Nat.le_max_left _ _)
    have pb : 2 ^ b.depth ≤ 2 ^ max a.depth b.depth := Nat.pow_le_pow_right (by decide) (Nat.le_max_right _ _)
    rw [Nat.pow_succ]
    omega
theorem Spd.flat_le {ts : List (List Nat)} {l : List Nat} (h : Spd ts l) : ts.flatten.length ≤ l.length := by
  induction h with
  | nil n => exact Nat.zero_le _
  | cons n h ih => simp only [List.flatten_cons, List.length_append, List.length_replicate] at *; omega
theorem pow12 {d : Nat} (h : d ≤ 12) : 2 ^ d ≤ 4096 := Nat.pow_le_pow_right (n := 2) (by decide) h
theorem txt_12 {f : Fm} (ho : f.ok = true) (hd : f.depth ≤ 12) (h : Bool) : (f.txt h).length ≤ 73728 := by
  have := txt_size f ho
  have := pow12 hd
  have := txt_le f
  cases h <;> omega
theorem toks_12 {f : Fm} (hd : f.depth ≤ 12) (h : Bool) : (f.toks h).length ≤ 16384 := by
  have := toks_size f
  have := pow12 hd
  have := toks_le f
  cases h <;> omega
theorem asc_cons {k : Nat} {l : List Nat} (hk : k < 128) (h : asc l) : asc (k :: l) := fun j hj => by
  rcases List.mem_cons.mp hj with e | e
  · omega
  · exact h j e
theorem txt_asc : ∀ (f : Fm) (h : Bool), f.ok = true → asc (f.txt h)
  | .leaf w n, _, ho => asc_app (asc_name (Bool.and_eq_true_iff.mp ho).2) (tilde_asc w)
  | .node w a b, h, ho => by
    have h2 := Bool.and_eq_true_iff.mp (Bool.and_eq_true_iff.mp ho).2
    have core : asc (a.txt true ++ [32, markC w, 32] ++ b.txt true) := asc_app (asc_app (txt_asc a true h2.1) (asc_cons (by decide) (asc_cons (markC_lt w) (asc_lit rfl)))) (txt_asc b true h2.2)
    show asc (if h = true then _ else _)
    split
    · exact asc_cons (by decide) (asc_app core (asc_lit rfl))
    · exact core
theorem toks_asc : ∀ (f : Fm) (h : Bool), f.ok = true → ∀ t ∈ f.toks h, asc t
  | .leaf w n, _, ho => al_one (asc_app (asc_name (Bool.and_eq_true_iff.mp ho).2) (tilde_asc w))
  | .node w a b, h, ho => by
    have h2 := Bool.and_eq_true_iff.mp (Bool.and_eq_true_iff.mp ho).2
    have core : ∀ t ∈ a.toks true ++ [[markC w]] ++ b.toks true, asc t := al_app (al_app (toks_asc a true h2.1) (al_one (asc_cons (markC_lt w) (asc_lit rfl)))) (toks_asc b true h2.2)
    show ∀ t ∈ (if h = true then _ else _), asc t
    split
    · exact al_cons (asc_lit rfl) (al_app core (al_one (asc_lit rfl)))
    · exact core
theorem Fm.thin_ok {f : Fm} {n : Nat} (h : f.ok = true) (hn : f.depth < n) : f.toD.ok n = true := D.pl_ok _ _ (f.plain n h hn)
theorem mark_look {w : Str} (h : halfW (.str w) = true) : look (mergeD [] [((.inr "both" : Key), D.str "*"), (.inr "between", .str "|"), (.inr "offered", .str "&"), (.inr "chosen", .str "+")]) (.inr w) = some (.str (sL [markC w])) := by
  rcases halfW_str h with rfl | rfl | rfl | rfl
  · rw [show sL [markC "both"] = Str.ofString "*" by decide +kernel]; rfl
  · rw [show sL [markC "between"] = Str.ofString "|" by decide +kernel]; rfl
  · rw [show sL [markC "offered"] = Str.ofString "&" by decide +kernel]; rfl
  · rw [show sL [markC "chosen"] = Str.ofString "+" by decide +kernel]; rfl
end DL
namespace DL
open PySem L2
section
variable {X : Cx} {Y : Yc} {W : WX} {e a b : Expr} {pos : Pos}
/-! ### a list, a tuple that is there is not too long -/
def D.fit : D → Prop
  | .tup ds => ds.length ≤ LINE
  | .lst ds => ds.length ≤ LINE
  | _ => True
theorem Rep.fit {pins : List (Addr × Obj)} {σ : St} {H : Hp} {s : Shared} {G : Hp} {d : D} {v : V} (I : Inv X pins σ H s) (hK : Y.K = X.K) (hs : Same G H) (q : Rep Y G d v) : d.fit := by
  cases q with
  | tup h r =>
    obtain ⟨its, rv, ht, hz⟩ := I.tuple (hK ▸ sqT_mono hs h)
    show _ ≤ _
    rw [r.length, ← line_eq]
    exact hz
  | lst h r =>
    obtain ⟨its, rv, ht, hz⟩ := I.list (SqL.of (hs _ _ h))
    show _ ≤ _
    rw [r.length, ← line_eq]
    exact hz
  | _ => trivial
def mLn (m : ME) : ME := fun st P PX => m st (fun d s1 => d.fit → P d s1) PX
theorem de_ln {m : ME} (hY : Y.K = X.K) (h : DE X Y W e m) : DE X Y W e (mLn m) := by
  refine ⟨fun pins s σ H Q I ⟨G, st, P, PX, rr, hm, xp, k⟩ => ?_⟩
  refine thn (h.run pins s σ H (fun v H1 => ∃ d s1 G1, (d.fit → P d s1) ∧ Same G G1 ∧ Frm Y G st.mu H G1 s1.mu H1 ∧ R Y G1 s1 σ H1 ∧ Rep Y G1 d v) I ⟨G, st, _, PX, rr, hm, xp, fun d st' v G' H' hp g f r q => ⟨d, st', G', hp, g, f, r, q⟩⟩) fun u s1 ⟨v, H1, I1, rv, d, st', G', hp, g, f, r, q⟩ => ?_
  exact ⟨v, H1, I1, rv, k d st' v G' H1 (hp (q.fit I1 hY r.h.sub)) g f r q⟩
/-! ### == of dicts too -/
def eqK (es fs : List (Key × D)) : Bool := decide (es.length = fs.length) && es.all fun p => match look fs p.1 with | some d => eqvD p.2 d | none => false
def okK (es : List (Key × D)) : Prop := ∀ p ∈ es, p.2.ok 60 = true
def eqDK : O2 := fun mu d e P => match d, e with
  | .dct es, .dct fs => okK es ∧ okK fs ∧ P (.bl (eqK es fs))
  | d, e => eqD mu d e P
theorem Repk.length {G : Hp} {es : List (Key × D)} {ks : List (Key × V)} (h : Repk Y G es ks) : es.length = ks.length := by
  induction es generalizing ks with
  | nil => cases h; rfl
  | cons p es ih =>
    cases h with
    | cons k h r => rw [List.length_cons, List.length_cons, ih r]
theorem hitsD {pins : List (Addr × Obj)} {σ : St} {H : Hp} {s : Shared} {G : Hp} {A : Around} (I : Inv X pins σ H s) (hK : Y.K = X.K) (hs : Same G H) (hu : A.units + 62 < cLine) {fs : List (Key × D)} {us : List (Key × V)} {vb : List (Key × Value)} (qf : Repk Y G fs us) (rb : KV us vb) (of : okK fs) :
    ∀ {es : List (Key × D)} {ks : List (Key × V)} {va : List (Key × Value)}, Repk Y G es ks → KV ks va → okK es → PySem.W.KeqHits A s vb va (es.all fun p => match look fs p.1 with | some d => eqvD p.2 d | none => false)
  | [], _, _, .nil, ra, _ => by cases ra; exact .nil
  | (k, d) :: es, _, _, .cons _ h r, ra, oe => by
    cases ra with
    | @cons p q ps qs h1 t =>
      obtain ⟨e1, rv⟩ := h1
      obtain ⟨k', w⟩ := q
      have e1' : k = k' := e1
      subst e1'
      have ih := hitsD I hK hs hu qf rb of r t fun p hp => oe p (List.mem_cons_of_mem _ hp)
      have hl := qf.look k
      rw [List.all_cons]
      cases el : look fs k with
      | none =>
        have e2 := hl.2 el
        have rr : RelO (valV us k) (valueAt vb k) := rb.val k
        rw [e2] at rr
        have e3 : valueAt vb k = none := by
          cases z : valueAt vb k with
          | none => rfl
          | some y => rw [z] at rr; exact rr.elim
        show PySem.W.KeqHits A s vb ((k, w) :: qs) false
        exact .miss e3
      | some d2 =>
        obtain ⟨v2, e2, q2⟩ := hl.1 d2 el
        have rr : RelO (some v2) (valueAt vb k) := by rw [← e2]; exact rb.val k
        obtain ⟨y, hy, ry⟩ := rr.some_of
        have o1 := oe (k, d) List.mem_cons_self
        have o2 : d2.ok 60 = true := by
          unfold look at el
          cases ef : fs.find? (fun e => decide (e.1 = k)) with
          | none => rw [ef] at el; cases el
          | some z =>
            rw [ef] at el
            cases el
            exact of z (List.mem_of_find?_eq_some ef)
        obtain ⟨as, r1⟩ := Dp.reads I d.py _ _ (hK ▸ h.dp hs o1) rv
        obtain ⟨bs, r2⟩ := Dp.reads I d2.py _ _ (hK ▸ q2.dp hs o2) ry
        have l1 := D.ok_lay d 60 o1
        have l2 := D.ok_lay d2 60 o2
        exact .hit hy (PySem.SeqAt.eqAt_reads d.py d2.py A s w y as bs r1 r2 l1.1 l2.1 (by have := l1.2; omega)) ih
theorem od_eqK (hY : Y.K = X.K) (hu : X.A.units + 64 < cLine) : OpD X Y (compareOp .Eq) eqDK := by
  intro pins s σ H x y v u Q I rx ry ⟨G, mu, c, d, e, P, r0, qd, qe, h, k⟩
  by_cases hd : ∃ es fs, d = .dct es ∧ e = .dct fs
  · obtain ⟨es, fs, rfl, rfl⟩ := hd
    obtain ⟨o1, o2, h⟩ := h
    obtain ⟨a1, ks, rfl, h1, q1⟩ := qd.dctI
    obtain ⟨b1, us, rfl, h2, q2⟩ := qe.dctI
    obtain rfl : v = Value.ref a1 := rx
    obtain rfl : u = Value.ref b1 := ry
    obtain ⟨_, ya, va, ra, da⟩ := (show ObjOk X.prog X.w H s.heap a1 (.dK ks) from I.hok a1 _ (r0.sub _ _ h1))
    obtain ⟨_, yb, vb, rb, db⟩ := (show ObjOk X.prog X.w H s.heap b1 (.dK us) from I.hok b1 _ (r0.sub _ _ h2))
    have hl : (decide (es.length = fs.length)) = (va.length == vb.length) := by
      rw [q1.length, q2.length, ra.length, rb.length]
      rfl
    have e0 : eqK es fs = (va.length == vb.length && es.all fun p => match look fs p.1 with | some d => eqvD p.2 d | none => false) := by unfold eqK; rw [hl]
    exact PySem.W.keq_eq (knd := mixKind X.prog X.w) ya yb da db (by omega) (fun _ => hitsD I hY r0.sub (by show X.A.units + 1 + 62 < cLine; omega) q2 rb o2 q1 ra o1) (fin_bl I (k.here r0 h (.bl _)) e0)
  · have h' : eqD mu d e P := by
      unfold eqDK at h
      split at h
      · rename_i es fs
        exact absurd ⟨es, fs, rfl, rfl⟩ hd
      · exact h
    exact od_eq hY hu pins s σ H x y v u Q I rx ry ⟨G, mu, c, d, e, P, r0, qd, qe, h', k⟩
end
mutual
theorem D.eqv_refl : ∀ d : D, d.ok 64 = true → eqvD d d = true
  | .non, _ => rfl
  | .bl b, _ => by rw [eqv_bl2]; exact beq_self_eq_true b
  | .int i, _ => by rw [eqv_int2]; exact beq_self_eq_true i
  | .str s, _ => by rw [eqv_str2]; exact beq_self_eq_true s
  | .tup ds, h => by
    have h' : (decide (0 < 64) && D.oks ds 63) = true := h
    have := D.eqvs_refl ds (D.oks_mono ds 63 64 (by omega) (Bool.and_eq_true_iff.mp h').2)
    unfold eqvD eqvs at *
    simpa [D.py, PyData.eqv] using this
  | .lst ds, h => by
    have h' : (decide (0 < 64) && D.oks ds 63) = true := h
    have := D.eqvs_refl ds (D.oks_mono ds 63 64 (by omega) (Bool.and_eq_true_iff.mp h').2)
    unfold eqvD eqvs at *
    simpa [D.py, PyData.eqv] using this
  | .dct _, h => by cases h
  | .pen, h => by cases h
  | .ref _, h => by cases h
theorem D.eqvs_refl : ∀ ds : List D, D.oks ds 64 = true → eqvs ds ds = true
  | [], _ => by unfold eqvs; simp [D.pys, PyData.eqvAll]
  | d :: ds, h => by
    have h' := Bool.and_eq_true_iff.mp h
    have h1 := D.eqv_refl d h'.1
    have h2 := D.eqvs_refl ds h'.2
    unfold eqvD at h1
    unfold eqvs at h2 ⊢
    simp [D.pys, PyData.eqvAll, h1, h2]
end
theorem look_nodup : ∀ {es : List (Key × D)}, (es.map (·.1)).Nodup → ∀ p ∈ es, look es p.1 = some p.2
  | [], _, p, h => by cases h
  | q :: es, nd, p, h => by
    rw [List.map_cons, List.nodup_cons] at nd
    unfold look
    rcases List.mem_cons.mp h with e | h'
    · subst e
      rw [List.find?_cons_of_pos (by simp)]
      rfl
    · have hne : ¬ q.1 = p.1 := fun z => nd.1 (List.mem_map.mpr ⟨p, h', z.symm⟩)
      rw [List.find?_cons_of_neg (by simpa using hne)]
      exact look_nodup nd.2 p h'
theorem eqK_self {es : List (Key × D)} (nd : (es.map (·.1)).Nodup) (o : okK es) : eqK es es = true := by
  unfold eqK
  rw [Bool.and_eq_true_iff, List.all_eq_true]
  refine ⟨decide_eq_true rfl, fun p hp => ?_⟩
  rw [look_nodup nd p hp]
  exact D.eqv_refl p.2 (D.ok_mono _ _ _ (by omega) (o p hp))
end DL
namespace DL
open PySem L2 LamX PySem.Spec PyProof.Rows
/-! ### a display of lambdas that a for walks -/
/-- what is asked of one lambda of the display -/
structure LamB (X : Cx) (T : List (Addr × Str)) (k : Nat) (params : Arguments) (body : Expr) (scope : Scope) (mb : ME) : Prop where
  sc : LamS X.env.scope scope
  bind : ∀ (q : Str) (cl : List (Str × Addr)) (pm cv ctv : Value), bindArgs (PySem.W.kla_fn "<lambda>" q params body scope cl pm cv ctv) ⟨[], []⟩ = pure []
  body : ∀ (q : Qp) (A : Around) (outer : List Env) (s : Shared) (H : Hp) (E : XK) (f c' : Addr), Room k (A.deeper (lamEnv X scope s.heap.objs.size f c')) → Takes (lamCx X A outer s H E scope f c') (fun cls d _ H => E cls d H) →
      DE (lamCx X A outer s H E scope f c') (Yp X.K X.mg T q) (fun cls d _ H => E cls d H) body mb
inductive LamPs (X : Cx) (T : List (Addr × Str)) (k : Nat) : List Expr → List ME → Prop
  | nil : LamPs X T k [] []
  | cons {params : Arguments} {body : Expr} {scope : Scope} {lpos : Pos} {mb : ME} {es : List Expr} {mbs : List ME} : LamB X T k params body scope mb → defaultsOf params X.env = ([], []) → LamPs X T k es mbs → LamPs X T k (.Lambda params body scope lpos :: es) (mb :: mbs)
/-- f is the closure of a lambda that acts as mb; its record is among the things that stand -/
structure CloMk (X : Cx) (T : List (Addr × Str)) (os : List (Addr × Obj)) (rs : List (Addr × Str)) (k : Nat) (f : Addr) (mb : ME) : Prop where
  ex : ∃ (params : Arguments) (body : Expr) (scope : Scope) (c' : Addr) (pm ctv : Value), (f, PySem.W.kla_obj "<lambda>" (X.env.qual ++ "<lambda>") params body scope (cloFrom X.env.cells scope.names []) pm c' ctv) ∈ os ∧
    LamB X T k params body scope mb ∧ (c', X.env.qual ++ "<lambda>") ∈ rs ∧ f ∉ frs X.stack
theorem CloMk.mono {X : Cx} {T : List (Addr × Str)} {os os' : List (Addr × Obj)} {rs rs' : List (Addr × Str)} {k : Nat} {f : Addr} {mb : ME} (h : CloMk X T os rs k f mb) (h1 : ∀ x ∈ os, x ∈ os') (h2 : ∀ x ∈ rs, x ∈ rs') : CloMk X T os' rs' k f mb :=
  let ⟨a, b, c, d, e, g, i1, i2, i3, i4⟩ := h.ex
  ⟨a, b, c, d, e, g, h1 _ i1, i2, h2 _ i3, i4⟩
theorem LamB.tr {X : Cx} {T : List (Addr × Str)} {k : Nat} {params : Arguments} {body : Expr} {scope : Scope} {mb : ME} (B : LamB X T k params body scope mb) (pn : List (Addr × Obj)) (xe : Value → Shared → Prop) : LamB (X.tr pn xe) T k params body scope mb := ⟨B.sc, B.bind, B.body⟩
theorem CloMk.tr {X : Cx} {T : List (Addr × Str)} {os : List (Addr × Obj)} {rs : List (Addr × Str)} {k : Nat} {f : Addr} {mb : ME} (h : CloMk X T os rs k f mb) (pn : List (Addr × Obj)) (xe : Value → Shared → Prop) : CloMk (X.tr pn xe) T os rs k f mb :=
  let ⟨a, b, c, d, e, g, i1, i2, i3, i4⟩ := h.ex
  ⟨a, b, c, d, e, g, i1, i2.tr pn xe, i3, i4⟩
/-! many code objects more, or less -/
def Qp.adds (q : Qp) (rs : List (Addr × Str)) (G : Hp) : Qp := { q with raw := rs ++ q.raw, G0 := G }
section
variable {K : PySem.W.Frag} {mg : Str → Option Value} {T : List (Addr × Str)} {q : Qp} {G G1 : Hp} {mu : Mu} {c : Nat} {H : Hp} {rs : List (Addr × Str)}
theorem R0.fewer (h : R0 (Yp K mg T (q.adds rs G1)) G mu c H) (lo : Same q.G0 G) : R0 (Yp K mg T q) G mu c H :=
  ⟨h.sub, fun x m e => let ⟨h1, o, h2, h3⟩ := h.mus x m e; ⟨h1, o, h2, RM.conv (Y := Yp K mg T (q.adds rs G1)) (Y' := Yp K mg T q) rfl rfl rfl h3⟩, h.pen, ⟨h.ext.tab, h.ext.tabO, fun p hp => h.ext.raw p (List.mem_append_right _ hp), h.ext.pl, lo⟩⟩
theorem R0.many (h : R0 (Yp K mg T q) G mu c H) (hr : ∀ p ∈ rs, H p.1 = some (CodeO p.1 p.2)) (lo : Same G1 G) : R0 (Yp K mg T (q.adds rs G1)) G mu c H :=
  ⟨h.sub, fun x m e => let ⟨h1, o, h2, h3⟩ := h.mus x m e; ⟨h1, o, h2, RM.conv (Y := Yp K mg T q) (Y' := Yp K mg T (q.adds rs G1)) rfl rfl rfl h3⟩, h.pen, ⟨h.ext.tab, h.ext.tabO, fun p hp => by
    rcases List.mem_append.mp hp with z | z
    · exact ⟨hr p z, (h.codeOff (hr p z)).1, (h.codeOff (hr p z)).2.1⟩
    · exact h.ext.raw p z, h.ext.pl, lo⟩⟩
end
/-- the display's lambdas are made, from the left -/
theorem lams_make {X : Cx} {T : List (Addr × Str)} {q : Qp} {c P : Addr} {k : Nat} {pos : Pos} {E : Value → Shared → Prop} {G : Hp} {mu : Mu} {cc : Nat} {σ : L2.St} (hst : X.stack = X.env :: X.outer) (hfl : X.env.frame = some X.env.locals) (TB : TabB X.base X.mg c P) (hcode : X.env.code = .ref c) (hmT : (P, X.env.qual ++ "<lambda>") ∈ T) (hu : ∀ p ∈ T, p.1 = P → p.2 = X.env.qual ++ "<lambda>")
    {es : List Expr} {mbs : List ME} (hl : LamPs X T k es mbs) : ∀ {pins : List (Addr × Obj)} {H : Hp} {s : Shared} {Q : List Value → Shared → Prop}, Inv X pins σ H s → R0 (Yp X.K X.mg T q) G mu cc H →
      (∀ (fs : List Addr) (os : List (Addr × Obj)) (rs : List (Addr × Str)) (H1 : Hp) (s1 : Shared), Inv X (pins ++ os) σ H1 s1 → ExtN H H1 → R0 (Yp X.K X.mg T q) G mu cc H1 → (∀ p ∈ rs, H1 p.1 = some (CodeO p.1 p.2)) → fs.length = mbs.length → (∀ p ∈ fs.zip mbs, CloMk X T os rs k p.1 p.2) → Q (fs.map .ref) s1) →
      wpAny (model X.prog X.w) X.A (spliced (backTo pos (starEach es X.env))) Q E s := by
  induction hl with
  | nil =>
    intro pins H s Q I r K
    refine Calls.spliced_nil (K [] [] [] H s (by rw [List.append_nil]; exact I) (ExtN.refl H) r (fun _ z => nomatch z) rfl fun _ z => nomatch z)
  | @cons params body scope lpos mb es mbs B hdef hl ih =>
    intro pins H s Q I r K
    show wpAny _ _ (spliced ((false, eval (.Lambda params body scope lpos) X.env) :: backTo pos (starEach es X.env))) _ _ s
    refine Calls.spliced_cons (lam_make2 I TB hcode hmT hu r.ext.tab hdef (B.sc.has I.ok) fun f c' pm' ctv H1 s' I1 eN T1 hf hfn hfr hco => ?_)
    have hfr' : f ≠ X.env.locals ∧ f ∉ X.fs := by
      have z1 := hfr
      rw [hst] at z1
      unfold frs at z1
      rw [List.filterMap_cons, hfl] at z1
      exact ⟨fun z => z1 (by rw [z]; exact List.mem_cons_self), fun z => z1 (List.mem_cons_of_mem _ z)⟩
    have I1p : Inv X (pins ++ [(f, PySem.W.kla_obj "<lambda>" (X.env.qual ++ "<lambda>") params body scope (cloFrom X.env.cells scope.names []) pm' c' ctv)]) σ H1 s' := I1.pins_of fun pp hp => by
      rcases List.mem_append.mp hp with hp | hp
      · exact I1.pin pp (List.mem_append_right _ hp)
      · rcases List.mem_cons.mp hp with e | e
        · rw [e]
          exact ⟨hf, hfn, hfr'.1, hfr'.2, fun v z => by cases z⟩
        · cases e
    refine ih I1p (r.extN eN T1) fun fs os rs H2 s2 I2 e2 r2 hrs hlen hcl => ?_
    refine K (f :: fs) ((f, PySem.W.kla_obj "<lambda>" (X.env.qual ++ "<lambda>") params body scope (cloFrom X.env.cells scope.names []) pm' c' ctv) :: os) ((c', X.env.qual ++ "<lambda>") :: rs) H2 s2 (by rw [List.append_assoc] at I2; exact I2) (eN.trans e2) r2 (fun p hp => ?_) (by rw [List.length_cons, List.length_cons, hlen]) fun p hp => ?_
    · rcases List.mem_cons.mp hp with z | z
      · rw [z]
        exact e2 _ _ hco (code_no rfl).1
      · exact hrs p z
    · rcases List.mem_cons.mp hp with z | z
      · rw [z]
        exact ⟨params, body, scope, c', pm', ctv, List.mem_cons_self, B, List.mem_cons_self, hfr⟩
      · exact (hcl p z).mono (fun x hx => List.mem_cons_of_mem _ hx) fun x hx => List.mem_cons_of_mem _ hx
/-- the loop over things that are there -/
theorem forW {X : Cx} {Y : Yc} {W : WX} {g : MG} {ms : MS} {D : Ends} {σ : L2.St} {H : Hp} {G : Hp} {st : S} {E : DEnds} {PX : PXT} {ds : List DL.D} {J : It} (h1 : forGo g ms E PX ds st) (r1 : R Y G st σ H) (xp : XPost Y W G st σ H PX) (k : EndsOk Y G st H E D) (wk : Wk Y G J ds) :
    ∃ Wm : Nat → Nat → L2.St → Hp → Prop, (∃ m, Wm 0 m σ H) ∧ ∀ i m σ H, Wm i m σ H → (J.stop i H ∧ D.nx σ H) ∨ (J.go i H ∧ ∃ N : L2.St → Hp → Prop, (∀ σ' H', N σ' H' → ∃ m', m' < m ∧ Wm (i + 1) m' σ' H') ∧ ∀ x H', J.yld i H x H' → TGof Y g x σ H' fun σ2 H2 => TSof Y W ms { D with nx := N, ct := N, bk := D.nx } σ2 H2) := by
  refine ⟨fun i m σ2 H2 => m = ds.length - i ∧ i ≤ ds.length ∧ ∃ G' st', Same G G' ∧ Frm Y G st.mu H G' st'.mu H2 ∧ R Y G' st' σ2 H2 ∧ forGo g ms E PX (ds.drop i) st', ⟨ds.length, by simp, Nat.zero_le _, G, st, Same.refl _, .refl, r1, by rw [List.drop_zero]; exact h1⟩, ?_⟩
  rintro i m σ2 H2 ⟨rfl, hi, G2, s2, g2, f2, r2, h2⟩
  by_cases hlt : i < ds.length
  · refine .inr ⟨wk.go i H2 hlt (g2.trans r2.h.sub), fun σ' H' => ∃ G' st', Same G G' ∧ Frm Y G st.mu H G' st'.mu H' ∧ R Y G' st' σ' H' ∧ forGo g ms E PX (ds.drop (i + 1)) st', fun σ' H' hn => ⟨ds.length - (i + 1), by omega, rfl, hlt, hn⟩, fun x H3 hy => ?_⟩
    obtain ⟨d, G3, hd, g3, f3, r3, q3⟩ := wk.yld i H2 x H3 G2 s2.mu s2.c hlt g2 r2.h hy
    rw [drop_one hd] at h2
    refine ⟨G3, s2, d, _, ⟨r3, r2.s.mono g3⟩, q3, h2, fun s4 σ4 G4 H4 h4 g4 f4 r4 => ?_⟩
    have gg4 := (g2.trans g3).trans g4
    have ff4 := (f2.trans f3).trans f4
    refine ⟨G4, s4, _, PX, r4, h4, xp.on gg4 ff4, ⟨fun s5 σ5 G5 H5 h5 g5 f5 r5 => ?_, fun d5 s5 v5 σ5 G5 H5 h5 g5 f5 r5 q5 => ?_, fun s5 σ5 G5 H5 h5 g5 f5 r5 => ?_, fun s5 σ5 G5 H5 h5 g5 f5 r5 => ?_⟩⟩
    · exact ⟨G5, s5, gg4.trans g5, ff4.trans f5, r5, h5⟩
    · exact k.rt d5 s5 v5 σ5 G5 H5 h5 (gg4.trans g5) (ff4.trans f5) r5 q5
    · exact k.nx s5 σ5 G5 H5 h5 (gg4.trans g5) (ff4.trans f5) r5
    · exact ⟨G5, s5, gg4.trans g5, ff4.trans f5, r5, h5⟩
  · have e : i = ds.length := by omega
    subst e
    rw [List.drop_length] at h2
    exact .inl ⟨wk.stop H2 (g2.trans r2.h.sub), k.nx s2 σ2 G2 H2 h2 g2 f2 r2⟩
/-- the turns of a loop whose iterator is there, in a context that keeps more -/
theorem loopOn {X : Cx} {tg : Expr} {body : List Stmt} {g : TG} {tb : TS} {R : Result → Shared → Prop} (hp : PassesOwn (model X.prog X.w) X.A X.env X.xe) (hc : X.calm = true) (hg : PG X tg g) (hb : PSs X body tb) {s : Shared} {σ : L2.St} {H : Hp} {it : Addr} {fp : List Addr} {tn : Nat → Heap → Prop} {J : It}
    (I : Inv X [] σ H s) (Tn : Turn X.prog X.w X.K tg J fp it tn) (t0 : tn 0 s.heap) (fo : ∀ b ∈ fp, FpOk X [] H b) {D : Ends} {Wm : Nat → Nat → L2.St → Hp → Prop} (w0 : ∃ m, Wm 0 m σ H)
    (step : ∀ i m σ H, Wm i m σ H → (J.stop i H ∧ D.nx σ H) ∨ (J.go i H ∧ ∃ N : L2.St → Hp → Prop, (∀ σ' H', N σ' H' → ∃ m', m' < m ∧ Wm (i + 1) m' σ' H') ∧ ∀ x H', J.yld i H x H' → g x σ H' fun σ2 H2 => tb { D with nx := N, ct := N, bk := D.nx } σ2 H2))
    (hR : ∀ f z, SP X [] { D with bk := fun _ _ => False, ct := fun _ _ => False } f z → R (.ok f) z) (hE : ∀ e z, R (.error e) z = cameBackBy (model X.prog X.w) X.A X.env X.xe e z) :
    codeAny (model X.prog X.w) X.A (.forLoop tg (.ref it) body [] X.env) R s := by
  obtain ⟨m0, w0⟩ := w0
  have hE' : (fun e z => R (.error e) z) = cameBackBy (model X.prog X.w) X.A X.env X.xe := by
    funext e z
    exact hE e z
  have old : ∀ {Hy : Hp}, (∀ b ∈ fp, Hy b = none) → ∀ b ∈ fp, FpOk X [] Hy b := fun n b m => ⟨n b m, (fo b m).2⟩
  refine codeAny_forLoop_any (fun n z => ∃ (i : Nat) (ρ : L2.St) (Hz : Hp), (∀ b ∈ fp, Hz b = none) ∧ Inv X [] ρ Hz z ∧ Wm i n ρ Hz ∧ tn i z.heap) (fun n z hz => ?_) m0 ⟨0, σ, H, fun b m => (fo b m).1, I, w0, t0⟩
  rw [hE']
  obtain ⟨i, ρ, Hz, nz, Iz, wz, tz⟩ := hz
  rcases step i n ρ Hz wz with ⟨a1, a2⟩ | ⟨a1, N, a2, a3⟩
  · refine wpAny_passesOwn hp (wpAny_mono (Tn.done X rfl rfl rfl hc i [] z ρ Hz X.xe Iz (old nz) tz a1) (fun r y hy => ?_) fun _ _ x => x)
    obtain ⟨er, Iy⟩ := hy
    rw [er]
    exact wpAny_execs_nil (hR .next _ ⟨ρ, Hz, Iy, a2⟩)
  · refine wpAny_passesOwn hp (wpAny_mono (Tn.item X rfl rfl rfl hc i [] z ρ Hz X.xe Iz (old nz) tz a1) (fun r y hy => ?_) fun _ _ x => x)
    obtain ⟨u, er, hu⟩ := hy
    rw [er]
    refine wpAny_passesOwn hp (wpAny_mono hu (fun _ y2 hy2 => ?_) fun _ _ x => x)
    obtain ⟨x, Hx, Ix, rx, yx, tx, nx⟩ := hy2
    refine wpAny_passesOwn hp (wpAny_mono (hg.run _ y2 ρ Hx x u _ (Ix.pinned (old nx) (Tn.obj _ _ tx)) rx (a3 x Hx yx)) (fun _ y3 hy3 => ?_) fun _ _ x => x)
    obtain ⟨ρ3, H3, I3, q3⟩ := hy3
    refine wpAny_passesOwn hp (wpAny_mono (hb.run _ y3 ρ3 H3 _ I3 q3) (fun f y4 q4 => ?_) fun _ _ x => x)
    have on : ∀ {ρ4 : L2.St} {H4 : Hp}, Inv X ([] ++ pinsAt fp y2.heap) ρ4 H4 y4 → N ρ4 H4 → ∃ m, m < n ∧ ∃ (i : Nat) (ρ : L2.St) (Hz : Hp), (∀ b ∈ fp, Hz b = none) ∧ Inv X [] ρ Hz y4 ∧ Wm i m ρ Hz ∧ tn i y4.heap := fun {ρ4 H4} I4 n4 => by
      obtain ⟨m', lt, w4⟩ := a2 ρ4 H4 n4
      have at_ : ∀ b ∈ fp, ∀ o, y2.heap.get? b = some o → y4.heap.get? b = some o ∧ H4 b = none := fun b hb o e =>
        have z := I4.pin (b, o) (List.mem_append_right _ (List.mem_append_right _ (mem_pinsAt hb e)))
        ⟨z.1, z.2.1⟩
      refine ⟨m', lt, i + 1, ρ4, H4, fun b hb => ?_, I4.unpinned, w4, Tn.keep _ _ _ tx fun b hb o e => (at_ b hb o e).1⟩
      obtain ⟨o, e, _⟩ := Tn.obj _ _ tx b hb
      exact (at_ b hb o e).2
    cases f with
    | next => obtain ⟨ρ4, H4, I4, n4⟩ := q4; exact on I4 n4
    | cont => obtain ⟨ρ4, H4, I4, n4⟩ := q4; exact on I4 n4
    | brk => obtain ⟨ρ4, H4, I4, n4⟩ := q4; exact hR .next _ ⟨ρ4, H4, I4.unpinned, n4⟩
    | ret v => obtain ⟨x4, ρ4, H4, I4, r4, n4⟩ := q4; exact hR (.ret v) _ ⟨x4, ρ4, H4, I4.unpinned, r4, n4⟩
def mForLam (g : MG) (mbs : List ME) (ms : List (Addr × ME) → MS) : MS := fun st E PX => mbs.length ≤ sizeLine ∧ ∀ fs : List Addr, fs.length = mbs.length → forGo g (ms (fs.zip mbs)) E PX (fs.map D.ref) st
theorem takesTr {X : Cx} {W : WX} {pins : List (Addr × Obj)} (tk : Takes X W) (ok : X.Ok) : Takes (X.tr (X.pn ++ pins) X.xe) W := fun u s' ⟨a, B, sI, pins', σ, H, cls, d, e, I, nb, up, sky, na, os, ag, w⟩ =>
  tk u s' ⟨a, B, sI, pins, σ, H, cls, d, e, I.ofTry ok, nb, up, sky, na, os, ag, w⟩
theorem repsRef {Y : Yc} {G : Hp} : ∀ fs : List Addr, Reps Y G (fs.map D.ref) (fs.map V.ref)
  | [] => .nil
  | f :: fs => .cons (.ref f) (repsRef fs)
theorem valsRef : ∀ fs : List Addr, Vals (fs.map V.ref) (fs.map Value.ref)
  | [] => .nil
  | f :: fs => .cons rfl (valsRef fs)
/-- for x in [lambda: .., ..]: body -/
theorem ds_forLam {X : Cx} {T : List (Addr × Str)} {q : Qp} {W : WX} {c P : Addr} {k : Nat} {pos lpos : Pos} {tg : Expr} {body : List Stmt} {g : MG} {ms : List (Addr × ME) → MS} {es : List Expr} {mbs : List ME}
    (hp : PassesOwn (model X.prog X.w) X.A X.env X.xe) (hc : X.calm = true) (tk : Takes X W) (hst : X.stack = X.env :: X.outer) (hfl : X.env.frame = some X.env.locals) (TB : TabB X.base X.mg c P) (hcode : X.env.code = .ref c) (hmT : (P, X.env.qual ++ "<lambda>") ∈ T) (hu : ∀ p ∈ T, p.1 = P → p.2 = X.env.qual ++ "<lambda>")
    (hl : LamPs X T k es mbs) (hg : ∀ (q : Qp) (pn : List (Addr × Obj)), DG (X.tr pn X.xe) (Yp X.K X.mg T q) tg g)
    (hb : ∀ (q : Qp) (pn : List (Addr × Obj)) (cl : List (Addr × ME)), (∀ p ∈ cl, CloMk (X.tr pn X.xe) T pn q.raw k p.1 p.2) → Takes (X.tr pn X.xe) W → DSs (X.tr pn X.xe) (Yp X.K X.mg T q) W body (ms cl)) (hs : ∀ x, foldedSetIterable (.List es lpos) X.env x = pure x := by intro _; rfl) :
    DS X (Yp X.K X.mg T q) W (.For tg (.List es lpos) body [] pos) (mForLam g mbs ms) := by
  refine ⟨fun pins s σ H D I ⟨G, st, E, PX, rr, ⟨hz, hm⟩, xp, k0⟩ => ?_⟩
  refine wpAny_For (wpAny_List_spliced (lams_make (pos := lpos) hst hfl TB hcode hmT hu hl I rr.h fun fs os rs H1 s1 I1 eN r1 hrs hlen hcl => ?_)) hs
  refine ⟨by rw [List.length_map, hlen]; exact hz, ?_⟩
  have hf : H1 s1.heap.objs.size = none := I1.hok.fresh (Nat.le_refl _)
  have I2 := I1.laid (t' := s1.toks) (o := .lst (fs.map V.ref)) (h' := s1.heap.push { cls := .type "list", data := .seq (fs.map Value.ref).toArray }) (fun b u e => Heap.get?_push_of_some _ e) (Nat.le_refl _) ⟨by rw [List.length_map, hlen]; exact hz, _, 0, valsRef fs, Heap.get?_push_size _ rfl⟩
  have lo0 : Same q.G0 G := rr.h.ext.lo
  have r2 : R0 (Yp X.K X.mg T (q.adds rs G)) G st.mu st.c H1 := r1.many hrs (Same.refl G)
  obtain ⟨r3, gS, hS⟩ := r2.new hf (.lst (fs.map V.ref))
  have f1 : Frm (Yp X.K X.mg T q) G st.mu H (upd G s1.heap.objs.size (.lst (fs.map V.ref))) st.mu (upd H1 s1.heap.objs.size (.lst (fs.map V.ref))) := (Frm.extN eN).trans (.new hf)
  have rs3 : R (Yp X.K X.mg T (q.adds rs G)) (upd G s1.heap.objs.size (.lst (fs.map V.ref))) st σ (upd H1 s1.heap.objs.size (.lst (fs.map V.ref))) :=
    ⟨r3, (Sl.conv (Y := Yp X.K X.mg T q) (Y' := Yp X.K X.mg T (q.adds rs G)) rfl rfl rr.s).mono gS⟩
  have dnR : ∀ {G5 : Hp} {s5 : S} {σ5 : L2.St} {H5 : Hp}, Same G G5 → R (Yp X.K X.mg T (q.adds rs G)) G5 s5 σ5 H5 → R (Yp X.K X.mg T q) G5 s5 σ5 H5 := fun g5 r5 => ⟨r5.h.fewer (lo0.trans g5), Sl.conv (Y := Yp X.K X.mg T (q.adds rs G)) (Y' := Yp X.K X.mg T q) rfl rfl r5.s⟩
  have I3 := I2.toTry X.xe
  have tk3 : Takes (X.tr (X.pn ++ (pins ++ os)) X.xe) W := takesTr tk I.ok
  have hb3 := hb (q.adds rs G) (X.pn ++ (pins ++ os)) (fs.zip mbs) (fun p hp => ((hcl p hp).mono (fun x hx => List.mem_append_right _ (List.mem_append_right _ hx)) fun x hx => List.mem_append_left _ hx).tr _ _) tk3
  have hW := forW (X := X) (J := Itl X.K s1.heap.objs.size) (D := D) (hm fs hlen) rs3 (W := W)
    (fun x st' cls d σ' G' H' h1 g5 f5 r5 rx => xp x st' cls d σ' G' H' h1 (gS.trans g5) (f1.trans f5) (dnR (gS.trans g5) r5) (RepX.conv (Y := Yp X.K X.mg T (q.adds rs G)) (Y' := Yp X.K X.mg T q) rfl rfl rfl rx))
    ⟨fun s5 σ5 G5 H5 h5 g5 f5 r5 => k0.nx s5 σ5 G5 H5 h5 (gS.trans g5) (f1.trans f5) (dnR (gS.trans g5) r5), fun d5 s5 v5 σ5 G5 H5 h5 g5 f5 r5 q5 => k0.rt d5 s5 v5 σ5 G5 H5 h5 (gS.trans g5) (f1.trans f5) (dnR (gS.trans g5) r5) (Rep.conv (Y := Yp X.K X.mg T (q.adds rs G)) (Y' := Yp X.K X.mg T q) rfl rfl q5),
      fun s5 σ5 G5 H5 h5 g5 f5 r5 => k0.bk s5 σ5 G5 H5 h5 (gS.trans g5) (f1.trans f5) (dnR (gS.trans g5) r5), fun s5 σ5 G5 H5 h5 g5 f5 r5 => k0.ct s5 σ5 G5 H5 h5 (gS.trans g5) (f1.trans f5) (dnR (gS.trans g5) r5)⟩
    (wk_lst (X := X) upd_same (repsRef fs) rfl)
  obtain ⟨its, rv, pl, hzz⟩ := I3.list (SqL.of upd_same)
  have h4 : wpAny (model X.prog X.w) X.A (pyIter (.ref s1.heap.objs.size)) (PIE (X.tr (X.pn ++ (pins ++ os)) X.xe) [] σ tg (fun J H' => J = Itl X.K s1.heap.objs.size ∧ H' = upd H1 s1.heap.objs.size (.lst (fs.map V.ref)))) X.xe { s1 with heap := s1.heap.push { cls := .type "list", data := .seq (fs.map Value.ref).toArray } } :=
    wpAny_pyIter_list pl.isList (pi_one (tk := s1.toks) I3 _ (turn_list _ _) ⟨_, Heap.get?_push_size _ rfl, rfl, rfl⟩ ⟨rfl, rfl⟩)
  refine wpAny_mono h4 (fun itv s2 h5 => ?_) fun _ _ x => x
  obtain ⟨it, fp, tn, J, H5, e1, I5, Tn, t0, fo, e2, e3⟩ := h5
  rw [e1]
  rw [e2] at Tn
  rw [e3] at I5 fo
  obtain ⟨Wm, w0, step⟩ := hW
  refine loopOn (X := X.tr (X.pn ++ (pins ++ os)) X.xe) hp hc (hg (q.adds rs G) _) hb3 I5 Tn t0 fo (D := D) w0 step (fun f z hz => ?_) fun e z => rfl
  have dn : ∀ {ρ : L2.St} {Hz : Hp}, Inv (X.tr (X.pn ++ (pins ++ os)) X.xe) [] ρ Hz z → Inv X pins ρ Hz z := fun Iz => (Iz.ofTry I.ok).unpinned
  cases f with
  | next => obtain ⟨ρ, Hz, Iz, qz⟩ := hz; exact ⟨ρ, Hz, dn Iz, qz⟩
  | cont => obtain ⟨ρ, Hz, Iz, qz⟩ := hz; exact qz.elim
  | brk => obtain ⟨ρ, Hz, Iz, qz⟩ := hz; exact qz.elim
  | ret v => obtain ⟨x, ρ, Hz, Iz, rz, qz⟩ := hz; exact ⟨x, ρ, Hz, dn Iz, rz, qz⟩
/-- x(f, ..), f the lambda of this turn -/
def mPassL (csp : CSp) (i : Nat) (cl : List (Addr × ME)) (n : MA) : ME := fun st P PX => ∃ p : Addr × ME, p ∈ cl ∧ st.r[i]? = some (some (.ref p.1)) ∧ n st (fun ds s1 => csp (behOf s1 p.2) ds s1.mu s1.c (fun d mu c => P d { s1 with mu := mu, c := c }) (fun x mu c => PX x { s1 with mu := mu, c := c })) PX
theorem de_passL {X : Cx} {T : List (Addr × Str)} {q : Qp} {W : WX} {csp : CSp} {x v : Str} {k j i : Nat} {rest : List Expr} {mn : MA} {p pv pos : Pos} {cl : List (Addr × ME)} (F : CFn X.prog X.w X.K X.mg T X.base j x csp) (tk : Takes X W) (hg : Gl X x) (hcl : ∀ p ∈ cl, CloMk X T X.pn q.raw k p.1 p.2)
    (hr : Room (k + j + 1) X.A) (hN : X.N[i]? = some v) (hvis : Vis X.env.scope v) (ha : DA X (Yp X.K X.mg T q) W rest mn) (hse : starEach (.Name v pv :: rest) X.env = (false, eval (.Name v pv) X.env) :: starEach rest X.env := by rfl) (hpl : (backTo pos (starEach rest X.env)).any (·.1) = false := by rfl)
    (hdb : (x == ("__debug__" : Str)) = false := by decide) (hd : (v == ("__debug__" : Str)) = false := by decide) (hcd : (v == ("__classdict__" : Str)) = false := by decide) : DE X (Yp X.K X.mg T q) W (.Call (.Name x p) (.Name v pv :: rest) [] pos) (mPassL csp i cl mn) := by
  obtain ⟨g, pg, bg, sg, doc, pm, cdv, ct, oc, kV, an, od, osl, Ng, ps, a, mf, hm, hk, lk, hcg, hb, Sg, hder, hrd⟩ := F.ex
  refine ⟨fun pins s σ H Q I ⟨G, st, P1, PX, rr, ⟨⟨f, mb⟩, hin, hr0, hmn⟩, xp, kq⟩ => ?_⟩
  obtain ⟨params, body, scope, c', pm', ctv, hpn, B, hraw, hfr⟩ := (hcl _ hin).ex
  obtain ⟨v0, e0, q0⟩ := rr.s.2 i _ hr0
  cases q0
  refine wpAny_Call_Name_kw (ld_glob I hg hm ?_ hdb)
  have hpv : PE X (.Name v pv) (tVar i) := pe_var (i := i) hN hvis hd hcd
  refine PySem.W.callWith_K (h₀ := X.base) I.ok.mod.kin hk (thn ((pa_cons hpv ha hse).run pos pins s σ H (fun us H2 => ∃ vs ds s2 G2, us = .ref f :: vs ∧ csp (behOf s2 mb) ds s2.mu s2.c (fun d mu c => P1 d { s2 with mu := mu, c := c }) (fun x mu c => PX x { s2 with mu := mu, c := c }) ∧ Same G G2 ∧ Frm (Yp X.K X.mg T q) G st.mu H G2 s2.mu H2 ∧ R (Yp X.K X.mg T q) G2 s2 σ H2 ∧ Reps (Yp X.K X.mg T q) G2 ds vs) I
    ⟨.ref f, e0, G, st, _, PX, rr, hmn, xp, fun ds s2 vs G2 H2 h2 g2 f2 r2 q2 => ⟨vs, ds, s2, G2, rfl, h2, g2, f2, r2, q2⟩⟩) fun us s2 ⟨vs1, H2, I2, rv1, vs, ds, st2, G2, evs, hcs, g2, f2, r2, q2⟩ => ?_) hse hpl
  subst evs
  refine ⟨I2.kIn, ?_⟩
  obtain ⟨hf2, hfn2, _⟩ := I2.pin _ (List.mem_append_left _ hpn)
  obtain ⟨hco2, m1, m2⟩ := r2.h.ext.raw _ hraw
  obtain ⟨n1, n2, n3⟩ := r2.h.codeOff hco2
  have r3 := r2.h.moreRaw (G1 := G2) hco2 m1 m2 (Same.refl G2)
  have lo2 : Same q.G0 G2 := r2.h.ext.lo
  have hck := hrd f (behOf st2 mb) (behOf_mono _ _) ds st2.mu st2.c _ _ hcs
  have rc : codeAny (model X.prog X.w) X.A (.call (.ref g) ⟨us, []⟩) (CR (L2.CX X.prog X.w) X.stack X.prog X.w H2 s2 Q (WE W σ)) s2 := by
    have hlen : us.length = (a :: ps).length := by rw [← rv1.length, List.length_cons, ← q2.length, hck.1, List.length_cons]
    have hb2 := hb s2 us I2.kIn (by rw [List.append_nil]; exact hlen)
    rw [List.append_nil] at hb2
    refine run_ofS (N := Ng) (ps := a :: ps) (us := us) (vs := .ref f :: vs) lk hcg Sg hr I2.env0 hb2 rv1 (by rw [rv1.length]; exact hlen) fun hr' => ?_
    have hZ := hder (cxOf (L2.CX X.prog X.w) X.prog X.w X.K X.mg X.base Ng x sg g cdv X.A X.stack s2 H2 (WE W σ)) (q.add c' (X.env.qual ++ "<lambda>") G2) (fun cls d _ H => WE W σ cls d H) f k (behOf st2 mb) (behOf_mono _ _) ⟨_, _, _, _, _, rfl⟩
      ⟨frs X.stack, s2.heap, H2, clo_of_lam I2 B.sc hf2 hfn2 hfr (B.bind _ _ _ _ _) (fun A outer s H E hr2 => B.body q A outer s H E f c' hr2 (takes_of rfl rfl rfl rfl)) r2 n3, Un.refl, fun y hy => .inl hy, rfl⟩ (takes_of rfl rfl rfl rfl) hr' (passes_of rfl)
    refine ⟨_, hZ, G2, S0 Ng (a :: ps) (.ref f :: ds) st2.mu st2.c, _, _, ⟨r3, ?_⟩, hck.2, fun y s5 cls d σ5 G5 H5 ⟨c5, l5, hx⟩ g5 f5 r5 rx => ?_, ⟨fun s5 σ5 G5 H5 ⟨c5, l5, hP⟩ g5 f5 r5 => ?_, fun d s5 v σ5 G5 H5 ⟨c5, l5, hP⟩ g5 f5 r5 q5 => ?_, fun _ _ _ _ z => z.elim, fun _ _ _ _ z => z.elim⟩⟩
    · have e1 : Ng.length - (V.ref f :: vs).length = Ng.length - (a :: ps).length := by rw [List.length_cons, List.length_cons, ← q2.length, hck.1]
      show Sl _ G2 _ (L2.start Ng (.ref f :: vs))
      unfold L2.start
      rw [e1]
      exact Sl.start (.cons (.ref f) (Reps.conv (Y := Yp X.K X.mg T q) (Y' := Yp X.K X.mg T (q.add c' (X.env.qual ++ "<lambda>") G2)) rfl rfl q2)) _
    · exact xp y { st2 with mu := s5.mu, c := c5 } cls d σ G5 H5 hx (g2.trans g5) (f2.trans f5) ⟨(r5.h.less lo2).more l5, r2.s.mono g5⟩ rx.dn
    · exact kq .non { st2 with mu := s5.mu, c := c5 } .non G5 H5 hP (g2.trans g5) (f2.trans f5) ⟨(r5.h.less lo2).more l5, r2.s.mono g5⟩ .non
    · exact kq d { st2 with mu := s5.mu, c := c5 } v G5 H5 hP (g2.trans g5) (f2.trans f5) ⟨(r5.h.less lo2).more l5, r2.s.mono g5⟩ q5.dn
  refine wpAny_call (codeAny_mono rc fun r s3 hq => ?_)
  cases r with
  | error e => exact passAt tk σ pins H2 s2 e s3 I2 hq
  | ok fl =>
    cases fl with
    | ret u => exact I2.after hq
    | next => exact False.elim hq
    | brk => exact False.elim hq
    | cont => exact False.elim hq
end DL
namespace DL
open PySem L2 PySem.Spec PyProof.Rows
/-! ### list comprehensions with two fors -/
section
variable {X : Cx} {Y : Yc}
/-- the growing list at A, over what stood before it -/
structure LcI (Y : Yc) (Gb : Hp) (mub : Mu) (Hb : Hp) (A : Addr) (G : Hp) (mu : Mu) (c : Nat) (acc : List DL.D) (ys : List V) (H : Hp) : Prop where
  g : Same Gb G
  f : Frm Y Gb mub Hb G mu H
  r : R0 Y G mu c H
  a1 : G A = none
  a2 : mu A = none
  at_ : H A = some (.lst ys)
  q : Reps Y G acc ys
variable {Gb : Hp} {mub : Mu} {Hb : Hp} {A : Addr} {G : Hp} {mu : Mu} {c : Nat} {acc : List DL.D} {ys : List V} {H : Hp}
theorem LcI.on {G2 : Hp} {mu2 : Mu} {c2 : Nat} {H2 : Hp} (L : LcI Y Gb mub Hb A G mu c acc ys H) (n3 : A ≠ Y.p) (s : Same G G2) (f : Frm Y G mu H G2 mu2 H2) (r : R0 Y G2 mu2 c2 H2) : LcI Y Gb mub Hb A G2 mu2 c2 acc ys H2 :=
  let ⟨e, b1, b2⟩ := f A _ L.at_ L.a1 L.a2 ⟨n3, frm_lst⟩
  ⟨L.g.trans s, L.f.trans f, r, b1, b2, e, L.q.mono s⟩
theorem LcI.put {d : DL.D} {v : V} (L : LcI Y Gb mub Hb A G mu c acc ys H) (hA : Hb A = none) (n3 : A ≠ Y.p) (q : Rep Y G d v) : LcI Y Gb mub Hb A G mu c (acc ++ [d]) (ys ++ [v]) (upd H A (.lst (ys ++ [v]))) :=
  ⟨L.g, fun a o z1 z2 z3 z4 => let ⟨w1, w2, w3⟩ := L.f a o z1 z2 z3 z4; ⟨by rw [upd_ne (ne_of_none z1 hA)]; exact w1, w2, w3⟩, L.r.turn L.a1 L.a2 n3 (fun o z => by rw [L.at_] at z; cases z; exact plain_lst) _, L.a1, L.a2, upd_same, L.q.append (.cons q .nil)⟩
/-- the turns of one for -/
theorem lc_turns {vs : List Nat} {g' : TG} {g : MG} {t : MT} {m : ME} (hgw : GW Y vs g' g) (hA : Hb A = none) (n3 : A ≠ Y.p) (L : LcI Y Gb mub Hb A G mu c acc ys H) {s1 : S} {σ : L2.St} (sl : Sl Y G s1.r σ) {ds : List DL.D} {J : It} (wk : Wk Y G J ds) {P : List DL.D → S → Prop}
    (h : lcGo (lcBody s1.r vs g t m) ds acc { s1 with mu := mu, c := c } P) {Nx : Hp → Prop} (k : ∀ G' mu' c' acc' ys' H', Same G G' → LcI Y Gb mub Hb A G' mu' c' acc' ys' H' → P acc' { s1 with mu := mu', c := c' } → Nx H') :
    ∃ W1 : Nat → Nat → Hp → Prop, (∃ m, W1 0 m H) ∧ ∀ j k H, W1 j k H → (J.stop j H ∧ Nx H) ∨ (J.go j H ∧ ∃ Nx1 : Hp → Prop, (∀ H', Nx1 H' → ∃ k', k' < k ∧ W1 (j + 1) k' H') ∧ ∀ x H', J.yld j H x H' → g' x (L2.wipe σ vs) H' fun σ3 H5 => L2.wipe σ3 vs = L2.wipe σ vs ∧ TTof Y W0 t σ3 H5 fun b H6 =>
      if b = true then TEof Y W0 m σ3 H6 fun y H7 => ∃ acc, H7 A = some (.lst acc) ∧ acc.length < sizeLine ∧ Nx1 (upd H7 A (.lst (acc ++ [y]))) else Nx1 H6) := by
  refine ⟨fun i m0 H => m0 = ds.length - i ∧ i ≤ ds.length ∧ ∃ G' mu' c' acc ys, Same G G' ∧ LcI Y Gb mub Hb A G' mu' c' acc ys H ∧ lcGo (lcBody s1.r vs g t m) (ds.drop i) acc { s1 with mu := mu', c := c' } P,
    ⟨ds.length, by simp, Nat.zero_le _, G, mu, c, acc, ys, Same.refl _, L, by rw [List.drop_zero]; exact h⟩, ?_⟩
  rintro i m0 H2 ⟨rfl, hi, G2, mu2, c2, acc2, ys2, g2, L2', h2⟩
  by_cases hlt : i < ds.length
  · refine .inr ⟨wk.go i H2 hlt (g2.trans L2'.r.sub), fun H' => ∃ G' mu' c' acc ys, Same G G' ∧ LcI Y Gb mub Hb A G' mu' c' acc ys H' ∧ lcGo (lcBody s1.r vs g t m) (ds.drop (i + 1)) acc { s1 with mu := mu', c := c' } P,
      fun H' hn => ⟨ds.length - (i + 1), by omega, rfl, hlt, hn⟩, fun x H3 hy => ?_⟩
    obtain ⟨d, G3, hd, g3, f3, r3, q3⟩ := wk.yld i H2 x H3 G2 mu2 c2 hlt g2 L2'.r hy
    rw [drop_one hd] at h2
    refine hgw G3 { r := wipeD s1.r vs, mu := mu2, c := c2 } (L2.wipe σ vs) H3 d x _ _ ⟨r3, ((sl.mono g2).mono g3).wipe vs⟩ q3 h2 fun s4 σ4 G4 H4 h4 g4 f4 r4 ew => ?_
    refine ⟨by rw [ew, wipe_wipe vs vs fun _ h => h], G4, s4, fun b s3 => if b = true then m s3 (fun y s4 => acc2.length < LINE ∧ lcGo (lcBody s1.r vs g t m) (ds.drop (i + 1)) (acc2 ++ [y]) { s1 with mu := s4.mu, c := s4.c } P) PX0 else lcGo (lcBody s1.r vs g t m) (ds.drop (i + 1)) acc2 { s1 with mu := s3.mu, c := s3.c } P, PX0, r4, h4, fun _ _ _ _ _ _ _ z => z.elim, fun b s5 G5 H5 h5 g5 f5 r5 => ?_⟩
    have gg := (g3.trans g4).trans g5
    have L5 := L2'.on n3 gg ((f3.trans f4).trans f5) r5.h
    cases b with
    | false =>
      show ∃ G' mu' c' acc ys, Same G G' ∧ LcI Y Gb mub Hb A G' mu' c' acc ys H5 ∧ lcGo (lcBody s1.r vs g t m) (ds.drop (i + 1)) acc { s1 with mu := mu', c := c' } P
      exact ⟨G5, s5.mu, s5.c, acc2, ys2, g2.trans gg, L5, h5⟩
    | true =>
      show TEof Y W0 m σ4 H5 _
      refine ⟨G5, s5, _, PX0, r5, h5, fun _ _ _ _ _ _ _ z => z.elim, fun y s6 v G6 H6 ⟨l6, h6⟩ g6 f6 r6 q6 => ?_⟩
      have L6 := L5.on n3 g6 f6 r6.h
      exact ⟨ys2, L6.at_, by rw [← L6.q.length, line_eq]; exact l6, G6, s6.mu, s6.c, acc2 ++ [y], ys2 ++ [v], g2.trans (gg.trans g6), L6.put hA n3 q6, h6⟩
  · have e : i = ds.length := by omega
    subst e
    rw [List.drop_length] at h2
    exact .inl ⟨wk.stop H2 (g2.trans L2'.r.sub), k G2 mu2 c2 acc2 ys2 H2 g2 L2' h2⟩
def lc2Go (turn : DL.D → List DL.D → S → (List DL.D → S → Prop) → Prop) : List DL.D → List DL.D → S → (List DL.D → S → Prop) → Prop
  | [], acc, st, P => P acc st
  | d :: ds, acc, st, P => turn d acc st fun acc' st' => lc2Go turn ds acc' st' P
def lc2Turn (r0 : List (Option DL.D)) (vs : List Nat) (g : MG) (t : MT) (mi1 : MA) (vs1 : List Nat) (g1 : MG) (t1 : MT) (m : ME) : DL.D → List DL.D → S → (List DL.D → S → Prop) → Prop := fun d acc st K =>
  g d { st with r := wipeD r0 vs } fun s2 => t s2 (fun b s3 => if b = true then mi1 s3 (fun es s4 => lcGo (lcBody s4.r vs1 g1 t1 m) es acc s4 fun acc' s5 => K acc' { st with mu := s5.mu, c := s5.c }) PX0 else K acc { st with mu := s3.mu, c := s3.c }) PX0
def mLc2 (mi : MA) (vs : List Nat) (g : MG) (t : MT) (mi1 : MA) (vs1 : List Nat) (g1 : MG) (t1 : MT) (m : ME) : ME := fun st P PX => mi st (fun ds s1 => lc2Go (lc2Turn s1.r vs g t mi1 vs1 g1 t1 m) ds [] s1 (fun ys s2 => P (.lst ys) s2)) PX
theorem lc2_ok {W : WX} {vs vs1 : List Nat} {g' g1' : TG} {g g1 : MG} {t t1 : MT} {m : ME} {mi mi1 : MA} (hgw : GW Y vs g' g) (hgw1 : GW Y vs1 g1' g1) : ∀ σ H Q, TEof Y W (mLc2 mi vs g t mi1 vs1 g1 t1 m) σ H Q → tLc2 (TIof Y W mi) g' (TTof Y W0 t) (TIof Y W0 mi1) g1' (TTof Y W0 t1) (TEof Y W0 m) vs vs1 σ H Q := fun σ H Q ⟨G, st, P, PX, rr, hm, xp, k⟩ =>
  ⟨G, st, _, PX, rr, hm, xp, fun ds s1 G1 H1 J h1 g1' f1 r1 wk A hA => by
    obtain ⟨n1, n2, n3⟩ := r1.h.fresh hA
    refine ⟨fun i m0 H => m0 = ds.length - i ∧ i ≤ ds.length ∧ ∃ G' mu' c' acc ys, LcI Y G1 s1.mu H1 A G' mu' c' acc ys H ∧ lc2Go (lc2Turn s1.r vs g t mi1 vs1 g1 t1 m) (ds.drop i) acc { s1 with mu := mu', c := c' } (fun ys s2 => P (.lst ys) s2),
      ⟨ds.length, by simp, Nat.zero_le _, G1, s1.mu, s1.c, [], [], ⟨Same.refl _, .add hA, r1.h.add hA _, n1, n2, upd_same, .nil⟩, by rw [List.drop_zero]; exact h1⟩, ?_⟩
    rintro i m0 H2 ⟨rfl, hi, G2, mu2, c2, acc, ys, L, h2⟩
    have sl2 : Sl Y G2 s1.r σ := r1.s.mono L.g
    by_cases hlt : i < ds.length
    · refine .inr ⟨wk.go i H2 hlt (L.g.trans L.r.sub), fun H' => ∃ G' mu' c' acc ys, LcI Y G1 s1.mu H1 A G' mu' c' acc ys H' ∧ lc2Go (lc2Turn s1.r vs g t mi1 vs1 g1 t1 m) (ds.drop (i + 1)) acc { s1 with mu := mu', c := c' } (fun ys s2 => P (.lst ys) s2),
        fun H' hn => ⟨ds.length - (i + 1), by omega, rfl, hlt, hn⟩, fun x H3 hy => ?_⟩
      obtain ⟨d, G3, hd, g3, f3, r3, q3⟩ := wk.yld i H2 x H3 G2 mu2 c2 hlt L.g L.r hy
      rw [drop_one hd] at h2
      refine hgw G3 { r := wipeD s1.r vs, mu := mu2, c := c2 } (L2.wipe σ vs) H3 d x _ _ ⟨r3, (sl2.mono g3).wipe vs⟩ q3 h2 fun s4 σ4 G4 H4 h4 g4 f4 r4 ew => ?_
      refine ⟨by rw [ew, wipe_wipe vs vs fun _ h => h], G4, s4, _, PX0, r4, h4, fun _ _ _ _ _ _ _ z => z.elim, fun b s5 G5 H5 h5 g5 f5 r5 => ?_⟩
      have L5 := L.on n3 ((g3.trans g4).trans g5) ((f3.trans f4).trans f5) r5.h
      cases b with
      | false =>
        show ∃ G' mu' c' acc ys, LcI Y G1 s1.mu H1 A G' mu' c' acc ys H5 ∧ lc2Go (lc2Turn s1.r vs g t mi1 vs1 g1 t1 m) (ds.drop (i + 1)) acc { s1 with mu := mu', c := c' } (fun ys s2 => P (.lst ys) s2)
        exact ⟨G5, s5.mu, s5.c, acc, ys, L5, h5⟩
      | true =>
        show TIof Y W0 mi1 σ4 H5 _
        refine ⟨G5, s5, _, PX0, r5, h5, fun _ _ _ _ _ _ _ z => z.elim, fun es s6 G6 H6 J1 h6 g6 f6 r6 wk1 => ?_⟩
        have L6 := L5.on n3 g6 f6 r6.h
        exact lc_turns (s1 := s6) hgw1 hA n3 L6 r6.s wk1 h6 fun G' mu' c' acc' ys' H' _ L' hk => ⟨G', mu', c', acc', ys', L', hk⟩
    · have e : i = ds.length := by omega
      subst e
      rw [List.drop_length] at h2
      refine .inl ⟨wk.stop H2 (L.g.trans L.r.sub), ?_⟩
      have eu : upd H2 A (.lst ys) = H2 := by
        funext b
        unfold upd
        split
        · rename_i hb
          rw [hb, L.at_]
        · rfl
      have r3 := L.r.take L.a1 L.a2 n3 (fun o z => by rw [L.at_] at z; cases z; exact plain_lst) (.lst ys)
      rw [eu] at r3
      refine k _ { s1 with mu := mu2, c := c2 } _ (upd G2 A (.lst ys)) H2 h2 ((g1'.trans L.g).trans (same_upd L.a1)) (f1.trans fun a o z1 z2 z3 z4 => ?_) ⟨r3, sl2.mono (same_upd L.a1)⟩ (.lst upd_same (L.q.mono (same_upd L.a1)))
      obtain ⟨w1, w2, w3⟩ := L.f a o z1 z2 z3 z4
      exact ⟨w1, by rw [upd_ne (ne_of_none z1 hA)]; exact w2, w3⟩⟩
theorem de_lc2 {W : WX} {elt tg iter tg1 iter1 : Expr} {ifs ifs1 : List Expr} {scope : Scope} {own : List (Str × Nat)} {vs1 : List Nat} {pos : Pos} {g' g1' : TG} {g g1 : MG} {t t1 : MT} {m : ME} {mi mi1 : MA} (hc : X.calm = true) (hN : X.N.Nodup) (hi : DI X Y W tg iter mi) (ok : BlkOk X.N X.env.scope scope own) (hv : ∀ i ∈ vs1, i ∈ own.map (·.2))
    (hgw : GW Y (own.map (·.2)) g' g) (hgw1 : GW Y vs1 g1' g1)
    (hg : ∀ (s : Shared) (H : Hp) (C : Addr) (cl : List (Str × Addr)) (fp : List Addr), PG (X.blk s H scope (compEnvC scope cl C X.env) fp) tg g')
    (ht : ∀ (s : Shared) (H : Hp) (C : Addr) (cl : List (Str × Addr)) (fp : List Addr), DTs (X.blk s H scope (compEnvC scope cl C X.env) fp) Y W0 ifs t)
    (hi1 : ∀ (s : Shared) (H : Hp) (C : Addr) (cl : List (Str × Addr)) (fp : List Addr), DI (X.blk s H scope (compEnvC scope cl C X.env) fp) Y W0 tg1 iter1 mi1)
    (hg1 : ∀ (s : Shared) (H : Hp) (C : Addr) (cl : List (Str × Addr)) (fp : List Addr), PG (X.blk s H scope (compEnvC scope cl C X.env) fp) tg1 g1')
    (ht1 : ∀ (s : Shared) (H : Hp) (C : Addr) (cl : List (Str × Addr)) (fp : List Addr), DTs (X.blk s H scope (compEnvC scope cl C X.env) fp) Y W0 ifs1 t1)
    (he : ∀ (s : Shared) (H : Hp) (C : Addr) (cl : List (Str × Addr)) (fp : List Addr), DE (X.blk s H scope (compEnvC scope cl C X.env) fp) Y W0 elt m) (hs : ∀ x, foldedSetIterable iter X.env x = pure x := by intro _; rfl) (hs1 : ∀ env x, foldedSetIterable iter1 env x = pure x := by intro _ _; rfl) :
    DE X Y W (.ListComp elt [⟨tg, iter, ifs, 0⟩, ⟨tg1, iter1, ifs1, 0⟩] scope pos) (mLc2 mi (own.map (·.2)) g t mi1 vs1 g1 t1 m) :=
  peImp (pe_lc2 hc hN hi ok hv hg ht hi1 hg1 ht1 he hs hs1) (lc2_ok hgw hgw1)
end
end DL
namespace DL
open PySem L2 RZ PySem.Spec PyProof.Rows
/-! ### enumerate over a tuple -/
theorem meets_enumOne {v : Value} {o : Obj} {Hh : Heap → Prop} (B : Begins v o Hh) :
    Meets (Builtin.«enumerate.__new__» ⟨[.type "enumerate", v], []⟩) (fun _ R s => Hh s.heap ∧
      R (.ok (.ret (.ref (s.heap.push o).objs.size))) { s with heap := (s.heap.push o).push { cls := .type "enumerate", data := .fields #[.none, .bool false, .ref s.heap.objs.size, rawInt 0, .none, .none] } }) :=
  .of_wp fun prog w A R s hall => by
    obtain ⟨hp, gs, dr, tk, os⟩ := s
    obtain ⟨h1, hR⟩ := hall
    have hsub := sub_enumerate
    have byIt : ∀ {A' : Around} {E : Value → Shared → Prop} {Q : Value → Shared → Prop}, Q (.ref hp.objs.size) ⟨hp.push o, gs, dr, tk, os⟩ → wpAny (model prog w) A' (pyIter v) Q E ⟨hp, gs, dr, tk, os⟩ := fun q => B.iter prog w _ _ ⟨hp, gs, dr, tk, os⟩ _ h1 q
    wp_walk using byIt
    refine wpAny_stack_any fun st => wpAny_pure ?_
    split
    · rename_i cc _ _ _ _ _
      cases (cc == Value.type "enumerate") <;> (wp_walk using byIt; exact ⟨_, rfl, hR⟩)
    · wp_walk using byIt
      exact ⟨_, rfl, hR⟩
theorem call_enumOne {prog : Program} {w : World} {A : Around} {E : Value → Shared → Prop} {s : Shared} {v : Value} {o : Obj} {Hh : Heap → Prop} {Q : Value → Shared → Prop} (B : Begins v o Hh) (h1 : Hh s.heap)
    (h : ∀ h', IsEnum h' (s.heap.objs.size + 1) s.heap.objs.size 0 .none → h'.get? s.heap.objs.size = some o → (∀ b o, s.heap.get? b = some o → h'.get? b = some o) → Q (.ref (s.heap.objs.size + 1)) { s with heap := h' }) :
    wpAny (model prog w) A (call (.type "enumerate") [v]) Q E s := by
  refine callType_new F.called_enumerate (by decide) (F.typeCall_enumerate_1 _) (F.newCall_enumerate_1 _) (fun obj => F.args_object_init_2 obj _) F.entry_enumerate_new (meets_enumOne B) ⟨h1, ?_⟩
  have sz : (s.heap.push o).objs.size = s.heap.objs.size + 1 := Heap.size_push ..
  have en : IsEnum ((s.heap.push o).push { cls := .type "enumerate", data := .fields #[.none, .bool false, .ref s.heap.objs.size, rawInt 0, .none, .none] }) (s.heap.objs.size + 1) s.heap.objs.size 0 .none := by
    rw [← sz]
    exact Heap.get?_push_size _ rfl
  show _ ∧ _
  rw [sz]
  exact ⟨⟨_, en, rfl⟩, h _ en (Heap.get?_push_of_some _ (Heap.get?_push_size _ B.free)) fun b o x => Heap.get?_push_of_some _ (Heap.get?_push_of_some _ x)⟩
/-- the tuple at a, each item in a new pair -/
def IteT (K : PySem.W.Frag) (a : Addr) : It :=
  ⟨fun i H => ∃ (xs : List V) (x : V), SqT K H a xs ∧ xs[i]? = some x, fun i H v H' => ∃ T x, v = .ref T ∧ H T = none ∧ H' = upd H T (.tup [.int (i : Nat), x]) ∧ ∀ xs, SqT K H a xs → xs[i]? = some x, fun i H => ∃ xs : List V, SqT K H a xs ∧ xs.length = i⟩
theorem turn_enumT {P : Program} {w : World} {K : PySem.W.Frag} {elts : List Expr} {kk : Nat} {tpos : Pos} (a e it : Addr) (hit_a : a ≠ it) (hea : e ≠ a) :
    Turn P w K (.Tuple elts kk tpos) (IteT K a) [e, it] e (fun i h => (∃ old, IsEnum h e it ((i : Nat) : Int) old) ∧ h.IsTupleIter it a i ∧ e ≠ it) where
  mem := by simp
  obj := fun i h ⟨⟨old, he⟩, ⟨o, ho, hc, hd⟩, _⟩ b hb => by
    rcases List.mem_cons.mp hb with z | z
    · rw [z]; exact ⟨_, he, fun v q => nomatch q⟩
    · rw [List.mem_singleton.mp z]; exact ⟨o, ho, fun v q => by rw [hd] at q; cases q⟩
  keep := fun i h h' ⟨⟨old, he⟩, hi, hne⟩ k => ⟨⟨old, k e (by simp) _ he⟩, hi.at fun o q => k it (by simp) o q, hne⟩
  item := by
    intro X hP hw hK hc i pins s σ H E I hf st hg
    subst hP hw hK
    obtain ⟨⟨old, he⟩, hti, hne⟩ := st
    obtain ⟨xs, x, hq, hx⟩ := hg
    obtain ⟨its, rv, p, hz⟩ := I.tuple hq
    obtain ⟨u, hu, ru⟩ := rv.get hx
    have le : e < s.heap.objs.size := Heap.lt_size he
    have li : it < s.heap.objs.size := by obtain ⟨_, q, _⟩ := hti; exact Heap.lt_size q
    have ix : i < its.toArray.size := by
      have := (List.getElem?_eq_some_iff.mp hu).1
      simpa using this
    refine wpAny_pyNext_enum_itemD (Draws.tuple (A := X.A.in1) (I.ok.hd hc) it a hit_a its.toArray) he ⟨hti, p⟩ ix hne (by simp [hne, hea]) fun y h' tk hy ho hst hT hsz hk => ?_
    have ey : y = u := by
      have hy' : its.toArray[i]? = some y := hy
      rw [List.getElem?_toArray, hu] at hy'
      exact (Option.some.inj hy').symm
    subst ey
    refine ⟨_, rfl, wpAny_letOwnedTupleGo_enum (s := { s with heap := h', toks := tk + 1 }) ho fun h2 he2 sb => ?_⟩
    have hT2 : h2.get? s.heap.objs.size = some { cls := .type "tuple", data := .seq #[.int i tk, y] } := (sb.2 _ (Nat.ne_of_gt le)).trans hT
    have new : ObjOk X.prog X.w (upd H s.heap.objs.size (.tup [.int (i : Nat), x])) h2 s.heap.objs.size (.tup [.int (i : Nat), x]) :=
      ⟨by show 2 ≤ sizeLine; decide, [.int i tk, y], .cons ⟨_, rfl⟩ (.cons ru .nil), ⟨_, hT2, rfl, _, rfl⟩⟩
    have keep2 : ∀ b ob, b ∉ [e, it] → s.heap.get? b = some ob → h2.get? b = some ob := fun b ob hb q => (sb.2 b (fun z => hb (by simp [z]))).trans (hk b ob (fun z => hb (by simp [z])) (fun z => hb (by simp [z])) q)
    have I1 : Inv X pins σ (upd H s.heap.objs.size (.tup [.int (i : Nat), x])) { s with heap := h2, toks := tk + 1 } := I.turnedNew (ch := [e, it]) keep2 hf (Nat.le_refl _) new
    refine ⟨.ref s.heap.objs.size, _, I1, rfl, ⟨_, x, rfl, I.hok.fresh (Nat.le_refl _), rfl, fun ys hy => by rw [I.tuple_inj hy hq]; exact hx⟩, ⟨⟨y, ?_⟩, hst.1.at fun o q => (sb.2 it (Ne.symm hne)).trans q, hne⟩, fun b hb => ?_⟩
    · rw [show ((i + 1 : Nat) : Int) = (i : Int) + 1 by omega]
      exact he2
    · have lb : b < s.heap.objs.size := by
        rcases List.mem_cons.mp hb with z | z
        · rw [z]; exact le
        · rw [List.mem_singleton.mp z]; exact li
      rw [upd_ne (Nat.ne_of_lt lb)]
      exact (hf b hb).1
  done := by
    intro X hP hw hK hc i pins s σ H E I hf st hg
    subst hP hw hK
    obtain ⟨⟨old, he⟩, hti, hne⟩ := st
    obtain ⟨xs, hq, hx⟩ := hg
    obtain ⟨its, rv, p, hz⟩ := I.tuple hq
    obtain ⟨f0, f1, f2, f3, f4, f5⟩ := hf it (by simp)
    have hl : i = its.toArray.size := by rw [List.size_toArray, ← rv.length, hx]
    rw [hl] at he hti
    exact wpAny_pyNext_enum_endD (Draws.tuple (A := X.A.in1) (I.ok.hd hc) it a hit_a its.toArray) he ⟨hti, p⟩ fun h' eb => ⟨rfl, I.turned (t' := s.toks) (fun b o hb q => eb b o hb q) f0 f1 f3 f4 f5⟩
  self := fun A i s Q E ⟨⟨_, he⟩, _⟩ h => wpAny_pyIter_enum he h
def iEnumA (K : PySem.W.Frag) (ta : TA) : TI := fun σ H R => ta σ H fun vs H1 => ∃ a, vs = [.ref a] ∧ ((∃ xs, SqL K H1 a xs ∧ R (Ite K a) H1) ∨ ∃ xs, SqT K H1 a xs ∧ R (IteT K a) H1)
theorem pi_enumA {X : Cx} {e : Expr} {ta : TA} {p pos tpos : Pos} {elts : List Expr} {kk : Nat} (hg : Gl X "enumerate") (hm : X.mg "enumerate" = none) (ha : PA X [e] ta) (hs : starEach [e] X.env = [(false, eval e X.env)] := by rfl) :
    PI X (.Tuple elts kk tpos) (.Call (.Name "enumerate" p) [e] [] pos) (iEnumA X.K ta) := by
  refine ⟨fun pins s σ H R I h => ?_⟩
  refine Call_ (ld_blt I hg hm boot_enumerate (PyProof.Rows.callWith_type1 (thn (ha.run pos pins s σ H _ I h) fun us s1 ⟨vs, H1, I1, r1, q1⟩ => ?_) hs rfl))
  obtain ⟨a, ex, q⟩ := q1
  subst ex
  cases r1 with
  | cons r rr =>
    cases rr
    cases r
    have apart : ∀ b ∈ [s1.heap.objs.size + 1, s1.heap.objs.size], FpOk X pins H1 b := fun b hb => by
      have le : s1.heap.objs.size ≤ b := by
        rcases List.mem_cons.mp hb with z | z
        · rw [z]; exact Nat.le_add_right _ _
        · rw [List.mem_singleton.mp z]; exact Nat.le_refl _
      exact I1.fpOk le (I1.hok.fresh le)
    rcases q with ⟨xs, hq, q⟩ | ⟨xs, hq, q⟩
    · obtain ⟨its, rv, p', hz⟩ := I1.list hq
      refine call_enumerate_list p'.isList fun h' en hti hsz hk => wpAny_pyIter_enum en ?_
      exact ⟨_, _, _, _, H1, rfl, I1.kept (t' := s1.toks) hk, turn_enum a _ _, ⟨⟨.none, en⟩, hti, Nat.succ_ne_self _⟩, apart, q⟩
    · obtain ⟨its, rv, p', hz⟩ := I1.tuple hq
      have p2 : s1.heap.IsTuple a its.toArray := p'
      have la : a < s1.heap.objs.size := by obtain ⟨_, q, _⟩ := p2; exact Heap.lt_size q
      refine call_enumOne (begins_tuple a its.toArray) p2 fun h' en ho hk => wpAny_pyIter_enum en ?_
      exact ⟨_, _, _, _, H1, rfl, I1.kept (t' := s1.toks) hk, turn_enumT a _ _ (Nat.ne_of_lt la) (Nat.ne_of_gt (Nat.lt_succ_of_lt la)), ⟨⟨.none, en⟩, ⟨_, ho, rfl, rfl⟩, Nat.succ_ne_self _⟩, apart, q⟩
section
variable {X : Cx} {Y : Yc} {W : WX} {G : Hp} {a : Expr} {pos : Pos} {mas : MA}
theorem wk_enumT {a : Addr} {vs : List V} {ds : List DL.D} (h : SqT Y.K G a vs) (q : Reps Y G ds vs) (hK : Y.K = X.K) : Wk Y G (IteT X.K a) (enumD ds) where
  go := fun i H hi s => by
    rw [enumD_len] at hi
    obtain ⟨v, e, _⟩ := q.get (List.getElem?_eq_getElem hi)
    exact ⟨vs, v, sqT_mono s (hK ▸ h), e⟩
  stop := fun H s => ⟨vs, sqT_mono s (hK ▸ h), by rw [enumD_len, q.length]⟩
  yld := fun i H x H' G' mu c hi s r ⟨T, y, e1, e2, e3, e4⟩ => by
    rw [enumD_len] at hi
    subst e1
    obtain ⟨v, e, qv⟩ := q.get (List.getElem?_eq_getElem hi)
    have e5 := e4 vs (sqT_mono r.sub (sqT_mono s (hK ▸ h)))
    rw [e] at e5
    cases e5
    obtain ⟨G'', g1, f1, r1, q1⟩ := yld_pair r e2 e3 (.int (i : Nat)) (qv.mono s)
    exact ⟨_, G'', enumD_get (List.getElem?_eq_getElem hi), g1, f1, r1, q1⟩
/-- enumerate over a list or a tuple -/
def mEnumA (n : MA) : MA := fun st P PX => n st (fun ds s1 => ∃ xs, (ds = [.lst xs] ∨ ds = [.tup xs]) ∧ P (enumD xs) s1) PX
theorem di_enumA {p tpos : Pos} {elts : List Expr} {kk : Nat} (hY : Y.K = X.K) (hg : Gl X "enumerate") (hm : X.mg "enumerate" = none) (ha : DA X Y W [a] mas) (hs : starEach [a] X.env = [(false, eval a X.env)] := by rfl) : DI X Y W (.Tuple elts kk tpos) (.Call (.Name "enumerate" p) [a] [] pos) (mEnumA mas) :=
  piImp (pi_enumA hg hm ha hs) fun σ H Rr ⟨G, st, P, PX, rr, hm, xp, k⟩ => ⟨G, st, _, PX, rr, hm, xp, fun ds s1 vs G1 H1 ⟨xs, e1, h1⟩ g1 f1 r1 q1 => by
    rcases e1 with e1 | e1
    · subst e1
      obtain ⟨v, rfl, qv⟩ := q1.one
      obtain ⟨a1, xs1, rfl, h2, q2⟩ := qv.lstI
      exact ⟨a1, rfl, .inl ⟨xs1, SqL.of (r1.h.sub _ _ h2), k _ s1 G1 H1 _ h1 g1 f1 r1 (wk_enum h2 q2)⟩⟩
    · subst e1
      obtain ⟨v, rfl, qv⟩ := q1.one
      obtain ⟨a1, xs1, rfl, h2, q2⟩ := qv.tupI
      exact ⟨a1, rfl, .inr ⟨xs1, sqT_mono r1.h.sub (hY ▸ h2), k _ s1 G1 H1 _ h1 g1 f1 r1 (wk_enumT h2 q2 hY)⟩⟩⟩
end
end DL
namespace DL
open PySem L2
/-! ### rows of forms: leaves, forks, what stands above them -/
def Fm.leaves : Fm → List Fm
  | .leaf w n => [.leaf w n]
  | .node _ l r => l.leaves ++ r.leaves
def forkW (w : Str) : Bool := decide (w = "offered") || decide (w = "chosen")
def Fm.forks : Fm → List Str
  | .leaf _ _ => []
  | .node w l r => (if forkW w = true then [w] else []) ++ (l.forks ++ r.forks)
def Fm.above : Fm → List D → Nat → List D × List D
  | .leaf _ _, a, _ => ([.tup a], [])
  | .node w l r, a, n =>
    if forkW w = true then
      ((l.above (a ++ [.tup [.int (n : Int), .int 0]]) (n + 1)).1 ++ (r.above (a ++ [.tup [.int (n : Int), .int 1]]) (n + 1 + (l.above (a ++ [.tup [.int (n : Int), .int 0]]) (n + 1)).2.length)).1,
       .tup a :: ((l.above (a ++ [.tup [.int (n : Int), .int 0]]) (n + 1)).2 ++ (r.above (a ++ [.tup [.int (n : Int), .int 1]]) (n + 1 + (l.above (a ++ [.tup [.int (n : Int), .int 0]]) (n + 1)).2.length)).2))
    else ((l.above a n).1 ++ (r.above a (n + (l.above a n).2.length)).1, (l.above a n).2 ++ (r.above a (n + (l.above a n).2.length)).2)
theorem leaves_pos : ∀ f : Fm, 1 ≤ f.leaves.length
  | .leaf _ _ => Nat.le_refl _
  | .node _ l r => by
    show 1 ≤ (l.leaves ++ r.leaves).length
    rw [List.length_append]
    have := leaves_pos l
    omega
theorem leaves_len : ∀ f : Fm, f.leaves.length ≤ 2 ^ f.depth
  | .leaf _ _ => Nat.le_refl _
  | .node _ l r => by
    show (l.leaves ++ r.leaves).length ≤ 2 ^ (max l.depth r.depth + 1)
    rw [List.length_append, Nat.pow_succ]
    have h1 := leaves_len l
    have h2 := leaves_len r
    have h3 : 2 ^ l.depth ≤ 2 ^ (max l.depth r.depth) := Nat.pow_le_pow_right (by decide) (by omega)
    have h4 : 2 ^ r.depth ≤ 2 ^ (max l.depth r.depth) := Nat.pow_le_pow_right (by decide) (by omega)
    omega
theorem forks_len : ∀ f : Fm, f.forks.length < f.leaves.length
  | .leaf _ _ => by show 0 < 1; decide
  | .node w l r => by
    show ((if forkW w = true then [w] else []) ++ (l.forks ++ r.forks)).length < (l.leaves ++ r.leaves).length
    have h1 := forks_len l
    have h2 := forks_len r
    rw [List.length_append, List.length_append, List.length_append]
    split <;> simp only [List.length_cons, List.length_nil] <;> omega
theorem above_len : ∀ (f : Fm) (a : List D) (n : Nat), (f.above a n).1.length = f.leaves.length ∧ (f.above a n).2.length = f.forks.length
  | .leaf _ _, _, _ => ⟨rfl, rfl⟩
  | .node w l r, a, n => by
    unfold Fm.above Fm.leaves Fm.forks
    split
    · refine ⟨by rw [List.length_append, List.length_append, (above_len l _ _).1, (above_len r _ _).1], ?_⟩
      rw [List.length_cons, List.length_append, List.length_append, List.length_append, (above_len r _ _).2, (above_len l _ _).2]
      simp only [List.length_cons, List.length_nil]
      omega
    · refine ⟨by rw [List.length_append, List.length_append, (above_len l _ _).1, (above_len r _ _).1], ?_⟩
      rw [List.length_append, List.length_append, List.length_append, (above_len r _ _).2, (above_len l _ _).2]
      simp
theorem leaves_12 {f : Fm} (h : f.depth ≤ 12) : f.leaves.length ≤ 4096 := Nat.le_trans (leaves_len f) (pow12 h)
theorem leaves_24 {f : Fm} (h : f.depth ≤ 20) : f.leaves.length ≤ 1048576 := Nat.le_trans (leaves_len f) (Nat.pow_le_pow_right (n := 2) (by decide) h)
theorem leaves_ok : ∀ (f : Fm), f.ok = true → ∀ g ∈ f.leaves, ∃ w n, g = .leaf w n ∧ g.ok = true
  | .leaf w n, h, g, hg => by
    rw [List.mem_singleton.mp hg]
    exact ⟨w, n, rfl, h⟩
  | .node _ l r, h, g, hg => by
    obtain ⟨_, h⟩ := Bool.and_eq_true_iff.mp h
    obtain ⟨hl, hr⟩ := Bool.and_eq_true_iff.mp h
    rcases List.mem_append.mp hg with z | z
    · exact leaves_ok l hl g z
    · exact leaves_ok r hr g z
def leafN (fs : List Fm) : Nat := (fs.map fun f => f.leaves.length).sum
theorem leafN_app (a b : List Fm) : leafN (a ++ b) = leafN a + leafN b := by unfold leafN; rw [List.map_append, List.sum_append]
theorem leafN_len : ∀ fs : List Fm, fs.length ≤ leafN fs
  | [] => Nat.le_refl _
  | f :: fs => by
    show fs.length + 1 ≤ f.leaves.length + leafN fs
    have := leaves_pos f
    have := leafN_len fs
    omega
/-! the things that a def which wants ends may meet -/
structure EndsOf (d : D) (fs : List Fm) : Prop where
  is : d = .lst (fs.map Fm.toD) ∨ d = .tup (fs.map Fm.toD)
  ne : fs ≠ []
  ok : ∀ f ∈ fs, f.ok = true ∧ f.depth ≤ 12
  len : fs.length ≤ 1000
inductive NoEnds : D → Prop
  | ty {d : D} : d.ty.isSome = true → (d.isTy "list" || d.isTy "tuple") = false → NoEnds d
  | nilL : NoEnds (.lst [])
  | nilT : NoEnds (.tup [])
  | bad {d : D} (ds : List D) : (d = .lst ds ∨ d = .tup ds) → ds ≠ [] → (∀ x ∈ ds, fineD 12 x = true) → ds.length ≤ 1000 → (∃ x ∈ ds, isFormIn 12 x = false) → NoEnds d
def GoodEnds (d : D) (fs : List Fm) : Prop := EndsOf d fs ∧ leafN fs ≤ 40
def BadEnds (d : D) : Prop := NoEnds d ∨ ∃ fs, EndsOf d fs ∧ 40 < leafN fs
/-- a def that wants ends: res of them, or a refusal -/
def spE (res : List Fm → D) : DSp := fun ds mu c P PX => ∃ d, ds = [d] ∧ ((∃ fs, GoodEnds d fs ∧ P (res fs) mu c) ∨ (BadEnds d ∧ PX ⟨"BadValue", [("value", d)]⟩ mu c))
theorem bls_rel {p : D → Bool} {ds ys : List D} (h : All2 (fun x y => y = .bl (p x)) ds ys) : blsOf ys = some (ds.map p) := by
  induction h with
  | nil => rfl
  | cons h1 _ ih => rw [h1]; simp [blsOf, ih]
theorem ints_rel {α : Type} {p : α → Int} {ds : List α} {ys : List D} (h : All2 (fun x y => y = .int (p x)) ds ys) : intsOf ys = some (ds.map p) := by
  induction h with
  | nil => rfl
  | cons h1 _ ih => rw [h1]; simp [intsOf, ih]
theorem all2_map {α β γ : Type} {R : α → β → Prop} (g : γ → α) : ∀ {ds : List γ} {ys : List β}, All2 R (ds.map g) ys → All2 (fun x y => R (g x) y) ds ys
  | [], _, .nil => .nil
  | _ :: _, _, .cons h t => .cons h (all2_map g t)
theorem sum_cast (fs : List Fm) : (fs.map fun f => (f.leaves.length : Int)).sum = (leafN fs : Int) := by
  induction fs with
  | nil => rfl
  | cons f fs ih => rw [List.map_cons, List.sum_cons, ih]; show _ = (((f.leaves.length + leafN fs : Nat)) : Int); push_cast; rfl
theorem forkW_in {w : Str} (h : halfW (.str w) = true) : (forkW w = true ∧ (w = "offered" ∨ w = "chosen")) ∨ (forkW w = false ∧ (w = "both" ∨ w = "between")) := by
  rcases halfW_str h with rfl | rfl | rfl | rfl
  · exact .inr ⟨by decide +kernel, .inl rfl⟩
  · exact .inr ⟨by decide +kernel, .inr rfl⟩
  · exact .inl ⟨by decide +kernel, .inl rfl⟩
  · exact .inl ⟨by decide +kernel, .inr rfl⟩
theorem toD_inj : ∀ f g : Fm, f.toD = g.toD → f = g
  | .leaf a b, .leaf c d, h => by
    unfold Fm.toD at h
    injection h with h
    injection h with h1 h2
    injection h2 with h2 _
    injection h1 with h1
    injection h2 with h2
    rw [h1, h2]
  | .leaf _ _, .node _ _ _, h => by unfold Fm.toD at h; injection h with h; injection h with _ h; injection h with _ h; cases h
  | .node _ _ _, .leaf _ _, h => by unfold Fm.toD at h; injection h with h; injection h with _ h; injection h with _ h; cases h
  | .node a b c, .node d e f, h => by
    unfold Fm.toD at h
    injection h with h
    injection h with h1 h2
    injection h2 with h2 h3
    injection h3 with h3 _
    injection h1 with h1
    rw [h1, toD_inj b e h2, toD_inj c f h3]
/-- what a comprehension over forms gives -/
theorem fm_rel {fs : List Fm} {g : Fm → D} {ys : List D} (h : All2 (fun x y => ∃ f : Fm, x = f.toD ∧ y = g f) (fs.map Fm.toD) ys) : ys = fs.map g := by
  induction fs generalizing ys with
  | nil => cases h; rfl
  | cons f fs ih =>
    cases h with
    | cons h1 h2 =>
      obtain ⟨f', e1, e2⟩ := h1
      rw [e2, ← toD_inj _ _ e1, ih h2, List.map_cons]
theorem intsOf_map (fs : List Fm) (g : Fm → Int) : intsOf (fs.map fun f => .int (g f)) = some (fs.map g) := by
  induction fs with
  | nil => rfl
  | cons f fs ih => simp [intsOf, ih]
/-! comprehensions whose turns are told -/
theorem lc_each {body : D → S → (Option D → S → Prop) → Prop} (F : D → D) {st : S} {P : List D → S → Prop} : ∀ (ds acc : List D), (∀ d ∈ ds, ∀ K, K (some (F d)) st → body d st K) → acc.length + ds.length ≤ LINE → P (acc ++ ds.map F) st → lcGo body ds acc st P
  | [], acc, _, _, h => by rw [List.map_nil, List.append_nil] at h; exact h
  | d :: ds, acc, hb, hl, h => by
    rw [List.length_cons] at hl
    refine hb d List.mem_cons_self _ ⟨by omega, ?_⟩
    refine lc_each F ds (acc ++ [F d]) (fun x hx => hb x (List.mem_cons_of_mem _ hx)) (by rw [List.length_append, List.length_cons, List.length_nil]; omega) ?_
    rw [List.append_assoc]
    exact h
theorem lc2_pairs {turn : D → List D → S → (List D → S → Prop) → Prop} {st : S} {P : List D → S → Prop} : ∀ (ps : List (D × List D)) (acc : List D), (∀ p ∈ ps, ∀ acc K, acc.length + p.2.length ≤ LINE → K (acc ++ p.2) st → turn p.1 acc st K) → acc.length + (ps.map (·.2)).flatten.length ≤ LINE →
    P (acc ++ (ps.map (·.2)).flatten) st → lc2Go turn (ps.map (·.1)) acc st P
  | [], acc, _, _, h => by rw [List.map_nil, List.flatten_nil, List.append_nil] at h; exact h
  | p :: ps, acc, hb, hl, h => by
    rw [List.map_cons, List.flatten_cons, List.length_append] at hl
    refine hb p List.mem_cons_self _ _ (by omega) ?_
    refine lc2_pairs ps (acc ++ p.2) (fun x hx => hb x (List.mem_cons_of_mem _ hx)) (by rw [List.length_append]; omega) ?_
    rw [List.append_assoc]
    rw [List.map_cons, List.flatten_cons] at h
    exact h
/-- the forms with their indices from n on, each with its index as often as g says -/
def enumP (g : Fm → Nat) : Nat → List Fm → List (D × List D)
  | _, [] => []
  | n, f :: fs => (.tup [.int (n : Int), f.toD], List.replicate (g f) (.int (n : Int))) :: enumP g (n + 1) fs
theorem enumP_fst (g : Fm → Nat) : ∀ (n : Nat) (fs : List Fm), (enumP g n fs).map (·.1) = (List.range fs.length).map fun i => .tup [.int ((n + i : Nat) : Int), (fs.map Fm.toD).getD i .non]
  | _, [] => rfl
  | n, f :: fs => by
    unfold enumP
    rw [List.map_cons, enumP_fst g (n + 1) fs, List.length_cons, List.range_succ_eq_map, List.map_cons, List.map_map]
    congr 1
    refine List.map_congr_left fun i _ => ?_
    simp only [Function.comp, List.map_cons, List.getD_cons_succ]
    rw [show n + 1 + i = n + (i + 1) by omega]
theorem enumP_enum (g : Fm → Nat) (fs : List Fm) : enumD (fs.map Fm.toD) = (enumP g 0 fs).map (·.1) := by
  rw [enumP_fst]
  unfold enumD
  rw [List.length_map]
  refine List.map_congr_left fun i _ => ?_
  rw [Nat.zero_add]
theorem enumP_mem {g : Fm → Nat} : ∀ {n : Nat} {fs : List Fm} {p : D × List D}, p ∈ enumP g n fs → ∃ f ∈ fs, ∃ i : Nat, p = (.tup [.int (i : Int), f.toD], List.replicate (g f) (.int (i : Int)))
  | n, f :: fs, p, h => by
    rcases List.mem_cons.mp h with e | e
    · exact ⟨f, List.mem_cons_self, n, e⟩
    · obtain ⟨f', hf, i, e⟩ := enumP_mem e
      exact ⟨f', List.mem_cons_of_mem _ hf, i, e⟩
def spread (g : Fm → Nat) (fs : List Fm) : List D := ((enumP g 0 fs).map (·.2)).flatten
theorem enumP_len (g : Fm → Nat) : ∀ (n : Nat) (fs : List Fm), ((enumP g n fs).map (·.2)).flatten.length = (fs.map g).sum
  | _, [] => rfl
  | n, f :: fs => by
    unfold enumP
    rw [List.map_cons, List.flatten_cons, List.length_append, enumP_len g (n + 1) fs, List.length_replicate, List.map_cons, List.sum_cons]
def leavesD (fs : List Fm) : List D := (fs.map fun f => f.leaves.map Fm.toD).flatten
def forksD (fs : List Fm) : List D := (fs.map fun f => f.forks.map D.str).flatten
theorem leavesD_len (fs : List Fm) : (leavesD fs).length = leafN fs := by
  unfold leavesD leafN
  rw [List.length_flatten, List.map_map]
  congr 1
  refine List.map_congr_left fun f _ => ?_
  simp
theorem forks_sum (fs : List Fm) : (fs.map fun f => f.forks.length).sum ≤ leafN fs := by
  induction fs with
  | nil => exact Nat.le_refl _
  | cons f fs ih =>
    rw [List.map_cons, List.sum_cons]
    show _ ≤ f.leaves.length + leafN fs
    have := forks_len f
    omega
theorem forksD_len (fs : List Fm) : (forksD fs).length = (fs.map fun f => f.forks.length).sum := by
  unfold forksD
  rw [List.length_flatten, List.map_map]
  congr 1
  refine List.map_congr_left fun f _ => ?_
  simp
/-! two lists that grow -/
def mset2 (mu : Mu) (a : Addr) (A : List D) (b : Addr) (B : List D) : Mu := muSet (muSet mu a (some (.lst A))) b (some (.lst B))
section
variable {mu : Mu} {a b : Addr} {A A' B B' : List D}
theorem mset2_a (h : a ≠ b) : mset2 mu a A b B a = some (.lst A) := by unfold mset2; rw [muSet_ne h, muSet_same]
theorem mset2_b : mset2 mu a A b B b = some (.lst B) := muSet_same
theorem mset2_ne {x : Addr} (h1 : x ≠ a) (h2 : x ≠ b) : mset2 mu a A b B x = mu x := by unfold mset2; rw [muSet_ne h2, muSet_ne h1]
theorem mset2_two (h : a ≠ b) : mset2 (mset2 mu a A b B) a A' b B' = mset2 mu a A' b B' := by
  funext x
  by_cases ha : x = a
  · subst ha; rw [mset2_a h, mset2_a h]
  · by_cases hb : x = b
    · subst hb; rw [mset2_b, mset2_b]
    · rw [mset2_ne ha hb, mset2_ne ha hb, mset2_ne ha hb]
theorem mset2_put_a (h : a ≠ b) : muSet (mset2 mu a A b B) a (some (.lst A')) = mset2 mu a A' b B := by
  funext x
  by_cases ha : x = a
  · subst ha; rw [muSet_same, mset2_a h]
  · rw [muSet_ne ha]
    by_cases hb : x = b
    · subst hb; rw [mset2_b, mset2_b]
    · rw [mset2_ne ha hb, mset2_ne ha hb]
theorem mset2_put_b : muSet (mset2 mu a A b B) b (some (.lst B')) = mset2 mu a A b B' := muSet_set
theorem mset2_self (h : a ≠ b) (ha : mu a = some (.lst A)) (hb : mu b = some (.lst B)) : mset2 mu a A b B = mu := by
  funext x
  by_cases z : x = a
  · subst z; rw [mset2_a h, ha]
  · by_cases z2 : x = b
    · subst z2; rw [mset2_b, hb]
    · rw [mset2_ne z z2]
theorem mset2_less (ha : mu a = none) (hb : mu b = none) : Less mu (muSet (muSet (mset2 mu a A b B) a none) b none) := fun x m e => by
  have n1 : x ≠ a := fun z => by rw [z, ha] at e; cases e
  have n2 : x ≠ b := fun z => by rw [z, hb] at e; cases e
  rw [muSet_ne n2, muSet_ne n1, mset2_ne n1 n2]
  exact e
end
def aboveGo : List Fm → Nat → List D × List D
  | [], _ => ([], [])
  | f :: fs, n => ((f.above [] n).1 ++ (aboveGo fs (n + (f.above [] n).2.length)).1, (f.above [] n).2 ++ (aboveGo fs (n + (f.above [] n).2.length)).2)
theorem aboveGo_len : ∀ (fs : List Fm) (n : Nat), (aboveGo fs n).1.length = leafN fs ∧ (aboveGo fs n).2.length ≤ leafN fs
  | [], _ => ⟨rfl, Nat.le_refl _⟩
  | f :: fs, n => by
    unfold aboveGo
    obtain ⟨h1, h2⟩ := aboveGo_len fs (n + (f.above [] n).2.length)
    obtain ⟨h3, h4⟩ := above_len f [] n
    have h5 := forks_len f
    have e : leafN (f :: fs) = f.leaves.length + leafN fs := rfl
    exact ⟨by rw [List.length_append, h1, h3, e], by rw [List.length_append, e]; omega⟩
theorem two_lines {α β : Type} {a : List α} {b : List β} (ha : a.length ≤ 1048576) (hb : b.length ≤ 1048576) : a.length + b.length ≤ LINE := by
  have : (LINE : Nat) = 16777216 := rfl
  omega
theorem inFork {w : Str} (h : halfW (.str w) = true) : ([D.str "offered", .str "chosen"].any fun z => eqvD z (.str w)) = forkW w := by
  rcases halfW_str h with rfl | rfl | rfl | rfl <;> decide +kernel
theorem forkWs_ok : (D.tup [.str "offered", .str "chosen"]).ok 64 = true := by decide +kernel
theorem forkLs_ok : (D.lst [.str "offered", .str "chosen"]).ok 64 = true := by decide +kernel
theorem szl {n : Nat} (h : n ≤ 200000) : n < sizeLine := by rw [sizeLine_eq]; omega
theorem forks_18 {f : Fm} (h : f.depth ≤ 18) : (f.forks.map D.str).length ≤ 524288 := by
  rw [List.length_map]
  have h1 := forks_len f
  have h2 := Nat.le_trans (leaves_len f) (Nat.pow_le_pow_right (n := 2) (by decide) h)
  have : (2 : Nat) ^ 18 = 262144 := by decide
  omega
theorem node_forks (w : Str) (a b : Fm) : (Fm.node w a b).forks.map D.str = (if forkW w = true then [D.str w] else []) ++ (a.forks.map D.str ++ b.forks.map D.str) := by
  show ((if forkW w = true then [w] else []) ++ (a.forks ++ b.forks)).map D.str = _
  rw [List.map_append, List.map_append]
  split <;> rfl
/-! sizes by the leaves -/
theorem txt_lv : ∀ f : Fm, f.ok = true → (f.txt true).length + 5 ≤ 18 * f.leaves.length
  | .leaf w n, h => by
    obtain ⟨_, hn⟩ := Bool.and_eq_true_iff.mp h
    show (n.cps.toList ++ tilde w).length + 5 ≤ 18 * 1
    rw [List.length_append]
    have := (isNameL_len hn).2
    have := tilde_len w
    omega
  | .node w l r, h => by
    obtain ⟨_, h⟩ := Bool.and_eq_true_iff.mp h
    obtain ⟨hl, hr⟩ := Bool.and_eq_true_iff.mp h
    have h1 := txt_lv l hl
    have h2 := txt_lv r hr
    have e : (Fm.node w l r).leaves.length = l.leaves.length + r.leaves.length := List.length_append
    have e2 : (Fm.node w l r).txt true = 40 :: (l.txt true ++ [32, markC w, 32] ++ r.txt true ++ [41]) := rfl
    rw [e, e2]
    simp only [List.length_cons, List.length_append, List.length_nil]
    omega
theorem toks_lv : ∀ f : Fm, (f.toks true).length + 3 ≤ 4 * f.leaves.length
  | .leaf _ _ => Nat.le_refl _
  | .node w l r => by
    have h1 := toks_lv l
    have h2 := toks_lv r
    have e : (Fm.node w l r).leaves.length = l.leaves.length + r.leaves.length := List.length_append
    have e2 : (Fm.node w l r).toks true = [40] :: (l.toks true ++ [[markC w]] ++ r.toks true ++ [[41]]) := rfl
    rw [e, e2]
    simp only [List.length_cons, List.length_append, List.length_nil]
    omega
/-! rows of forms as tokens, as texts -/
def rowToks : List Fm → List (List Nat)
  | [] => []
  | f :: fs => f.toks false ++ (fs.map fun g => [44] :: g.toks false).flatten
def rowTxt : List Fm → List Nat
  | [] => []
  | f :: fs => f.txt false ++ (fs.map fun g => [44, 32] ++ g.txt false).flatten
theorem foldl_sep (g : Array Nat) : ∀ (l : List Str) (acc : Array Nat), (l.foldl (fun a t => a ++ g ++ t.cps) acc).toList = acc.toList ++ (l.map fun s => g.toList ++ s.cps.toList).flatten
  | [], acc => by simp
  | s :: l, acc => by rw [List.foldl_cons, foldl_sep g l]; simp
theorem join_sep (z x : Str) (l : List Str) : (Txt.join z (x :: l)).cps.toList = x.cps.toList ++ (l.map fun s => z.cps.toList ++ s.cps.toList).flatten := by
  show (l.foldl (fun a t => a ++ z.cps ++ t.cps) x.cps).toList = _
  exact foldl_sep z.cps l x.cps
theorem lit_cs : (Str.ofString ", ") = sL [44, 32] := by decide +kernel
theorem join_row : ∀ (fs : List Fm), fs ≠ [] → Txt.join (Str.ofString ", ") (fs.map fun f => sL (f.txt false)) = sL (rowTxt fs)
  | [], h => absurd rfl h
  | f :: fs, _ => by
    rw [str_eq, sL_cps, List.map_cons, join_sep, sL_cps, List.map_map, lit_cs]
    unfold rowTxt
    have e : (fs.map ((fun s : Str => (sL [44, 32]).cps.toList ++ s.cps.toList) ∘ fun f : Fm => sL (f.txt false))) = fs.map fun g => [44, 32] ++ g.txt false := List.map_congr_left fun g _ => by simp only [Function.comp, sL_cps]
    rw [e]
theorem strsOf_fm (fs : List Fm) (g : Fm → Str) : strsOf (fs.map fun f => .str (g f)) = some (fs.map g) := by
  induction fs with
  | nil => rfl
  | cons f fs ih => simp [strsOf, ih]
theorem txt_sum : ∀ (fs : List Fm), (∀ f ∈ fs, f.ok = true) → ((fs.map fun f => sL (f.txt false)).map (·.length)).sum ≤ 18 * leafN fs
  | [], _ => Nat.le_refl _
  | f :: fs, h => by
    have h1 := txt_sum fs fun g hg => h g (List.mem_cons_of_mem _ hg)
    have h2 := txt_lv f (h f List.mem_cons_self)
    have h3 := txt_le f
    have e : leafN (f :: fs) = f.leaves.length + leafN fs := rfl
    rw [e, List.map_cons, List.map_cons, List.sum_cons, sL_len]
    omega
end DL
namespace DL
open PySem L2 PySem.Spec PyProof.Rows
/-! ### a comprehension whose list may still change -/
section
variable {X : Cx} {Y : Yc}
def mLcM (mi : MA) (vs : List Nat) (g : MG) (t : MT) (m : ME) : ME := fun st P PX => mi st (fun ds s1 => lcGo (lcBody s1.r vs g t m) ds [] s1 (fun ys s2 => ∀ a, s2.mu a = none → P (.ref a) { s2 with mu := muSet s2.mu a (some (.lst ys)) })) PX
theorem lcm_ok {W : WX} {vs : List Nat} {g' : TG} {g : MG} {t : MT} {m : ME} {mi : MA} (hgw : GW Y vs g' g) : ∀ σ H Q, TEof Y W (mLcM mi vs g t m) σ H Q → tLc (TIof Y W mi) g' (TTof Y W0 t) (TEof Y W0 m) vs σ H Q := fun σ H Q ⟨G, st, P, PX, rr, hm, xp, k⟩ =>
  ⟨G, st, _, PX, rr, hm, xp, fun ds s1 G1 H1 J h1 g1 f1 r1 wk A hA => by
    obtain ⟨n1, n2, n3⟩ := r1.h.fresh hA
    have L0 : LcI Y G1 s1.mu H1 A G1 s1.mu s1.c [] [] (upd H1 A (.lst [])) := ⟨Same.refl _, .add hA, r1.h.add hA _, n1, n2, upd_same, .nil⟩
    refine lc_turns (s1 := s1) hgw hA n3 L0 r1.s wk h1 fun G' mu' c' acc' ys' H' g L hk => ?_
    refine k _ { s1 with mu := muSet mu' A (some (.lst acc')), c := c' } _ G' H' (hk A L.a2) (g1.trans L.g) (f1.trans fun a o z1 z2 z3 z4 => ?_) ⟨L.r.told L.at_ (.lst L.q) L.a1 n3, r1.s.mono L.g⟩ (.ref A)
    obtain ⟨w1, w2, w3⟩ := L.f a o z1 z2 z3 z4
    exact ⟨w1, w2, (muSet_ne (ne_of_none z1 hA)).trans w3⟩⟩
theorem de_lcM {W : WX} {elt tg iter : Expr} {ifs : List Expr} {scope : Scope} {own : List (Str × Nat)} {pos : Pos} {g' : TG} {g : MG} {t : MT} {m : ME} {mi : MA} (hc : X.calm = true) (hN : X.N.Nodup) (hi : DI X Y W tg iter mi) (ok : BlkOk X.N X.env.scope scope own)
    (hgw : GW Y (own.map (·.2)) g' g)
    (hg : ∀ (s : Shared) (H : Hp) (C : Addr) (cl : List (Str × Addr)) (fp : List Addr), PG (X.blk s H scope (compEnvC scope cl C X.env) fp) tg g')
    (ht : ∀ (s : Shared) (H : Hp) (C : Addr) (cl : List (Str × Addr)) (fp : List Addr), DTs (X.blk s H scope (compEnvC scope cl C X.env) fp) Y W0 ifs t)
    (he : ∀ (s : Shared) (H : Hp) (C : Addr) (cl : List (Str × Addr)) (fp : List Addr), DE (X.blk s H scope (compEnvC scope cl C X.env) fp) Y W0 elt m) (hs : ∀ x, foldedSetIterable iter X.env x = pure x := by intro _; rfl) :
    DE X Y W (.ListComp elt [⟨tg, iter, ifs, 0⟩] scope pos) (mLcM mi (own.map (·.2)) g t m) :=
  peImp (pe_lc hc hN hi ok hg ht he hs) (lcm_ok hgw)
/-! xs[i] = v, xs a list that changes -/
theorem Reps.putAt {G : Hp} : ∀ {ds : List DL.D} {vs : List V} (j : Nat) {d : DL.D} {v : V}, Reps Y G ds vs → Rep Y G d v → Reps Y G (ds.set j d) (vs.set j v)
  | _, _, _, _, _, .nil, _ => .nil
  | _, _, 0, _, _, .cons _ r, q => .cons q r
  | _, _, j + 1, _, _, .cons h r, q => .cons h (Reps.putAt j r q)
def gIxM (mo mi : ME) : MG := fun d st P => mo st (fun x s1 => mi s1 (fun y s2 => ∃ a ds k j, x = .ref a ∧ y = .int k ∧ s2.mu a = some (.lst ds) ∧ ixN ds.length k = some j ∧ P { s2 with mu := muSet s2.mu a (some (.lst (ds.set j d))) }) PX0) PX0
theorem dg_ixM {o i : Expr} {pos : Pos} {mo mi : ME} (ho : DE X Y W0 o mo) (hi : DE X Y W0 i mi)
    (ha : ∀ v, assign (.Subscript o i pos) X.env v = (do
      let ov ← holding [v] (eval o X.env)
      let iv ← holding [v, ov] (eval i X.env)
      standAt pos
      holding [v, ov, iv] (setItem ov iv v)
      release [v, ov, iv] []) := by intro _; rfl) : DG X Y (.Subscript o i pos) (gIxM mo mi) :=
  pgImp (pg_sub ho hi set_list ha) fun v σ H Q ⟨G, st, d, P, r, q, h, k⟩ => ⟨G, st, _, PX0, r, h, fun _ _ _ _ _ _ _ z => z.elim, fun x s1 u G1 H1 h1 g1 f1 r1 q1 => ⟨G1, s1, _, PX0, r1, h1, fun _ _ _ _ _ _ _ z => z.elim, fun y s2 w G2 H2 ⟨a, ds, kk, j, ex, ey, hmu, hj, hp⟩ g2 f2 r2 q2 => by
    subst ex
    subst ey
    cases q1
    cases q2
    obtain ⟨_, ob, hob, rm⟩ := r2.h.mus a _ hmu
    cases rm with
    | lst q3 =>
      exact ⟨a, _, kk, j, rfl, rfl, hob, by rw [← q3.length]; exact hj, k _ _ G2 _ hp (g1.trans g2) ((f1.trans f2).trans (.set hmu)) ⟨r2.h.set hmu (.lst (q3.putAt j ((q.mono g1).mono g2))), r2.s⟩⟩⟩⟩
/-- s.split() -/
def mWords (m : ME) : ME := fun st P PX => m st (fun d s1 => ∃ a, d = .str a ∧ a.length + 2 ≤ sizeLine ∧ P (.lst ((Txt.words a).map D.str)) s1) PX
theorem strReps {G : Hp} : ∀ l : List Str, Reps Y G (l.map D.str) (l.map V.str)
  | [] => .nil
  | s :: l => .cons (.str s) (strReps l)
theorem de_words {W : WX} {o : Expr} {mo : ME} {apos pos : Pos} (ho : DE X Y W o mo) (hbase : attributeBase o "split" X.env (eval o X.env) = eval o X.env := by rfl) (hline : (apos.endLine == pos.line) = true := by rfl) : DE X Y W (.Call (.Attribute o "split" apos) [] [] pos) (mWords mo) := by
  refine peImp (pe_bm0 PySem.F.plainAttrs_str PySem.F.slot_str_split PySem.F.type_str_split mt_words ho hbase hline) fun σ H Q ⟨G, st, P, PX, rr, hm, xp, k⟩ => ?_
  refine ⟨G, st, _, PX, rr, hm, xp, fun x s1 v G1 H1 ⟨a, ex, hl, hp⟩ g1 f1 r1 q1 => ?_⟩
  subst ex
  cases q1
  refine ⟨rfl, a, rfl, rfl, hl, fun p hq => ?_⟩
  exact k _ s1 _ _ _ hp (g1.trans (r1.h.new hq _).2.1) (f1.trans (.new hq)) (r1.new hq (.lst ((Txt.words a).map V.str))) (.lst upd_same (strReps _))
end
end DL
namespace DL
open PySem L2 RZ PySem.Spec PyProof.Rows
/-! ### enumerate over a text -/
def IteS (z : Str) : It :=
  ⟨fun i _ => i < z.cps.size, fun i H v H' => ∃ T k, v = .ref T ∧ H T = none ∧ H' = upd H T (.tup [.int (i : Nat), .str ⟨#[k]⟩]) ∧ z.cps[i]? = some k, fun i _ => z.cps.size = i⟩
theorem turn_enumS {P : Program} {w : World} {K : PySem.W.Frag} {elts : List Expr} {kk : Nat} {tpos : Pos} (z : Str) (t : Tok) (e it : Addr) :
    Turn P w K (.Tuple elts kk tpos) (IteS z) [e, it] e (fun i h => (∃ old, IsEnum h e it ((i : Nat) : Int) old) ∧ h.IsStrIter it (strIterType z) z t i ∧ e ≠ it) where
  mem := by simp
  obj := fun i h ⟨⟨old, he⟩, ⟨o, ho, hc, hd⟩, _⟩ b hb => by
    rcases List.mem_cons.mp hb with z | z
    · rw [z]; exact ⟨_, he, fun v q => nomatch q⟩
    · rw [List.mem_singleton.mp z]; exact ⟨o, ho, fun v q => by rw [hd] at q; cases q⟩
  keep := fun i h h' ⟨⟨old, he⟩, ⟨o, ho, r⟩, hne⟩ k => ⟨⟨old, k e (by simp) _ he⟩, ⟨o, k it (by simp) o ho, r⟩, hne⟩
  item := by
    intro X hP hw hK hc i pins s σ H E I hf st hg
    subst hP hw hK
    obtain ⟨⟨old, he⟩, hti, hne⟩ := st
    have le : e < s.heap.objs.size := Heap.lt_size he
    have li : it < s.heap.objs.size := by obtain ⟨_, q, _⟩ := hti; exact Heap.lt_size q
    refine wpAny_pyNext_enum_itemD (Draws.text (prog := X.prog) (w := X.w) (A := X.A.in1) (I.ok.hd hc) it z t) he hti hg hne (by simp [hne]) fun y h' tk hy ho hst hT hsz hk => ?_
    obtain ⟨c, u, hc', rfl⟩ := hy
    refine ⟨_, rfl, wpAny_letOwnedTupleGo_enum (s := { s with heap := h', toks := tk + 1 }) ho fun h2 he2 sb => ?_⟩
    have hT2 := (sb.2 _ (Nat.ne_of_gt le)).trans hT
    have new : ObjOk X.prog X.w (upd H s.heap.objs.size (.tup [.int (i : Nat), .str ⟨#[c]⟩])) h2 s.heap.objs.size (.tup [.int (i : Nat), .str ⟨#[c]⟩]) :=
      ⟨by show 2 ≤ sizeLine; decide, [.int i tk, .str ⟨#[c]⟩ u], .cons ⟨_, rfl⟩ (.cons ⟨_, rfl⟩ .nil), ⟨_, hT2, rfl, _, rfl⟩⟩
    have keep2 : ∀ b ob, b ∉ [e, it] → s.heap.get? b = some ob → h2.get? b = some ob := fun b ob hb q => (sb.2 b (fun z => hb (by simp [z]))).trans (hk b ob (fun z => hb (by simp [z])) (fun z => hb (by simp [z])) q)
    have I1 : Inv X pins σ (upd H s.heap.objs.size (.tup [.int (i : Nat), .str ⟨#[c]⟩])) { s with heap := h2, toks := tk + 1 } := I.turnedNew (ch := [e, it]) keep2 hf (Nat.le_refl _) new
    refine ⟨.ref s.heap.objs.size, _, I1, rfl, ⟨_, c, rfl, I.hok.fresh (Nat.le_refl _), rfl, hc'⟩, ⟨⟨.str ⟨#[c]⟩ u, ?_⟩, ?_, hne⟩, fun b hb => ?_⟩
    · rw [show ((i + 1 : Nat) : Int) = (i : Int) + 1 by omega]
      exact he2
    · obtain ⟨o, ho2, r⟩ := hst
      exact ⟨o, (sb.2 it (Ne.symm hne)).trans ho2, r⟩
    · have lb : b < s.heap.objs.size := by
        rcases List.mem_cons.mp hb with z | z
        · rw [z]; exact le
        · rw [List.mem_singleton.mp z]; exact li
      rw [upd_ne (Nat.ne_of_lt lb)]
      exact (hf b hb).1
  done := by
    intro X hP hw hK hc i pins s σ H E I hf st hg
    subst hP hw hK
    obtain ⟨⟨old, he⟩, hti, hne⟩ := st
    obtain ⟨f0, f1, f2, f3, f4, f5⟩ := hf it (by simp)
    have hg' : z.cps.size = i := hg
    rw [← hg'] at he hti
    exact wpAny_pyNext_enum_endD (Draws.text (prog := X.prog) (w := X.w) (A := X.A.in1) (I.ok.hd hc) it z t) he hti fun h' eb => ⟨rfl, I.turned (t' := s.toks) (fun b o hb q => eb b o hb q) f0 f1 f3 f4 f5⟩
  self := fun A i s Q E ⟨⟨_, he⟩, _⟩ h => wpAny_pyIter_enum he h
def iEnumS (ta : TA) : TI := fun σ H R => ta σ H fun vs H1 => ∃ z, vs = [.str z] ∧ R (IteS z) H1
theorem pi_enumS {X : Cx} {e : Expr} {ta : TA} {p pos tpos : Pos} {elts : List Expr} {kk : Nat} (hg : Gl X "enumerate") (hm : X.mg "enumerate" = none) (ha : PA X [e] ta) (hs : starEach [e] X.env = [(false, eval e X.env)] := by rfl) :
    PI X (.Tuple elts kk tpos) (.Call (.Name "enumerate" p) [e] [] pos) (iEnumS ta) := by
  refine ⟨fun pins s σ H R I h => ?_⟩
  refine Call_ (ld_blt I hg hm boot_enumerate (PyProof.Rows.callWith_type1 (thn (ha.run pos pins s σ H _ I h) fun us s1 ⟨vs, H1, I1, r1, q1⟩ => ?_) hs rfl))
  obtain ⟨z, ex, q⟩ := q1
  subst ex
  cases r1 with
  | cons r rr =>
    cases rr
    obtain ⟨t, rfl⟩ := r
    have apart : ∀ b ∈ [s1.heap.objs.size + 1, s1.heap.objs.size], FpOk X pins H1 b := fun b hb => by
      have le : s1.heap.objs.size ≤ b := by
        rcases List.mem_cons.mp hb with z | z
        · rw [z]; exact Nat.le_add_right _ _
        · rw [List.mem_singleton.mp z]; exact Nat.le_refl _
      exact I1.fpOk le (I1.hok.fresh le)
    refine call_enumerate_str fun h' en hti hsz hk => wpAny_pyIter_enum en ?_
    exact ⟨_, _, _, _, H1, rfl, I1.kept (t' := s1.toks) hk, turn_enumS z t _ _, ⟨⟨.none, en⟩, hti, Nat.succ_ne_self _⟩, apart, q⟩
section
variable {X : Cx} {Y : Yc} {W : WX} {G : Hp} {a : Expr} {pos : Pos} {mas : MA}
theorem wk_enumS {z : Str} : Wk Y G (IteS z) (enumD (signs z)) where
  go := fun i H hi s => by
    rw [enumD_len] at hi
    show i < z.cps.size
    simpa [signs] using hi
  stop := fun H s => by
    rw [enumD_len]
    simp [signs, IteS]
  yld := fun i H x H' G' mu c hi s r ⟨T, k, e1, e2, e3, e4⟩ => by
    subst e1
    obtain ⟨G'', g1, f1, r1, q1⟩ := yld_pair r e2 e3 (.int (i : Nat)) (.str ⟨#[k]⟩)
    have e5 : (signs z)[i]? = some (.str ⟨#[k]⟩) := by
      unfold signs
      rw [List.getElem?_map]
      have : z.cps.toList[i]? = some k := by simpa using e4
      rw [this]
      rfl
    exact ⟨_, G'', enumD_get e5, g1, f1, r1, q1⟩
def mEnumS (n : MA) : MA := fun st P PX => n st (fun ds s1 => ∃ z, ds = [.str z] ∧ P (enumD (signs z)) s1) PX
theorem di_enumS {p tpos : Pos} {elts : List Expr} {kk : Nat} (hg : Gl X "enumerate") (hm : X.mg "enumerate" = none) (ha : DA X Y W [a] mas) (hs : starEach [a] X.env = [(false, eval a X.env)] := by rfl) : DI X Y W (.Tuple elts kk tpos) (.Call (.Name "enumerate" p) [a] [] pos) (mEnumS mas) :=
  piImp (pi_enumS hg hm ha hs) fun σ H Rr ⟨G, st, P, PX, rr, hm, xp, k⟩ => ⟨G, st, _, PX, rr, hm, xp, fun ds s1 vs G1 H1 ⟨z, e1, h1⟩ g1 f1 r1 q1 => by
    subst e1
    obtain ⟨v, rfl, qv⟩ := q1.one
    cases qv
    exact ⟨z, rfl, k _ s1 G1 H1 _ h1 g1 f1 r1 wk_enumS⟩⟩
end
/-- a form with its depth, as the readers tell it -/
def foD (f : Fm) (d : Nat) : DL.D := .tup [f.toD, .int (d : Int)]
end DL
namespace DL
open PySem L2
structure FmB where
  f : Fm
  h : Bool
theorem eqv_word {w : Str} {x : Str} : eqvD (.str w) (.str x) = decide (w = x) := by rw [eqv_str2, Bool.eq_iff_iff]; simp
/-! ### the reader as a machine: its steps, where it ends -/
theorem nameR_le {r : List Nat} {n : Nat} (h : nameR r = .ok n) : n ≤ r.length := by
  unfold nameR at h
  split at h
  · cases h
  · split at h
    · split at h
      · cases h
        exact runN_le _
      · cases h
    · cases h
theorem nameR_err {r : List Nat} {n : Nat} (h : nameR r = .error n) : n ≤ r.length := by
  cases r with
  | nil => cases h; exact Nat.zero_le _
  | cons k t =>
    have h' : (if k ∈ letters then (if runN (k :: t) ≤ 12 then (.ok (runN (k :: t)) : Except Nat Nat) else .error 12) else .error 0) = .error n := h
    have := runN_le (k :: t)
    split at h'
    · split at h'
      · cases h'
      · cases h'; omega
    · cases h'; exact Nat.zero_le _
theorem leafR_err {r : List Nat} {n : Nat} (h : leafR r = .error n) : n ≤ r.length := by
  unfold leafR at h
  split at h
  · rename_i e he
    cases h
    exact nameR_err he
  · split at h <;> cases h
theorem leafR_le {r : List Nat} {f : Fm} {n : Nat} (h : leafR r = .ok (f, n)) : n ≤ r.length := by
  unfold leafR at h
  split at h
  · cases h
  · rename_i k he
    have := nameR_le he
    split at h
    · rename_i h1
      cases h
      have : (r.drop k).length ≠ 0 := fun z => by
        rw [List.length_eq_zero_iff.mp z] at h1; cases h1
      rw [List.length_drop] at this
      omega
    · cases h; exact this
theorem skipN_le' (r : List Nat) : skipN r ≤ r.length := skipN_le r
theorem mach_lp {n : Nat} {st : List Lv} {r r2 : List Nat} (e : skp r = 40 :: r2) : mach (n + 1) (.A st r) = mach n (.A (none :: st) r2) := by simp only [mach, e]
theorem mach_err {n : Nat} {st : List Lv} {r : List Nat} {k : Nat} (e : (skp r).head? ≠ some 40) (h : leafR (skp r) = .error k) : mach (n + 1) (.A st r) = some (.err ((skp r).drop k)) := by
  unfold mach
  split
  · rename_i r2 heq; rw [heq] at e; exact absurd rfl e
  · rw [h]
theorem mach_leaf {n : Nat} {st : List Lv} {r : List Nat} {f : Fm} {k : Nat} (e : (skp r).head? ≠ some 40) (h : leafR (skp r) = .ok (f, k)) : mach (n + 1) (.A st r) = mach n (.B st f 0 ((skp r).drop k)) := by
  conv => lhs; unfold mach
  split
  · rename_i r2 heq; rw [heq] at e; exact absurd rfl e
  · rw [h]
theorem mach_B0 {n : Nat} {g f : Fm} {e d : Nat} {w : Str} {r : List Nat} : mach (n + 1) (.B [some (g, e, w)] f d r) = some (.ok (.node w g f) (max e d + 1) r) := by simp only [mach]
theorem mach_B1 {n : Nat} {g f : Fm} {e d : Nat} {w : Str} {x : Lv} {st : List Lv} {r r2 : List Nat} (h : skp r = 41 :: r2) : mach (n + 1) (.B (some (g, e, w) :: x :: st) f d r) = mach n (.B (x :: st) (.node w g f) (max e d + 1) r2) := by simp only [mach, h]
theorem mach_B2 {n : Nat} {g f : Fm} {e d : Nat} {w : Str} {x : Lv} {st : List Lv} {r : List Nat} (h : (skp r).head? ≠ some 41) : mach (n + 1) (.B (some (g, e, w) :: x :: st) f d r) = some (.err (skp r)) := by
  simp only [mach]
  split
  · rename_i r2 heq; rw [heq] at h; exact absurd rfl h
  · rfl
theorem head_cons {l : List Nat} {k : Nat} (h : l.head? = some k) : ∃ t, l = k :: t := by
  cases l with
  | nil => cases h
  | cons j t => cases h; exact ⟨t, rfl⟩
def FR.rest : FR → List Nat
  | .ok _ _ r => r
  | .err r => r
def Cfg.rest : Cfg → List Nat
  | .A _ r => r
  | .B _ _ _ r => r
theorem skp_suf (r : List Nat) : skp r <:+ r := List.drop_suffix _ _
theorem mach_suf : ∀ (n : Nat) (c : Cfg) (res : FR), mach n c = some res → res.rest <:+ c.rest
  | 0, _, _, h => by cases h
  | n + 1, .A st r, res, h => by
    by_cases h1 : (skp r).head? = some 40
    · obtain ⟨t, ht⟩ := head_cons h1
      rw [mach_lp ht] at h
      have := mach_suf n _ _ h
      exact this.trans (List.IsSuffix.trans ⟨[40], by rw [ht]; rfl⟩ (skp_suf r))
    · cases el : leafR (skp r) with
      | error k =>
        rw [mach_err h1 el] at h
        cases h
        exact (List.drop_suffix _ _).trans (skp_suf r)
      | ok fk =>
        obtain ⟨f, k⟩ := fk
        rw [mach_leaf h1 el] at h
        exact (mach_suf n _ _ h).trans ((List.drop_suffix _ _).trans (skp_suf r))
  | n + 1, .B [] f d r, res, h => by cases h
  | n + 1, .B [some (g, e, w)] f d r, res, h => by rw [mach_B0] at h; cases h; exact List.suffix_refl _
  | n + 1, .B (some (g, e, w) :: x :: st) f d r, res, h => by
    by_cases h1 : (skp r).head? = some 41
    · obtain ⟨t, ht⟩ := head_cons h1
      rw [mach_B1 ht] at h
      exact (mach_suf n _ _ h).trans (List.IsSuffix.trans ⟨[41], by rw [ht]; rfl⟩ (skp_suf r))
    · rw [mach_B2 h1] at h
      cases h
      exact skp_suf r
  | n + 1, .B (none :: st) f d r, res, h => by
    cases e : markOf (skp r) with
    | none =>
      simp only [mach, e] at h
      split at h <;> (cases h; exact skp_suf r)
    | some w =>
      simp only [mach, e] at h
      exact (mach_suf n _ _ h).trans ((List.drop_suffix _ _).trans (skp_suf r))
theorem suf_drop {r l : List Nat} (h : r <:+ l) : l.drop (l.length - r.length) = r := by
  obtain ⟨t, rfl⟩ := h
  rw [List.length_append, Nat.add_sub_cancel, List.drop_left]
end DL
namespace DL
open PySem L2
theorem leafR_pos {r : List Nat} {f : Fm} {n : Nat} (h : leafR r = .ok (f, n)) : 1 ≤ n := by
  have key : ∀ k, nameR r = .ok k → 1 ≤ k := by
    intro k hk
    unfold nameR at hk
    split at hk
    · cases hk
    · rename_i j t
      split at hk
      · rename_i hj
        split at hk
        · cases hk
          have hj' : j ∈ alnum := letters_alnum _ hj
          unfold runN
          rw [List.takeWhile_cons_of_pos (by simpa using hj')]
          exact Nat.succ_pos _
        · cases hk
      · cases hk
  unfold leafR at h
  split at h
  · cases h
  · rename_i k he
    have := key k he
    split at h <;> (cases h; omega)
/-- with as much fuel as signs the machine ends -/
theorem mach_ends : ∀ (n : Nat) (c : Cfg), c.rest.length < n → (match c with | .A st _ => st ≠ [] | .B st _ _ _ => st ≠ []) → ∃ res, mach n c = some res
  | 0, _, h, _ => absurd h (Nat.not_lt_zero _)
  | n + 1, .A st r, h, hs => by
    have h0 : r.length < n + 1 := h
    have h1 := (skp_suf r).length_le
    by_cases z : (skp r).head? = some 40
    · obtain ⟨t, ht⟩ := head_cons z
      rw [mach_lp ht]
      refine mach_ends n _ ?_ (by simp)
      show t.length < n
      rw [ht, List.length_cons] at h1
      omega
    · cases el : leafR (skp r) with
      | error k => exact ⟨_, mach_err z el⟩
      | ok fk =>
        obtain ⟨f, k⟩ := fk
        rw [mach_leaf z el]
        refine mach_ends n _ ?_ hs
        show ((skp r).drop k).length < n
        have := leafR_pos el
        have := leafR_le el
        rw [List.length_drop]
        omega
  | n + 1, .B [] f d r, h, hs => absurd rfl hs
  | n + 1, .B [some (g, e, w)] f d r, h, hs => ⟨_, mach_B0⟩
  | n + 1, .B (some (g, e, w) :: x :: st) f d r, h, hs => by
    have h0 : r.length < n + 1 := h
    have h1 := (skp_suf r).length_le
    by_cases z : (skp r).head? = some 41
    · obtain ⟨t, ht⟩ := head_cons z
      rw [mach_B1 ht]
      refine mach_ends n _ ?_ (by simp)
      show t.length < n
      rw [ht, List.length_cons] at h1
      omega
    · exact ⟨_, mach_B2 z⟩
  | n + 1, .B (none :: st) f d r, h, hs => by
    have h0 : r.length < n + 1 := h
    have h1 := (skp_suf r).length_le
    cases e : markOf (skp r) with
    | none =>
      simp only [mach, e]
      split <;> exact ⟨_, rfl⟩
    | some w =>
      simp only [mach, e]
      refine mach_ends n _ ?_ (by simp)
      show ((skp r).drop 1).length < n
      have : 1 ≤ (skp r).length := by
        cases er : skp r with
        | nil => rw [er] at e; cases e
        | cons k t => exact Nat.succ_pos _
      rw [List.length_drop]
      omega
/-- what the machine tells is a form, with its depth -/
def Lv.good : Lv → Prop
  | none => True
  | some (f, d, w) => f.ok = true ∧ d = f.depth ∧ halfW (.str w) = true
theorem markOf_half {r : List Nat} {w : Str} (h : markOf r = some w) : halfW (.str w) = true := by
  unfold markOf at h
  split at h
  · cases h
  · split at h
    · cases h; decide +kernel
    split at h
    · cases h; decide +kernel
    split at h
    · cases h; decide +kernel
    split at h
    · cases h; decide +kernel
    · cases h
theorem nameR_name {r : List Nat} {n : Nat} (h : nameR r = .ok n) : isNameL (r.take n) = true := by
  unfold nameR at h
  split at h
  · cases h
  · rename_i k t
    split at h
    · rename_i hk
      split at h
      · rename_i hl
        cases h
        have hk' : k ∈ alnum := letters_alnum _ hk
        have e : (k :: t).take (runN (k :: t)) = (k :: t).takeWhile fun j => decide (j ∈ alnum) := by
          exact (List.prefix_iff_eq_take.mp (List.takeWhile_prefix _)).symm
        rw [e, List.takeWhile_cons_of_pos (by simpa using hk')]
        unfold runN at hl
        rw [List.takeWhile_cons_of_pos (by simpa using hk')] at hl
        simp only [isNameL, Bool.and_eq_true, decide_eq_true_eq]
        refine ⟨hl, hk, ?_⟩
        refine List.all_eq_true.mpr fun j hj => ?_
        rcases List.mem_cons.mp hj with z | z
        · rw [z]; exact decide_eq_true hk'
        · exact List.all_eq_true.mp (List.all_takeWhile (l := t) (p := fun j => decide (j ∈ alnum))) j z
      · cases h
    · cases h
theorem leafR_ok {r : List Nat} {f : Fm} {n : Nat} (h : leafR r = .ok (f, n)) : f.ok = true ∧ f.depth = 0 := by
  unfold leafR at h
  split at h
  · cases h
  · rename_i k he
    have hn := nameR_name he
    split at h
    · cases h
      exact ⟨Bool.and_eq_true_iff.mpr ⟨by decide +kernel, by rw [show isNameL (sL (r.take k)).cps.toList = isNameL (r.take k) by rw [sL_cps]]; exact hn⟩, rfl⟩
    · cases h
      exact ⟨Bool.and_eq_true_iff.mpr ⟨by decide +kernel, by rw [show isNameL (sL (r.take n)).cps.toList = isNameL (r.take n) by rw [sL_cps]]; exact hn⟩, rfl⟩
theorem mach_ok : ∀ (n : Nat) (c : Cfg) (f : Fm) (d : Nat) (r1 : List Nat), mach n c = some (.ok f d r1) → (match c with | .A st _ => ∀ x ∈ st, Lv.good x | .B st g e _ => (∀ x ∈ st, Lv.good x) ∧ g.ok = true ∧ e = g.depth) → f.ok = true ∧ d = f.depth
  | 0, _, _, _, _, h, _ => by cases h
  | n + 1, .A st r, f, d, r1, h, hs => by
    by_cases z : (skp r).head? = some 40
    · obtain ⟨t, ht⟩ := head_cons z
      rw [mach_lp ht] at h
      exact mach_ok n _ _ _ _ h (fun x hx => by rcases List.mem_cons.mp hx with e | e; · rw [e]; trivial
                                                · exact hs x e)
    · cases el : leafR (skp r) with
      | error k => rw [mach_err z el] at h; cases h
      | ok fk =>
        obtain ⟨g, k⟩ := fk
        rw [mach_leaf z el] at h
        obtain ⟨g1, g2⟩ := leafR_ok el
        exact mach_ok n _ _ _ _ h ⟨hs, g1, g2.symm⟩
  | n + 1, .B [] _ _ _, _, _, _, h, _ => by cases h
  | n + 1, .B [some (g, e, w)] f0 d0 r, f, d, r1, h, hs => by
    rw [mach_B0] at h
    cases h
    obtain ⟨h1, h2, h3⟩ := hs
    obtain ⟨g1, g2, g3⟩ := h1 _ List.mem_cons_self
    exact ⟨Bool.and_eq_true_iff.mpr ⟨g3, Bool.and_eq_true_iff.mpr ⟨g1, h2⟩⟩, by rw [g2, h3]; rfl⟩
  | n + 1, .B (some (g, e, w) :: x :: st) f0 d0 r, f, d, r1, h, hs => by
    obtain ⟨h1, h2, h3⟩ := hs
    obtain ⟨g1, g2, g3⟩ := h1 _ List.mem_cons_self
    by_cases z : (skp r).head? = some 41
    · obtain ⟨t, ht⟩ := head_cons z
      rw [mach_B1 ht] at h
      exact mach_ok n _ _ _ _ h ⟨fun y hy => h1 y (List.mem_cons_of_mem _ hy), Bool.and_eq_true_iff.mpr ⟨g3, Bool.and_eq_true_iff.mpr ⟨g1, h2⟩⟩, by rw [g2, h3]; rfl⟩
    · rw [mach_B2 z] at h; cases h
  | n + 1, .B (none :: st) f0 d0 r, f, d, r1, h, hs => by
    obtain ⟨h1, h2, h3⟩ := hs
    cases e : markOf (skp r) with
    | none =>
      simp only [mach, e] at h
      split at h
      · cases h
      · cases h; exact ⟨h2, h3⟩
    | some w =>
      simp only [mach, e] at h
      exact mach_ok n _ _ _ _ h (fun y hy => by
        rcases List.mem_cons.mp hy with z | z
        · rw [z]; exact ⟨h2, h3, markOf_half e⟩
        · exact h1 y (List.mem_cons_of_mem _ z))
/-! ### a row of forms, read -/
inductive RR where
  | ok (ps : List (Fm × Nat)) (r : List Nat)
  | err (r : List Nat)
def RR.pre (A : List (Fm × Nat)) : RR → RR
  | .ok ps r => .ok (A ++ ps) r
  | .err r => .err r
inductive RowR : List Nat → RR → Prop
  | bad {n : Nat} {r r1 : List Nat} : mach n (.A [none] r) = some (.err r1) → RowR r (.err r1)
  | last {n : Nat} {r r1 : List Nat} {f : Fm} {d : Nat} : mach n (.A [none] r) = some (.ok f d r1) → (skp r1).head? ≠ some 44 → RowR r (.ok [(f, d)] (skp r1))
  | more {n : Nat} {r r1 r2 : List Nat} {f : Fm} {d : Nat} {res : RR} : mach n (.A [none] r) = some (.ok f d r1) → skp r1 = 44 :: r2 → RowR r2 res → RowR r (res.pre [(f, d)])
theorem RR.pre_pre (A B : List (Fm × Nat)) (res : RR) : (res.pre B).pre A = res.pre (A ++ B) := by
  cases res with
  | ok ps r => show RR.ok _ _ = RR.ok _ _; rw [List.append_assoc]
  | err r => rfl
/-- every text is read -/
theorem row_ends : ∀ (n : Nat) (r : List Nat), r.length < n → ∃ res, RowR r res
  | 0, _, h => absurd h (Nat.not_lt_zero _)
  | n + 1, r, h => by
    obtain ⟨res, hm⟩ := mach_ends (r.length + 1) (.A [none] r) (Nat.lt_succ_self _) (by simp)
    cases res with
    | err r1 => exact ⟨_, .bad hm⟩
    | ok f d r1 =>
      by_cases z : (skp r1).head? = some 44
      · obtain ⟨t, ht⟩ := head_cons z
        have h1 : r1.length ≤ r.length := (mach_suf _ _ _ hm).length_le
        have h2 := (skp_suf r1).length_le
        rw [ht, List.length_cons] at h2
        obtain ⟨res, hr⟩ := row_ends n t (by omega)
        exact ⟨_, .more hm ht hr⟩
      · exact ⟨_, .last hm z⟩
def RR.rest : RR → List Nat
  | .ok _ r => r
  | .err r => r
theorem RR.pre_rest (A : List (Fm × Nat)) (res : RR) : (res.pre A).rest = res.rest := by cases res <;> rfl
theorem row_suf {r : List Nat} {res : RR} (h : RowR r res) : res.rest <:+ r := by
  induction h with
  | bad hm => exact mach_suf _ _ _ hm
  | last hm _ => exact (skp_suf _).trans (mach_suf _ _ _ hm)
  | @more n r r1 r2 f d res hm e _ ih =>
    rw [RR.pre_rest]
    exact ih.trans (List.IsSuffix.trans ⟨[44], by rw [e]; rfl⟩ ((skp_suf r1).trans (mach_suf _ _ _ hm)))
theorem none_good : ∀ x ∈ ([none] : List Lv), Lv.good x := fun x hx => by rw [List.mem_singleton.mp hx]; trivial
theorem row_ok {r : List Nat} {res : RR} (h : RowR r res) : ∀ ps r1, res = .ok ps r1 → ps ≠ [] ∧ ∀ p ∈ ps, p.1.ok = true ∧ p.2 = p.1.depth := by
  induction h with
  | bad hm => intro ps r1 e; cases e
  | last hm _ =>
    intro ps r1 e
    cases e
    exact ⟨by simp, fun p hp => by rw [List.mem_singleton.mp hp]; exact mach_ok _ _ _ _ _ hm none_good⟩
  | @more n r r1 r2 f d res hm e _ ih =>
    intro ps r3 e2
    cases res with
    | err _ => cases e2
    | ok ps' r' =>
      cases e2
      obtain ⟨_, h2⟩ := ih ps' _ rfl
      refine ⟨by simp, fun p hp => ?_⟩
      rcases List.mem_cons.mp hp with z | z
      · rw [z]; exact mach_ok _ _ _ _ _ hm none_good
      · exact h2 p z
theorem row_len {r : List Nat} {res : RR} (h : RowR r res) : ∀ ps r1, res = .ok ps r1 → ps.length ≤ r.length + 1 := by
  induction h with
  | bad hm => intro ps r1 e; cases e
  | last hm _ => intro ps r1 e; cases e; simp
  | @more n r r1 r2 f d res hm e _ ih =>
    intro ps r3 e2
    cases res with
    | err _ => cases e2
    | ok ps' r' =>
      cases e2
      have h2 := ih ps' _ rfl
      have h1 := (skp_suf r1).length_le
      have h3 : r1.length ≤ r.length := (mach_suf _ _ _ hm).length_le
      rw [e, List.length_cons] at h1
      show (_ :: ps').length ≤ _
      rw [List.length_cons]
      omega
end DL
namespace DL
open PySem L2
/-! ### the law's own look at a text, and the machine -/
structure Au where
  lv : List Nat
  nm : Nat
  lf : Bool
def isMark (k : Nat) : Prop := k = 42 ∨ k = 124 ∨ k = 38 ∨ k = 43
instance (k : Nat) : Decidable (isMark k) := by unfold isMark; infer_instance
/-- a sign that is met at a level h, t outside -/
def auL (row : Bool) (h : Nat) (t : List Nat) (lf : Bool) (k : Nat) : Option Au :=
  if (h = 0 ∨ h = 2) ∧ k = 40 then some ⟨0 :: h :: t, 0, lf⟩
  else if (h = 0 ∨ h = 2) ∧ k ∈ letters then some ⟨(h + 1) :: t, 1, true⟩
  else if h = 1 ∧ isMark k then some ⟨2 :: t, 0, lf⟩
  else if h = 3 ∧ t ≠ [] ∧ k = 41 then some ⟨(t.headD 0 + 1) :: t.tail, 0, false⟩
  else if row = true ∧ k = 44 ∧ t = [] ∧ (h = 3 ∨ (h = 1 ∧ lf = true)) then some ⟨[0], 0, lf⟩
  else none
def auS (row : Bool) (s : Au) (k : Nat) : Option Au :=
  if 0 < s.nm ∧ k ∈ alnum then (if s.nm = 12 then none else some { s with nm := s.nm + 1 })
  else if 0 < s.nm ∧ k = 126 then some { s with nm := 0 }
  else if k = 32 then some { s with nm := 0 }
  else auL row (s.lv.headD 0) s.lv.tail s.lf k
def auE (s : Au) : Bool := decide (s.lv.length = 1) && (decide (s.lv.headD 0 = 3) || (decide (s.lv.headD 0 = 1) && s.lf))
def auto (row : Bool) : Au → Nat → List Nat → Nat × Bool
  | s, p, [] => (p, auE s)
  | s, p, k :: r => match auS row s k with
    | none => (p, false)
    | some s' => auto row s' (p + 1) r
theorem auto_cons {row : Bool} {s : Au} {p k : Nat} {r : List Nat} : auto row s p (k :: r) = match auS row s k with | none => (p, false) | some s' => auto row s' (p + 1) r := by
  conv => lhs; unfold auto
theorem auS0 {row : Bool} {lv : List Nat} {lf : Bool} {k : Nat} (hk : k ≠ 32) : auS row ⟨lv, 0, lf⟩ k = auL row (lv.headD 0) lv.tail lf k := by
  unfold auS
  rw [if_neg (by simp), if_neg (by simp), if_neg hk]
theorem auS32 {row : Bool} {lv : List Nat} {lf : Bool} : auS row ⟨lv, 0, lf⟩ 32 = some ⟨lv, 0, lf⟩ := by
  unfold auS
  rw [if_neg (by simp), if_neg (by simp), if_pos rfl]
theorem skp_cons (r : List Nat) : skp (32 :: r) = skp r := by
  unfold skp
  have e : skipN (32 :: r) = skipN r + 1 := by
    show (if (32 : Nat) = 32 then skipN r + 1 else 0) = _
    rw [if_pos rfl]
  rw [e, List.drop_succ_cons]
theorem skp_ne {k : Nat} (h : k ≠ 32) (r : List Nat) : skp (k :: r) = k :: r := by
  unfold skp
  have e : skipN (k :: r) = 0 := by
    show (if k = 32 then skipN r + 1 else 0) = _
    rw [if_neg h]
  rw [e, List.drop_zero]
theorem skp_head (r : List Nat) : (skp r).head? ≠ some 32 := by
  induction r with
  | nil => intro z; cases z
  | cons k r ih =>
    by_cases h : k = 32
    · subst h; rw [skp_cons]; exact ih
    · rw [skp_ne h]; intro z; cases z; exact h rfl
theorem skp_skp (r : List Nat) : skp (skp r) = skp r := by
  cases e : skp r with
  | nil => rfl
  | cons k t =>
    refine skp_ne (fun z => ?_) t
    have := skp_head r
    rw [e, z] at this
    exact this rfl
section
variable {row : Bool} {lv t : List Nat} {lf : Bool} {p h : Nat}
theorem auto_skip : ∀ (r : List Nat) (p : Nat), auto row ⟨lv, 0, lf⟩ p r = auto row ⟨lv, 0, lf⟩ (p + (r.length - (skp r).length)) (skp r)
  | [], p => rfl
  | k :: r, p => by
    by_cases hk : k = 32
    · subst hk
      rw [skp_cons, auto_cons, auS32]
      simp only
      rw [auto_skip r (p + 1)]
      have := (skp_suf r).length_le
      congr 1
      rw [List.length_cons]
      omega
    · rw [skp_ne hk, Nat.sub_self, Nat.add_zero]
theorem auto_sp {n : Nat} {r : List Nat} (hr : ∀ k, r.head? = some k → k ∉ alnum ∧ k ≠ 126) : auto row ⟨lv, n, lf⟩ p r = auto row ⟨lv, 0, lf⟩ p r := by
  cases r with
  | nil => rfl
  | cons k r =>
    obtain ⟨h1, h2⟩ := hr k rfl
    have e : auS row ⟨lv, n, lf⟩ k = auS row ⟨lv, 0, lf⟩ k := by
      unfold auS
      simp [h1, h2]
    rw [auto_cons, auto_cons, e]
theorem runN_if {k : Nat} (r : List Nat) : runN (k :: r) = if k ∈ alnum then runN r + 1 else 0 := by
  unfold runN
  by_cases hk : k ∈ alnum
  · rw [List.takeWhile_cons_of_pos (by simpa using hk), if_pos hk, List.length_cons]
  · rw [List.takeWhile_cons_of_neg (by simpa using hk), if_neg hk]; rfl
theorem auto_name : ∀ (r : List Nat) (n p : Nat), 0 < n → n ≤ 12 → auto row ⟨lv, n, true⟩ p r = if 12 < n + runN r then (p + (12 - n), false) else
    if (r.drop (runN r)).head? = some 126 then auto row ⟨lv, 0, true⟩ (p + (runN r + 1)) (r.drop (runN r + 1)) else auto row ⟨lv, 0, true⟩ (p + runN r) (r.drop (runN r))
  | [], n, p, h0, h1 => by
    rw [show runN [] = 0 from rfl, if_neg (by omega), List.drop_nil, if_neg (by simp)]
    rfl
  | k :: r, n, p, h0, h1 => by
    rw [runN_if]
    by_cases hk : k ∈ alnum
    · rw [if_pos hk]
      have es : auS row ⟨lv, n, true⟩ k = if n = 12 then none else some ⟨lv, n + 1, true⟩ := by
        unfold auS
        rw [if_pos ⟨h0, hk⟩]
      rw [auto_cons, es]
      by_cases hn : n = 12
      · subst hn
        rw [if_pos rfl, if_pos (by omega)]
        simp
      · rw [if_neg hn]
        simp only
        rw [auto_name r (n + 1) (p + 1) (by omega) (by omega)]
        rw [List.drop_succ_cons, List.drop_succ_cons]
        rw [show p + 1 + (12 - (n + 1)) = p + (12 - n) by omega, show n + 1 + runN r = n + (runN r + 1) by omega, show p + 1 + (runN r + 1) = p + (runN r + 1 + 1) by omega, show p + 1 + runN r = p + (runN r + 1) by omega]
    · rw [if_neg hk, if_neg (by omega), List.drop_zero]
      by_cases h2 : k = 126
      · subst h2
        rw [if_pos (show (126 :: r).head? = some 126 from rfl)]
        have es : auS row ⟨lv, n, true⟩ 126 = some ⟨lv, 0, true⟩ := by
          unfold auS
          rw [if_neg (fun z => hk z.2), if_pos ⟨h0, rfl⟩]
        rw [auto_cons, es]
        rfl
      · rw [if_neg (by simpa using h2), Nat.add_zero]
        exact auto_sp fun j hj => by cases hj; exact ⟨hk, h2⟩
theorem auto_leaf {r : List Nat} (hh : h = 0 ∨ h = 2) (h40 : r.head? ≠ some 40) (h32 : r.head? ≠ some 32) : auto row ⟨h :: t, 0, lf⟩ p r = match leafR r with
    | .error e => (p + e, false)
    | .ok (f, m) => auto row ⟨(h + 1) :: t, 0, true⟩ (p + m) (r.drop m) := by
  have h1 : h ≠ 1 := by omega
  have h3 : h ≠ 3 := by omega
  cases r with
  | nil =>
    show (p, auE ⟨h :: t, 0, lf⟩) = (p + 0, false)
    have e : auE ⟨h :: t, 0, lf⟩ = false := by
      show (decide ((h :: t).length = 1) && (decide (h = 3) || (decide (h = 1) && lf))) = false
      rw [decide_eq_false h3, decide_eq_false h1]
      simp
    rw [e]
    rfl
  | cons k r =>
    have k40 : k ≠ 40 := fun z => h40 (by rw [z]; rfl)
    have k32 : k ≠ 32 := fun z => h32 (by rw [z]; rfl)
    rw [auto_cons, auS0 k32]
    have eN : nameR (k :: r) = if k ∈ letters then (if runN (k :: r) ≤ 12 then (.ok (runN (k :: r)) : Except Nat Nat) else .error 12) else .error 0 := rfl
    unfold leafR
    rw [eN]
    show (match auL row h t lf k with | none => (_, false) | some s' => auto row s' _ _) = _
    unfold auL
    rw [if_neg (fun z => k40 z.2)]
    by_cases hk : k ∈ letters
    · have ha : k ∈ alnum := letters_alnum _ hk
      rw [if_pos ⟨hh, hk⟩, if_pos hk]
      simp only
      rw [auto_name r 1 (p + 1) (by omega) (by omega), runN_if, if_pos ha]
      by_cases hl : 12 < 1 + runN r
      · rw [if_pos hl, if_neg (show ¬ runN r + 1 ≤ 12 by omega)]
      · rw [if_neg hl, if_pos (show runN r + 1 ≤ 12 by omega)]
        simp only [List.drop_succ_cons]
        by_cases h126 : (r.drop (runN r)).head? = some 126
        · rw [if_pos h126, if_pos h126]
          simp only [List.drop_succ_cons]
          rw [show p + 1 + (runN r + 1) = p + (runN r + 1 + 1) by omega]
        · rw [if_neg h126, if_neg h126]
          simp only [List.drop_succ_cons]
          rw [show p + 1 + runN r = p + (runN r + 1) by omega]
    · rw [if_neg (fun z => hk z.2), if_neg (fun z => h1 z.1), if_neg (fun z => h3 z.1), if_neg (fun z => by rcases z.2.2.2 with z | z; exact h3 z; exact h1 z.1), if_neg hk]
      rfl
/-- whether a leaf was read last counts at level 1 alone -/
theorem auto_lf : ∀ (r : List Nat) (lv : List Nat) (p : Nat) (lf lf' : Bool), lv.headD 0 ≠ 1 → auto row ⟨lv, 0, lf⟩ p r = auto row ⟨lv, 0, lf'⟩ p r
  | [], lv, p, lf, lf', h1 => by
    show (p, auE _) = (p, auE _)
    unfold auE
    simp only
    rw [decide_eq_false h1]
    rfl
  | k :: r, lv, p, lf, lf', h1 => by
    by_cases hk : k = 32
    · subst hk
      rw [auto_cons, auto_cons, auS32, auS32]
      exact auto_lf r lv (p + 1) lf lf' h1
    · rw [auto_cons, auto_cons, auS0 hk, auS0 hk]
      unfold auL
      by_cases c1 : (lv.headD 0 = 0 ∨ lv.headD 0 = 2) ∧ k = 40
      · rw [if_pos c1, if_pos c1]
        exact auto_lf r _ (p + 1) lf lf' (by simp)
      rw [if_neg c1, if_neg c1]
      by_cases c2 : (lv.headD 0 = 0 ∨ lv.headD 0 = 2) ∧ k ∈ letters
      · rw [if_pos c2, if_pos c2]
      rw [if_neg c2, if_neg c2]
      have c3 : ¬ (lv.headD 0 = 1 ∧ isMark k) := fun z => h1 z.1
      rw [if_neg c3, if_neg c3]
      by_cases c4 : lv.headD 0 = 3 ∧ lv.tail ≠ [] ∧ k = 41
      · rw [if_pos c4, if_pos c4]
      rw [if_neg c4, if_neg c4]
      by_cases c5 : row = true ∧ k = 44 ∧ lv.tail = [] ∧ lv.headD 0 = 3
      · have c6 : ∀ b : Bool, (row = true ∧ k = 44 ∧ lv.tail = [] ∧ (lv.headD 0 = 3 ∨ (lv.headD 0 = 1 ∧ b = true))) := fun b => ⟨c5.1, c5.2.1, c5.2.2.1, .inl c5.2.2.2⟩
        rw [if_pos (c6 _), if_pos (c6 _)]
        exact auto_lf r _ (p + 1) lf lf' (by simp)
      · have c6 : ∀ b : Bool, ¬ (row = true ∧ k = 44 ∧ lv.tail = [] ∧ (lv.headD 0 = 3 ∨ (lv.headD 0 = 1 ∧ b = true))) := fun b z => c5 ⟨z.1, z.2.1, z.2.2.1, z.2.2.2.elim id fun y => absurd y.1 h1⟩
        rw [if_neg (c6 _), if_neg (c6 _)]
end
def lvA : Lv → Nat
  | none => 0
  | some _ => 2
theorem lvA_or (x : Lv) : lvA x = 0 ∨ lvA x = 2 := by cases x; exact .inl rfl; exact .inr rfl
/-- where the machine's end leaves the look -/
def auFin (row : Bool) (p : Nat) (r : List Nat) : FR → Nat × Bool
  | .err r1 => (p + (r.length - r1.length), false)
  | .ok _ d r1 => auto row ⟨[if d = 0 then 1 else 3], 0, decide (d = 0)⟩ (p + (r.length - r1.length)) r1
theorem auFin_go {row : Bool} {p : Nat} {r r2 : List Nat} {res : FR} (h1 : r2.length ≤ r.length) (h2 : res.rest.length ≤ r2.length) : auFin row (p + (r.length - r2.length)) r2 res = auFin row p r res := by
  cases res with
  | err r1 =>
    have h2 : r1.length ≤ r2.length := h2
    show (_, false) = (_, false)
    rw [show p + (r.length - r2.length) + (r2.length - r1.length) = p + (r.length - r1.length) by omega]
  | ok f d r1 =>
    have h2 : r1.length ≤ r2.length := h2
    show auto _ _ _ _ = auto _ _ _ _
    rw [show p + (r.length - r2.length) + (r2.length - r1.length) = p + (r.length - r1.length) by omega]
theorem markOf_mark {k : Nat} {r : List Nat} : markOf (k :: r) = none ↔ ¬ isMark k := by
  unfold markOf isMark
  simp only
  by_cases h1 : k = 42
  · simp [h1]
  by_cases h2 : k = 124
  · simp [h2]
  by_cases h3 : k = 38
  · simp [h3]
  by_cases h4 : k = 43
  · simp [h4]
  simp [h1, h2, h3, h4]
def auCfg (row : Bool) (res : FR) : Cfg → Prop
  | .A st r => ∀ p lf, st ≠ [] → auto row ⟨st.map lvA, 0, lf⟩ p r = auFin row p r res
  | .B st _ d r => ∀ p x s, st = x :: s → auto row ⟨(lvA x + 1) :: s.map lvA, 0, decide (d = 0)⟩ p r = auFin row p r res
theorem auto_mach (row : Bool) : ∀ (n : Nat) (c : Cfg) (res : FR), mach n c = some res → auCfg row res c
  | 0, _, _, h => by cases h
  | n + 1, .A st r, res, h => by
    intro p lf hst
    have hs := (skp_suf r).length_le
    rw [auto_skip]
    by_cases z : (skp r).head? = some 40
    · obtain ⟨t, ht⟩ := head_cons z
      rw [mach_lp ht] at h
      have ih := auto_mach row n _ _ h
      have hl : res.rest.length ≤ t.length := (mach_suf _ _ _ h).length_le
      cases st with
      | nil => exact absurd rfl hst
      | cons x st =>
        rw [ht, auto_cons, auS0 (by decide)]
        show (match auL row (lvA x) (st.map lvA) lf 40 with | none => (_, false) | some s' => auto row s' _ _) = _
        unfold auL
        rw [if_pos ⟨lvA_or x, rfl⟩]
        simp only
        have e := ih (p + (r.length - (40 :: t).length) + 1) lf (by simp)
        have hl2 : t.length + 1 ≤ r.length := by rw [ht, List.length_cons] at hs; exact hs
        refine e.trans ?_
        rw [show p + (r.length - (40 :: t).length) + 1 = p + (r.length - t.length) by rw [List.length_cons]; omega]
        exact auFin_go (by omega) hl
    · cases st with
      | nil => exact absurd rfl hst
      | cons x st =>
        show auto row ⟨lvA x :: st.map lvA, 0, lf⟩ _ _ = _
        rw [auto_leaf (lvA_or x) z (skp_head r)]
        cases el : leafR (skp r) with
        | error k =>
          rw [mach_err z el] at h
          cases h
          have := leafR_err el
          show (_, false) = (p + (r.length - ((skp r).drop k).length), false)
          rw [List.length_drop, show p + (r.length - (skp r).length) + k = p + (r.length - ((skp r).length - k)) by omega]
        | ok fk =>
          obtain ⟨f, k⟩ := fk
          rw [mach_leaf z el] at h
          have hk := leafR_le el
          have ih := auto_mach row n _ _ h (p + (r.length - (skp r).length) + k) x st rfl
          have hl : res.rest.length ≤ ((skp r).drop k).length := (mach_suf _ _ _ h).length_le
          refine ih.trans ?_
          have e : p + (r.length - (skp r).length) + k = p + (r.length - ((skp r).drop k).length) := by rw [List.length_drop]; omega
          rw [e]
          exact auFin_go (by rw [List.length_drop]; omega) hl
  | n + 1, .B [] f d r, res, h => by cases h
  | n + 1, .B [some (g, e, w)] f d r, res, h => by
    rw [mach_B0] at h
    cases h
    intro p x s hx
    cases hx
    show auto row ⟨[3], 0, _⟩ p r = auto row ⟨[if max e d + 1 = 0 then 1 else 3], 0, decide (max e d + 1 = 0)⟩ (p + (r.length - r.length)) r
    rw [if_neg (by omega), Nat.sub_self, Nat.add_zero]
    exact auto_lf _ _ _ _ _ (by simp)
  | n + 1, .B (some (g, e, w) :: x :: st) f d r, res, h => by
    intro p y s hy
    cases hy
    have hs := (skp_suf r).length_le
    rw [auto_skip]
    show auto row ⟨3 :: lvA x :: st.map lvA, 0, _⟩ _ _ = _
    by_cases z : (skp r).head? = some 41
    · obtain ⟨t, ht⟩ := head_cons z
      rw [mach_B1 ht] at h
      have hl : res.rest.length ≤ t.length := (mach_suf _ _ _ h).length_le
      rw [ht, auto_cons, auS0 (by decide)]
      show (match auL row 3 (lvA x :: st.map lvA) (decide (d = 0)) 41 with | none => (p + (r.length - (41 :: t).length), false) | some s' => auto row s' (p + (r.length - (41 :: t).length) + 1) t) = auFin row p r res
      unfold auL
      rw [if_neg (by decide), if_neg (by decide), if_neg (by decide), if_pos ⟨rfl, by simp, rfl⟩]
      simp only
      have hl2 : t.length + 1 ≤ r.length := by rw [ht, List.length_cons] at hs; exact hs
      have ih := auto_mach row n _ _ h (p + (r.length - (41 :: t).length) + 1) x st rfl
      refine Eq.trans ?_ (ih.trans ?_)
      · rw [decide_eq_false (by omega : ¬ max e d + 1 = 0)]; rfl
      · rw [show p + (r.length - (41 :: t).length) + 1 = p + (r.length - t.length) by rw [List.length_cons]; omega]
        exact auFin_go (by omega) hl
    · rw [mach_B2 z] at h
      cases h
      show _ = (p + (r.length - (skp r).length), false)
      cases er : skp r with
      | nil =>
        show (_, auE _) = _
        have e0 : ∀ b, auE ⟨3 :: lvA x :: st.map lvA, 0, b⟩ = false := fun b => by
          show (decide ((3 :: lvA x :: st.map lvA).length = 1) && _) = false
          rw [decide_eq_false (by simp)]
          rfl
        rw [e0]
      | cons k t =>
        have k32 : k ≠ 32 := fun z => skp_head r (by rw [er, z]; rfl)
        have k41 : k ≠ 41 := fun y => z (by rw [er, y]; rfl)
        rw [auto_cons, auS0 k32]
        show (match auL row 3 (lvA x :: st.map lvA) (decide (d = 0)) k with | none => (_, false) | some s' => auto row s' _ _) = _
        unfold auL
        rw [if_neg (fun z => by omega), if_neg (fun z => by omega), if_neg (fun z => by omega), if_neg (fun z => k41 z.2.2), if_neg (fun z => by simp at z)]
  | n + 1, .B (none :: st) f d r, res, h => by
    intro p y s hy
    cases hy
    have hs := (skp_suf r).length_le
    rw [auto_skip]
    show auto row ⟨1 :: st.map lvA, 0, _⟩ _ _ = _
    cases em : markOf (skp r) with
    | none =>
      simp only [mach, em] at h
      by_cases c1 : 0 < st.length ∨ 0 < d
      · rw [if_pos c1] at h
        cases h
        show _ = (p + (r.length - (skp r).length), false)
        have hc : ¬ (st.map lvA = [] ∧ decide (d = 0) = true) := fun z => by
          obtain ⟨z1, z2⟩ := z
          rcases c1 with c | c
          · rw [List.map_eq_nil_iff.mp z1] at c; cases c
          · rw [of_decide_eq_true z2] at c; cases c
        cases er : skp r with
        | nil =>
          show (_, auE _) = _
          have e0 : auE ⟨1 :: st.map lvA, 0, decide (d = 0)⟩ = false := by
            show (decide ((1 :: st.map lvA).length = 1) && (decide (1 = 3) || (decide (1 = 1) && decide (d = 0)))) = false
            rw [Bool.eq_false_iff]
            intro z
            simp only [Bool.and_eq_true, Bool.or_eq_true, decide_eq_true_eq] at z
            refine hc ⟨?_, ?_⟩
            · exact List.length_eq_zero_iff.mp (by have := z.1; rw [List.length_cons] at this; omega)
            · rcases z.2 with y | y
              · cases y
              · exact decide_eq_true y.2
          rw [e0]
        | cons k t =>
          have k32 : k ≠ 32 := fun z => skp_head r (by rw [er, z]; rfl)
          rw [er] at em
          have hm := markOf_mark.mp em
          rw [auto_cons, auS0 k32]
          show (match auL row 1 (st.map lvA) (decide (d = 0)) k with | none => (_, false) | some s' => auto row s' _ _) = _
          unfold auL
          rw [if_neg (fun z => by omega), if_neg (fun z => by omega), if_neg (fun z => hm z.2), if_neg (fun z => by omega), if_neg (fun z => hc ⟨z.2.2.1, z.2.2.2.elim (fun y => by cases y) fun y => y.2⟩)]
      · rw [if_neg c1] at h
        cases h
        have hst : st = [] := List.length_eq_zero_iff.mp (by omega)
        have hd : d = 0 := by omega
        subst hst
        subst hd
        rfl
    | some w =>
      simp only [mach, em] at h
      have ih := auto_mach row n _ _ h
      have hl : res.rest.length ≤ ((skp r).drop 1).length := (mach_suf _ _ _ h).length_le
      cases er : skp r with
      | nil => rw [er] at em; cases em
      | cons k t =>
        have k32 : k ≠ 32 := fun z => skp_head r (by rw [er, z]; rfl)
        rw [er] at em ih hl
        have hm : isMark k := Classical.byContradiction fun z => by rw [markOf_mark.mpr z] at em; cases em
        rw [auto_cons, auS0 k32]
        show (match auL row 1 (st.map lvA) (decide (d = 0)) k with | none => (_, false) | some s' => auto row s' _ _) = _
        unfold auL
        rw [if_neg (fun z => by omega), if_neg (fun z => by omega), if_pos ⟨rfl, hm⟩]
        simp only
        have e := ih (p + (r.length - (k :: t).length) + 1) (decide (d = 0)) (by simp)
        have hl2 : t.length + 1 ≤ r.length := by rw [er, List.length_cons] at hs; exact hs
        refine e.trans ?_
        rw [show p + (r.length - (k :: t).length) + 1 = p + (r.length - t.length) by rw [List.length_cons]; omega]
        exact auFin_go (by show t.length ≤ _; omega) hl
theorem mach_stop : ∀ (n : Nat) (c : Cfg) (f : Fm) (r1 : List Nat), mach n c = some (.ok f 0 r1) → markOf (skp r1) = none
  | 0, _, _, _, h => by cases h
  | n + 1, .A st r, f, r1, h => by
    by_cases z : (skp r).head? = some 40
    · obtain ⟨t, ht⟩ := head_cons z
      rw [mach_lp ht] at h
      exact mach_stop n _ _ _ h
    · cases el : leafR (skp r) with
      | error k => rw [mach_err z el] at h; cases h
      | ok fk =>
        obtain ⟨g, k⟩ := fk
        rw [mach_leaf z el] at h
        exact mach_stop n _ _ _ h
  | n + 1, .B [] _ _ _, _, _, h => by cases h
  | n + 1, .B [some (g, e, w)] f0 d0 r, f, r1, h => by rw [mach_B0] at h; cases h
  | n + 1, .B (some (g, e, w) :: x :: st) f0 d0 r, f, r1, h => by
    by_cases z : (skp r).head? = some 41
    · obtain ⟨t, ht⟩ := head_cons z
      rw [mach_B1 ht] at h
      exact mach_stop n _ _ _ h
    · rw [mach_B2 z] at h; cases h
  | n + 1, .B (none :: st) f0 d0 r, f, r1, h => by
    cases e : markOf (skp r) with
    | none =>
      simp only [mach, e] at h
      split at h
      · cases h
      · cases h; rw [skp_skp]; exact e
    | some w =>
      simp only [mach, e] at h
      exact mach_stop n _ _ _ h
/-- behind a form: no comma follows -/
theorem auto_end {row : Bool} {p d : Nat} {r1 : List Nat} (h1 : d = 0 → markOf (skp r1) = none) (h2 : row = true → (skp r1).head? ≠ some 44) :
    auto row ⟨[if d = 0 then 1 else 3], 0, decide (d = 0)⟩ p r1 = (p + (r1.length - (skp r1).length), decide (skp r1 = [])) := by
  rw [auto_skip]
  cases er : skp r1 with
  | nil =>
    show (_, auE _) = _
    by_cases hd : d = 0
    · subst hd; rfl
    · rw [if_neg hd, decide_eq_false hd]; rfl
  | cons k t =>
    have k32 : k ≠ 32 := fun z => skp_head r1 (by rw [er, z]; rfl)
    have k44 : ¬ (row = true ∧ k = 44) := fun z => h2 z.1 (by rw [er, z.2]; rfl)
    rw [auto_cons, auS0 k32, decide_eq_false (by simp : ¬ k :: t = [])]
    have e : auL row ((if d = 0 then 1 else 3 : Nat)) [] (decide (d = 0)) k = none := by
      unfold auL
      by_cases hd : d = 0
      · have hm := h1 hd
        rw [er] at hm
        have hm := markOf_mark.mp hm
        rw [if_pos hd, if_neg (fun z => by omega), if_neg (fun z => by omega), if_neg (fun z => hm z.2), if_neg (fun z => by omega), if_neg (fun z => k44 ⟨z.1, z.2.1⟩)]
      · rw [if_neg hd, if_neg (fun z => by omega), if_neg (fun z => by omega), if_neg (fun z => by omega), if_neg (fun z => z.2.1 rfl), if_neg (fun z => k44 ⟨z.1, z.2.1⟩)]
    show (match auL row (if d = 0 then 1 else 3) [] (decide (d = 0)) k with | none => (_, false) | some s' => auto row s' _ _) = _
    rw [e]
/-- ONE FORM: the law's look says what the machine says -/
theorem auto_form {n : Nat} {r : List Nat} {res : FR} (h : mach n (.A [none] r) = some res) (p : Nat) (lf : Bool) : auto false ⟨[0], 0, lf⟩ p r = match res with
    | .err r1 => (p + (r.length - r1.length), false)
    | .ok _ _ r1 => (p + (r.length - (skp r1).length), decide (skp r1 = [])) := by
  have e := auto_mach false _ _ _ h p lf (by simp)
  refine (show auto false ⟨[0], 0, lf⟩ p r = _ from e).trans ?_
  cases res with
  | err r1 => rfl
  | ok f d r1 =>
    show auto _ _ _ _ = _
    have h1 := (skp_suf r1).length_le
    have h2 : r1.length ≤ r.length := (mach_suf _ _ _ h).length_le
    rw [auto_end (fun z => by subst z; exact mach_stop _ _ _ _ h) (fun z => by cases z)]
    show (_, _) = (_, _)
    rw [show p + (r.length - r1.length) + (r1.length - (skp r1).length) = p + (r.length - (skp r1).length) by omega]
/-- A ROW OF FORMS -/
theorem auto_row {r : List Nat} {res : RR} (h : RowR r res) : ∀ (p : Nat) (lf : Bool), auto true ⟨[0], 0, lf⟩ p r = match res with
    | .err r1 => (p + (r.length - r1.length), false)
    | .ok _ r1 => (p + (r.length - r1.length), decide (r1 = [])) := by
  induction h with
  | @bad n r r1 hm =>
    intro p lf
    exact auto_mach true _ _ _ hm p lf (by simp)
  | @last n r r1 f d hm h44 =>
    intro p lf
    have e := auto_mach true _ _ _ hm p lf (by simp)
    refine (show auto true ⟨[0], 0, lf⟩ p r = _ from e).trans ?_
    show auto _ _ _ _ = _
    have h1 := (skp_suf r1).length_le
    have h2 : r1.length ≤ r.length := (mach_suf _ _ _ hm).length_le
    rw [auto_end (fun z => by subst z; exact mach_stop _ _ _ _ hm) (fun _ => h44)]
    show (_, _) = (_, _)
    rw [show p + (r.length - r1.length) + (r1.length - (skp r1).length) = p + (r.length - (skp r1).length) by omega]
  | @more n r r1 r2 f d res hm h44 hrow ih =>
    intro p lf
    have e := auto_mach true _ _ _ hm p lf (by simp)
    refine (show auto true ⟨[0], 0, lf⟩ p r = _ from e).trans ?_
    show auto _ _ _ _ = _
    have h1 := (skp_suf r1).length_le
    have h2 : r1.length ≤ r.length := (mach_suf _ _ _ hm).length_le
    have h3 : res.rest.length ≤ r2.length := (row_suf hrow).length_le
    rw [h44, List.length_cons] at h1
    rw [auto_skip, h44, auto_cons, auS0 (by decide)]
    have e2 : auL true ((if d = 0 then 1 else 3 : Nat)) [] (decide (d = 0)) 44 = some ⟨[0], 0, decide (d = 0)⟩ := by
      unfold auL
      by_cases hd : d = 0
      · rw [if_pos hd, if_neg (fun z => by omega), if_neg (fun z => by omega), if_neg (fun z => by have := z.2; unfold isMark at this; omega), if_neg (fun z => by omega), if_pos ⟨rfl, rfl, rfl, .inr ⟨rfl, decide_eq_true hd⟩⟩]
      · rw [if_neg hd, if_neg (fun z => by omega), if_neg (fun z => by have := z.2; revert this; decide +kernel), if_neg (fun z => by omega), if_neg (fun z => z.2.1 rfl), if_pos ⟨rfl, rfl, rfl, .inl rfl⟩]
    show (match auL true (if d = 0 then 1 else 3) [] (decide (d = 0)) 44 with | none => (_, false) | some s' => auto true s' _ _) = _
    rw [e2]
    simp only
    rw [ih]
    cases res with
    | err r3 =>
      have h3 : r3.length ≤ r2.length := h3
      show (_, false) = (_, false)
      rw [show p + (r.length - r1.length) + (r1.length - (44 :: r2).length) + 1 + (r2.length - r3.length) = p + (r.length - r3.length) by rw [List.length_cons]; omega]
    | ok ps r3 =>
      have h3 : r3.length ≤ r2.length := h3
      show (_, _) = (_, _)
      rw [show p + (r.length - r1.length) + (r1.length - (44 :: r2).length) + 1 + (r2.length - r3.length) = p + (r.length - r3.length) by rw [List.length_cons]; omega]
end DL
namespace DL
open PySem L2
/-! ### for c in "..": s = s.replace(c, ' ' + c + ' ') -/
section
variable {X : Cx} {pins : List (Addr × Obj)} {σ : St} {H : Hp} {s : Shared}
/-- the frame's own names, one of them changed -/
theorem inv_named {h' : Heap} {tk : Nat} {m : Str → Option Value} {i : Nat} {x : Str} {v : V} {u : Value} (I : Inv X pins σ H s) (nd : X.N.Nodup) (hi : X.N[i]? = some x) (hk : X.env.scope.names.lookup x = some .local) (r : RelV v u)
    (hl : ∀ (j : Nat) (y : Str) (w : V), X.N[j]? = some y → σ[j]? = some (some w) → Vis X.env.scope y → ∃ z, RelV w z ∧ Look X.env s.heap m y z)
    (hn : h'.Ns X.env.locals (fun y => if y = x then some u else m y)) (sb : Heap.SameBut X.env.locals s.heap h') : Inv X pins (σ.set i (some v)) H { s with heap := h', toks := tk } := by
  have far : ∀ {b : Addr} {o : Obj}, X.s_0.heap.get? b = some o → b ≠ X.env.locals := fun e => Nat.ne_of_lt (Nat.lt_of_lt_of_le (Heap.lt_size e) I.ok.above)
  have len : i < σ.length := by
    rw [I.len]
    exact (List.getElem?_eq_some_iff.mp hi).1
  have cne := I.cne
  exact {
    ok := I.ok
    os := I.os
    bare := I.bare
    base := {
      keep := fun b o e n1 n2 n3 => by rw [show h'.get? b = _ from sb.2 b (far e)]; exact I.base.keep b o e n1 n2 n3
      slot := fun b o e n1 n2 n3 => let ⟨sl, z⟩ := I.base.slot b o e n1 n2 n3; ⟨sl, by rw [show h'.get? b = _ from sb.2 b (far e)]; exact z⟩
      free := I.base.free
      there := fun b o e n1 => let ⟨o', z⟩ := I.base.there b o e n1; ⟨o', by rw [show h'.get? b = _ from sb.2 b (far e)]; exact z⟩
      tups := I.base.tups
      frzs := I.base.frzs
      tbls := I.base.tbls }
    loc := ⟨_, hn, fun j y w e1 e2 e3 => by
      by_cases hj : j = i
      · subst hj
        have ey : y = x := Option.some.inj (e1.symm.trans hi)
        rw [List.getElem?_set_self len] at e2
        cases e2
        refine ⟨u, r, .inl ⟨by rw [ey]; exact hk, ?_⟩⟩
        show (if y = x then some u else m y) = some u
        rw [if_pos ey]
      · have e2' : σ[j]? = some (some w) := by rwa [List.getElem?_set_ne (fun z => hj z.symm)] at e2
        obtain ⟨z, hz, hq⟩ := hl j y w e1 e2' e3
        have ny : y ≠ x := fun e => hj (nodup_ix nd e1 (by rw [e]; exact hi))
        refine ⟨z, hz, ?_⟩
        rcases hq with ⟨q1, q2⟩ | ⟨q1, cc, q2, q3⟩
        · refine .inl ⟨q1, ?_⟩
          show (if y = x then some u else m y) = some z
          rw [if_neg ny]
          exact q2
        · exact .inr ⟨q1, cc, q2, q3.sameBut sb (cne y cc q2)⟩⟩
    cell := fun y cc e => let ⟨w, z⟩ := I.cell y cc e; ⟨w, z.sameBut sb (cne y cc e)⟩
    free := I.free
    freeC := I.freeC
    pin := fun p hp => let ⟨e, n1, n2, n3, d⟩ := I.pin p hp; ⟨by rw [show h'.get? p.1 = _ from sb.2 p.1 n2]; exact e, n1, n2, n3, d⟩
    hok := fun b o e => (I.hok b o e).stay (fun d w hd q => by
        have nd : d ≠ X.env.locals := by
          rintro rfl
          rcases hd with hd | hd
          · have := I.free; rw [hd, e] at this; cases this
          · have := I.free; rw [hd] at this; cases this
        rw [show h'.get? d = _ from sb.2 d nd]; exact q) (fun _ q => q) fun _ _ q => q
    len := by simpa using I.len }
/-- ' ' + c + ' ' -/
def spOf (y : Str) : Str := (Str.ofString " ") ++ y ++ (Str.ofString " ")
theorem add_two {P : Program} {w : World} {A : Around} {E : Value → Shared → Prop} {s : Shared} {x y : Str} {t u : Tok} {Q : Value → Shared → Prop} (hx : (x.length == 0) = false) (hy : (y.length == 0) = false) (hl : (x ++ y).length ≤ sizeLine)
    (h : Q (.str (x ++ y) s.toks) { s with toks := s.toks + 1 }) : wpAny (model P w) A (binaryOp .Add (.str x t) (.str y u)) Q E s := by
  refine PySem.P.add_str ?_
  rw [hx, hy]
  exact ⟨hl, h⟩
theorem eval_repl {E : Value → Shared → Prop} {m : Str → Option Value} {j : Nat} {sg tx x y : Str} {t : Tok} {k1 k2 : Nat} {p3 p4 p5 p6 p7 p8 p9 p10 p11 : Pos} {Q : Value → Shared → Prop} (I : Inv X pins σ H s) (hn : s.heap.Ns X.env.locals m) (hm : m sg = some (.str y t)) (hk : X.env.scope.names.lookup sg = some .local)
    (ht : t ≠ 0) (hts : t < s.toks) (hy : y.length = 1) (hj : X.N[j]? = some tx) (hv : Vis X.env.scope tx) (hx : σ[j]? = some (some (.str x))) (hb : x.length + (x.length + 1) * 3 ≤ 16777216)
    (q : ∀ t' k, Q (.str (Txt.replace x y (spOf y)) t') { s with toks := k })
    (hd : (sg == ("__debug__" : Str)) = false := by decide) (hdt : (tx == ("__debug__" : Str)) = false := by decide) (hct : (tx == ("__classdict__" : Str)) = false := by decide)
    (hst : starEach [.Name sg p5, .BinOp (.BinOp (.Constant (.str " ") k1 p6) .Add (.Name sg p7) p8) .Add (.Constant (.str " ") k2 p9) p10] X.env = [(false, eval (.Name sg p5) X.env), (false, eval (.BinOp (.BinOp (.Constant (.str " ") k1 p6) .Add (.Name sg p7) p8) .Add (.Constant (.str " ") k2 p9) p10) X.env)] := by rfl)
    (hbase : attributeBase (.Name tx p3) "replace" X.env (eval (.Name tx p3) X.env) = eval (.Name tx p3) X.env := by rfl) (hline : (p4.endLine == p11.line) = true := by rfl) :
    wpAny (model X.prog X.w) X.A (eval (.Call (.Attribute (.Name tx p3) "replace" p4) [.Name sg p5, .BinOp (.BinOp (.Constant (.str " ") k1 p6) .Add (.Name sg p7) p8) .Add (.Constant (.str " ") k2 p9) p10] [] p11) X.env) Q E s := by
  have l1 : (Str.ofString " ").length = 1 := by decide +kernel
  have l2 : ((Str.ofString " ") ++ y).length = 2 := by rw [strLen_append, l1, hy]
  have l3 : (spOf y).length = 3 := by unfold spOf; rw [strLen_append, l2, l1]
  have hne : (y == spOf y) = false := by
    rw [Bool.eq_false_iff]
    intro z
    have := congrArg Str.length (eq_of_beq z)
    rw [hy, l3] at this
    cases this
  have eS : (sizeLine : Nat) = 16777216 := sizeLine_eq
  refine PySem.Call_method2 hbase hst hline (raw_name hj hv I hx (fun v r => ?_) hdt hct)
  obtain ⟨t0, e0⟩ := r
  subst e0
  refine ⟨"str", _, PySem.F.plainAttrs_str, PySem.F.slot_str_replace, PySem.F.type_str_replace, typeIs_str _ _ _, (fun _ e => nomatch e), Calls.callWith_builtin rfl (Calls.evalArgs_plain (Calls.spliced_cons ?_))⟩
  refine wpAny_Name (wpAny_loadName_local I.ok.kind hk hn hm ?_) hd
  refine Calls.spliced_cons (wpAny_BinOp (wpAny_BinOp (Calls.Constant_str ?_)))
  refine wpAny_Name (wpAny_loadName_local I.ok.kind hk hn hm ?_) hd
  refine add_two (by rw [l1]; rfl) (by rw [hy]; rfl) (by rw [l2]; omega) ?_
  refine Calls.Constant_str ?_
  refine add_two (by rw [l2]; rfl) (by rw [l1]; rfl) (by show (spOf y).length ≤ _; rw [l3]; omega) (Calls.spliced_nil ?_)
  refine PySem.SC.replace ht ?_ ?_ hne (by show x.length + (x.length + 1) * (spOf y).length ≤ _; rw [l3]; exact hb) fun t' k => q t' k
  · exact Nat.succ_ne_zero _
  · exact Nat.ne_of_lt (Nat.lt_of_lt_of_le hts (Nat.le_add_right _ 3))
/-- what the loop does to the frame -/
def replV (i j : Nat) : List Nat → L2.St → (L2.St → Prop) → Prop
  | [], σ, K => K σ
  | c :: cs, σ, K => ∃ x, σ[j]? = some (some (.str x)) ∧ x.length + (x.length + 1) * 3 ≤ 16777216 ∧ replV i j cs ((σ.set i (some (.str ⟨#[c]⟩))).set j (some (.str (Txt.replace x ⟨#[c]⟩ (spOf ⟨#[c]⟩))))) K
def tRepl (i j : Nat) (cs : List Nat) : TS := fun D σ H => replV i j cs σ fun σ' => D.nx σ' H
theorem ps_repl {i j : Nat} {sg tx lit : Str} {k0 k1 k2 : Nat} {p0 p1 p2 p3 p4 p5 p6 p7 p8 p9 p10 p11 p12 pos : Pos} (hp : PassesOwn (model X.prog X.w) X.A X.env X.xe) (hc : X.calm = true) (hN : X.N.Nodup) (hi : X.N[i]? = some sg) (hj : X.N[j]? = some tx) (hij : i ≠ j)
    (hki : X.env.scope.names.lookup sg = some .local) (hkj : X.env.scope.names.lookup tx = some .local) (ha : lit.cps.all (· < 128) = true)
    (hd : (sg == ("__debug__" : Str)) = false := by decide) (hdt : (tx == ("__debug__" : Str)) = false := by decide) (hct : (tx == ("__classdict__" : Str)) = false := by decide)
    (hst : starEach [.Name sg p5, .BinOp (.BinOp (.Constant (.str " ") k1 p6) .Add (.Name sg p7) p8) .Add (.Constant (.str " ") k2 p9) p10] X.env = [(false, eval (.Name sg p5) X.env), (false, eval (.BinOp (.BinOp (.Constant (.str " ") k1 p6) .Add (.Name sg p7) p8) .Add (.Constant (.str " ") k2 p9) p10) X.env)] := by rfl)
    (hbase : attributeBase (.Name tx p3) "replace" X.env (eval (.Name tx p3) X.env) = eval (.Name tx p3) X.env := by rfl) (hline : (p4.endLine == p11.line) = true := by rfl)
    (hsw : swapsWith (.Call (.Attribute (.Name tx p3) "replace" p4) [.Name sg p5, .BinOp (.BinOp (.Constant (.str " ") k1 p6) .Add (.Name sg p7) p8) .Add (.Constant (.str " ") k2 p9) p10] [] p11) (some (.Name tx p2)) p12.line X.env = pure false := by rfl)
    (hs : ∀ x, foldedSetIterable (.Constant (.str lit) k0 p1) X.env x = pure x := by intro _; rfl) :
    PS X (.For (.Name sg p0) (.Constant (.str lit) k0 p1) [.Assign [.Name tx p2] (.Call (.Attribute (.Name tx p3) "replace" p4) [.Name sg p5, .BinOp (.BinOp (.Constant (.str " ") k1 p6) .Add (.Name sg p7) p8) .Add (.Constant (.str " ") k2 p9) p10] [] p11) p12] [] pos) (tRepl i j lit.cps.toList) := by
  refine ⟨fun pins s σ H D I h => ?_⟩
  refine wpAny_For (Calls.Constant_str (wpAny_pyIter_ascii ha ?_)) hs
  have I0 := I.tok (s.toks + 1)
  have hlen : s.heap.objs.size ≤ s.heap.objs.size := Nat.le_refl _
  obtain ⟨it, hit⟩ : ∃ it, it = s.heap.objs.size := ⟨_, rfl⟩
  have f0 : FpOk X pins H it := by rw [hit]; exact I.fpOk hlen (I.hok.fresh hlen)
  obtain ⟨g0, g1, g2, g3, g4, g5⟩ := f0
  subst hit
  refine codeAny_forLoop_any (fun n s' => ∃ (k : Nat) (σ' : L2.St), n = lit.cps.size - k ∧ Inv X pins σ' H s' ∧ s'.heap.IsStrIter s.heap.objs.size "str_ascii_iterator" lit s.toks k ∧ 1 ≤ s'.toks ∧ replV i j (lit.cps.toList.drop k) σ' fun σ'' => D.nx σ'' H) ?_ (lit.cps.size - 0)
    ⟨0, σ, rfl, I.kept fun b o e => Heap.get?_push_of_some _ e, ?_, ?_, ?_⟩
  · rintro n s3 ⟨k, σ3, hn, I3, st, htk, hr⟩
    have turn : ∀ {h' : Heap} {tk : Nat}, Heap.ExtBut s.heap.objs.size s3.heap h' → Inv X pins σ3 H { s3 with heap := h', toks := tk } := fun eb => I3.turned (fun b o hb e => eb b o hb e) g0 g1 g3 g4 g5
    cases hx : lit.cps[k]? with
    | none =>
      have hsz : lit.cps.size ≤ k := Array.getElem?_eq_none_iff.mp hx
      rw [List.drop_of_length_le (by simpa using hsz)] at hr
      refine wpAny_passesOwn hp (wpAny_pyNext_ascii_end (I.ok.hd hc) st hx fun h' eb => ?_)
      exact wpAny_execs_nil ⟨σ3, H, turn (tk := s3.toks) eb, hr⟩
    | some c =>
      have hlt : k < lit.cps.size := (Array.getElem?_eq_some_iff.mp hx).1
      have hdrop : lit.cps.toList.drop k = c :: lit.cps.toList.drop (k + 1) := drop_one (by rw [Array.getElem?_toList]; exact hx)
      rw [hdrop] at hr
      obtain ⟨x, hxj, hb, hr⟩ := hr
      refine wpAny_passesOwn hp (wpAny_pyNext_ascii_item st hx fun h' st' sb => ?_)
      obtain ⟨oi, e1, e2, e3⟩ := id st'
      have I4 : Inv X pins σ3 H { s3 with heap := h', toks := s3.toks + 1 } := turn sb.extBut
      refine wpAny_passesOwn hp (go_of e1 e2 e3 (by decide) ?_)
      obtain ⟨m, hm, hl⟩ := id I4.loc
      have hcls : (X.env.scope.kind == .class || (X.env.scope.kind == .module && X.env.locals != X.env.globals)) = false := by rw [I.ok.kind]; rfl
      refine wpAny_passesOwn hp (wpAny_assign_Name (wpAny_storeName_local hki hm (fun h2 hm2 sb2 => ?_) hcls))
      have I5 : Inv X pins (σ3.set i (some (.str ⟨#[c]⟩))) H { s3 with heap := h2, toks := s3.toks + 1 + 1 } := inv_named (s := { s3 with heap := h', toks := s3.toks + 1 }) I4 hN hi hki ⟨s3.toks, rfl⟩ hl hm2 sb2
      have hxj' : (σ3.set i (some (V.str ⟨#[c]⟩)))[j]? = some (some (.str x)) := by rw [List.getElem?_set_ne hij]; exact hxj
      have it2 : h2.IsStrIter s.heap.objs.size "str_ascii_iterator" lit s.toks (k + 1) := ⟨oi, (sb2.2 s.heap.objs.size g1).trans e1, e2, e3⟩
      refine wpAny_passesOwn hp (wpAny_execs_cons (wpAny_mono (PySem.wpAny_toks (Q := fun f s7 => f = .next ∧ Inv X pins ((σ3.set i (some (.str ⟨#[c]⟩))).set j (some (.str (Txt.replace x ⟨#[c]⟩ (spOf ⟨#[c]⟩))))) H s7 ∧ s7.heap.IsStrIter s.heap.objs.size "str_ascii_iterator" lit s.toks (k + 1)) (wpAny_Assign_Name (eval_repl (t := s3.toks) (y := ⟨#[c]⟩) I5 hm2 (if_pos rfl) hki (Nat.ne_of_gt htk) (Nat.lt_succ_of_lt (Nat.lt_succ_self _)) rfl hj (.inl hkj) hxj' hb (fun t' k' => ?_) hd hdt hct hst hbase hline) hsw)) (fun f s7 q7 => ?_) fun _ _ z => z.2))
      · refine store_ok2 (v := .str (Txt.replace x ⟨#[c]⟩ (spOf ⟨#[c]⟩))) (I5.tok k') hN hj (.inl hkj) ⟨t', rfl⟩ (fun s8 I8 hsb => ⟨rfl, I8, ?_⟩) (.inr hkj)
        obtain ⟨b, sb8, hb8⟩ := hsb
        have : s.heap.objs.size ≠ b := by
          rcases hb8 with z | z
          · rw [z]; exact g1
          · exact fun y => g4 _ _ z y.symm
        exact ⟨oi, (sb8.2 s.heap.objs.size this).trans ((sb2.2 s.heap.objs.size g1).trans e1), e2, e3⟩
      · obtain ⟨hk7, rfl, I7, st7⟩ := q7
        refine wpAny_execs_nil ⟨_, ?_, k + 1, _, rfl, I7, st7, ?_, hr⟩
        · rw [hn]; omega
        · have : s3.toks + 1 + 1 ≤ s7.toks := hk7
          omega
  · exact ⟨_, by exact Heap.get?_push_size _ rfl, rfl, rfl⟩
  · exact Nat.succ_pos _
  · rw [List.drop_zero]; exact h
/-- the loop over data -/
def replD (i j : Nat) : List Nat → S → (S → Prop) → Prop
  | [], st, K => K st
  | c :: cs, st, K => ∃ x, st.r[j]? = some (some (.str x)) ∧ x.length + (x.length + 1) * 3 ≤ 16777216 ∧ replD i j cs ((st.put i (.str ⟨#[c]⟩)).put j (.str (Txt.replace x ⟨#[c]⟩ (spOf ⟨#[c]⟩)))) K
def mRepl (i j : Nat) (cs : List Nat) : MS := fun st E _ => replD i j cs st E.nx
theorem replV_of {Y : Yc} {G : Hp} {i j : Nat} {mu : Mu} {P : S → Prop} {Q : L2.St → Prop} : ∀ (cs : List Nat) (st : S) (σ : L2.St), R Y G st σ H → st.mu = mu → replD i j cs st P → (∀ st' σ', P st' → st'.mu = mu → R Y G st' σ' H → Q σ') → replV i j cs σ Q
  | [], st, σ, r, e, h, k => k st σ h e r
  | c :: cs, st, σ, r, e, ⟨x, h1, h2, h3⟩, k => by
    obtain ⟨v, hv, q⟩ := r.s.2 j _ h1
    cases q
    exact ⟨x, hv, h2, replV_of cs _ _ ((r.put i (.str _)).put j (.str _)) e h3 k⟩
theorem ds_repl {Y : Yc} {W : WX} {i j : Nat} {sg tx lit : Str} {k0 k1 k2 : Nat} {p0 p1 p2 p3 p4 p5 p6 p7 p8 p9 p10 p11 p12 pos : Pos} (hp : PassesOwn (model X.prog X.w) X.A X.env X.xe) (hc : X.calm = true) (hN : X.N.Nodup) (hi : X.N[i]? = some sg) (hj : X.N[j]? = some tx) (hij : i ≠ j)
    (hki : X.env.scope.names.lookup sg = some .local) (hkj : X.env.scope.names.lookup tx = some .local) (ha : lit.cps.all (· < 128) = true)
    (hd : (sg == ("__debug__" : Str)) = false := by decide) (hdt : (tx == ("__debug__" : Str)) = false := by decide) (hct : (tx == ("__classdict__" : Str)) = false := by decide)
    (hst : starEach [.Name sg p5, .BinOp (.BinOp (.Constant (.str " ") k1 p6) .Add (.Name sg p7) p8) .Add (.Constant (.str " ") k2 p9) p10] X.env = [(false, eval (.Name sg p5) X.env), (false, eval (.BinOp (.BinOp (.Constant (.str " ") k1 p6) .Add (.Name sg p7) p8) .Add (.Constant (.str " ") k2 p9) p10) X.env)] := by rfl)
    (hbase : attributeBase (.Name tx p3) "replace" X.env (eval (.Name tx p3) X.env) = eval (.Name tx p3) X.env := by rfl) (hline : (p4.endLine == p11.line) = true := by rfl)
    (hsw : swapsWith (.Call (.Attribute (.Name tx p3) "replace" p4) [.Name sg p5, .BinOp (.BinOp (.Constant (.str " ") k1 p6) .Add (.Name sg p7) p8) .Add (.Constant (.str " ") k2 p9) p10] [] p11) (some (.Name tx p2)) p12.line X.env = pure false := by rfl)
    (hs : ∀ x, foldedSetIterable (.Constant (.str lit) k0 p1) X.env x = pure x := by intro _; rfl) :
    DS X Y W (.For (.Name sg p0) (.Constant (.str lit) k0 p1) [.Assign [.Name tx p2] (.Call (.Attribute (.Name tx p3) "replace" p4) [.Name sg p5, .BinOp (.BinOp (.Constant (.str " ") k1 p6) .Add (.Name sg p7) p8) .Add (.Constant (.str " ") k2 p9) p10] [] p11) p12] [] pos) (mRepl i j lit.cps.toList) :=
  psImp (ps_repl hp hc hN hi hj hij hki hkj ha hd hdt hct hst hbase hline hsw hs) fun D σ H ⟨G, st, E, PX, rr, hm, xp, k⟩ => replV_of _ st σ rr rfl hm fun st' σ' h e r => k.nx st' σ' G H h (Same.refl G) (by rw [e]; exact .refl) r
end
end DL
namespace DL
open PySem L2
/-! ### a text parted at its signs and spaces -/
def spc1 (c : Nat) (l : List Nat) : List Nat := l.flatMap fun k => if k = c then [32, c, 32] else [k]
def spcs (cs l : List Nat) : List Nat := l.flatMap fun k => if k ∈ cs then [32, k, 32] else [k]
theorem spc1_app (c : Nat) (a b : List Nat) : spc1 c (a ++ b) = spc1 c a ++ spc1 c b := List.flatMap_append
theorem spc1_free (c : Nat) : ∀ l : List Nat, c ∉ l → spc1 c l = l
  | [], _ => rfl
  | k :: r, h => by
    have h1 : k ≠ c := fun z => h (by rw [z]; exact List.mem_cons_self)
    show (if k = c then [32, c, 32] else [k]) ++ spc1 c r = k :: r
    rw [if_neg h1, spc1_free c r fun z => h (List.mem_cons_of_mem _ z)]
    rfl
theorem spOf_one (c : Nat) : (spOf ⟨#[c]⟩).cps.toList = [32, c, 32] := by
  unfold spOf
  rw [app_cps, app_cps, show (Str.ofString " ").cps.toList = [32] by decide +kernel]
  rfl
theorem spc1_join (c : Nat) : ∀ ps : List Str, (∀ p ∈ ps, c ∉ p.cps.toList) → spc1 c (Str.join ⟨#[c]⟩ ps).cps.toList = (Str.join (spOf ⟨#[c]⟩) ps).cps.toList
  | [], _ => rfl
  | [p], h => spc1_free c _ (h p (List.mem_singleton.mpr rfl))
  | p :: q :: r, h => by
    have ih := spc1_join c (q :: r) fun a ha => h a (List.mem_cons_of_mem _ ha)
    show spc1 c (p ++ ⟨#[c]⟩ ++ Str.join ⟨#[c]⟩ (q :: r)).cps.toList = (p ++ spOf ⟨#[c]⟩ ++ Str.join (spOf ⟨#[c]⟩) (q :: r)).cps.toList
    have e1 : spc1 c [c] = [32, c, 32] := by
      show (if c = c then [32, c, 32] else [c]) ++ [] = _
      rw [if_pos rfl]
      rfl
    rw [app_cps, app_cps, app_cps, app_cps, spc1_app, spc1_app, ih, spc1_free c _ (h p List.mem_cons_self), spOf_one]
    show _ ++ spc1 c [c] ++ _ = _
    rw [e1]
theorem repl_sp (x : Str) (c : Nat) : Txt.replace x ⟨#[c]⟩ (spOf ⟨#[c]⟩) = sL (spc1 c x.cps.toList) := by
  rw [str_eq, sL_cps, StrLaws.replace_one, ← spc1_join c _ (StrLaws.split_free x c), StrLaws.join_split]
theorem spcs_step {c : Nat} {cs : List Nat} (h1 : c ∉ cs) (h2 : c ≠ 32) (l : List Nat) : spc1 c (spcs cs l) = spcs (cs ++ [c]) l := by
  induction l with
  | nil => rfl
  | cons k l ih =>
    show spc1 c ((if k ∈ cs then [32, k, 32] else [k]) ++ spcs cs l) = (if k ∈ cs ++ [c] then [32, k, 32] else [k]) ++ spcs (cs ++ [c]) l
    rw [spc1_app, ih]
    congr 1
    by_cases hk : k ∈ cs
    · rw [if_pos hk, if_pos (List.mem_append_left _ hk)]
      refine spc1_free c _ ?_
      have : c ≠ k := fun z => h1 (by rw [z]; exact hk)
      simp [h2, this]
    · rw [if_neg hk]
      show (if k = c then [32, c, 32] else [k]) ++ [] = _
      rw [List.append_nil]
      by_cases e : k = c
      · rw [if_pos e, if_pos (List.mem_append_right _ (by rw [e]; exact List.mem_singleton.mpr rfl)), e]
      · rw [if_neg e, if_neg]
        intro z
        rcases List.mem_append.mp z with z | z
        · exact hk z
        · exact e (List.mem_singleton.mp z)
theorem spcs_len (cs l : List Nat) : (spcs cs l).length ≤ 3 * l.length := by
  induction l with
  | nil => exact Nat.le_refl _
  | cons k l ih =>
    show ((if k ∈ cs then [32, k, 32] else [k]) ++ spcs cs l).length ≤ _
    rw [List.length_append, List.length_cons]
    have : (if k ∈ cs then [32, k, 32] else [k]).length ≤ 3 := by split <;> simp
    omega
theorem spcs_nil (l : List Nat) : spcs [] l = l := by
  induction l with
  | nil => rfl
  | cons k l ih => show (if k ∈ [] then [32, k, 32] else [k]) ++ spcs [] l = _; rw [if_neg (by simp), ih]; rfl
theorem replD_all {l : List Nat} (hl : l.length ≤ 1000000) {rest : List (Option D)} {mu : Mu} {c : Nat} {K : S → Prop} : ∀ (cs done : List Nat) (x1 : Option D), (done ++ cs).Nodup → 32 ∉ done ++ cs → (∀ y, K ⟨some (.str (sL (spcs (done ++ cs) l))) :: y :: rest, mu, c⟩) →
    replD 1 0 cs ⟨some (.str (sL (spcs done l))) :: x1 :: rest, mu, c⟩ K
  | [], done, x1, _, _, k => by rw [List.append_nil] at k; exact k x1
  | a :: cs, done, x1, hd, h32, k => by
    have e : done ++ a :: cs = (done ++ [a]) ++ cs := by rw [List.append_assoc]; rfl
    have ha : a ∉ done := fun z => by
      rw [List.nodup_append] at hd
      exact hd.2.2 a z a List.mem_cons_self rfl
    have ha2 : a ≠ 32 := fun z => h32 (by rw [z]; exact List.mem_append_right _ List.mem_cons_self)
    have hlen := spcs_len done l
    refine ⟨_, rfl, by rw [sL_len]; omega, ?_⟩
    rw [repl_sp, sL_cps, spcs_step ha ha2]
    exact replD_all hl cs (done ++ [a]) _ (by rw [← e]; exact hd) (by rw [← e]; exact h32) (by rw [← e]; exact k)
/-! words -/
def spw : Nat → Option Nat → List Nat → List (Nat × Nat)
  | _, none, [] => []
  | cur, some b, [] => [(b, cur)]
  | cur, some b, k :: r => if Unicode.isSpace k = true then (b, cur) :: spw (cur + 1) none r else spw (cur + 1) (some b) r
  | cur, none, k :: r => if Unicode.isSpace k = true then spw (cur + 1) none r else spw (cur + 1) (some cur) r
theorem sw_run' (s : Str) : ∀ (l : List Nat) (cur : Nat) (words : Array (Nat × Nat)) (sta : Option Nat), cur + l.length = s.length → l = s.cps.toList.drop cur → words.size ≤ cur →
    StrLaws.swEnd s (forIn (List.range' cur l.length) ((none, words, sta) : StrLaws.SwSt) (StrLaws.swBody s (s.length + 1))).run = words.toList ++ spw cur sta l
  | [], cur, words, sta, hl, he, hw => by
    show StrLaws.swEnd s (none, words, sta) = _
    have e : cur = s.length := by simpa using hl
    unfold StrLaws.swEnd
    cases sta with
    | none => simp [spw]
    | some b => simp [spw, e]
  | k :: r, cur, words, sta, hl, he, hw => by
    rw [List.length_cons] at hl
    have hk : s.cps.getD cur 0 = k := by
      have : (s.cps.toList.drop cur)[0]? = some k := by rw [← he]; rfl
      rw [List.getElem?_drop, Nat.add_zero, Array.getElem?_toList] at this
      rw [Array.getD_eq_getD_getElem?, this]
      rfl
    have hr : r = s.cps.toList.drop (cur + 1) := by
      rw [← List.drop_drop, ← he]
      rfl
    rw [List.length_cons, List.range'_succ, List.forIn_cons]
    have hz : (words.size == s.length + 1) = false := by
      rw [Bool.eq_false_iff]
      intro z
      have := beq_iff_eq.mp z
      omega
    have step : StrLaws.swBody s (s.length + 1) cur (none, words, sta) = match sta, Unicode.isSpace k with
      | some b, true => pure (ForInStep.yield (none, words.push (b, cur), none))
      | none, false => pure (ForInStep.yield (none, words, some cur))
      | _, _ => pure (ForInStep.yield (none, words, sta)) := by
      unfold StrLaws.swBody
      simp only
      rw [hz, if_neg Bool.false_ne_true, hk]
      cases sta <;> cases Unicode.isSpace k <;> rfl
    rw [step]
    cases hs : Unicode.isSpace k with
    | true =>
      cases sta with
      | none =>
        show StrLaws.swEnd s (forIn (List.range' (cur + 1) r.length) ((none, words, none) : StrLaws.SwSt) (StrLaws.swBody s (s.length + 1))).run = _
        rw [sw_run' s r (cur + 1) words none (by omega) hr (by omega)]
        conv => rhs; unfold spw
        rw [if_pos hs]
      | some b =>
        show StrLaws.swEnd s (forIn (List.range' (cur + 1) r.length) ((none, words.push (b, cur), none) : StrLaws.SwSt) (StrLaws.swBody s (s.length + 1))).run = _
        rw [sw_run' s r (cur + 1) _ none (by omega) hr (by simp; omega)]
        conv => rhs; unfold spw
        rw [if_pos hs]
        simp
    | false =>
      cases sta with
      | none =>
        show StrLaws.swEnd s (forIn (List.range' (cur + 1) r.length) ((none, words, some cur) : StrLaws.SwSt) (StrLaws.swBody s (s.length + 1))).run = _
        rw [sw_run' s r (cur + 1) words (some cur) (by omega) hr (by omega)]
        conv => rhs; unfold spw
        rw [if_neg (by rw [hs]; exact Bool.false_ne_true)]
      | some b =>
        show StrLaws.swEnd s (forIn (List.range' (cur + 1) r.length) ((none, words, some b) : StrLaws.SwSt) (StrLaws.swBody s (s.length + 1))).run = _
        rw [sw_run' s r (cur + 1) words (some b) (by omega) hr (by omega)]
        conv => rhs; unfold spw
        rw [if_neg (by rw [hs]; exact Bool.false_ne_true)]
theorem sw_spw (s : Str) : Builtin.Str.spaceWords s (s.length + 1) = spw 0 none s.cps.toList := by
  have h := sw_run' s s.cps.toList 0 #[] none (by rw [str_len, Nat.zero_add]) (by simp) (Nat.le_refl _)
  rw [StrLaws.sw_eq]
  rw [show s.cps.toList.length = s.length by rw [str_len]] at h
  rw [h]
  rfl
/-- the words of a text, sign by sign -/
def wd : List Nat → List Nat → List (List Nat)
  | a, [] => if a = [] then [] else [a]
  | a, k :: r => if k = 32 then (if a = [] then wd [] r else a :: wd [] r) else wd (a ++ [k]) r
theorem sub_cps (x : Str) (i j : Nat) : (Builtin.Str.strSub x i j).cps.toList = (x.cps.toList.drop i).take (j - i) := by
  unfold Builtin.Str.strSub
  simp [Array.toList_extract, List.extract_eq_take_drop, List.take_drop]
theorem spw_wd (x : Str) : ∀ (l : List Nat) (cur : Nat) (sta : Option Nat), (∀ k ∈ l, Unicode.isSpace k = decide (k = 32)) → l = x.cps.toList.drop cur → (∀ b, sta = some b → b < cur) → cur ≤ x.cps.toList.length →
    (spw cur sta l).map (fun p => (Builtin.Str.strSub x p.1 p.2).cps.toList) = wd (match sta with | none => [] | some b => (x.cps.toList.drop b).take (cur - b)) l
  | [], cur, sta, _, _, hb, hc => by
    cases sta with
    | none => rfl
    | some b =>
      have := hb b rfl
      show [(Builtin.Str.strSub x b cur).cps.toList] = if _ = [] then [] else [_]
      rw [if_neg, sub_cps]
      intro z
      have := congrArg List.length z
      rw [List.length_take, List.length_drop, List.length_nil] at this
      omega
  | k :: r, cur, sta, hsp, he, hb, hc => by
    have hk := hsp k List.mem_cons_self
    have hr : r = x.cps.toList.drop (cur + 1) := by
      rw [← List.drop_drop, ← he]
      rfl
    have hlen : cur + 1 ≤ x.cps.toList.length := by
      have := congrArg List.length he
      rw [List.length_cons, List.length_drop] at this
      omega
    have hsp' : ∀ k ∈ r, Unicode.isSpace k = decide (k = 32) := fun j hj => hsp j (List.mem_cons_of_mem _ hj)
    by_cases h32 : k = 32
    · have hk' : Unicode.isSpace k = true := by rw [hk]; exact decide_eq_true h32
      cases sta with
      | none =>
        unfold spw
        rw [if_pos hk', spw_wd x r (cur + 1) none hsp' hr (by simp) hlen]
        show _ = if k = 32 then (if ([] : List Nat) = [] then wd [] r else _) else _
        rw [if_pos h32, if_pos rfl]
      | some b =>
        have hbc := hb b rfl
        unfold spw
        rw [if_pos hk', List.map_cons, spw_wd x r (cur + 1) none hsp' hr (by simp) hlen]
        show _ = if k = 32 then (if (x.cps.toList.drop b).take (cur - b) = [] then wd [] r else (x.cps.toList.drop b).take (cur - b) :: wd [] r) else _
        rw [if_pos h32, if_neg, sub_cps]
        intro z
        have := congrArg List.length z
        rw [List.length_take, List.length_drop, List.length_nil] at this
        omega
    · have hk' : ¬ Unicode.isSpace k = true := by rw [hk, decide_eq_false h32]; exact Bool.false_ne_true
      have hkx : x.cps.toList[cur]? = some k := by
        have : (x.cps.toList.drop cur)[0]? = some k := by rw [← he]; rfl
        rw [List.getElem?_drop, Nat.add_zero] at this
        exact this
      cases sta with
      | none =>
        unfold spw
        rw [if_neg hk', spw_wd x r (cur + 1) (some cur) hsp' hr (by simp) hlen]
        show wd ((x.cps.toList.drop cur).take (cur + 1 - cur)) r = if k = 32 then _ else wd ([] ++ [k]) r
        rw [if_neg h32, ← he, Nat.add_sub_cancel_left]
        rfl
      | some b =>
        have hbc := hb b rfl
        unfold spw
        rw [if_neg hk', spw_wd x r (cur + 1) (some b) hsp' hr (by intro b' e; cases e; omega) hlen]
        show wd ((x.cps.toList.drop b).take (cur + 1 - b)) r = if k = 32 then _ else wd ((x.cps.toList.drop b).take (cur - b) ++ [k]) r
        rw [if_neg h32]
        congr 1
        rw [show cur + 1 - b = (cur - b) + 1 by omega, List.take_succ]
        congr 1
        rw [List.getElem?_drop, show b + (cur - b) = cur by omega, hkx]
        rfl
theorem words_wd (x : Str) (h : ∀ k ∈ x.cps.toList, Unicode.isSpace k = decide (k = 32)) : Txt.words x = (wd [] x.cps.toList).map sL := by
  have e := spw_wd x x.cps.toList 0 none h (by simp) (by simp) (Nat.zero_le _)
  have e2 : (spw 0 none x.cps.toList).map (fun p => Builtin.Str.strSub x p.1 p.2) = (wd [] x.cps.toList).map sL := by
    rw [← e, List.map_map]
    refine List.map_congr_left fun p _ => ?_
    show _ = sL _
    rw [sL_self]
  unfold Txt.words wordsOf
  rw [sw_spw]
  split
  · rename_i hc
    have hc := eq_of_beq hc
    rw [← e2, hc]
    show [x] = [Builtin.Str.strSub x 0 x.length]
    congr 1
    rw [str_eq, sub_cps, List.drop_zero, str_len, Nat.sub_zero]
    exact (List.take_of_length_le (by simp)).symm
  · exact e2
end DL
namespace DL
open PySem L2
/-! ### tokens: of the text behind the replacing; what the machine has read -/
def signs7 : List Nat := [40, 41, 42, 124, 38, 43, 44]
def isSignT (t : List Nat) : Prop := ∃ k ∈ signs7, t = [k]
def isWordT (t : List Nat) : Prop := t ≠ [] ∧ ∀ k ∈ t, k ∉ signs7 ∧ k ≠ 32
def Alt : List (List Nat) → Prop
  | [] => True
  | t :: ts => (isSignT t ∨ (isWordT t ∧ (match ts with | [] => True | u :: _ => isSignT u))) ∧ Alt ts
theorem spcs_app (cs a b : List Nat) : spcs cs (a ++ b) = spcs cs a ++ spcs cs b := List.flatMap_append
theorem spcs_word {cs : List Nat} : ∀ {t : List Nat}, (∀ k ∈ t, k ∉ cs) → spcs cs t = t
  | [], _ => rfl
  | k :: t, h => by
    show (if k ∈ cs then [32, k, 32] else [k]) ++ spcs cs t = _
    rw [if_neg (h k List.mem_cons_self), spcs_word fun j hj => h j (List.mem_cons_of_mem _ hj)]
    rfl
theorem spcs_rep (n : Nat) : spcs signs7 (List.replicate n 32) = List.replicate n 32 := spcs_word fun k hk => by rw [List.eq_of_mem_replicate hk]; decide
theorem wd_rep (n : Nat) (l : List Nat) : wd [] (List.replicate n 32 ++ l) = wd [] l := by
  induction n with
  | zero => rfl
  | succ n ih =>
    rw [List.replicate_succ, List.cons_append]
    show (if (32 : Nat) = 32 then (if ([] : List Nat) = [] then wd [] (List.replicate n 32 ++ l) else _) else _) = _
    rw [if_pos rfl, if_pos rfl, ih]
theorem wd_32 (a l : List Nat) : wd a (32 :: l) = if a = [] then wd [] l else a :: wd [] l := by
  show (if (32 : Nat) = 32 then _ else _) = _
  rw [if_pos rfl]
theorem wd_word : ∀ (t a l : List Nat), (∀ k ∈ t, k ≠ 32) → wd a (t ++ l) = wd (a ++ t) l
  | [], a, l, _ => by rw [List.append_nil]; rfl
  | k :: t, a, l, h => by
    rw [List.cons_append]
    show (if k = 32 then _ else wd (a ++ [k]) (t ++ l)) = _
    rw [if_neg (h k List.mem_cons_self), wd_word t (a ++ [k]) l fun j hj => h j (List.mem_cons_of_mem _ hj), List.append_assoc]
    rfl
theorem spcs_sign {k : Nat} (hk : k ∈ signs7) (l : List Nat) : spcs signs7 ([k] ++ l) = 32 :: k :: 32 :: spcs signs7 l := by
  rw [spcs_app]
  show ((if k ∈ signs7 then [32, k, 32] else [k]) ++ []) ++ _ = _
  rw [if_pos hk]
  rfl
def NextS (ts : List (List Nat)) : Prop := match ts with | [] => True | u :: _ => isSignT u
theorem wd_stop {t : List Nat} (ht : t ≠ []) {ts : List (List Nat)} {r : List Nat} (h : Spd ts r) (hs : NextS ts) : wd t (spcs signs7 r) = t :: wd [] (spcs signs7 r) := by
  cases h with
  | nil n =>
    rw [spcs_rep]
    cases n with
    | zero =>
      show (if t = [] then [] else [t]) = t :: (if ([] : List Nat) = [] then [] else _)
      rw [if_neg ht, if_pos rfl]
    | succ n =>
      rw [List.replicate_succ, wd_32, wd_32, if_neg ht, if_pos rfl]
  | cons n h =>
    rw [spcs_app, spcs_rep]
    cases n with
    | zero =>
      obtain ⟨k, hk, rfl⟩ := hs
      show wd t (spcs signs7 ([k] ++ _)) = t :: wd [] (spcs signs7 ([k] ++ _))
      rw [spcs_sign hk, wd_32, wd_32, if_neg ht, if_pos rfl]
    | succ n => rw [List.replicate_succ, List.cons_append, wd_32, wd_32, if_neg ht, if_pos rfl]
theorem spd_wd {ts : List (List Nat)} {l : List Nat} (h : Spd ts l) : Alt ts → wd [] (spcs signs7 l) = ts := by
  induction h with
  | nil n =>
    intro _
    rw [spcs_rep]
    have := wd_rep n []
    rw [List.append_nil] at this
    rw [this]
    rfl
  | @cons n t ts r h ih =>
    rintro ⟨h1, h2⟩
    rw [spcs_app, spcs_rep, wd_rep]
    rcases h1 with ⟨k, hk, rfl⟩ | ⟨⟨ht, hw⟩, hs⟩
    · have k32 : k ≠ 32 := fun z => by subst z; revert hk; decide
      rw [spcs_sign hk, wd_32, if_pos rfl]
      show (if k = 32 then _ else wd ([] ++ [k]) (32 :: spcs signs7 r)) = _
      rw [if_neg k32, List.nil_append, wd_32, if_neg (by simp), ih h2]
    · rw [spcs_app, spcs_word fun k hk => (hw k hk).1, wd_word t [] _ fun k hk => (hw k hk).2, List.nil_append, wd_stop ht h hs, ih h2]
/-! the tokens of forms -/
theorem alnum_word : ∀ k ∈ alnum, k ∉ signs7 ∧ k ≠ 32 ∧ k ≠ 126 := by decide +kernel
theorem leaf_word {w n : Str} (h : (Fm.leaf w n).ok = true) : isWordT (n.cps.toList ++ tilde w) := by
  obtain ⟨h1, h2⟩ := Bool.and_eq_true_iff.mp h
  have hl := isNameL_len h2
  refine ⟨fun z => ?_, fun k hk => ?_⟩
  · rw [List.append_eq_nil_iff] at z
    rw [z.1] at hl
    simp at hl
  · rcases List.mem_append.mp hk with z | z
    · have := alnum_word k (isNameL_all h2 k z)
      exact ⟨this.1, this.2.1⟩
    · unfold tilde at z
      split at z
      · rw [List.mem_singleton.mp z]; decide
      · cases z
theorem markC_sign {w : Str} (h : halfW (.str w) = true) : isSignT [markC w] := by
  refine ⟨_, ?_, rfl⟩
  rcases (mark_is h []).2.2 with z | z | z | z <;> (rw [z]; decide)
theorem alt_half : ∀ (f : Fm) (b : Bool) (ts : List (List Nat)), f.ok = true → Alt ts → NextS ts → Alt (f.toks b ++ ts)
  | .leaf w n, b, ts, ho, ha, hs => ⟨.inr ⟨leaf_word ho, hs⟩, ha⟩
  | .node w l r, b, ts, ho, ha, hs => by
    obtain ⟨hw, ho2⟩ := Bool.and_eq_true_iff.mp ho
    obtain ⟨hl, hr⟩ := Bool.and_eq_true_iff.mp ho2
    have core : ∀ us, Alt us → NextS us → Alt (l.toks true ++ [[markC w]] ++ r.toks true ++ us) := fun us hu hn => by
      rw [List.append_assoc, List.append_assoc]
      exact alt_half l true _ hl ⟨.inl (markC_sign hw), alt_half r true us hr hu hn⟩ (markC_sign hw)
    cases b with
    | false => exact core ts ha hs
    | true =>
      have e : (Fm.node w l r).toks true ++ ts = [40] :: (l.toks true ++ [[markC w]] ++ r.toks true ++ ([41] :: ts)) := by
        show (if true = true then _ else _) ++ ts = _
        rw [if_pos rfl]
        simp [List.append_assoc]
      rw [e]
      exact ⟨.inl ⟨40, by decide, rfl⟩, core ([41] :: ts) ⟨.inl ⟨41, by decide, rfl⟩, ha⟩ ⟨41, by decide, rfl⟩⟩
theorem alt_more : ∀ (fs : List Fm), (∀ f ∈ fs, f.ok = true) → Alt (fs.map fun g => [44] :: g.toks false).flatten ∧ NextS (fs.map fun g => [44] :: g.toks false).flatten
  | [], _ => ⟨trivial, trivial⟩
  | f :: fs, h => by
    obtain ⟨h1, h2⟩ := alt_more fs fun g hg => h g (List.mem_cons_of_mem _ hg)
    exact ⟨⟨.inl ⟨44, by decide, rfl⟩, alt_half f false _ (h f List.mem_cons_self) h1 h2⟩, ⟨44, by decide, rfl⟩⟩
theorem alt_row {fs : List Fm} (h : ∀ f ∈ fs, f.ok = true) : Alt (rowToks fs) := by
  cases fs with
  | nil => exact trivial
  | cons f fs =>
    obtain ⟨h1, h2⟩ := alt_more fs fun g hg => h g (List.mem_cons_of_mem _ hg)
    exact alt_half f false _ (h f List.mem_cons_self) h1 h2
/-! ### the law's own reader of tokens -/
inductive LL where
  | emp
  | one (f : Fm) (d : Nat)
  | two (f : Fm) (d : Nat) (w : Str)
  | three (f : Fm) (d : Nat) (w : Str) (g : Fm) (e : Nat)
def LL.push : LL → Fm × Nat → Option LL
  | .emp, p => some (.one p.1 p.2)
  | .two f d w, p => some (.three f d w p.1 p.2)
  | _, _ => none
def LL.word : LL → Str → Option LL
  | .one f d, w => some (.two f d w)
  | _, _ => none
def LL.fold : LL → Option (Fm × Nat)
  | .one f d => some (f, d)
  | .three f d w g e => some (.node w f g, max d e + 1)
  | _ => none
def markT (t : List Nat) : Option Str := if t = [42] then some "both" else if t = [124] then some "between" else if t = [38] then some "offered" else if t = [43] then some "chosen" else none
def leafT (t : List Nat) : Fm := if t.getLast? = some 126 then .leaf "counter" (sL t.dropLast) else .leaf "good" (sL t)
def tkRun : List LL → List (Fm × Nat) → List (List Nat) → Option (List (Fm × Nat))
  | [], _, _ => none
  | l :: _, out, [] => (l.fold).map fun p => out ++ [p]
  | l :: st, out, t :: ts =>
    if t = [40] then tkRun (.emp :: l :: st) out ts
    else if t = [41] then (match st with
      | [] => none
      | m :: s => match l.fold with
        | none => none
        | some p => match m.push p with
          | none => none
          | some m' => tkRun (m' :: s) out ts)
    else if t = [44] then (match l.fold with
      | none => none
      | some p => tkRun (.emp :: st) (out ++ [p]) ts)
    else match markT t with
      | some w => (match l.word w with
        | none => none
        | some l' => tkRun (l' :: st) out ts)
      | none => match l.push (leafT t, 0) with
        | none => none
        | some l' => tkRun (l' :: st) out ts
section
variable {l l' : LL} {st : List LL} {out : List (Fm × Nat)} {t : List Nat} {ts : List (List Nat)}
theorem tk_40 : tkRun (l :: st) out ([40] :: ts) = tkRun (.emp :: l :: st) out ts := by
  conv => lhs; unfold tkRun
  rw [if_pos rfl]
theorem tk_41 {m m' : LL} {p : Fm × Nat} (h1 : l.fold = some p) (h2 : m.push p = some m') : tkRun (l :: m :: st) out ([41] :: ts) = tkRun (m' :: st) out ts := by
  conv => lhs; unfold tkRun
  rw [if_neg (by decide), if_pos rfl]
  simp only [h1, h2]
theorem tk_44 {p : Fm × Nat} (h1 : l.fold = some p) : tkRun (l :: st) out ([44] :: ts) = tkRun (.emp :: st) (out ++ [p]) ts := by
  conv => lhs; unfold tkRun
  rw [if_neg (by decide), if_neg (by decide), if_pos rfl]
  simp only [h1]
theorem markT_markC {w : Str} (h : halfW (.str w) = true) : markT [markC w] = some w ∧ [markC w] ≠ [40] ∧ [markC w] ≠ [41] ∧ [markC w] ≠ [44] := by
  rcases halfW_str h with rfl | rfl | rfl | rfl <;> decide +kernel
theorem tk_mark {w : Str} (h : halfW (.str w) = true) (h2 : l.word w = some l') : tkRun (l :: st) out ([markC w] :: ts) = tkRun (l' :: st) out ts := by
  obtain ⟨e1, e2, e3, e4⟩ := markT_markC h
  conv => lhs; unfold tkRun
  rw [if_neg e2, if_neg e3, if_neg e4]
  simp only [e1, h2]
theorem word_head {t : List Nat} (h : isWordT t) {k : Nat} (hk : k ∈ signs7) : t ≠ [k] := fun z => by
  subst z
  exact (h.2 k List.mem_cons_self).1 hk
theorem tk_leaf (h : isWordT t) (h2 : l.push (leafT t, 0) = some l') : tkRun (l :: st) out (t :: ts) = tkRun (l' :: st) out ts := by
  have em : markT t = none := by
    unfold markT
    rw [if_neg (word_head h (by decide)), if_neg (word_head h (by decide)), if_neg (word_head h (by decide)), if_neg (word_head h (by decide))]
  conv => lhs; unfold tkRun
  rw [if_neg (word_head h (by decide)), if_neg (word_head h (by decide)), if_neg (word_head h (by decide))]
  simp only [em, h2]
end
theorem leafT_leaf {w n : Str} (h : (Fm.leaf w n).ok = true) : leafT (n.cps.toList ++ tilde w) = .leaf w n := by
  obtain ⟨h1, h2⟩ := Bool.and_eq_true_iff.mp h
  unfold leafT
  rcases leafW_str h1 with rfl | rfl
  · rw [tilde_good, List.append_nil, sL_self, if_neg]
    intro z
    have hm := List.mem_of_getLast? z
    exact (alnum_word _ (isNameL_all h2 _ hm)).2.2 rfl
  · rw [tilde_counter, if_pos (by simp)]
    rw [List.dropLast_concat, sL_self]
theorem tk_half : ∀ (f : Fm) (l l' : LL) (st : List LL) (out : List (Fm × Nat)) (ts : List (List Nat)), f.ok = true → l.push (f, f.depth) = some l' → tkRun (l :: st) out (f.toks true ++ ts) = tkRun (l' :: st) out ts
  | .leaf w n, l, l', st, out, ts, ho, hp => tk_leaf (leaf_word ho) (by rw [leafT_leaf ho]; exact hp)
  | .node w a b, l, l', st, out, ts, ho, hp => by
    obtain ⟨hw, ho2⟩ := Bool.and_eq_true_iff.mp ho
    obtain ⟨ha, hb⟩ := Bool.and_eq_true_iff.mp ho2
    have e : (Fm.node w a b).toks true ++ ts = [40] :: (a.toks true ++ ([markC w] :: (b.toks true ++ ([41] :: ts)))) := by
      show (if true = true then _ else _) ++ ts = _
      rw [if_pos rfl]
      simp [List.append_assoc]
    rw [e, tk_40, tk_half a .emp (.one a a.depth) (l :: st) out _ ha rfl, tk_mark hw (l' := .two a a.depth w) rfl, tk_half b _ (.three a a.depth w b b.depth) (l :: st) out _ hb rfl]
    exact tk_41 rfl hp
theorem tk_whole (f : Fm) (st : List LL) (out : List (Fm × Nat)) (ts : List (List Nat)) (ho : f.ok = true) : ∃ l : LL, l.fold = some (f, f.depth) ∧ tkRun (.emp :: st) out (f.toks false ++ ts) = tkRun (l :: st) out ts := by
  cases f with
  | leaf w n => exact ⟨.one (.leaf w n) 0, rfl, tk_leaf (leaf_word ho) (by rw [leafT_leaf ho]; rfl)⟩
  | node w a b =>
    obtain ⟨hw, ho2⟩ := Bool.and_eq_true_iff.mp ho
    obtain ⟨ha, hb⟩ := Bool.and_eq_true_iff.mp ho2
    refine ⟨.three a a.depth w b b.depth, rfl, ?_⟩
    have e : (Fm.node w a b).toks false ++ ts = a.toks true ++ ([markC w] :: (b.toks true ++ ts)) := by
      show (if false = true then _ else _) ++ ts = _
      rw [if_neg Bool.false_ne_true]
      simp [List.append_assoc]
    rw [e, tk_half a .emp (.one a a.depth) st out _ ha rfl, tk_mark hw (l' := .two a a.depth w) rfl, tk_half b _ (.three a a.depth w b b.depth) st out _ hb rfl]
theorem tk_more : ∀ (fs : List Fm) (l : LL) (p : Fm × Nat) (st : List LL) (out : List (Fm × Nat)), l.fold = some p → (∀ f ∈ fs, f.ok = true) → tkRun (l :: st) out (fs.map fun g => [44] :: g.toks false).flatten = some (out ++ p :: fs.map fun f => (f, f.depth))
  | [], l, p, st, out, hl, _ => by
    show (l.fold).map _ = _
    rw [hl]
    rfl
  | f :: fs, l, p, st, out, hl, h => by
    obtain ⟨l2, h1, h2⟩ := tk_whole f st (out ++ [p]) ((fs.map fun g => [44] :: g.toks false).flatten) (h f List.mem_cons_self)
    rw [List.map_cons, List.flatten_cons, List.cons_append, tk_44 hl, h2, tk_more fs l2 _ st _ h1 fun g hg => h g (List.mem_cons_of_mem _ hg), List.append_assoc]
    rfl
theorem tk_row {fs : List Fm} (hne : fs ≠ []) (h : ∀ f ∈ fs, f.ok = true) : tkRun [.emp] [] (rowToks fs) = some (fs.map fun f => (f, f.depth)) := by
  cases fs with
  | nil => exact absurd rfl hne
  | cons f fs =>
    obtain ⟨l2, h1, h2⟩ := tk_whole f [] [] ((fs.map fun g => [44] :: g.toks false).flatten) (h f List.mem_cons_self)
    show tkRun [.emp] [] (f.toks false ++ _) = _
    rw [h2, tk_more fs l2 _ [] [] h1 fun g hg => h g (List.mem_cons_of_mem _ hg)]
    rfl
/-! ### what the machine reads is the text of the form -/
theorem skp_split (r : List Nat) : r = List.replicate (skipN r) 32 ++ skp r := by
  induction r with
  | nil => rfl
  | cons k r ih =>
    by_cases h : k = 32
    · subst h
      rw [skp_cons]
      have e : skipN (32 :: r) = skipN r + 1 := by
        show (if (32 : Nat) = 32 then skipN r + 1 else 0) = _
        rw [if_pos rfl]
      rw [e, List.replicate_succ, List.cons_append, ← ih]
    · rw [skp_ne h]
      have e : skipN (k :: r) = 0 := by
        show (if k = 32 then skipN r + 1 else 0) = _
        rw [if_neg h]
      rw [e]
      rfl
theorem leafR_take {r : List Nat} {f : Fm} {m : Nat} (h : leafR r = .ok (f, m)) : ∃ w n, f = .leaf w n ∧ r.take m = n.cps.toList ++ tilde w := by
  unfold leafR at h
  split at h
  · cases h
  · rename_i k he
    split at h
    · rename_i h1
      cases h
      refine ⟨_, _, rfl, ?_⟩
      obtain ⟨t, ht⟩ := head_cons h1
      rw [sL_cps, tilde_counter, List.take_succ]
      congr 1
      have : r[k]? = some 126 := by
        have e : (r.drop k)[0]? = some 126 := by rw [ht]; rfl
        rw [List.getElem?_drop, Nat.add_zero] at e
        exact e
      rw [this]
      rfl
    · cases h
      exact ⟨_, _, rfl, by rw [sL_cps, tilde_good, List.append_nil]⟩
def lvT : Lv → List (List Nat)
  | none => []
  | some (g, _, w) => g.toks true ++ [[markC w]]
def preT : List Lv → List (List Nat)
  | [] => []
  | [x] => lvT x
  | x :: y :: s => preT (y :: s) ++ [[40]] ++ lvT x
theorem preT_push {x : Lv} {st : List Lv} {f : Fm} {d : Nat} {w : Str} : preT (some (f, d, w) :: st) = preT (none :: st) ++ f.toks true ++ [[markC w]] := by
  cases st with
  | nil => rfl
  | cons y s =>
    show preT (y :: s) ++ [[40]] ++ (f.toks true ++ [[markC w]]) = preT (y :: s) ++ [[40]] ++ [] ++ f.toks true ++ [[markC w]]
    simp [List.append_assoc]
theorem markOf_C {k : Nat} {r : List Nat} {w : Str} (h : markOf (k :: r) = some w) : k = markC w := by
  unfold markOf at h
  simp only at h
  split at h
  · cases h; rename_i e; rw [e]; decide +kernel
  split at h
  · cases h; rename_i e; rw [e]; decide +kernel
  split at h
  · cases h; rename_i e; rw [e]; decide +kernel
  split at h
  · cases h; rename_i e; rw [e]; decide +kernel
  · cases h
def MachT (f : Fm) (r1 : List Nat) : Cfg → Prop
  | .A st r => st ≠ [] → (∀ x ∈ st, Lv.good x) → ∃ ts p, r = p ++ r1 ∧ Spd ts p ∧ preT st ++ ts = f.toks false
  | .B st g e r => st ≠ [] → (∀ x ∈ st, Lv.good x) → g.ok = true → e = g.depth → ∃ ts p, r = p ++ r1 ∧ Spd ts p ∧ preT st ++ g.toks true ++ ts = f.toks false
theorem mach_toks : ∀ (n : Nat) (c : Cfg) (f : Fm) (d : Nat) (r1 : List Nat), mach n c = some (.ok f d r1) → MachT f r1 c
  | 0, _, _, _, _, h => by cases h
  | n + 1, .A st r, f, d, r1, h => by
    intro hne hg
    have hsp := skp_split r
    by_cases z : (skp r).head? = some 40
    · obtain ⟨t, ht⟩ := head_cons z
      rw [mach_lp ht] at h
      obtain ⟨ts, p, e1, e2, e3⟩ := mach_toks n _ _ _ _ h (by simp) (fun x hx => by rcases List.mem_cons.mp hx with e | e; · rw [e]; trivial
                                                                                    · exact hg x e)
      refine ⟨[40] :: ts, List.replicate (skipN r) 32 ++ ([40] ++ p), ?_, .cons _ e2, ?_⟩
      · rw [ht, e1] at hsp
        conv => lhs; rw [hsp]
        simp [List.append_assoc]
      · rw [← e3]
        cases st with
        | nil => exact absurd rfl hne
        | cons y s =>
          show preT (y :: s) ++ [40] :: ts = preT (y :: s) ++ [[40]] ++ [] ++ ts
          simp [List.append_assoc]
    · cases el : leafR (skp r) with
      | error k => rw [mach_err z el] at h; cases h
      | ok fk =>
        obtain ⟨g, k⟩ := fk
        rw [mach_leaf z el] at h
        obtain ⟨g1, g2⟩ := leafR_ok el
        obtain ⟨w, nm, rfl, hk⟩ := leafR_take el
        obtain ⟨ts, p, e1, e2, e3⟩ := mach_toks n _ _ _ _ h hne hg g1 g2.symm
        refine ⟨(nm.cps.toList ++ tilde w) :: ts, List.replicate (skipN r) 32 ++ ((nm.cps.toList ++ tilde w) ++ p), ?_, .cons _ e2, ?_⟩
        · conv => lhs; rw [hsp, ← List.take_append_drop k (skp r), e1, hk]
          simp [List.append_assoc]
        · rw [← e3]
          show _ = preT st ++ [nm.cps.toList ++ tilde w] ++ ts
          simp [List.append_assoc]
  | n + 1, .B [] _ _ _, _, _, _, h => by cases h
  | n + 1, .B [some (g, e, w)] f0 d0 r, f, d, r1, h => by
    rw [mach_B0] at h
    cases h
    intro _ hg h1 h2
    refine ⟨[], [], rfl, .nil 0, ?_⟩
    show g.toks true ++ [[markC w]] ++ f0.toks true ++ [] = (if false = true then _ else _)
    rw [if_neg Bool.false_ne_true, List.append_nil]
  | n + 1, .B (some (g, e, w) :: x :: st) f0 d0 r, f, d, r1, h => by
    intro _ hg h1 h2
    obtain ⟨g1, g2, g3⟩ := hg _ List.mem_cons_self
    by_cases z : (skp r).head? = some 41
    · obtain ⟨t, ht⟩ := head_cons z
      rw [mach_B1 ht] at h
      obtain ⟨ts, p, e1, e2, e3⟩ := mach_toks n _ _ _ _ h (by simp) (fun y hy => hg y (List.mem_cons_of_mem _ hy)) (Bool.and_eq_true_iff.mpr ⟨g3, Bool.and_eq_true_iff.mpr ⟨g1, h1⟩⟩) (by rw [g2, h2]; rfl)
      refine ⟨[41] :: ts, List.replicate (skipN r) 32 ++ ([41] ++ p), ?_, .cons _ e2, ?_⟩
      · have hsp := skp_split r
        rw [ht, e1] at hsp
        conv => lhs; rw [hsp]
        simp [List.append_assoc]
      · rw [← e3]
        show preT (x :: st) ++ [[40]] ++ (g.toks true ++ [[markC w]]) ++ f0.toks true ++ [41] :: ts = preT (x :: st) ++ (if true = true then _ else _) ++ ts
        rw [if_pos rfl]
        simp [List.append_assoc]
    · rw [mach_B2 z] at h; cases h
  | n + 1, .B (none :: st) f0 d0 r, f, d, r1, h => by
    intro _ hg h1 h2
    have hsp := skp_split r
    cases em : markOf (skp r) with
    | none =>
      simp only [mach, em] at h
      split at h
      · cases h
      · rename_i c1
        cases h
        have hst : st = [] := List.length_eq_zero_iff.mp (by omega)
        have hd : d0 = 0 := by omega
        subst hst
        refine ⟨[], List.replicate (skipN r) 32, hsp, .nil _, ?_⟩
        cases f0 with
        | leaf w nm => rfl
        | node w a b => rw [hd] at h2; cases h2
    | some w =>
      simp only [mach, em] at h
      cases er : skp r with
      | nil => rw [er] at em; cases em
      | cons k t =>
        rw [er] at em h hsp
        obtain ⟨ts, p, e1, e2, e3⟩ := mach_toks n _ _ _ _ h (by simp) (fun y hy => by
          rcases List.mem_cons.mp hy with z | z
          · rw [z]; exact ⟨h1, h2, markOf_half em⟩
          · exact hg y (List.mem_cons_of_mem _ z))
        have e1 : t = p ++ r1 := e1
        have hk := markOf_C em
        refine ⟨[markC w] :: ts, List.replicate (skipN r) 32 ++ ([markC w] ++ p), ?_, .cons _ e2, ?_⟩
        · conv => lhs; rw [hsp, e1, hk]
          simp [List.append_assoc]
        · rw [← e3, preT_push (x := none)]
          simp [List.append_assoc]
theorem form_toks {n : Nat} {r : List Nat} {f : Fm} {d : Nat} {r1 : List Nat} (h : mach n (.A [none] r) = some (.ok f d r1)) : ∃ p, r = p ++ r1 ∧ Spd (f.toks false) p := by
  obtain ⟨ts, p, e1, e2, e3⟩ := mach_toks _ _ _ _ _ h (by simp) none_good
  have e3 : ts = f.toks false := e3
  exact ⟨p, e1, by rw [← e3]; exact e2⟩
theorem row_toks {r : List Nat} {res : RR} (h : RowR r res) : ∀ ps r1, res = .ok ps r1 → ∃ p, r = p ++ r1 ∧ Spd (rowToks (ps.map (·.1))) p := by
  induction h with
  | bad _ => intro ps r1 e; cases e
  | @last n r r1 f d hm h44 =>
    intro ps r2 e
    cases e
    obtain ⟨p, e1, e2⟩ := form_toks hm
    refine ⟨p ++ List.replicate (skipN r1) 32, ?_, ?_⟩
    · conv => lhs; rw [e1, skp_split r1]
      rw [List.append_assoc]
    · have := e2.pre (Spd.nil (skipN r1))
      exact this
  | @more n r r1 r2 f d res hm h44 hrow ih =>
    intro ps r3 e
    cases res with
    | err _ => cases e
    | ok ps' r' =>
      cases e
      obtain ⟨p2, e3, e4⟩ := ih ps' _ rfl
      obtain ⟨p, e1, e2⟩ := form_toks hm
      have hne := (row_ok hrow _ _ rfl).1
      refine ⟨p ++ (List.replicate (skipN r1) 32 ++ ([44] ++ p2)), ?_, ?_⟩
      · conv => lhs; rw [e1, skp_split r1, h44, e3]
        simp [List.append_assoc]
      · have := e2.pre (Spd.cons (skipN r1) (t := [44]) e4)
        have e5 : rowToks ((f :: ps'.map (·.1))) = f.toks false ++ [44] :: rowToks (ps'.map (·.1)) := by
          cases ps' with
          | nil => exact absurd rfl hne
          | cons q qs => rfl
        show Spd (rowToks (f :: ps'.map (·.1))) _
        rw [e5]
        exact this
end DL
namespace DL
open PySem L2
/-! ### a list that changes is lent to a def as a value, for the time of the call -/
def D.atom : D → Bool
  | .non => true
  | .bl _ => true
  | .int _ => true
  | .str _ => true
  | _ => false
theorem Rep.atom {Y : Yc} {G G' : Hp} {d : D} {v : V} (h : Rep Y G d v) (ha : d.atom = true) : Rep Y G' d v := by
  cases h <;> first | exact .non | exact .bl _ | exact .int _ | exact .str _ | cases ha
/-- no exception's dict is about -/
def noXd (mu : Mu) : Prop := ∀ x fs, mu x ≠ some (.xd fs)
def mCallL (sp : DSp) (i : Nat) (n : MA) : ME := fun st P PX => n st (fun ds s1 => ∃ a es, ds[i]? = some (.ref a) ∧ s1.mu a = some (.lst es) ∧ (∃ d ∈ es, ∀ k, d ≠ .int k) ∧ noXd s1.mu ∧
  sp (ds.set i (.lst es)) (fun _ => none) s1.c (fun d _ c' => d.atom = true ∧ P d { s1 with c := c' }) (fun _ _ _ => False)) PX
theorem Reps.lend {Y : Yc} {G : Hp} {a : Addr} {es : List D} {xs : List V} (hG : G a = some (.lst xs)) (hq : Reps Y G es xs) : ∀ {ds : List D} {vs : List V} {i : Nat}, Reps Y G ds vs → ds[i]? = some (.ref a) → Reps Y G (ds.set i (.lst es)) vs
  | _, _, i, .nil, e => by simp at e
  | _, _, 0, .cons h r, e => by
    simp at e
    subst e
    cases h
    exact .cons (.lst hG hq) r
  | _, _, i + 1, .cons h r, e => .cons h (Reps.lend hG hq r (by simpa using e))
section
variable {X : Cx} {W : WX} {e : Expr} {es : List Expr} {mas : MA} {pos p : Pos} {x : Str} {k : Nat} {ps : List Str} {sp : DSp}
theorem de_callL {q : Qp} {T : List (Addr × Str)} {i : Nat} (F : FnD X.prog X.w X.K X.mg T X.base k x ps sp) (tk : Takes X W) (hr : Room k X.A) (hg : Gl X x) (ha : DA X (Yp X.K X.mg T q) W (e :: es) mas) (hdb : (x == ("__debug__" : Str)) = false := by decide)
    (he : starEach (e :: es) X.env = (false, eval e X.env) :: starEach es X.env := by rfl) (hpl : (backTo pos (starEach es X.env)).any (·.1) = false := by rfl) : DE X (Yp X.K X.mg T q) W (.Call (.Name x p) (e :: es) [] pos) (mCallL sp i mas) := by
  obtain ⟨f, fd, h1, h2, h3, h4⟩ := F.ex
  refine peImp (pe_callSD (dvs := []) (ds := []) (E := WE W) (h4 q) hr hg h1 h2 h3 .nil (fun σ => passAt tk σ) ha hdb he hpl) fun σ H Q ⟨G, st, P, PX, rr, hm, xp, k⟩ => ?_
  refine ⟨G, st, _, PX, rr, hm, xp, fun ds s1 vs G1 H1 hm1 g1 f1 r1 q1 => ?_⟩
  obtain ⟨a, es, hi, hmu, ⟨d0, hd0, hd1⟩, hxd, hsp⟩ := hm1
  obtain ⟨hGa, ob, hHa, rm⟩ := r1.h.mus a _ hmu
  cases rm with
  | @lst _ xs hrep =>
  obtain ⟨po, hp1, hp2, hp3, hp4⟩ := r1.h.pen
  have hp4 : s1.mu q.p = none := hp4
  have nap : a ≠ q.p := fun z => by rw [z, hp4] at hmu; cases hmu
  have sG : Same G1 (upd G1 a (.lst xs)) := same_upd hGa
  have R1 : R0 (Yp X.K X.mg T q) (upd G1 a (.lst xs)) (fun _ => none) s1.c H1 := {
    sub := fun b o e => by
      by_cases hb : b = a
      · subst hb; rw [upd_same] at e; cases e; exact hHa
      · rw [upd_ne hb] at e; exact r1.h.sub b o e
    mus := fun b m e => by cases e
    pen := ⟨po, hp1, (Yp X.K X.mg T q).mono _ _ _ _ sG hp2, (upd_ne (Ne.symm nap)).trans hp3, rfl⟩
    ext := {
      tab := r1.h.ext.tab
      tabO := fun t ht => by
        obtain ⟨y1, y2⟩ := r1.h.ext.tabO t ht
        have : t.1 ≠ a := fun z => by rw [z, hmu] at y2; cases y2
        exact ⟨by rw [upd_ne this]; exact y1, rfl⟩
      raw := fun t ht => by
        obtain ⟨y0, y1, y2⟩ := r1.h.ext.raw t ht
        have : t.1 ≠ a := fun z => by rw [z, hmu] at y2; cases y2
        exact ⟨y0, by rw [upd_ne this]; exact y1, rfl⟩
      pl := fun b o e => by
        by_cases hb : b = a
        · subst hb; rw [upd_same] at e; cases e; exact plain_lst
        · rw [upd_ne hb] at e; exact r1.h.ext.pl b o e
      lo := fun b o e => sG b o (r1.h.ext.lo b o e) } }
  refine ⟨upd G1 a (.lst xs), fun _ => none, s1.c, ds.set i (.lst es), _, _, R1, ?_, hsp, fun d mu' c' v G' H' hp g f r q2 => ?_, fun ex mu' c' cls d G' H' hp => hp.elim⟩
  · rw [List.append_nil]
    exact Reps.lend (upd_same) (hrep.mono sG) (q1.mono sG) hi
  obtain ⟨hat, hP⟩ := hp
  obtain ⟨po', n1, n2, n3, n4⟩ := r.pen
  obtain ⟨ca, b, l, ns, e1, e2, e3, e4, e5, e6⟩ := n2
  have hG'a : G' a = some (.lst xs) := g a _ upd_same
  have nca : ca ≠ a := fun z => by
    rw [z, hG'a] at e2
    cases e2
    obtain ⟨j, hj, hje⟩ := List.getElem_of_mem hd0
    obtain ⟨v0, hv0, q0⟩ := hrep.get (i := j) (by rw [List.getElem?_eq_getElem hj, hje])
    rw [List.getElem?_map] at hv0
    cases hn : ns[j]? with
    | none => rw [hn] at hv0; cases hv0
    | some n0 =>
      rw [hn] at hv0
      cases hv0
      cases q0
      exact hd1 _ rfl
  have up : ∀ b o, G1 b = some o → G' b = some o := fun b o e => g b o (sG b o e)
  obtain ⟨Gf, hGf⟩ : ∃ Gf : Hp, Gf = fun b => if b = ca then G' ca else G1 b := ⟨_, rfl⟩
  have gf1 : Gf ca = some (.lst (ns.map V.int)) := by rw [hGf]; show (if ca = ca then G' ca else _) = _; rw [if_pos rfl]; exact e2
  have gf2 : ∀ {b}, b ≠ ca → Gf b = G1 b := fun {b} h => by rw [hGf]; show (if b = ca then _ else G1 b) = _; rw [if_neg h]
  have gS : Same G1 Gf := fun b o e => by
    by_cases hb : b = ca
    · subst hb; rw [gf1, ← e2]; exact up _ _ e
    · rw [gf2 hb]; exact e
  have gU : ∀ b o, Gf b = some o → G' b = some o := fun b o e => by
    by_cases hb : b = ca
    · subst hb; rw [gf1] at e; rw [e2]; exact e
    · rw [gf2 hb] at e; exact up b o e
  have gN : ∀ b, G' b = none → Gf b = none := fun b e => by
    cases z : Gf b with
    | none => rfl
    | some o => have := gU b o z; rw [e] at this; cases this
  have hFrm : ∀ b o, H1 b = some o → G1 b = none → b ≠ a → b ≠ q.p ∧ frmO o → H' b = some o ∧ G' b = none := fun b o y1 y2 y3 y4 => by
    obtain ⟨z1, z2, _⟩ := f b o y1 (by rw [upd_ne y3]; exact y2) rfl y4
    exact ⟨z1, z2⟩
  refine k d _ v Gf H' hP (g1.trans gS) (f1.trans ?_) ⟨?_, r1.s.mono gS⟩ (q2.atom hat)
  · intro b o y1 y2 y3 y4
    have nb : b ≠ a := fun z => by rw [z, hmu] at y3; cases y3
    obtain ⟨z1, z2⟩ := hFrm b o y1 y2 nb y4
    exact ⟨z1, gN b z2, y3⟩
  · exact {
      sub := fun b o e => r.sub b o (gU b o e)
      mus := fun b m e => by
        obtain ⟨y1, o, y2, y3⟩ := r1.h.mus b m e
        by_cases hb : b = a
        · subst hb
          refine ⟨by rw [gf2 (Ne.symm nca)]; exact y1, o, ?_, y3.mono gS⟩
          have : o = .lst xs := Option.some.inj (y2.symm.trans hHa)
          rw [this]
          exact r.sub _ _ hG'a
        · have np : b ≠ q.p := fun z => by
            rw [z] at e
            have := hp4
            rw [this] at e
            cases e
          have fo : frmO o := by
            cases y3 with
            | lst _ => exact frm_lst
            | dct _ => exact frm_dK
            | ins _ _ => exact ⟨fun _ z => (by cases z), fun _ z => (by cases z)⟩
            | xd _ => exact absurd e (hxd b _)
          obtain ⟨z1, z2⟩ := hFrm b o y2 y1 hb ⟨np, fo⟩
          exact ⟨gN b z2, o, z1, y3.mono gS⟩
      pen := ⟨po', n1, ⟨ca, b, l, ns, e1, gf1, e3, e4, e5, e6⟩, gN _ n3, hp4⟩
      ext := {
        tab := r.ext.tab
        tabO := fun t ht => ⟨gN _ (r.ext.tabO t ht).1, (r1.h.ext.tabO t ht).2⟩
        raw := fun t ht => ⟨(r.ext.raw t ht).1, gN _ (r.ext.raw t ht).2.1, (r1.h.ext.raw t ht).2.2⟩
        pl := fun b o e => r.ext.pl b o (gU b o e)
        lo := fun b o e => gS b o (r1.h.ext.lo b o e) } }
end
end DL
namespace DL
open PySem L2
/-! ### a row of forms: its tokens with any spaces are read as the row -/
theorem whole_reads2 (f : Fm) (ho : f.ok = true) (ts : List (List Nat)) (hts : ts = [] ∨ ∃ us, ts = [44] :: us) (r : List Nat) (h : Spd (f.toks false ++ ts) r) : ∃ k r' r'', Spd ts r' ∧ skp r'' = skp r' ∧ ∀ n, mach (n + k) (.A [none] r) = some (.ok f f.depth r'') := by
  have hst : Stop ts := by
    rcases hts with rfl | ⟨us, rfl⟩
    · trivial
    · simp [Stop]
  cases f with
  | leaf w n =>
    obtain ⟨r', h', k, hk⟩ := half_reads (.leaf w n) ho [none] ts r (by simp) hst h
    have em : markOf (skp r') = none := by
      rcases hts with rfl | ⟨us, rfl⟩
      · rw [h'.nil_skp]; rfl
      · obtain ⟨r2, e, _⟩ := h'.one (by decide)
        rw [e]
        rfl
    refine ⟨1 + k, r', skp r', h', skp_skp r', fun n => ?_⟩
    rw [← Nat.add_assoc, hk]
    simp [mach, em, Fm.depth]
  | node w a b =>
    obtain ⟨hw, ho2⟩ := Bool.and_eq_true_iff.mp ho
    obtain ⟨hoa, hob⟩ := Bool.and_eq_true_iff.mp ho2
    have ek : (Fm.node w a b).toks false ++ ts = a.toks true ++ ([markC w] :: (b.toks true ++ ts)) := by
      show (if false = true then _ else _) ++ ts = _
      rw [if_neg Bool.false_ne_true]
      simp [List.append_assoc]
    rw [ek] at h
    obtain ⟨mk1, mk2, mk3⟩ := mark_is hw ([] : List Nat)
    obtain ⟨r2, h2, s2⟩ := half_reads a hoa [none] _ r (by simp) (by rcases mk3 with z | z | z | z <;> (rw [z]; simp [Stop])) h
    obtain ⟨r3, e3, h3⟩ := h2.one mk2
    obtain ⟨r4, h4, s4⟩ := half_reads b hob [some (a, a.depth, w)] ts r3 (by simp) hst h3
    have t3 : Steps (.B [none] a a.depth r2) (.A [some (a, a.depth, w)] r3) := ⟨1, fun n => by simp only [mach, e3, (mark_is hw r3).1, List.drop_succ_cons, List.drop_zero]⟩
    obtain ⟨k, hk⟩ := s2.trans (t3.trans s4)
    refine ⟨1 + k, r4, r4, h4, rfl, fun n => ?_⟩
    rw [← Nat.add_assoc, hk]
    rfl
def withD (fs : List Fm) : List (Fm × Nat) := fs.map fun f => (f, f.depth)
theorem rowToks_cons (f g : Fm) (fs : List Fm) : rowToks (f :: g :: fs) = f.toks false ++ [44] :: rowToks (g :: fs) := rfl
theorem row_reads : ∀ (fs : List Fm) (l : List Nat), fs ≠ [] → (∀ f ∈ fs, f.ok = true) → Spd (rowToks fs) l → RowR l (.ok (withD fs) [])
  | [], _, h, _, _ => absurd rfl h
  | [f], l, _, hok, hs => by
    have hs : Spd (f.toks false ++ []) l := hs
    obtain ⟨k, r', r'', h1, h2, h3⟩ := whole_reads2 f (hok f List.mem_cons_self) [] (.inl rfl) l hs
    have e : skp r'' = [] := by rw [h2, h1.nil_skp]
    have := RowR.last (h3 0) (by rw [e]; simp)
    rw [e] at this
    exact this
  | f :: g :: fs, l, _, hok, hs => by
    rw [rowToks_cons] at hs
    obtain ⟨k, r', r'', h1, h2, h3⟩ := whole_reads2 f (hok f List.mem_cons_self) _ (.inr ⟨_, rfl⟩) l hs
    obtain ⟨r2, e, h4⟩ := h1.one (by decide)
    exact RowR.more (h3 0) (h2.trans e) (row_reads (g :: fs) r2 (by simp) (fun x hx => hok x (List.mem_cons_of_mem _ hx)) h4)
theorem withD_fst (fs : List Fm) : (withD fs).map (·.1) = fs := by
  unfold withD
  rw [List.map_map]
  exact (List.map_congr_left fun f _ => rfl).trans (List.map_id _)
theorem more_spd : ∀ fs : List Fm, Spd (fs.map fun g => [44] :: g.toks false).flatten (fs.map fun g => [44, 32] ++ g.txt false).flatten
  | [] => .nil 0
  | f :: fs => by
    have := ((Spd.tok [44]).pre (Spd.sp.pre (txt_spd f false))).pre (more_spd fs)
    exact this
theorem rowTxt_spd : ∀ fs : List Fm, Spd (rowToks fs) (rowTxt fs)
  | [] => .nil 0
  | f :: fs => (txt_spd f false).pre (more_spd fs)
theorem rowTxt_asc {fs : List Fm} (h : ∀ f ∈ fs, f.ok = true) : asc (rowTxt fs) := by
  cases fs with
  | nil => intro k hk; cases hk
  | cons f fs =>
    refine asc_app (txt_asc f false (h f List.mem_cons_self)) ?_
    intro k hk
    obtain ⟨l, hl, z⟩ := List.mem_flatten.mp hk
    obtain ⟨g, hg, rfl⟩ := List.mem_map.mp hl
    rcases List.mem_append.mp z with z | z
    · simp only [List.mem_cons, List.not_mem_nil, or_false] at z
      omega
    · exact txt_asc g false (h g (List.mem_cons_of_mem _ hg)) k z
theorem rowTxt_len : ∀ (fs : List Fm), (∀ f ∈ fs, f.ok = true) → (rowTxt fs).length ≤ 20 * leafN fs := by
  have one : ∀ f : Fm, f.ok = true → (f.txt false).length ≤ 18 * f.leaves.length := fun f h => by
    have := txt_lv f h
    have := txt_le f
    omega
  have more : ∀ fs : List Fm, (∀ f ∈ fs, f.ok = true) → ((fs.map fun g => [44, 32] ++ g.txt false).flatten).length ≤ 20 * leafN fs := by
    intro fs
    induction fs with
    | nil => intro _; exact Nat.le_refl _
    | cons f fs ih =>
      intro h
      have h1 := ih fun g hg => h g (List.mem_cons_of_mem _ hg)
      have h2 := one f (h f List.mem_cons_self)
      have h3 := leaves_pos f
      have e : leafN (f :: fs) = f.leaves.length + leafN fs := rfl
      rw [List.map_cons, List.flatten_cons, List.length_append, List.length_append, e]
      show 2 + _ + _ ≤ _
      omega
  intro fs h
  cases fs with
  | nil => exact Nat.le_refl _
  | cons f fs =>
    have h1 := more fs fun g hg => h g (List.mem_cons_of_mem _ hg)
    have h2 := one f (h f List.mem_cons_self)
    have e : leafN (f :: fs) = f.leaves.length + leafN fs := rfl
    show (f.txt false ++ _).length ≤ _
    rw [List.length_append, e]
    omega
theorem rowToks_len : ∀ (fs : List Fm), (rowToks fs).length ≤ 5 * leafN fs := by
  have one : ∀ f : Fm, (f.toks false).length ≤ 4 * f.leaves.length := fun f => by
    have := toks_lv f
    have := toks_le f
    omega
  have more : ∀ fs : List Fm, ((fs.map fun g => [44] :: g.toks false).flatten).length ≤ 5 * leafN fs := by
    intro fs
    induction fs with
    | nil => exact Nat.le_refl _
    | cons f fs ih =>
      have h2 := one f
      have h3 := leaves_pos f
      have e : leafN (f :: fs) = f.leaves.length + leafN fs := rfl
      rw [List.map_cons, List.flatten_cons, List.length_append, List.length_cons, e]
      omega
  intro fs
  cases fs with
  | nil => exact Nat.le_refl _
  | cons f fs =>
    have h1 := more fs
    have h2 := one f
    have e : leafN (f :: fs) = f.leaves.length + leafN fs := rfl
    show (f.toks false ++ _).length ≤ _
    rw [List.length_append, e]
    omega
theorem rowFlat_len {fs : List Fm} (h : ∀ f ∈ fs, f.ok = true) : (rowToks fs).flatten.length ≤ 20 * leafN fs := Nat.le_trans (rowTxt_spd fs).flat_le (rowTxt_len fs h)
theorem rowToks_asc {fs : List Fm} (h : ∀ f ∈ fs, f.ok = true) : ∀ t ∈ rowToks fs, asc t := by
  cases fs with
  | nil => intro t ht; cases ht
  | cons f fs =>
    intro t ht
    rcases List.mem_append.mp ht with z | z
    · exact toks_asc f false (h f List.mem_cons_self) t z
    · obtain ⟨l, hl, z⟩ := List.mem_flatten.mp z
      obtain ⟨g, hg, rfl⟩ := List.mem_map.mp hl
      rcases List.mem_cons.mp z with z | z
      · rw [z]; exact asc_lit rfl
      · exact toks_asc g false (h g (List.mem_cons_of_mem _ hg)) t z
theorem join_toks (ts : List (List Nat)) : Txt.join (Str.ofString "") (ts.map sL) = sL ts.flatten := by
  rw [str_eq, join_cps, sL_cps, List.map_map]
  congr 1
  exact (List.map_congr_left fun t _ => sL_cps t).trans (List.map_id _)
theorem sum_toks (ts : List (List Nat)) : ((ts.map sL).map (·.length)).sum = ts.flatten.length := by
  rw [List.map_map, List.length_flatten]
  exact congrArg List.sum (List.map_congr_left fun t _ => sL_len t)
theorem tilde_rep {w : Str} : (⟨(repD (Str.ofString "~").cps.toList (if decide (w = "counter") = true then (1 : Int) else 0)).toArray⟩ : Str) = sL (tilde w) := by
  unfold tilde
  by_cases h : w = "counter"
  · rw [decide_eq_true h, if_pos rfl, if_pos h]
    decide +kernel
  · rw [decide_eq_false h, if_neg Bool.false_ne_true, if_neg h]
    decide +kernel
end DL
namespace DL
open PySem L2 PySem.Spec PyProof.Rows PySem.Froz
/-! ### sorted(set(xs)), xs texts -/
/-- the set at a holds just the texts l, each once -/
structure TxR (P : Program) (w : World) (h : Heap) (a : Addr) (l : List Str) : Prop where
  ex : ∃ D : SD, h.get? a = some (sObj "set" D) ∧ TxOk P w D l ∧ Ris D.2.2.place.toList ∧ (w.params.followText "set-order" = true ∨ D.2.2.led = true)
  nd : l.Nodup
section
variable {P : Program} {w : World} {A : Around} {E : Value → Shared → Prop} {s : Shared} {a : Addr} {l : List Str} {k : Str} {u : Tok}
theorem TxR.at_ {h h' : Heap} (R : TxR P w h a l) (e : ∀ o, h.get? a = some o → h'.get? a = some o) : TxR P w h' a l := by
  obtain ⟨⟨D, h1, r⟩, nd⟩ := R
  exact ⟨⟨D, e _ h1, r⟩, nd⟩
theorem tail_ris {ep : Nat} {es1 : Array (Int × Value)} {t2 : SetTable} {b : Bool} (h1 : Ris t2.place.toList) : Ris (tailTx ep es1 t2 b).2.2.place.toList ∧ (tailTx ep es1 t2 b).2.2.led = t2.led := by
  unfold tailTx
  split
  · exact ⟨relayAll_ris t2 es1 _, relayAll_led t2 es1 _⟩
  · exact ⟨h1, rfl⟩
theorem addTx_ris {h : Int} {v : Value} {D : SD} (hr : Ris D.2.2.place.toList) : Ris (addTx h v D).2.2.place.toList ∧ (addTx h v D).2.2.led = D.2.2.led := by
  obtain ⟨es, ep, t⟩ := D
  have h1 := layNew_ris t es h v hr
  have h2 := layNew_led t es h v
  unfold addTx
  have h3 : Ris (if (layNew t es h v).2.1.plain = true then { (layNew t es h v).2.1 with plain := false } else (layNew t es h v).2.1).place.toList ∧ (if (layNew t es h v).2.1.plain = true then { (layNew t es h v).2.1 with plain := false } else (layNew t es h v).2.1).led = t.led := by
    split
    · exact ⟨h1, h2⟩
    · exact ⟨h1, h2⟩
  obtain ⟨y1, y2⟩ := tail_ris (ep := ep) (es1 := (layNew t es h v).1) (b := (layNew t es h v).2.2.1) h3.1
  exact ⟨y1, y2.trans h3.2⟩
/-- a text that is there is not laid again -/
theorem add_old {T : String} {D : SD} {Q : Bool → Shared → Prop} (ho : s.heap.get? a = some (sObj T D)) (F : TxOk P w D l) (hk : k ∈ l) (hb : l.length < scanBound) (h : Q false s) : wpAny (model P w) A (setAddHashed a (.str k u) (hashStr w k)) Q E s := by
  obtain ⟨es, ep, t⟩ := D
  have hd : (sObj T (es, ep, t)).data = .set es ep t := rfl
  have hf : t.fits es.size = true := F.fit
  have hel : ElemsOf (PySem.strKind P w) es.toList := F.el
  have hsz : es.size = l.length := F.sz
  have hkey : (PySem.strKind P w).is k (.str k u) = true := is_str k u
  obtain ⟨e0, he0, hq0⟩ := (F.mem k).mp hk
  have hsome : ∃ j, List.findIdx? (fun e => (PySem.strKind P w).is k e.2) es.toList = some j := by
    cases hr : List.findIdx? (fun e => (PySem.strKind P w).is k e.2) es.toList with
    | some j => exact ⟨j, rfl⟩
    | none =>
      have := List.findIdx?_eq_none_iff.mp hr e0 he0
      rw [hq0] at this
      cases this
  obtain ⟨j, hj⟩ := hsome
  unfold setAddHashed setAddHashedIn
  refine wpAny_holding (wpAny_bind (wpAny_setState_of ho hd hf ?_))
  dsimp only
  rw [byScan_of rfl (by omega) hel]
  simp only [↓reduceIte]
  unfold setAddByScan
  refine wpAny_bind ?_
  refine wpAny_bind (wpAny_rule ?_)
  refine wpAny_bind (wpAny_setScan_of (knd := PySem.strKind P w) (k := k) hkey ho hd hf hel ?_)
  rw [hj]
  exact wpAny_pure (wpAny_pure h)
theorem tx_add {Q : Bool → Shared → Prop} (R : TxR P w s.heap a l) (hb : l.length + 1 < scanBound)
    (h : ∀ b h' l', Heap.SameBut a s.heap h' → TxR P w h' a l' → (∀ x, x ∈ l' ↔ x = k ∨ x ∈ l) → l'.length ≤ l.length + 1 → Q b { s with heap := h' }) : wpAny (model P w) A (setAddHashed a (.str k u) (hashStr w k)) Q E s := by
  obtain ⟨⟨D, ho, F, hr, hl⟩, nd⟩ := R
  by_cases hk : k ∈ l
  · refine add_old ho F hk (by omega) ?_
    exact h false s.heap l (Heap.SameBut.refl _ _) ⟨⟨D, ho, F, hr, hl⟩, nd⟩ (fun x => ⟨.inr, fun z => z.elim (fun e => by rw [e]; exact hk) id⟩) (Nat.le_succ _)
  · refine add_x ho F hk hb ?_
    obtain ⟨r1, r2⟩ := addTx_ris (h := hashStr w k) (v := .str k u) hr
    refine h true _ (k :: l) (Heap.SameBut.update ..) ⟨⟨addTx (hashStr w k) (.str k u) D, get_upd _ ho rfl, add_ok u F, r1, hl.imp id fun z => by rw [r2]; exact z⟩, List.nodup_cons.mpr ⟨hk, nd⟩⟩ (fun x => List.mem_cons) (Nat.le_refl _)
/-- the loop of set(xs): xs of texts -/
theorem tx_loop {I S : Addr} {fp wr : List Addr} {G : Array GenState → Array GenState → Prop} {n : Nat} {Pv : Nat → Value → Prop} {St : Nat → Shared → Prop} {R : Result → Shared → Prop} (W : WalksS P w A.in1 I fp wr G n Pv St) (hS : S ∉ fp)
    (xs : List Str) (hn : n = xs.length) (hb : n + 1 < scanBound) (hval : ∀ i v, Pv i v → ∃ x t, xs[i]? = some x ∧ v = .str x t) :
    ∀ (k i : Nat) (s : Shared), n - i = k → i ≤ n → St i s → (∃ l, TxR P w s.heap S l ∧ l.length ≤ i ∧ ∀ x, x ∈ l ↔ x ∈ xs.take i) →
      (∀ s' l, Moved (S :: wr) G s s' → TxR P w s'.heap S l → (∀ x, x ∈ l ↔ x ∈ xs) ∧ l.length ≤ n → R (.ok (.ret .none)) s') → codeAny (model P w) A (.builtin "set.update.loop" ⟨[.ref S, .ref I], []⟩) R s := by
  have out : S ∉ wr := fun z => hS (W.sub S z)
  have wide : ∀ b ∈ wr, b ∈ S :: wr := fun b z => List.mem_cons_of_mem S z
  intro k
  induction k with
  | zero =>
    rintro i s hk hi hst ⟨l, hR, hl, hm⟩ fin
    obtain rfl : i = n := by omega
    have hm' : ∀ x, x ∈ l ↔ x ∈ xs := fun x => by rw [hm x, hn, List.take_length]
    refine codeAny_builtin PyProof.Rows.F.entry_set_update_loop ?_
    rw [Around.under_plainId PyProof.Rows.F.plain_set_update_loop]
    show wpAny (model P w) A.in1 (pyNext (.ref I) >>= _) _ _ s
    refine wpAny_bind (W.done s _ _ hst fun s1 mv => ?_)
    exact wpAny_pure (fin s1 l (mv.mono wide) (hR.at_ fun o e => mv.heap S o out e) ⟨hm', hl⟩)
  | succ k ih =>
    rintro i s hk hi hst ⟨l, hR, hl, hm⟩ fin
    have lt : i < n := by omega
    refine codeAny_builtin PyProof.Rows.F.entry_set_update_loop ?_
    rw [Around.under_plainId PyProof.Rows.F.plain_set_update_loop]
    show wpAny (model P w) A.in1 (pyNext (.ref I) >>= _) _ _ s
    refine wpAny_bind (W.item i s _ _ lt hst fun v s1 hP hst1 mv => ?_)
    obtain ⟨x, t, hx, rfl⟩ := hval i v hP
    have hR1 : TxR P w s1.heap S l := hR.at_ fun o e => mv.heap S o out e
    show wpAny (model P w) A.in1 (holding [Value.str x t] (setAdd S (.str x t)) >>= _) _ _ s1
    unfold setAdd
    refine wpAny_bind (wpAny_holding (wpAny_holding (wpAny_bind (wpAny_pyHash_str ?_))))
    refine tx_add (s := { s1 with toks := s1.toks + 1 }) hR1 (by omega) fun b h' l' sb hR2 hm2 hl2 => ?_
    refine wpAny_pure ⟨plainId_quiet PyProof.Rows.F.plain_set_update_loop _, ih (i + 1) _ (by omega) lt (W.frame _ s1 _ _ hst1 (Nat.le_succ _) fun b hb o e => ?_) ⟨l', hR2, by omega, fun y => ?_⟩ fun s2 l2 mv2 hR3 hm3 => ?_⟩
    · exact (sb.2 b fun z => hS (z ▸ hb)).trans e
    · rw [hm2 y, hm y, List.take_succ, hx]
      simp only [Option.toList_some, List.mem_append, List.mem_singleton]
      exact or_comm
    · refine fin s2 l2 (Moved.trans W.gtrans ((mv.mono wide).then_heap (Nat.le_succ _) fun b o hb e => ?_) mv2) hR3 hm3
      exact (sb.2 b fun z => hb (z ▸ List.mem_cons_self)).trans e
theorem tx_fresh {h : Heap} {b : Bool} (hb : w.params.followText "set-order" = true ∨ b = true) (ho : h.get? a = some { cls := .type "set", dict := none, data := .set #[] 0 (.fresh 0 0 b) }) : TxR P w h a [] :=
  ⟨⟨(#[], 0, .fresh 0 0 b), ho, TxOk.nil (by first | rfl | decide | (unfold SetTable.fits; rfl)), .nil, hb⟩, List.nodup_nil⟩
/-- what set() begins as -/
def set0 (w : World) : Obj := { cls := .type "set", dict := none, data := .set #[] 0 (.fresh 0 0 (!w.params.followText "set-order")) }
/-- set(xs) -/
theorem call_set_txt {ad : Addr} {items : Array Value} {xs : List Str} {Q : Value → Shared → Prop} (hh : A.handled = none) (hl : s.heap.IsList ad items) (hit : ∀ (i : Nat) (v : Value), items[i]? = some v → ∃ x t, xs[i]? = some x ∧ v = Value.str x t) (hsz : items.size = xs.length) (hb : xs.length + 1 < scanBound)
    (h : ∀ (h' : Heap) (tk : Nat) L, TxR P w h' s.heap.objs.size L → (∀ x, x ∈ L ↔ x ∈ xs) ∧ L.length ≤ items.size → (∀ b o, s.heap.get? b = some o → h'.get? b = some o) → Q (.ref s.heap.objs.size) { s with heap := h', toks := tk }) :
    wpAny (model P w) A (call (.type "set") [.ref ad]) Q E s := by
  have old : ad < s.heap.objs.size := by
    obtain ⟨o, ho, _⟩ := hl
    exact Heap.lt_size ho
  have at0 : (s.heap.push (set0 w)).get? s.heap.objs.size = some (set0 w) := Heap.get?_push_size _ rfl
  have ty0 : Shared.TypeIs { s with heap := s.heap.push (set0 w) } (.ref s.heap.objs.size) "set" := ⟨_, at0, rfl⟩
  have l1 : (s.heap.push (set0 w)).IsList ad items := hl.push _
  have sz1 : (s.heap.push (set0 w)).objs.size = s.heap.objs.size + 1 := Heap.size_push ..
  have led0 : w.params.followText "set-order" = true ∨ (!w.params.followText "set-order") = true := by
    cases w.params.followText "set-order"
    · exact .inr rfl
    · exact .inl rfl
  obtain ⟨c, tl, m1⟩ := F.called_set.mro
  have m2 := F.called_set.made
  have m3 := F.called_set.sub
  have m4 := F.called_set.notType
  have m5 := F.called_set.canCreate
  have m6 := F.typeCall_set_1 (.ref ad)
  have m7 := F.called_set.init.lookup
  have m8 := F.called_set.init.bind (.ref s.heap.objs.size)
  refine wpAny_call (codeAny_of_tree ?_)
  show wpAny _ _ (callAny (.type "set") _) _ _ _
  refine wpAny_pure ⟨Code.quiet_builtin _ (by decide +kernel), codeAny_builtin F.entry_type_call ?_⟩
  rw [Around.under_plain (weight_type_call_type "set" [.ref ad] []) rfl]
  repeat (any_goals (first | assumption | wp_step))
  refine codeAny_mono (code_set_led1 (.ref ad) (E := E) (Q₁ := fun v s1 => v = .ref s.heap.objs.size ∧ s1 = { s with heap := s.heap.push (set0 w) }) ⟨rfl, rfl⟩) fun r s1 hr => ?_
  cases r with
  | error e => exact hr
  | ok fl =>
    cases fl with
    | ret obj =>
      obtain ⟨rfl, rfl⟩ := hr
      repeat (any_goals (first | assumption | wp_step))
      refine codeAny_mono (codeAny_call_builtin (R := wants (fun r s₂ => r = .none ∧ ∃ h' tk L, s₂ = { s with heap := h', toks := tk } ∧ TxR P w h' s.heap.objs.size L ∧ ((∀ x, x ∈ L ↔ x ∈ xs) ∧ L.length ≤ items.size) ∧
          (∀ b o, s.heap.get? b = some o → h'.get? b = some o)) E) F.called_set.init.plain F.entry_set_init (check_set_init_1 ty0 ?_)) fun r₂ s₂ hr₂ => ?_
      · obtain ⟨ol, hol, hcl, nl, hdl⟩ := id hl
        obtain ⟨ocls, odict, odata, oslots⟩ := ol
        simp only at hcl hdl
        subst hcl; subst hdl
        have hol' : (s.heap.push (set0 w)).get? ad = some { cls := .type "list", dict := odict, data := .seq items nl, slots := oslots } := Heap.get?_push_of_some _ hol
        have hsls := F.sub_list_set
        have hslf := F.sub_list_frozenset
        have hne : (Value.type "list" == Value.type "dict") = false := by decide
        unfold Builtin.«set.__init__» noKeywords Builtin.Frozenset.updateFrom
        generalize hPI : pyIter = PI
        wp_walk
        subst hPI
        refine wpAny_pyIter_list l1 ?_
        refine wpAny_bind (wpAny_runValue ?_)
        have hh3 : A.in1.in1.in1.handled = none := by simp [hh]
        have hneI : ad ≠ (s.heap.push (set0 w)).objs.size := by
          rw [sz1]; exact Nat.ne_of_lt (Nat.lt_succ_of_lt old)
        have hSf : s.heap.objs.size ∉ [(s.heap.push (set0 w)).objs.size, ad] := by
          rw [sz1]; simp only [List.mem_cons, List.not_mem_nil, or_false, not_or]
          exact ⟨Nat.ne_of_lt (Nat.lt_succ_self _), Nat.ne_of_gt old⟩
        have hget : ((s.heap.push (set0 w)).push { cls := .type "list_iterator", data := .fields #[.ref ad, .int 0 0] }).get? s.heap.objs.size = some (set0 w) := Heap.get?_push_of_some _ at0
        refine tx_loop (A := A.in1.in1) ((Walks.list hh3 _ ad hneI items).toS) hSf xs hsz (by rw [hsz]; exact hb) hit (items.size - 0) 0 _ (by omega) (Nat.zero_le _)
          ⟨⟨_, Heap.get?_push_size _ rfl, rfl, rfl⟩, (l1.push _)⟩ ⟨[], tx_fresh led0 hget, Nat.le_refl _, fun x => by simp⟩ fun s' L mv hR hm => ?_
        obtain ⟨h', g2, d', tk', os'⟩ := s'
        have eg : g2 = s.gens := mv.gens
        have ed : d' = s.drawn := mv.drawn
        have eo : os' = s.os := mv.os
        subst eg; subst ed; subst eo
        show wpAny _ _ _ _ _ _
        refine wpAny_pure ?_
        show wpAny _ _ (ret Value.none) _ _ _
        refine wpAny_pure ⟨rfl, h', tk', L, rfl, hR, hm, fun b o e => ?_⟩
        have hbl : b < s.heap.objs.size := Heap.lt_size e
        refine mv.heap b o (fun z => ?_) (Heap.get?_push_of_some _ (Heap.get?_push_of_some _ e))
        rcases List.mem_cons.mp z with z | z
        · exact absurd hbl (by rw [z]; exact Nat.lt_irrefl _)
        · have z := List.mem_singleton.mp z
          exact absurd hbl (by rw [z, sz1]; exact Nat.not_lt_of_le (Nat.le_succ _))
      · cases r₂ with
        | error e => exact hr₂
        | ok fl₂ =>
          cases fl₂ with
          | ret r =>
            obtain ⟨rfl, h', tk, L, rfl, hR, hm, hk'⟩ := hr₂
            repeat (any_goals (first | assumption | wp_step))
            exact h _ _ _ hR hm hk'
          | _ => exact hr₂.elim
    | _ => exact hr.elim
theorem strsAre_ord {L : List Str} : ∀ vs : List Value, (∀ v ∈ vs, ∃ x t, v = Value.str x t ∧ x ∈ L) → ∃ ss, StrsAre vs ss ∧ (∀ x ∈ ss, x ∈ L)
  | [], _ => ⟨[], .nil, fun _ h => absurd h (by simp)⟩
  | v :: vs, h => by
    obtain ⟨x, t, rfl, hx⟩ := h v List.mem_cons_self
    obtain ⟨ss, h1, h2⟩ := strsAre_ord vs fun u hu => h u (List.mem_cons_of_mem _ hu)
    refine ⟨x :: ss, .cons x t h1, fun y hy => ?_⟩
    rcases List.mem_cons.mp hy with z | z
    · rw [z]; exact hx
    · exact h2 y z
theorem StrsAre.mem_iff {vs : List Value} {ss : List Str} (h : StrsAre vs ss) (x : Str) : x ∈ ss ↔ ∃ t, Value.str x t ∈ vs := by
  induction h with
  | nil => simp
  | cons y t h ih =>
    simp only [List.mem_cons, ih, Value.str.injEq]
    constructor
    · rintro (rfl | ⟨t', ht⟩)
      · exact ⟨t, .inl ⟨rfl, rfl⟩⟩
      · exact ⟨t', .inr ht⟩
    · rintro ⟨t', ⟨rfl, _⟩ | ht⟩
      · exact .inl rfl
      · exact .inr ⟨t', ht⟩
theorem perm_of_cover {α : Type} [DecidableEq α] : ∀ (l m : List α), l.Nodup → (∀ x ∈ l, x ∈ m) → m.length = l.length → m.Perm l
  | [], m, _, _, h => by
    have : m = [] := List.length_eq_zero_iff.mp h
    rw [this]
  | x :: l, m, hn, hs, h => by
    obtain ⟨n1, n2⟩ := List.nodup_cons.mp hn
    have hx := hs x List.mem_cons_self
    refine (List.perm_cons_erase hx).trans ((perm_of_cover l (m.erase x) n2 (fun y hy => ?_) ?_).cons x)
    · exact (List.mem_erase_of_ne fun e => n1 (by rw [← e]; exact hy)).mpr (hs y (List.mem_cons_of_mem _ hy))
    · rw [List.length_erase_of_mem hx, h]; rfl
instance : DecidableEq Str := inferInstance
/-- sorted(s), s a set of texts -/
theorem sorted_set_txt {a : Addr} {L : List Str} {Q : Value → Shared → Prop} (R : TxR P w s.heap a L) (hh : A.handled = none) (hL : L.length < scanBound)
    (hQ : ∀ s' p (out : Array Value) (c : Nat) (ys : List Str), (∀ b o, s.heap.get? b = some o → s'.heap.get? b = some o) → s'.gens = s.gens → s'.os = s.os → s.heap.objs.size ≤ p →
      s'.heap.get? p = some (seqObj "list" out c) → StrsAre out.toList ys → ys.Perm L → sortedS ys = true → Q (.ref p) s') :
    wpAny (model P w) A (call (.builtin "sorted") [.ref a]) Q E s := by
  obtain ⟨⟨D, ho, F, hr, hl⟩, nd⟩ := R
  obtain ⟨es, ep, t⟩ := D
  have hsz : es.size = L.length := F.sz
  refine Calls.call_function_entry kind_sorted plain_sorted entry_sorted (args_sorted1 _) ?_
  unfold Builtin.«sorted»
  refine wpAny_bind (m := checkCount "sorted" 1 1 _) (wpAny_pure ?_)
  refine wpAny_bind (collect_set (A := A.in1) hh ⟨_, ho, rfl, rfl⟩ F.fit (by rw [hsz]; exact hL) hr hl fun s1 vs k1 hz g1 o1 pm => ?_)
  have hvl : vs.length = L.length := by rw [pm.length_eq, List.length_map, Array.length_toList, hsz]
  have hst : ∀ v ∈ vs, ∃ x t, v = Value.str x t ∧ x ∈ L := fun v hv => by
    obtain ⟨e, he, q⟩ := List.mem_map.mp (pm.mem_iff.mp hv)
    obtain ⟨⟨k, hk, _⟩, _⟩ := F.el e he
    obtain ⟨tk, e2⟩ := Value.isStrOf_shape hk
    exact ⟨k, tk, by rw [← q]; exact e2, (F.mem k).mpr ⟨e, he, hk⟩⟩
  obtain ⟨ss, hS, hin⟩ := strsAre_ord vs hst
  have hpL : ss.Perm L := by
    refine perm_of_cover L ss nd (fun x hx => ?_) ?_
    · obtain ⟨e, he, hk⟩ := (F.mem x).mp hx
      obtain ⟨tk, e2⟩ := Value.isStrOf_shape hk
      exact (StrsAre.mem_iff hS x).mpr ⟨tk, pm.mem_iff.mpr (List.mem_map.mpr ⟨e, he, e2⟩)⟩
    · rw [← hS.len_eq, hvl]
  have hvs : vs.length ≤ sizeLine := by rw [hvl]; exact fits_of_scanBound (by first | exact hL | (rw [← hsz] at hL; exact hL))
  refine wpAny_bind (wpAny_newList ?_ hvs)
  have hoL : (s1.heap.push (seqObj "list" vs.toArray 0)).get? s1.heap.objs.size = some (seqObj "list" vs.toArray 0) := Heap.get?_push_size _ rfl
  refine wpAny_bind (wpAny_holding (wpAny_call_entry slot_list_sort ⟨_, hoL, rfl⟩ entry_list_sort
    (list_sort_treeKAny strKind_oneLt (s := { s1 with heap := s1.heap.push (seqObj "list" vs.toArray 0) }) hoL hS.keysOf (fun v₁ v₂ rest e => keyKind_strs (by rw [← e]; exact hS)) hvs fun st' hp hs => ⟨_, rfl, ?_⟩) (args_list_sort _)))
  obtain ⟨ys, h1, h2, h3⟩ := sorted_out_str hS hp hs
  obtain ⟨c, hc⟩ := sortedHeap_at (vs := vs) (out := (arrOf st').map (·.2)) hoL
  refine wpAny_pure ⟨_, rfl, hQ _ s1.heap.objs.size _ c ys (fun b u e => ?_) g1 o1 hz hc h1 (h2.trans hpL) h3⟩
  have q := k1 b u e
  have hlt := Heap.lt_size q
  show (sortedHeap (s1.heap.push (seqObj "list" vs.toArray 0)) s1.heap.objs.size vs _).get? b = some u
  rw [sortedHeap_old (Nat.ne_of_lt hlt) (by rw [size_push']; exact Nat.lt_succ_of_lt hlt)]
  exact Heap.get?_push_of_some _ q
end
/-! ### sorted(set(e)) -/
section
variable {X : Cx} {Y : Yc} {W : WX}
def tSortSet (K : PySem.W.Frag) (ta : TE) : TE := fun σ H Q => ta σ H fun x H1 => ∃ (l : Addr) (xs : List Str), x = V.ref l ∧ SqL K H1 l (xs.map V.str) ∧ xs.length < 4095 ∧
  ∀ (ys : List Str) (p : Addr), sortedS ys = true → ys.Nodup → (∀ x, x ∈ ys ↔ x ∈ xs) → H1 p = none → Q (.ref p) (upd H1 p (.lst (ys.map V.str)))
theorem pe_sortSet {a : Expr} {ta : TE} {p p2 q pos : Pos} (hc : X.calm = true) (hg : Gl X "sorted") (hm : X.mg "sorted" = none) (hg2 : Gl X "set") (hm2 : X.mg "set" = none) (ha : PE X a ta)
    (na : starEach [a] X.env = (false, eval a X.env) :: starEach [] X.env := by rfl) : PE X (.Call (.Name "sorted" p) [.Call (.Name "set" p2) [a] [] q] [] pos) (tSortSet X.K ta) := by
  refine ⟨fun pins s σ H Q I h => ?_⟩
  refine Call_ (ld_blt I hg hm bb_sorted ?_)
  refine PyProof.Rows.callWith_builtin1 (PyProof.Rows.args_cons ?_ rfl) rfl rfl
  refine Call_ (ld_blt I hg2 hm2 PyProof.Rows.boot_set ?_)
  refine PyProof.Rows.callWith_type1 (PyProof.Rows.args_cons (thn (ha.run pins s σ H _ I h) fun v s1 ⟨x, H1, I1, r1, q1⟩ => PyProof.Rows.args_nil ?_) na) na rfl
  obtain ⟨l, xs, rfl, hq, hb, q1⟩ := q1
  cases r1
  obtain ⟨its, rv, pl, hz⟩ := I1.list hq
  have hS := rv.strs
  have hl : its.toArray.size = xs.length := by rw [List.size_toArray, hS.len_eq]
  have hxs : xs.length + 1 < scanBound := by
    rw [show scanBound = 4096 from rfl]
    omega
  refine call_set_txt (P := X.prog) (w := X.w) (I1.ok.hd hc) pl.isList (xs := xs) (fun i v hv => ?_) hl hxs fun h' tk L R hm hk => ?_
  · obtain ⟨y, t, e1, e2⟩ := hS.item i v (by simpa using hv)
    exact ⟨y, t, e2, e1⟩
  refine PyProof.Rows.args_nil ?_
  have I2 : Inv X pins σ H1 { s1 with heap := h', toks := tk } := I1.kept fun b o e => hk b o e
  have hL : L.length ≤ xs.length := by rw [← hl]; exact hm.2
  refine sorted_set_txt (s := { s1 with heap := h', toks := tk }) R (I1.ok.hd hc) (by omega) fun s' p out c ys k g o hp hg hi hpm hs => ?_
  have hly : ys.length = L.length := hpm.length_eq
  have hlen : (ys.map V.str).length ≤ sizeLine := by rw [List.length_map, hly, sizeLine_eq]; omega
  have hn : H1 p = none := I2.hok.fresh hp
  have J : Inv X pins σ (upd H1 p (.lst (ys.map V.str))) { { s1 with heap := h', toks := tk } with heap := s'.heap, gens := s'.gens, drawn := s'.drawn, toks := s'.toks } :=
    I2.call (ch := []) (Un.laid k hp hn) (I2.hok.laid k hp ⟨hlen, out.toList, c, vals_of_strs hi, hg⟩) (by rw [g]; exact I2.bare) (fun _ z => nomatch z)
  have e : s' = { { s1 with heap := h', toks := tk } with heap := s'.heap, gens := s'.gens, drawn := s'.drawn, toks := s'.toks } := by
    cases s'
    cases s1
    cases o
    rfl
  rw [e]
  exact ⟨.ref p, _, J, rfl, q1 ys p hs (hpm.nodup_iff.mpr R.nd) (fun x => by rw [hpm.mem_iff]; exact hm.1 x) hn⟩
/-- sorted(set(e)), e a list of texts -/
def sortSetD : O1 := fun _ d P => match d with
  | .lst a => ∃ xs : List Str, strsOf a = some xs ∧ xs.length < 4095 ∧ ∀ ys : List Str, sortedS ys = true → ys.Nodup → (∀ x, x ∈ ys ↔ x ∈ xs) → P (.lst (ys.map D.str))
  | _ => False
theorem de_sortSet {a : Expr} {ma : ME} {p p2 q pos : Pos} (hc : X.calm = true) (hg : Gl X "sorted") (hm : X.mg "sorted" = none) (hg2 : Gl X "set") (hm2 : X.mg "set" = none) (ha : DE X Y W a ma)
    (na : starEach [a] X.env = (false, eval a X.env) :: starEach [] X.env := by rfl) : DE X Y W (.Call (.Name "sorted" p) [.Call (.Name "set" p2) [a] [] q] [] pos) (mUn sortSetD ma) := by
  refine peImp (pe_sortSet hc hg hm hg2 hm2 ha na) fun σ H Q ⟨G, st, P, PX, rr, hm, xp, k⟩ => ?_
  refine ⟨G, st, _, PX, rr, hm, xp, fun d s1 v G1 H1 hm1 g1 f1 r1 q1 => ?_⟩
  unfold sortSetD at hm1
  split at hm1
  · obtain ⟨a1, xs1, rfl, h1, q1⟩ := q1.lstI
    obtain ⟨ns, h2, h3, h4⟩ := hm1
    have e := strsOf_reps h2 q1
    subst e
    refine ⟨_, ns, rfl, SqL.of (r1.h.sub _ _ h1), h3, fun ys p h5 h6 h7 hp => ?_⟩
    have kk : Post Y G1 s1.mu s1.c H1 (fun r => P r s1) Q := fun z v3 G3 H3 hp g3 h3 r3 q3 => k z s1 v3 G3 H3 hp (g1.trans g3) (f1.trans h3) ⟨r3, r1.s.mono g3⟩ q3
    exact kk.lst r1.h (h4 ys h5 h6 h7) (reps_strs ys) p hp
  · exact hm1.elim
/-! ### a list that changes is compared with a value -/
def eqM : O2 := fun mu d e P => ∃ a es, d = .ref a ∧ mu a = some (.lst es) ∧ CEq (.lst es) e ∧ P (.bl (eqvD (.lst es) e))
def neM : O2 := fun mu d e P => ∃ a es, d = .ref a ∧ mu a = some (.lst es) ∧ CEq (.lst es) e ∧ P (.bl (!eqvD (.lst es) e))
theorem lend_rep {G : Hp} {mu : Mu} {c : Nat} {H : Hp} {a : Addr} {es : List D} {x : V} (r0 : R0 Y G mu c H) (hmu : mu a = some (.lst es)) (q : Rep Y G (.ref a) x) : ∃ G', Rep Y G' (.lst es) x ∧ (∀ b o, G' b = some o → H b = some o) := by
  obtain ⟨hGa, ob, hHa, rm⟩ := r0.mus a _ hmu
  cases rm with
  | @lst _ xs hrep =>
  cases q
  have sG : Same G (upd G a (.lst xs)) := same_upd hGa
  refine ⟨upd G a (.lst xs), .lst upd_same (hrep.mono sG), fun b o e => ?_⟩
  by_cases hb : b = a
  · subst hb; rw [upd_same] at e; cases e; exact hHa
  · rw [upd_ne hb] at e; exact r0.sub b o e
theorem od_eqM (hY : Y.K = X.K) (hu : X.A.units + 64 < cLine) : OpD X Y (compareOp .Eq) eqM := by
  intro pins s σ H x y v u Q I rx ry ⟨G, mu, c, d, e, P, r0, qd, qe, ⟨a, es, ed, hmu, ⟨⟨n, n1, n2⟩, m, m1, m2⟩, h⟩, k⟩
  subst ed
  obtain ⟨G', qd', sub'⟩ := lend_rep r0 hmu qd
  exact op_eqD hu pins s σ H x y v u Q I rx ry ⟨D.py (.lst es), e.py, hY ▸ qd'.dp sub' n2, hY ▸ qe.dp r0.sub m2, D.shaped n2 n1, D.shaped m2 m1, k.here r0 h (.bl _)⟩
theorem od_neM (hY : Y.K = X.K) (hu : X.A.units + 64 < cLine) : OpD X Y (compareOp .NotEq) neM := by
  intro pins s σ H x y v u Q I rx ry ⟨G, mu, c, d, e, P, r0, qd, qe, ⟨a, es, ed, hmu, ⟨⟨n, n1, n2⟩, m, m1, m2⟩, h⟩, k⟩
  subst ed
  obtain ⟨G', qd', sub'⟩ := lend_rep r0 hmu qd
  exact op_neD hu pins s σ H x y v u Q I rx ry ⟨D.py (.lst es), e.py, hY ▸ qd'.dp sub' n2, hY ▸ qe.dp r0.sub m2, D.shaped n2 n1, D.shaped m2 m1, k.here r0 h (.bl _)⟩
end
end DL
namespace DL
open PySem L2 PySem.Spec PyProof.Rows
/-! ### lists of texts in order, each once -/
theorem str_ext {a b : Str} (h : a.cps.toList = b.cps.toList) : a = b := by
  cases a; cases b
  simp only [Str.mk.injEq]
  exact Array.toList_inj.mp h
def sLt (a b : Str) : Prop := a.cps.toList < b.cps.toList
theorem sLt_irr (a : Str) : ¬ sLt a a := fun h => List.lt_irrefl _ h
theorem sLt_trans {a b c : Str} (h : sLt a b) (g : sLt b c) : sLt a c := List.lt_trans h g
theorem sLt_of {a b : Str} (h : ¬ sLt b a) (n : a ≠ b) : sLt a b := by
  rcases Classical.em (sLt a b) with z | z
  · exact z
  · exact absurd (str_ext (List.le_antisymm (List.not_lt.mp h) (List.not_lt.mp z))) n
theorem sLt_le {a b c : Str} (h : ¬ sLt b a) (g : ¬ sLt c b) : ¬ sLt c a := fun z => by
  have h' : a.cps.toList ≤ b.cps.toList := List.not_lt.mp h
  have g' : b.cps.toList ≤ c.cps.toList := List.not_lt.mp g
  exact (List.not_lt.mpr (List.le_trans h' g')) z
theorem rising_pw : ∀ (l : List Str) (p : Str), risingS p l = true → (p :: l).Pairwise fun a b => ¬ sLt b a
  | [], p, _ => List.pairwise_cons.mpr ⟨fun _ h => absurd h (by simp), .nil⟩
  | x :: r, p, h => by
    have h : (!ltCps x.cps.toList p.cps.toList && risingS x r) = true := h
    obtain ⟨h1, h2⟩ := Bool.and_eq_true_iff.mp h
    have ih := rising_pw r x h2
    have hxp : ¬ sLt x p := fun z => by
      rw [ltCps_eq, Bool.not_eq_true'] at h1
      exact (of_decide_eq_false h1) z
    refine List.pairwise_cons.mpr ⟨fun y hy => ?_, ih⟩
    rcases List.mem_cons.mp hy with e | e
    · rw [e]; exact hxp
    · exact sLt_le hxp ((List.pairwise_cons.mp ih).1 y e)
theorem sorted_pw {l : List Str} (h : sortedS l = true) : l.Pairwise fun a b => ¬ sLt b a := by
  cases l with
  | nil => exact .nil
  | cons x r => exact rising_pw r x h
theorem strict_of {l : List Str} (h : sortedS l = true) (n : l.Nodup) : l.Pairwise sLt := by
  have p := sorted_pw h
  exact (p.and n).imp fun ⟨a, b⟩ => sLt_of a b
theorem strict_same : ∀ {a b : List Str}, a.Pairwise sLt → b.Pairwise sLt → (∀ x, x ∈ a ↔ x ∈ b) → a = b
  | [], [], _, _, _ => rfl
  | [], y :: b, _, _, h => absurd ((h y).mpr List.mem_cons_self) (by simp)
  | x :: a, [], _, _, h => absurd ((h x).mp List.mem_cons_self) (by simp)
  | x :: a, y :: b, ha, hb, h => by
    obtain ⟨a1, a2⟩ := List.pairwise_cons.mp ha
    obtain ⟨b1, b2⟩ := List.pairwise_cons.mp hb
    have e : x = y := by
      rcases List.mem_cons.mp ((h x).mp List.mem_cons_self) with e | e
      · exact e
      · rcases List.mem_cons.mp ((h y).mpr List.mem_cons_self) with e2 | e2
        · exact e2.symm
        · exact absurd (sLt_trans (a1 y e2) (b1 x e)) (sLt_irr x)
    subst e
    refine congrArg (x :: ·) (strict_same a2 b2 fun z => ⟨fun hz => ?_, fun hz => ?_⟩)
    · rcases List.mem_cons.mp ((h z).mp (List.mem_cons_of_mem _ hz)) with e | e
      · subst e; exact absurd (a1 _ hz) (sLt_irr _)
      · exact e
    · rcases List.mem_cons.mp ((h z).mpr (List.mem_cons_of_mem _ hz)) with e | e
      · subst e; exact absurd (b1 _ hz) (sLt_irr _)
      · exact e
/-- each once, of a list in order: what the loop has after some turns -/
def onceStep (acc : List Str) (x : Str) : List Str := if acc.getLast? = some x then acc else acc ++ [x]
structure OnceI (seen acc : List Str) : Prop where
  st : acc.Pairwise sLt
  mem : ∀ x, x ∈ acc ↔ x ∈ seen
theorem once_step {seen acc : List Str} {x : Str} (I : OnceI seen acc) (h : ∀ y ∈ seen, ¬ sLt x y) : OnceI (seen ++ [x]) (onceStep acc x) := by
  unfold onceStep
  split
  · rename_i e
    obtain ⟨l, rfl⟩ := List.getLast?_eq_some_iff.mp e
    exact ⟨I.st, fun z => by
      rw [List.mem_append (s := seen), ← I.mem z]
      simp only [List.mem_append, List.mem_singleton]
      exact ⟨.inl, fun q => q.elim id .inr⟩⟩
  · rename_i e
    refine ⟨List.pairwise_append.mpr ⟨I.st, List.pairwise_singleton _ _, fun a ha b hb => ?_⟩, fun z => by rw [List.mem_append, List.mem_append, I.mem z]⟩
    rw [List.mem_singleton] at hb
    subst hb
    refine sLt_of (h a ((I.mem a).mp ha)) fun z => ?_
    subst z
    -- a is in acc, and at the end of it nothing is above it
    have ha' : acc ≠ [] := List.ne_nil_of_mem ha
    obtain ⟨l, m, rfl⟩ : ∃ l m, acc = l ++ [m] := ⟨acc.dropLast, acc.getLast ha', (List.dropLast_concat_getLast ha').symm⟩
    rw [List.getLast?_concat] at e
    rcases List.mem_append.mp ha with q | q
    · have := (List.pairwise_append.mp I.st).2.2 a q m (by simp)
      exact h m ((I.mem m).mp (by simp)) this
    · rw [List.mem_singleton] at q
      exact e (by rw [q])
/-! ### forms and kinds -/
def negL (w : Str) : Str := if w = "good" then "counter" else "good"
def negW (w : Str) : Str := if w = "both" then "between" else if w = "between" then "both" else if w = "offered" then "chosen" else "offered"
def Fm.neg : Fm → Fm
  | .leaf w x => .leaf (negL w) x
  | .node w l r => .node (negW w) l.neg r.neg
theorem kindW_split {P : Str → Prop} (h1 : P "pair") (h2 : P "sum") (h3 : P "offer") (h4 : P "to") {w : Str} (h : w = "pair" ∨ w = "sum" ∨ w = "offer" ∨ w = "to") : P w := by
  rcases h with rfl | rfl | rfl | rfl <;> assumption
def kindWs : List D := [.str "pair", .str "sum", .str "offer", .str "to"]
def kindW (w : D) : Bool := kindWs.any fun z => eqvD z w
theorem kindWs_ok : (D.tup kindWs).ok 1 = true := by decide +kernel
theorem kindW_str {w : Str} (h : kindW (.str w) = true) : w = "pair" ∨ w = "sum" ∨ w = "offer" ∨ w = "to" := by
  simp only [kindW, kindWs, List.any_cons, List.any_nil, Bool.or_false, Bool.or_eq_true, eqv_str, D.str.injEq] at h
  exact h
theorem kindW_asc {s : Str} (h : kindW (.str s) = true) : asc s.cps.toList ∧ s.cps.toList.length ≤ 10 := by
  rcases kindW_str h with e | e | e | e <;> (subst e; exact ⟨by unfold asc; decide +kernel, by decide +kernel⟩)
def Fm.kok : Fm → Bool
  | .leaf w x => decide (w = "good") && isNameL x.cps.toList
  | .node w l r => kindW (.str w) && (l.kok && r.kok)
def fw (w : Str) : Str := if w = "pair" then "both" else if w = "sum" then "chosen" else "offered"
def Fm.form : Fm → Fm
  | .leaf w x => .leaf w x
  | .node w l r => if w = "to" then .node "between" l.form.neg r.form else .node (fw w) l.form r.form
def kw (w : Str) : Str := if w = "both" then "pair" else if w = "chosen" then "sum" else if w = "offered" then "offer" else "to"
def Fm.kind : Bool → Fm → Option Fm
  | b, .leaf w x => if (decide (w = "good")) != b then some (.leaf "good" x) else none
  | b, .node w l r => if (if b then negW w else w) = "between" then (Fm.kind (!b) l).bind fun x => (Fm.kind b r).map fun y => .node "to" x y
    else (Fm.kind b l).bind fun x => (Fm.kind b r).map fun y => .node (kw (if b then negW w else w)) x y
def Fm.nms : Fm → List Str
  | .leaf _ x => [x]
  | .node _ l r => l.nms ++ r.nms
def optK : Option Fm → D
  | some f => f.toD
  | none => .non
theorem negL_ok {w : Str} (h : leafW (.str w) = true) : leafW (.str (negL w)) = true ∧ negL (negL w) = w := by
  rcases leafW_str h with rfl | rfl <;> decide +kernel
theorem negW_ok {w : Str} (h : halfW (.str w) = true) : halfW (.str (negW w)) = true ∧ negW (negW w) = w := by
  rcases halfW_str h with rfl | rfl | rfl | rfl <;> decide +kernel
theorem Fm.neg_ok : ∀ (f : Fm), f.ok = true → f.neg.ok = true
  | .leaf w x, h => by
    obtain ⟨h1, h2⟩ := Bool.and_eq_true_iff.mp h
    exact Bool.and_eq_true_iff.mpr ⟨(negL_ok h1).1, h2⟩
  | .node w l r, h => by
    obtain ⟨h1, h2⟩ := Bool.and_eq_true_iff.mp h
    obtain ⟨h3, h4⟩ := Bool.and_eq_true_iff.mp h2
    exact Bool.and_eq_true_iff.mpr ⟨(negW_ok h1).1, Bool.and_eq_true_iff.mpr ⟨Fm.neg_ok l h3, Fm.neg_ok r h4⟩⟩
theorem Fm.neg_neg : ∀ (f : Fm), f.ok = true → f.neg.neg = f
  | .leaf w x, h => by
    obtain ⟨h1, h2⟩ := Bool.and_eq_true_iff.mp h
    show Fm.leaf (negL (negL w)) x = _
    rw [(negL_ok h1).2]
  | .node w l r, h => by
    obtain ⟨h1, h2⟩ := Bool.and_eq_true_iff.mp h
    obtain ⟨h3, h4⟩ := Bool.and_eq_true_iff.mp h2
    show Fm.node (negW (negW w)) l.neg.neg r.neg.neg = _
    rw [(negW_ok h1).2, Fm.neg_neg l h3, Fm.neg_neg r h4]
theorem Fm.neg_depth : ∀ (f : Fm), f.neg.depth = f.depth
  | .leaf w x => rfl
  | .node w l r => by
    show max l.neg.depth r.neg.depth + 1 = max l.depth r.depth + 1
    rw [Fm.neg_depth l, Fm.neg_depth r]
theorem Fm.neg_nms : ∀ (f : Fm), f.neg.nms = f.nms
  | .leaf w x => rfl
  | .node w l r => by
    show l.neg.nms ++ r.neg.nms = l.nms ++ r.nms
    rw [Fm.neg_nms l, Fm.neg_nms r]
theorem Fm.form_node (w : Str) (l r : Fm) : (Fm.node w l r).form = if w = "to" then .node "between" l.form.neg r.form else .node (fw w) l.form r.form := rfl
theorem Fm.form_ok : ∀ (f : Fm), f.kok = true → f.form.ok = true
  | .leaf w x, h => by
    obtain ⟨h1, h2⟩ := Bool.and_eq_true_iff.mp h
    refine Bool.and_eq_true_iff.mpr ⟨?_, h2⟩
    rw [of_decide_eq_true h1]
    decide +kernel
  | .node w l r, h => by
    obtain ⟨h1, h2⟩ := Bool.and_eq_true_iff.mp h
    obtain ⟨h3, h4⟩ := Bool.and_eq_true_iff.mp h2
    have a := Fm.form_ok l h3
    have b := Fm.form_ok r h4
    have c := Fm.neg_ok _ a
    rw [Fm.form_node]
    split
    · exact Bool.and_eq_true_iff.mpr ⟨by decide +kernel, Bool.and_eq_true_iff.mpr ⟨c, b⟩⟩
    · refine Bool.and_eq_true_iff.mpr ⟨?_, Bool.and_eq_true_iff.mpr ⟨a, b⟩⟩
      rcases kindW_str h1 with rfl | rfl | rfl | rfl <;> decide +kernel
theorem Fm.form_depth : ∀ (f : Fm), f.form.depth = f.depth
  | .leaf w x => rfl
  | .node w l r => by
    rw [Fm.form_node]
    have a := Fm.form_depth l
    have b := Fm.form_depth r
    have c := Fm.neg_depth l.form
    split
    · show max l.form.neg.depth r.form.depth + 1 = max l.depth r.depth + 1
      rw [c, a, b]
    · show max l.form.depth r.form.depth + 1 = max l.depth r.depth + 1
      rw [a, b]
theorem Fm.form_nms : ∀ (f : Fm), f.form.nms = f.nms
  | .leaf w x => rfl
  | .node w l r => by
    rw [Fm.form_node]
    have a := Fm.form_nms l
    have b := Fm.form_nms r
    have c := Fm.neg_nms l.form
    split
    · show l.form.neg.nms ++ r.form.nms = l.nms ++ r.nms
      rw [c, a, b]
    · show l.form.nms ++ r.form.nms = l.nms ++ r.nms
      rw [a, b]
theorem Fm.kind_node (b : Bool) (w : Str) (l r : Fm) : Fm.kind b (.node w l r) = if (if b then negW w else w) = "between" then (Fm.kind (!b) l).bind fun x => (Fm.kind b r).map fun y => .node "to" x y
    else (Fm.kind b l).bind fun x => (Fm.kind b r).map fun y => .node (kw (if b then negW w else w)) x y := rfl
theorem Fm.kind_neg : ∀ (f : Fm) (b : Bool), f.ok = true → Fm.kind b f.neg = Fm.kind (!b) f
  | .leaf w x, b, h => by
    obtain ⟨h1, h2⟩ := Bool.and_eq_true_iff.mp h
    show (if (decide (negL w = "good")) != b then some (Fm.leaf "good" x) else none) = if (decide (w = "good")) != !b then some (Fm.leaf "good" x) else none
    rcases leafW_str h1 with rfl | rfl
    · rw [show decide (negL "good" = "good") = false by decide +kernel, show decide (("good" : Str) = "good") = true by decide +kernel]
      cases b <;> rfl
    · rw [show decide (negL "counter" = "good") = true by decide +kernel, show decide (("counter" : Str) = "good") = false by decide +kernel]
      cases b <;> rfl
  | .node w l r, b, h => by
    obtain ⟨h1, h2⟩ := Bool.and_eq_true_iff.mp h
    obtain ⟨h3, h4⟩ := Bool.and_eq_true_iff.mp h2
    have e1 := fun b => Fm.kind_neg l b h3
    have e2 := fun b => Fm.kind_neg r b h4
    have e3 : (if b then negW (negW w) else negW w) = if (!b) then negW w else w := by
      rw [(negW_ok h1).2]
      cases b <;> rfl
    show Fm.kind b (.node (negW w) l.neg r.neg) = _
    rw [Fm.kind_node, Fm.kind_node, e3, e1, e1, e2]
theorem Fm.kind_form : ∀ (k : Fm), k.kok = true → Fm.kind false k.form = some k ∧ Fm.kind true k.form = none
  | .leaf w x, h => by
    obtain ⟨h1, h2⟩ := Bool.and_eq_true_iff.mp h
    have e := of_decide_eq_true h1
    subst e
    exact ⟨rfl, rfl⟩
  | .node w l r, h => by
    obtain ⟨h1, h2⟩ := Bool.and_eq_true_iff.mp h
    obtain ⟨h3, h4⟩ := Bool.and_eq_true_iff.mp h2
    obtain ⟨a1, a2⟩ := Fm.kind_form l h3
    obtain ⟨b1, b2⟩ := Fm.kind_form r h4
    have n := fun b => Fm.kind_neg l.form b (Fm.form_ok l h3)
    rw [Fm.form_node]
    rcases kindW_str h1 with rfl | rfl | rfl | rfl
    · rw [if_neg (by decide +kernel), Fm.kind_node, Fm.kind_node, a1, b1, b2]
      simp only [Bool.not_true, Bool.not_false, a1, a2]
      refine ⟨?_, by simp⟩
      rw [if_neg (by decide +kernel)]
      show some (Fm.node (kw (fw (Str.ofString "pair"))) l r) = _
      rw [show kw (fw (Str.ofString "pair")) = Str.ofString "pair" by decide +kernel]
    · rw [if_neg (by decide +kernel), Fm.kind_node, Fm.kind_node, a1, b1, b2]
      simp only [Bool.not_true, Bool.not_false, a1, a2]
      refine ⟨?_, by simp⟩
      rw [if_neg (by decide +kernel)]
      show some (Fm.node (kw (fw (Str.ofString "sum"))) l r) = _
      rw [show kw (fw (Str.ofString "sum")) = Str.ofString "sum" by decide +kernel]
    · rw [if_neg (by decide +kernel), Fm.kind_node, Fm.kind_node, a1, b1, b2]
      simp only [Bool.not_true, Bool.not_false, a1, a2]
      refine ⟨?_, by simp⟩
      rw [if_neg (by decide +kernel)]
      show some (Fm.node (kw (fw (Str.ofString "offer"))) l r) = _
      rw [show kw (fw (Str.ofString "offer")) = Str.ofString "offer" by decide +kernel]
    · rw [if_pos rfl, Fm.kind_node, Fm.kind_node, n, n, n, b1, b2]
      simp only [Bool.not_true, Bool.not_false, a1, a2]
      refine ⟨?_, by simp⟩
      rw [if_pos (by decide +kernel)]
      rfl
theorem Fm.kind_kok : ∀ (f : Fm) (b : Bool) (k : Fm), f.ok = true → Fm.kind b f = some k → k.kok = true ∧ k.depth = f.depth
  | .leaf w x, b, k, h, e => by
    obtain ⟨h1, h2⟩ := Bool.and_eq_true_iff.mp h
    have e : (if (decide (w = "good")) != b then some (Fm.leaf "good" x) else none) = some k := e
    split at e
    · cases e
      exact ⟨Bool.and_eq_true_iff.mpr ⟨rfl, h2⟩, rfl⟩
    · cases e
  | .node w l r, b, k, h, e => by
    obtain ⟨h1, h2⟩ := Bool.and_eq_true_iff.mp h
    obtain ⟨h3, h4⟩ := Bool.and_eq_true_iff.mp h2
    rw [Fm.kind_node] at e
    have i1 := fun b k => Fm.kind_kok l b k h3
    have i2 := fun b k => Fm.kind_kok r b k h4
    generalize (if b = true then negW w else w) = v at e
    split at e
    · obtain ⟨x, hx, e⟩ := Option.bind_eq_some_iff.mp e
      obtain ⟨y, hy, e⟩ := Option.map_eq_some_iff.mp e
      subst e
      obtain ⟨p1, p2⟩ := i1 _ _ hx
      obtain ⟨q1, q2⟩ := i2 _ _ hy
      refine ⟨Bool.and_eq_true_iff.mpr ⟨by decide +kernel, Bool.and_eq_true_iff.mpr ⟨p1, q1⟩⟩, ?_⟩
      show max x.depth y.depth + 1 = max l.depth r.depth + 1
      rw [p2, q2]
    · obtain ⟨x, hx, e⟩ := Option.bind_eq_some_iff.mp e
      obtain ⟨y, hy, e⟩ := Option.map_eq_some_iff.mp e
      subst e
      obtain ⟨p1, p2⟩ := i1 _ _ hx
      obtain ⟨q1, q2⟩ := i2 _ _ hy
      refine ⟨Bool.and_eq_true_iff.mpr ⟨?_, Bool.and_eq_true_iff.mpr ⟨p1, q1⟩⟩, ?_⟩
      · unfold kw
        split
        · decide +kernel
        split
        · decide +kernel
        split
        · decide +kernel
        · decide +kernel
      · show max x.depth y.depth + 1 = max l.depth r.depth + 1
        rw [p2, q2]
theorem Fm.kplain : ∀ (f : Fm) (n : Nat), f.kok = true → f.depth < n → f.toD.pl n = true
  | .leaf w x, n + 1, h, hn => by
    obtain ⟨h1, h2⟩ := Bool.and_eq_true_iff.mp h
    have e := of_decide_eq_true h1
    subst e
    exact tupP (al_cons (pl_str (by unfold asc; decide +kernel) (by decide +kernel)) (al_one (sA_name h2).pl))
  | .node w l r, n + 1, h, hn => by
    obtain ⟨h1, h2⟩ := Bool.and_eq_true_iff.mp h
    obtain ⟨h3, h4⟩ := Bool.and_eq_true_iff.mp h2
    have a := kindW_asc h1
    have hd : max l.depth r.depth + 1 < n + 1 := hn
    exact tupP (al_cons (pl_str a.1 (by omega)) (al_cons (Fm.kplain l n h3 (by omega)) (al_one (Fm.kplain r n h4 (by omega)))))
/-- is the value a kind of depth m at most -/
def kindIn : Nat → D → Bool
  | _, .tup [w, n] => eqvD w (.str "good") && isNameD n
  | m + 1, .tup [w, a, b] => kindW w && (kindIn m a && kindIn m b)
  | _, _ => false
def isKindD (d : D) : Bool := kindIn 12 d
theorem Fm.kindIn : ∀ (k : Fm) (m : Nat), k.kok = true → DL.kindIn m k.toD = decide (k.depth ≤ m)
  | .leaf w x, m, h => by
    obtain ⟨h1, h2⟩ := Bool.and_eq_true_iff.mp h
    have e := of_decide_eq_true h1
    subst e
    have e2 : DL.kindIn m (Fm.leaf "good" x).toD = (eqvD (.str "good") (.str "good") && isNameL x.cps.toList) := by cases m <;> rfl
    rw [e2, eqv_word, h2, Bool.and_true, decide_eq_true rfl, decide_eq_true (show (Fm.leaf "good" x).depth ≤ m from Nat.zero_le _)]
  | .node w l r, 0, h => by
    rw [decide_eq_false (show ¬ (Fm.node w l r).depth ≤ 0 by unfold Fm.depth; omega)]
    rfl
  | .node w l r, m + 1, h => by
    obtain ⟨h1, h2⟩ := Bool.and_eq_true_iff.mp h
    obtain ⟨h3, h4⟩ := Bool.and_eq_true_iff.mp h2
    show (kindW (.str w) && (DL.kindIn m l.toD && DL.kindIn m r.toD)) = decide (max l.depth r.depth + 1 ≤ m + 1)
    rw [h1, Bool.true_and, Fm.kindIn l m h3, Fm.kindIn r m h4, Bool.eq_iff_iff]
    simp only [Bool.and_eq_true, decide_eq_true_eq]
    omega
theorem Fm.leaf_of : ∀ (f : Fm) (g : Fm), g ∈ f.leaves → ∃ w x, g = .leaf w x
  | .leaf w x, g, h => ⟨w, x, by simpa [Fm.leaves] using h⟩
  | .node w l r, g, h => by
    rcases List.mem_append.mp (show g ∈ l.leaves ++ r.leaves from h) with h | h
    · exact Fm.leaf_of l g h
    · exact Fm.leaf_of r g h
def Fm.nm : Fm → Str
  | .leaf _ x => x
  | .node w _ _ => w
theorem Fm.leaves_nms : ∀ (f : Fm), f.leaves.map Fm.nm = f.nms
  | .leaf w x => rfl
  | .node w l r => by
    show (l.leaves ++ r.leaves).map Fm.nm = l.nms ++ r.nms
    rw [List.map_append, Fm.leaves_nms l, Fm.leaves_nms r]
theorem Fm.nms_len : ∀ (f : Fm), f.nms.length = f.leaves.length := fun f => by rw [← Fm.leaves_nms, List.length_map]
theorem Fm.nms_ok : ∀ (f : Fm), f.kok = true → ∀ x ∈ f.nms, isNameL x.cps.toList = true
  | .leaf w x, h => by
    obtain ⟨h1, h2⟩ := Bool.and_eq_true_iff.mp h
    exact al_one h2
  | .node w l r, h => by
    obtain ⟨h1, h2⟩ := Bool.and_eq_true_iff.mp h
    obtain ⟨h3, h4⟩ := Bool.and_eq_true_iff.mp h2
    exact al_app (Fm.nms_ok l h3) (Fm.nms_ok r h4)
end DL
namespace DL
open PySem L2
local macro_rules | `(tactic| walk_at "st") => `(tactic| repeat (first | refine ⟨_, rfl, ?_⟩ | refine iteT ?_ | refine iteF ?_ | refine ⟨rfl, ?_⟩ | refine ⟨ceq_of (n := 0) (m := 0) rfl rfl, ?_⟩ | refine ⟨shortL _ rfl, ?_⟩))
local macro_rules | `(tactic| walk_at "c") => `(tactic| dsimp only [mNil])
local macro_rules | `(tactic| walk_at "ff") => `(tactic| first | (show if false = true then _ else _; refine iteF ?_) | skip)
-- @hash d4cc7186
-- @raw
-- @level 1
-- @hash 6b07265e
-- @raw
-- @level 1
-- @hash eb31e4bc
def sp_is_name : DSp := fun ds mu c P PX => ∃ d, ds = [d] ∧ d.ty.isSome = true ∧ (∀ s, d = .str s → s.length ≤ LINE) ∧ P (.bl (isNameD d)) mu c
def m_is_name : MS := (mSeq (mIfS (mOr (mNot (mB (mIsi "str" (mVar 0)))) (mOr (mNot (mChain leD leD (mC (.int 1)) (mCB lenD (mCons (mVar 0) mNil)) (mC (.int 12)))) (mB (mOp (inD not) (mOp subD (mVar 0) (mC (.int 0))) (mC (.str "abcdefghijklmnopqrstuvwxyz")))))) (mRet (mC (.bl false))) mNext)
  (mRet (mCB allD (mCons (mLc (mItems (mVar 0)) [1] (gN 1) mYes (mOp (inD id) (mVar 1) (mC (.str "abcdefghijklmnopqrstuvwxyz0123456789")))) mNil))))
theorem rd_is_name (ds : List D) (mu : Mu) (c : Nat) (P : D → Mu → Nat → Prop) (PX : Ex → Mu → Nat → Prop) (h : sp_is_name ds mu c P PX) : m_is_name (S0 ["value", "sign"] ["value"] ds mu c) (EF P) (XF PX) := by
  obtain ⟨d, rfl, hty, hl, h⟩ := h
  refine ⟨d, rfl, hty, _, rfl, ?_⟩
  have no : isNameD d = false → ∃ c', c ≤ c' ∧ P (.bl false) mu c' := fun e => ⟨c, Nat.le_refl _, by rw [e] at h; exact h⟩
  cases d <;> first | exact iteT (iteT (no rfl)) | cases hty | skip
  rename_i s
  have hs := hl s rfl
  refine iteF ⟨_, rfl, hs, _, rfl, ?_⟩
  refine ite2 (fun c1 => ?_) (fun c1 => ?_)
  · have c1' : 1 ≤ s.length := by have := of_decide_eq_true c1; omega
    refine ⟨_, rfl, ?_⟩
    obtain ⟨k, r, e⟩ : ∃ k r, s.cps.toList = k :: r := by
      cases e : s.cps.toList with
      | nil => rw [str_len, e] at c1'; simp at c1'
      | cons k r => exact ⟨k, r, rfl⟩
    refine ite2 (fun c2 => ?_) (fun c2 => ?_)
    · have c2' : ¬ s.length ≤ 12 := fun z => by
        have e2 : decide ((s.length : Int) ≤ 12) = true := decide_eq_true (by omega)
        have e3 : (!decide ((s.length : Int) ≤ 12)) = true := c2
        rw [e2] at e3; cases e3
      refine iteT (no ?_)
      simp only [isNameD, e, isNameL]
      rw [← e, ← str_len, decide_eq_false c2', Bool.false_and]
    · have c2' : s.length ≤ 12 := by
        have e3 : ¬ (!decide ((s.length : Int) ≤ 12)) = true := c2
        simp at e3
        omega
      refine ⟨_, rfl, hs, k, ?_, ?_⟩
      · show atI s.cps.toList ((0 : Nat) : Int) = some k
        exact atI_nat (by rw [e]; rfl)
      refine ⟨_, rfl, ?_⟩
      rw [show hasStr ⟨#[k]⟩ (Str.ofString "abcdefghijklmnopqrstuvwxyz") = decide (k ∈ letters) from hasStr_one k _]
      refine ite2 (fun c3 => ?_) (fun c3 => ?_)
      · have c3' : decide (k ∈ letters) = false := by simpa using c3
        refine no ?_
        simp only [isNameD, e, isNameL]
        rw [c3', Bool.false_and, Bool.and_false]
      · have c3' : decide (k ∈ letters) = true := by simpa using c3
        refine ⟨_, rfl, ?_⟩
        refine lc_fun (fun d => match d with | .str z => .bl (decide ((z.cps.toList.head?.getD 0) ∈ alnum)) | d => d) (signs s) [] (fun d hd K hK => ?_) (by simp [signs]; exact hs) ?_
        · obtain ⟨j, hj, rfl⟩ := List.mem_map.mp hd
          refine ⟨_, rfl, ?_⟩
          show K (some (.bl (hasStr ⟨#[j]⟩ (Str.ofString "abcdefghijklmnopqrstuvwxyz0123456789")))) _
          rw [hasStr_one]
          exact hK
        · refine ⟨s.cps.toList.map fun k => decide (k ∈ alnum), ?_, c, Nat.le_refl _, ?_⟩
          · rw [List.nil_append]
            unfold signs
            rw [List.map_map]
            exact blsOf_map (fun k => decide (k ∈ alnum)) _
          · have e4 : isNameL s.cps.toList = (s.cps.toList.map fun k => decide (k ∈ alnum)).all id := by
              rw [List.all_map]
              simp only [e, isNameL]
              rw [← e, ← str_len, decide_eq_true c2', c3', Bool.true_and, Bool.true_and]
              rfl
            have h2 : P (.bl (isNameL s.cps.toList)) mu c := h
            rw [e4] at h2
            exact h2
  · have e0 : s.cps.toList = [] := by
      have c1' : ¬ (1 ≤ s.length) := fun z => c1 (decide_eq_true (by omega))
      rw [str_len] at c1'
      exact List.length_eq_zero_iff.mp (by omega)
    refine no ?_
    simp only [isNameD, e0, isNameL]
-- @hash 971c66e0
-- @rec 14
def spn_depth_within (n : Nat) : DSp := fun ds mu c P PX => ∃ dm : D × Nat, ds = [dm.1, .int dm.2] ∧ dm.2 < n ∧ fineD dm.2 dm.1 = true ∧ P (optD (depthIn dm.2 dm.1)) mu c
def sp_depth_within : DSp := spn_depth_within 14
def m_depth_within (self : DSp) : MS := (mSeq (mIfS (mOr (mNot (mB (mIsi "tuple" (mVar 0)))) (mB (mOp (inD not) (mCB lenD (mCons (mVar 0) mNil)) (mTup (mCons (mC (.int 2)) (mCons (mC (.int 3)) mNil)))))) (mRet (mC .non)) mNext)
  (mSeq (mIfS (mB (mOp eqD (mCB lenD (mCons (mVar 0) mNil)) (mC (.int 2)))) (mRet (mIf (mAnd (mB (mOp (inD id) (mOp subD (mVar 0) (mC (.int 0))) (mC (.tup [(.str "good"), (.str "counter")])))) (mB (mCall sp_is_name (mCons (mOp subD (mVar 0) (mC (.int 1))) mNil)))) (mC (.int 0)) (mC .non))) mNext)
  (mSeq (mIfS (mOr (mB (mOp (inD not) (mOp subD (mVar 0) (mC (.int 0))) (mC (.tup [(.str "both"), (.str "between"), (.str "offered"), (.str "chosen")])))) (mB (mOp eqD (mVar 1) (mC (.int 0))))) (mRet (mC .non)) mNext)
  (mSeq (mSet 2 (mCall self (mCons (mOp subD (mVar 0) (mC (.int 1))) (mCons (mOp subtD (mVar 1) (mC (.int 1))) mNil))))
  (mSeq (mSet 3 (mIf (mB (mOp notND (mVar 2) (mC .non))) (mCall self (mCons (mOp subD (mVar 0) (mC (.int 2))) (mCons (mOp subtD (mVar 1) (mC (.int 1))) mNil))) (mC .non)))
  (mRet (mIf (mB (mOp isND (mVar 3) (mC .non))) (mC .non) (mOp addD (mCB maxD (mCons (mVar 2) (mCons (mVar 3) mNil))) (mC (.int 1))))))))))
theorem rd_depth_within (n : Nat) (ds : List D) (mu : Mu) (c : Nat) (P : D → Mu → Nat → Prop) (PX : Ex → Mu → Nat → Prop) (h : spn_depth_within (n + 1) ds mu c P PX) : m_depth_within (spn_depth_within n) (S0 ["value", "most", "one", "other"] ["value", "most"] ds mu c) (EF P) (XF PX) := by
  obtain ⟨⟨d, m⟩, rfl, hm, hf, h⟩ := h
  simp only at hm hf h
  have fin : ∀ x : D, optD (depthIn m d) = x → ∃ c', c ≤ c' ∧ P x mu c' := fun x e => ⟨c, Nat.le_refl _, by rw [← e]; exact h⟩
  refine ⟨d, rfl, fineD_ty hf, _, rfl, ?_⟩
  cases d with
  | tup ds =>
    refine iteF ⟨_, rfl, ?_⟩
    refine ⟨by decide, ceq_of (n := 0) (m := 1) rfl rfl, _, rfl, ?_⟩
    rw [len_in]
    match ds, hf, fin with
    | [], hf, fin => exact fin _ (by cases m <;> rfl)
    | [x], hf, fin => exact fin _ (by cases m <;> rfl)
    | x :: y :: z :: u :: r, hf, fin => exact iteT (fin _ (by cases m <;> rfl))
    | [w, x], hf, fin =>
      have hf' : (w.ok 64 && nameFine x) = true := by cases m <;> exact hf
      obtain ⟨hw, hx⟩ := Bool.and_eq_true_iff.mp hf'
      refine iteF ?_
      refine ⟨_, rfl, ceq_of (n := 0) (m := 0) rfl rfl, _, rfl, ?_⟩
      refine iteT ?_
      refine ⟨_, rfl, w, rfl, ceq_of hw leafWs_ok, _, rfl, ?_⟩
      have e0 : depthIn m (.tup [w, x]) = if (leafW w && isNameD x) = true then some 0 else none := by cases m <;> rfl
      refine ite2 (fun c1 => ?_) (fun c1 => ?_)
      · have c1' : leafW w = true := c1
        refine ⟨_, rfl, x, rfl, x, rfl, nameFine_ty hx, nameFine_len hx, _, rfl, ?_⟩
        rw [c1', Bool.true_and] at e0
        refine ite2 (fun c2 => ?_) (fun c2 => ?_)
        · exact fin _ (by rw [e0, if_pos c2]; rfl)
        · exact fin _ (by rw [e0, if_neg c2]; rfl)
      · have c1' : leafW w = false := bF c1
        rw [c1', Bool.false_and] at e0
        exact fin _ (by rw [e0]; rfl)
    | [w, a, b], hf, fin =>
      refine iteF ?_
      refine ⟨_, rfl, ceq_of (n := 0) (m := 0) rfl rfl, _, rfl, ?_⟩
      refine iteF ?_
      have hw : w.ok 64 = true := by cases m <;> first | exact hf | exact (Bool.and_eq_true_iff.mp hf).1
      refine ⟨_, rfl, w, rfl, ceq_of hw halfWs_ok, _, rfl, ?_⟩
      refine ite2 (fun c1 => ?_) (fun c1 => ?_)
      · have c1' : halfW w = false := bN c1
        have e0 : depthIn m (.tup [w, a, b]) = none := by
          cases m with
          | zero => rfl
          | succ m => show (if halfW w = true then _ else none) = none; rw [c1', if_neg Bool.false_ne_true]
        exact fin _ (by rw [e0]; rfl)
      · have c1' : halfW w = true := bT c1
        refine ⟨_, rfl, ceq_of (n := 0) (m := 0) rfl rfl, _, rfl, ?_⟩
        rw [show eqvD (.int (m : Int)) (.int 0) = decide (m = 0) by rw [eqv_int2, Bool.eq_iff_iff]; simp]
        cases m with
        | zero => exact fin _ rfl
        | succ m =>
          refine iteF ?_
          have hf' := Bool.and_eq_true_iff.mp (Bool.and_eq_true_iff.mp hf).2
          have es : ((m + 1 : Nat) : Int) - 1 = (m : Int) := by omega
          have e0 : depthIn (m + 1) (.tup [w, a, b]) = (depthIn m a).bind fun x => (depthIn m b).map fun y => max x y + 1 := by
            show (if halfW w = true then _ else none) = _
            rw [c1', if_pos rfl]
          refine ⟨_, rfl, a, rfl, _, rfl, (a, m), by show [a, D.int (((m + 1 : Nat) : Int) - 1)] = _; rw [es], by show m < n; omega, hf'.1, ?_⟩
          refine ⟨_, rfl, rfl, _, rfl, ?_⟩
          cases ea : depthIn m a with
          | none =>
            rw [ea] at e0
            refine iteF ?_
            refine ⟨_, rfl, rfl, _, rfl, ?_⟩
            exact fin _ (by rw [e0]; rfl)
          | some x =>
            rw [ea] at e0
            refine iteT ?_
            refine ⟨_, rfl, b, rfl, _, rfl, (b, m), by show [b, D.int (((m + 1 : Nat) : Int) - 1)] = _; rw [es], by show m < n; omega, hf'.2, ?_⟩
            refine ⟨_, rfl, rfl, _, rfl, ?_⟩
            cases eb : depthIn m b with
            | none =>
              rw [eb] at e0
              exact fin _ (by rw [e0]; rfl)
            | some y =>
              rw [eb] at e0
              refine iteF ?_
              refine ⟨_, rfl, _, rfl, ?_⟩
              refine fin _ ?_
              rw [e0]
              show D.int ((max x y + 1 : Nat) : Int) = D.int ((if (y : Int) > (x : Int) then (y : Int) else (x : Int)) + 1)
              congr 1
              split <;> omega
  | non => exact iteT (iteT (fin _ (by cases m <;> rfl)))
  | bl b => exact iteT (iteT (fin _ (by cases m <;> rfl)))
  | int b => exact iteT (iteT (fin _ (by cases m <;> rfl)))
  | str b => exact iteT (iteT (fin _ (by cases m <;> rfl)))
  | lst b => exact iteT (iteT (fin _ (by cases m <;> rfl)))
  | dct b => exact iteT (iteT (fin _ (by cases m <;> rfl)))
  | pen => have := fineD_ty hf; cases this
  | ref a => have := fineD_ty hf; cases this
-- @hash 50981e59
def isFormD (d : D) : Bool := (depthIn 12 d).isSome
def sp_is_form : DSp := fun ds mu c P PX => ∃ d, ds = [d] ∧ fineD 12 d = true ∧ P (.bl (isFormD d)) mu c
def m_is_form : MS := (mRet (mOp notND (mCall sp_depth_within (mCons (mVar 0) (mCons (mC (.int 12)) mNil))) (mC .non)))
theorem rd_is_form (ds : List D) (mu : Mu) (c : Nat) (P : D → Mu → Nat → Prop) (PX : Ex → Mu → Nat → Prop) (h : sp_is_form ds mu c P PX) : m_is_form (S0 ["value"] ["value"] ds mu c) (EF P) (XF PX) := by
  obtain ⟨d, rfl, hf, h⟩ := h
  refine ⟨d, rfl, (d, 12), rfl, (by show 12 < 14; decide), hf, rfl, c, Nat.le_refl _, ?_⟩
  have e : (!(optD (depthIn 12 d)).isN) = isFormD d := by
    unfold isFormD
    cases depthIn 12 d <;> rfl
  rw [e]
  exact h
-- @hash 770c8a2f
def sp_need_form : DSp := fun ds mu c P PX => ∃ d, ds = [d] ∧ fineD 12 d = true ∧ if isFormD d = true then P .non mu c else PX ⟨"BadValue", [("value", d)]⟩ mu c
def m_need_form : MS := (mIfS (mNot (mB (mCall sp_is_form (mCons (mVar 0) mNil)))) (mRaise "BadValue" "value" (mVar 0)) mNext)
theorem rd_need_form (ds : List D) (mu : Mu) (c : Nat) (P : D → Mu → Nat → Prop) (PX : Ex → Mu → Nat → Prop) (h : sp_need_form ds mu c P PX) : m_need_form (S0 ["value"] ["value"] ds mu c) (EF P) (XF PX) := by
  obtain ⟨d, rfl, hf, h⟩ := h
  refine ⟨d, rfl, d, rfl, hf, _, rfl, ?_⟩
  cases e : isFormD d with
  | true =>
    rw [e, if_pos rfl] at h
    exact iteF ⟨c, Nat.le_refl _, h⟩
  | false =>
    rw [e, if_neg Bool.false_ne_true] at h
    exact iteT ⟨d, rfl, c, Nat.le_refl _, h⟩
-- @hash eb7698ed
def sp_is_leaf : DSp := fun ds mu c P PX => ∃ q : D × List D, ds = [.tup (q.1 :: q.2)] ∧ q.1.ok 64 = true ∧ P (.bl (leafW q.1)) mu c
def m_is_leaf : MS := (mRet (mOp (inD id) (mOp subD (mVar 0) (mC (.int 0))) (mC (.tup [(.str "good"), (.str "counter")]))))
theorem rd_is_leaf (ds : List D) (mu : Mu) (c : Nat) (P : D → Mu → Nat → Prop) (PX : Ex → Mu → Nat → Prop) (h : sp_is_leaf ds mu c P PX) : m_is_leaf (S0 ["form"] ["form"] ds mu c) (EF P) (XF PX) := by
  obtain ⟨⟨w, r⟩, rfl, hw, h⟩ := h
  exact ⟨_, rfl, w, atI_nat (j := 0) rfl, ceq_of hw leafWs_ok, c, Nat.le_refl _, h⟩
/-- at a form -/
theorem Fm.cons (f : Fm) : ∃ w r, f.toD = .tup (.str w :: r) := by cases f <;> exact ⟨_, _, rfl⟩
theorem word_ok {w : Str} (h : leafW (.str w) = true ∨ halfW (.str w) = true) (n : Nat) : (D.str w).ok n = true := by
  rcases h with h | h
  · exact ok_ascS (leafW_asc h).1 n
  · exact ok_ascS (halfW_asc h).1 n
theorem leaf_half {w : Str} (h : halfW (.str w) = true) : leafW (.str w) = false := by
  rcases halfW_str h with rfl | rfl | rfl | rfl <;> decide +kernel
-- @hash f391582a
-- @rec 14
def spn_counter_of (n : Nat) : DSp := fun ds mu c P PX => ∃ f : Fm, ds = [f.toD] ∧ f.depth < n ∧ f.ok = true ∧ P f.neg.toD mu c
def sp_counter_of : DSp := spn_counter_of 14
theorem half_at {w : Str} (h : halfW (.str w) = true) : ∃ j : Nat, ([Str.ofString "both", Str.ofString "between", Str.ofString "offered", Str.ofString "chosen"] : List Str)[j]? = some w ∧ (∀ m, m < j → ([Str.ofString "both", Str.ofString "between", Str.ofString "offered", Str.ofString "chosen"] : List Str)[m]? ≠ some w) ∧ ([D.str (Str.ofString "between"), D.str (Str.ofString "both"), D.str (Str.ofString "chosen"), D.str (Str.ofString "offered")] : List D)[j]? = some (.str (negW w)) := by
  rcases halfW_str h with rfl | rfl | rfl | rfl
  · exact ⟨0, rfl, fun m hm => by omega, by rw [show negW "both" = Str.ofString "between" by decide +kernel]; rfl⟩
  · refine ⟨1, rfl, fun m hm => ?_, by rw [show negW "between" = Str.ofString "both" by decide +kernel]; rfl⟩
    obtain rfl : m = 0 := by omega
    decide +kernel
  · refine ⟨2, rfl, fun m hm => ?_, by rw [show negW "offered" = Str.ofString "chosen" by decide +kernel]; rfl⟩
    obtain rfl | rfl : m = 0 ∨ m = 1 := by omega
    all_goals decide +kernel
  · refine ⟨3, rfl, fun m hm => ?_, by rw [show negW "chosen" = Str.ofString "offered" by decide +kernel]; rfl⟩
    obtain rfl | rfl | rfl : m = 0 ∨ m = 1 ∨ m = 2 := by omega
    all_goals decide +kernel
def m_counter_of (self : DSp) : MS := (mSeq (mIfS (mB (mCall sp_is_leaf (mCons (mVar 0) mNil))) (mRet (mTup (mCons (mIf (mB (mOp eqD (mOp subD (mVar 0) (mC (.int 0))) (mC (.str "good")))) (mC (.str "counter")) (mC (.str "good"))) (mCons (mOp subD (mVar 0) (mC (.int 1))) mNil)))) mNext)
  (mRet (mTup (mCons (mOp subD (mC (.tup [(.str "between"), (.str "both"), (.str "chosen"), (.str "offered")])) (mUn (indexG ["both", "between", "offered", "chosen"]) (mOp subD (mVar 0) (mC (.int 0))))) (mCons (mCall self (mCons (mOp subD (mVar 0) (mC (.int 1))) mNil)) (mCons (mCall self (mCons (mOp subD (mVar 0) (mC (.int 2))) mNil)) mNil))))))
theorem rd_counter_of (n : Nat) (ds : List D) (mu : Mu) (c : Nat) (P : D → Mu → Nat → Prop) (PX : Ex → Mu → Nat → Prop) (h : spn_counter_of (n + 1) ds mu c P PX) : m_counter_of (spn_counter_of n) (S0 ["form"] ["form"] ds mu c) (EF P) (XF PX) := by
  obtain ⟨f, rfl, hn, ho, h⟩ := h
  cases f with
  | leaf w x =>
    have hw1 := (Bool.and_eq_true_iff.mp ho).1
    refine ⟨_, rfl, (.str w, [.str x]), rfl, word_ok (.inl hw1) 64, _, rfl, ?_⟩
    refine iteTh hw1 ⟨_, rfl, _, rfl, ceq_of (m := 0) (word_ok (.inl hw1) 0) (by decide +kernel), _, rfl, ?_⟩
    rw [eqv_word]
    have h : P (.tup [.str (if w = "good" then "counter" else "good"), .str x]) mu c := h
    by_cases e : w = "good"
    · rw [if_pos e] at h
      exact iteTh (decide_eq_true e) ⟨_, rfl, _, rfl, shortL 2 rfl, c, Nat.le_refl _, h⟩
    · rw [if_neg e] at h
      exact iteFh (decide_eq_false e) ⟨_, rfl, _, rfl, shortL 2 rfl, c, Nat.le_refl _, h⟩
  | node w a b =>
    have hw1 := (Bool.and_eq_true_iff.mp ho).1
    refine ⟨_, rfl, (.str w, [a.toD, b.toD]), rfl, word_ok (.inr hw1) 64, _, rfl, ?_⟩
    obtain ⟨hw, ho2⟩ := Bool.and_eq_true_iff.mp ho
    obtain ⟨hoa, hob⟩ := Bool.and_eq_true_iff.mp ho2
    obtain ⟨j, j1, j2, j3⟩ := half_at hw
    have hd : max a.depth b.depth + 1 < n + 1 := hn
    refine iteFh (leaf_half hw1) ⟨_, rfl, _, rfl, j, j1, j2, _, atI_nat j3, ?_⟩
    exact ⟨_, rfl, _, rfl, a, rfl, by omega, hoa, _, rfl, _, rfl, b, rfl, by omega, hob, shortL 3 rfl, c, Nat.le_refl _, h⟩
-- @hash 6e601ba4
-- @rec 14
def spn_kind_within (n : Nat) : DSp := fun ds mu c P PX => ∃ dm : D × Nat, ds = [dm.1, .int dm.2] ∧ dm.2 < n ∧ fineD dm.2 dm.1 = true ∧ P (.bl (kindIn dm.2 dm.1)) mu c
def sp_kind_within : DSp := spn_kind_within 14
def m_kind_within (self : DSp) : MS := (mSeq (mIfS (mOr (mNot (mB (mIsi "tuple" (mVar 0)))) (mB (mOp (inD not) (mCB lenD (mCons (mVar 0) mNil)) (mTup (mCons (mC (.int 2)) (mCons (mC (.int 3)) mNil)))))) (mRet (mC (.bl false))) mNext)
  (mSeq (mIfS (mB (mOp eqD (mCB lenD (mCons (mVar 0) mNil)) (mC (.int 2)))) (mRet (mAndV (mOp eqD (mOp subD (mVar 0) (mC (.int 0))) (mC (.str "good"))) (mCall sp_is_name (mCons (mOp subD (mVar 0) (mC (.int 1))) mNil)))) mNext)
  (mSeq (mIfS (mOr (mB (mOp (inD not) (mOp subD (mVar 0) (mC (.int 0))) (mC (.tup [(.str "pair"), (.str "sum"), (.str "offer"), (.str "to")])))) (mB (mOp eqD (mVar 1) (mC (.int 0))))) (mRet (mC (.bl false))) mNext)
  (mRet (mAndV (mCall self (mCons (mOp subD (mVar 0) (mC (.int 1))) (mCons (mOp subtD (mVar 1) (mC (.int 1))) mNil))) (mCall self (mCons (mOp subD (mVar 0) (mC (.int 2))) (mCons (mOp subtD (mVar 1) (mC (.int 1))) mNil))))))))
theorem rd_kind_within (n : Nat) (ds : List D) (mu : Mu) (c : Nat) (P : D → Mu → Nat → Prop) (PX : Ex → Mu → Nat → Prop) (h : spn_kind_within (n + 1) ds mu c P PX) : m_kind_within (spn_kind_within n) (S0 ["value", "most"] ["value", "most"] ds mu c) (EF P) (XF PX) := by
  obtain ⟨⟨d, m⟩, rfl, hm, hf, h⟩ := h
  simp only at hm hf h
  have fin : ∀ x : Bool, kindIn m d = x → ∃ c', c ≤ c' ∧ P (.bl x) mu c' := fun x e => ⟨c, Nat.le_refl _, by rw [← e]; exact h⟩
  refine ⟨d, rfl, fineD_ty hf, _, rfl, ?_⟩
  cases d with
  | tup ds =>
    refine iteF ⟨_, rfl, ?_⟩
    refine ⟨by decide, ceq_of (n := 0) (m := 1) rfl rfl, _, rfl, ?_⟩
    rw [len_in]
    match ds, hf, fin with
    | [], hf, fin => exact fin _ (by cases m <;> rfl)
    | [x], hf, fin => exact fin _ (by cases m <;> rfl)
    | x :: y :: z :: u :: r, hf, fin => exact iteT (fin _ (by cases m <;> rfl))
    | [w, x], hf, fin =>
      have hf' : (w.ok 64 && nameFine x) = true := by cases m <;> exact hf
      obtain ⟨hw, hx⟩ := Bool.and_eq_true_iff.mp hf'
      refine iteF ?_
      refine ⟨_, rfl, ceq_of (n := 0) (m := 0) rfl rfl, _, rfl, ?_⟩
      refine iteT ?_
      refine ⟨_, rfl, w, rfl, ceq_of (m := 0) hw (by decide +kernel), _, rfl, ?_⟩
      have e0 : kindIn m (.tup [w, x]) = (eqvD w (.str "good") && isNameD x) := by cases m <;> rfl
      refine ite2 (fun c1 => ?_) (fun c1 => ?_)
      · refine ⟨_, rfl, x, rfl, x, rfl, nameFine_ty hx, nameFine_len hx, ?_⟩
        exact fin _ (by rw [e0, show eqvD w (.str "good") = true from c1, Bool.true_and])
      · exact fin _ (by rw [e0, show eqvD w (.str "good") = false from bF c1, Bool.false_and])
    | [w, a, b], hf, fin =>
      refine iteF ?_
      refine ⟨_, rfl, ceq_of (n := 0) (m := 0) rfl rfl, _, rfl, ?_⟩
      refine iteF ?_
      have hw : w.ok 64 = true := by cases m <;> first | exact hf | exact (Bool.and_eq_true_iff.mp hf).1
      refine ⟨_, rfl, w, rfl, ceq_of hw kindWs_ok, _, rfl, ?_⟩
      refine ite2 (fun c1 => ?_) (fun c1 => ?_)
      · have c1' : kindW w = false := bN c1
        have e0 : kindIn m (.tup [w, a, b]) = false := by
          cases m with
          | zero => rfl
          | succ m => show (kindW w && _) = false; rw [c1', Bool.false_and]
        exact fin _ e0
      · have c1' : kindW w = true := bT c1
        refine ⟨_, rfl, ceq_of (n := 0) (m := 0) rfl rfl, _, rfl, ?_⟩
        rw [show eqvD (.int (m : Int)) (.int 0) = decide (m = 0) by rw [eqv_int2, Bool.eq_iff_iff]; simp]
        cases m with
        | zero => exact fin _ rfl
        | succ m =>
          refine iteF ?_
          have hf' := Bool.and_eq_true_iff.mp (Bool.and_eq_true_iff.mp hf).2
          have es : ((m + 1 : Nat) : Int) - 1 = (m : Int) := by omega
          have e0 : kindIn (m + 1) (.tup [w, a, b]) = (kindIn m a && kindIn m b) := by
            show (kindW w && (kindIn m a && kindIn m b)) = _
            rw [c1', Bool.true_and]
          refine ⟨_, rfl, a, rfl, _, rfl, (a, m), by show [a, D.int (((m + 1 : Nat) : Int) - 1)] = _; rw [es], by show m < n; omega, hf'.1, _, rfl, ?_⟩
          refine ite2 (fun c2 => ?_) (fun c2 => ?_)
          · refine ⟨_, rfl, b, rfl, _, rfl, (b, m), by show [b, D.int (((m + 1 : Nat) : Int) - 1)] = _; rw [es], by show m < n; omega, hf'.2, ?_⟩
            exact fin _ (by rw [e0, show kindIn m a = true from c2, Bool.true_and])
          · exact fin _ (by rw [e0, show kindIn m a = false from bF c2, Bool.false_and])
  | non => exact iteT (iteT (fin _ (by cases m <;> rfl)))
  | bl b => exact iteT (iteT (fin _ (by cases m <;> rfl)))
  | int b => exact iteT (iteT (fin _ (by cases m <;> rfl)))
  | str b => exact iteT (iteT (fin _ (by cases m <;> rfl)))
  | lst b => exact iteT (iteT (fin _ (by cases m <;> rfl)))
  | dct b => exact iteT (iteT (fin _ (by cases m <;> rfl)))
  | pen => have := fineD_ty hf; cases this
  | ref a => have := fineD_ty hf; cases this
-- @hash c0c8de95
def sp_is_kind : DSp := fun ds mu c P PX => ∃ d, ds = [d] ∧ fineD 12 d = true ∧ P (.bl (isKindD d)) mu c
def m_is_kind : MS := (mRet (mCall sp_kind_within (mCons (mVar 0) (mCons (mC (.int 12)) mNil))))
theorem rd_is_kind (ds : List D) (mu : Mu) (c : Nat) (P : D → Mu → Nat → Prop) (PX : Ex → Mu → Nat → Prop) (h : sp_is_kind ds mu c P PX) : m_is_kind (S0 ["value"] ["value"] ds mu c) (EF P) (XF PX) := by
  obtain ⟨d, rfl, hf, h⟩ := h
  exact ⟨d, rfl, (d, 12), rfl, (by show 12 < 14; decide), hf, c, Nat.le_refl _, h⟩
-- @hash 3e12f02d
def sp_need_kind : DSp := fun ds mu c P PX => ∃ d, ds = [d] ∧ fineD 12 d = true ∧ if isKindD d = true then P .non mu c else PX ⟨"BadValue", [("value", d)]⟩ mu c
def m_need_kind : MS := (mIfS (mNot (mB (mCall sp_is_kind (mCons (mVar 0) mNil)))) (mRaise "BadValue" "value" (mVar 0)) mNext)
theorem rd_need_kind (ds : List D) (mu : Mu) (c : Nat) (P : D → Mu → Nat → Prop) (PX : Ex → Mu → Nat → Prop) (h : sp_need_kind ds mu c P PX) : m_need_kind (S0 ["value"] ["value"] ds mu c) (EF P) (XF PX) := by
  obtain ⟨d, rfl, hf, h⟩ := h
  refine ⟨d, rfl, d, rfl, hf, _, rfl, ?_⟩
  cases e : isKindD d with
  | true =>
    rw [e, if_pos rfl] at h
    exact iteF ⟨c, Nat.le_refl _, h⟩
  | false =>
    rw [e, if_neg Bool.false_ne_true] at h
    exact iteT ⟨d, rfl, c, Nat.le_refl _, h⟩
-- @hash 8e6285b1
-- @rec 14
def spn_form_from (n : Nat) : DSp := fun ds mu c P PX => ∃ k : Fm, ds = [k.toD] ∧ k.depth < n ∧ k.depth ≤ 12 ∧ k.kok = true ∧ P k.form.toD mu c
def sp_form_from : DSp := spn_form_from 14
theorem kind_at {w : Str} (h : kindW (.str w) = true) (h2 : w ≠ "to") : ∃ j : Nat, ([Str.ofString "pair", Str.ofString "sum", Str.ofString "offer", Str.ofString "to"] : List Str)[j]? = some w ∧ (∀ m, m < j → ([Str.ofString "pair", Str.ofString "sum", Str.ofString "offer", Str.ofString "to"] : List Str)[m]? ≠ some w) ∧ ([D.str (Str.ofString "both"), D.str (Str.ofString "chosen"), D.str (Str.ofString "offered")] : List D)[j]? = some (.str (fw w)) := by
  rcases kindW_str h with rfl | rfl | rfl | rfl
  · exact ⟨0, rfl, fun m hm => by omega, by rw [show fw "pair" = Str.ofString "both" by decide +kernel]; rfl⟩
  · refine ⟨1, rfl, fun m hm => ?_, by rw [show fw "sum" = Str.ofString "chosen" by decide +kernel]; rfl⟩
    obtain rfl : m = 0 := by omega
    decide +kernel
  · refine ⟨2, rfl, fun m hm => ?_, by rw [show fw "offer" = Str.ofString "offered" by decide +kernel]; rfl⟩
    obtain rfl | rfl : m = 0 ∨ m = 1 := by omega
    all_goals decide +kernel
  · exact absurd rfl h2
theorem kword_ok {w : Str} (h : kindW (.str w) = true) (n : Nat) : (D.str w).ok n = true := ok_ascS (kindW_asc h).1 n
def m_form_from (self : DSp) : MS := (mSeq (mIfS (mB (mOp eqD (mOp subD (mVar 0) (mC (.int 0))) (mC (.str "good")))) (mRet (mVar 0)) mNext)
  (mSeq (mPar 1 2 (mCons (mCall self (mCons (mOp subD (mVar 0) (mC (.int 1))) mNil)) (mCons (mCall self (mCons (mOp subD (mVar 0) (mC (.int 2))) mNil)) mNil)))
  (mSeq (mIfS (mB (mOp eqD (mOp subD (mVar 0) (mC (.int 0))) (mC (.str "to")))) (mRet (mTup (mCons (mC (.str "between")) (mCons (mCall sp_counter_of (mCons (mVar 1) mNil)) (mCons (mVar 2) mNil))))) mNext)
  (mRet (mTup (mCons (mOp subD (mC (.tup [(.str "both"), (.str "chosen"), (.str "offered")])) (mUn (indexG ["pair", "sum", "offer", "to"]) (mOp subD (mVar 0) (mC (.int 0))))) (mCons (mVar 1) (mCons (mVar 2) mNil))))))))
theorem rd_form_from (n : Nat) (ds : List D) (mu : Mu) (c : Nat) (P : D → Mu → Nat → Prop) (PX : Ex → Mu → Nat → Prop) (h : spn_form_from (n + 1) ds mu c P PX) : m_form_from (spn_form_from n) (S0 ["kind", "one", "other"] ["kind"] ds mu c) (EF P) (XF PX) := by
  obtain ⟨k, rfl, hn, h12, ho, h⟩ := h
  cases k with
  | leaf w x =>
    have hw1 := of_decide_eq_true (Bool.and_eq_true_iff.mp ho).1
    subst hw1
    refine ⟨_, rfl, _, rfl, ceq_of (n := 0) (m := 0) (by decide +kernel) (by decide +kernel), _, rfl, ?_⟩
    exact iteTh (eqv_word.trans (by decide +kernel)) ⟨_, rfl, c, Nat.le_refl _, h⟩
  | node w a b =>
    obtain ⟨hw, ho2⟩ := Bool.and_eq_true_iff.mp ho
    obtain ⟨hoa, hob⟩ := Bool.and_eq_true_iff.mp ho2
    have hd : max a.depth b.depth + 1 < n + 1 := hn
    have hd2 : max a.depth b.depth + 1 ≤ 12 := h12
    have ng : w ≠ "good" := by rcases kindW_str hw with rfl | rfl | rfl | rfl <;> decide +kernel
    refine ⟨_, rfl, _, rfl, ceq_of (m := 0) (kword_ok hw 64) (by decide +kernel), _, rfl, ?_⟩
    refine iteFh (eqv_word.trans (decide_eq_false ng)) ?_
    refine ⟨_, rfl, _, rfl, a, rfl, by omega, by omega, hoa, _, rfl, _, rfl, b, rfl, by omega, by omega, hob, _, _, rfl, ?_⟩
    refine ⟨_, rfl, _, rfl, ceq_of (m := 0) (kword_ok hw 64) (by decide +kernel), _, rfl, ?_⟩
    rw [eqv_word]
    rw [Fm.form_node] at h
    by_cases e : w = "to"
    · rw [if_pos e] at h
      refine iteTh (decide_eq_true e) ?_
      exact ⟨_, rfl, a.form, rfl, by rw [Fm.form_depth]; omega, Fm.form_ok a hoa, _, rfl, shortL 3 rfl, c, Nat.le_refl _, h⟩
    · rw [if_neg e] at h
      obtain ⟨j, j1, j2, j3⟩ := kind_at hw e
      refine iteFh (decide_eq_false e) ?_
      exact ⟨_, rfl, _, rfl, j, j1, j2, _, atI_nat j3, _, rfl, _, rfl, shortL 3 rfl, c, Nat.le_refl _, h⟩
-- @hash 0a9af1d9
/-- a def that wants a kind -/
def spK (g : Fm → D) : DSp := fun ds mu c P PX => ∃ d, ds = [d] ∧ fineD 12 d = true ∧ (isKindD d = false → PX ⟨"BadValue", [("value", d)]⟩ mu c) ∧ (isKindD d = true → ∃ k : Fm, d = k.toD ∧ k.kok = true ∧ k.depth ≤ 12 ∧ k.leaves.length ≤ 60 ∧ P (g k) mu c)
def sp_form_of_kind : DSp := spK fun k => k.form.toD
def m_form_of_kind : MS := (mSeq (mDrop (mCall sp_need_kind (mCons (mVar 0) mNil)))
  (mRet (mCall sp_form_from (mCons (mVar 0) mNil))))
theorem rd_form_of_kind (ds : List D) (mu : Mu) (c : Nat) (P : D → Mu → Nat → Prop) (PX : Ex → Mu → Nat → Prop) (h : sp_form_of_kind ds mu c P PX) : m_form_of_kind (S0 ["kind"] ["kind"] ds mu c) (EF P) (XF PX) := by
  obtain ⟨d, rfl, hf, h0, h1⟩ := h
  refine ⟨d, rfl, d, rfl, hf, ?_⟩
  cases e : isKindD d with
  | false =>
    rw [if_neg Bool.false_ne_true]
    exact ⟨c, Nat.le_refl _, h0 e⟩
  | true =>
    rw [if_pos rfl]
    obtain ⟨k, rfl, ho, hd, hl, hp⟩ := h1 e
    exact ⟨_, rfl, k, rfl, by omega, hd, ho, c, Nat.le_refl _, hp⟩
-- @hash cf0dd73b
-- @rec 14
def spn_kind_from (n : Nat) : DSp := fun ds mu c P PX => ∃ f : Fm, ds = [f.toD] ∧ f.depth < n ∧ f.depth ≤ 12 ∧ f.ok = true ∧ P (optK (Fm.kind false f)) mu c
def sp_kind_from : DSp := spn_kind_from 14
theorem kindf_at {w : Str} (h : halfW (.str w) = true) (h2 : w ≠ "between") : ∃ j : Nat, ([Str.ofString "both", Str.ofString "chosen", Str.ofString "offered"] : List Str)[j]? = some w ∧ (∀ m, m < j → ([Str.ofString "both", Str.ofString "chosen", Str.ofString "offered"] : List Str)[m]? ≠ some w) ∧ ([D.str (Str.ofString "pair"), D.str (Str.ofString "sum"), D.str (Str.ofString "offer"), D.str (Str.ofString "to")] : List D)[j]? = some (.str (kw w)) := by
  rcases halfW_str h with rfl | rfl | rfl | rfl
  · exact ⟨0, rfl, fun m hm => by omega, by rw [show kw "both" = Str.ofString "pair" by decide +kernel]; rfl⟩
  · exact absurd rfl h2
  · refine ⟨2, rfl, fun m hm => ?_, by rw [show kw "offered" = Str.ofString "offer" by decide +kernel]; rfl⟩
    obtain rfl | rfl : m = 0 ∨ m = 1 := by omega
    all_goals decide +kernel
  · refine ⟨1, rfl, fun m hm => ?_, by rw [show kw "chosen" = Str.ofString "sum" by decide +kernel]; rfl⟩
    obtain rfl : m = 0 := by omega
    decide +kernel
theorem optK_non (o : Option Fm) : (optK o).isN = o.isNone := by
  cases o with
  | none => rfl
  | some f => cases f <;> rfl
def m_kind_from (self : DSp) : MS := (mSeq (mIfS (mB (mOp eqD (mCB lenD (mCons (mVar 0) mNil)) (mC (.int 2)))) (mRet (mIf (mB (mOp eqD (mOp subD (mVar 0) (mC (.int 0))) (mC (.str "good")))) (mVar 0) (mC .non))) mNext)
  (mSeq (mIfS (mB (mOp eqD (mOp subD (mVar 0) (mC (.int 0))) (mC (.str "between")))) (mPar 1 2 (mCons (mC (.str "to")) (mCons (mCall self (mCons (mCall sp_counter_of (mCons (mOp subD (mVar 0) (mC (.int 1))) mNil)) mNil)) mNil))) (mPar 1 2 (mCons (mOp subD (mC (.tup [(.str "pair"), (.str "sum"), (.str "offer"), (.str "to")])) (mUn (indexG ["both", "chosen", "offered"]) (mOp subD (mVar 0) (mC (.int 0))))) (mCons (mCall self (mCons (mOp subD (mVar 0) (mC (.int 1))) mNil)) mNil))))
  (mSeq (mSet 3 (mIf (mB (mOp notND (mVar 2) (mC .non))) (mCall self (mCons (mOp subD (mVar 0) (mC (.int 2))) mNil)) (mC .non)))
  (mRet (mIf (mB (mOp isND (mVar 3) (mC .non))) (mC .non) (mTup (mCons (mVar 1) (mCons (mVar 2) (mCons (mVar 3) mNil)))))))))
theorem rd_kind_from (n : Nat) (ds : List D) (mu : Mu) (c : Nat) (P : D → Mu → Nat → Prop) (PX : Ex → Mu → Nat → Prop) (h : spn_kind_from (n + 1) ds mu c P PX) : m_kind_from (spn_kind_from n) (S0 ["form", "word", "one", "other"] ["form"] ds mu c) (EF P) (XF PX) := by
  obtain ⟨f, rfl, hn, h12, ho, h⟩ := h
  cases f with
  | leaf w x =>
    have hw1 := (Bool.and_eq_true_iff.mp ho).1
    refine ⟨_, rfl, ceq_of (n := 0) (m := 0) rfl rfl, _, rfl, iteT ?_⟩
    refine ⟨_, rfl, _, rfl, ceq_of (m := 0) (word_ok (.inl hw1) 0) (by decide +kernel), _, rfl, ?_⟩
    rw [eqv_word]
    have h : P (optK (if (decide (w = "good")) != false then some (.leaf "good" x) else none)) mu c := h
    by_cases e : w = "good"
    · rw [decide_eq_true e, if_pos (show (true != false) = true from rfl)] at h
      subst e
      exact iteTh (decide_eq_true rfl) ⟨_, rfl, c, Nat.le_refl _, h⟩
    · rw [decide_eq_false e, if_neg (show ¬ (false != false) = true by decide)] at h
      exact iteFh (decide_eq_false e) ⟨c, Nat.le_refl _, h⟩
  | node w a b =>
    obtain ⟨hw, ho2⟩ := Bool.and_eq_true_iff.mp ho
    obtain ⟨hoa, hob⟩ := Bool.and_eq_true_iff.mp ho2
    have hd : max a.depth b.depth + 1 < n + 1 := hn
    have hd2 : max a.depth b.depth + 1 ≤ 12 := h12
    have hka := Fm.kind_neg a false hoa
    refine ⟨_, rfl, ceq_of (n := 0) (m := 0) rfl rfl, _, rfl, iteF ?_⟩
    refine ⟨_, rfl, _, rfl, ceq_of (m := 0) (word_ok (.inr hw) 64) (by decide +kernel), _, rfl, ?_⟩
    rw [eqv_word]
    rw [Fm.kind_node] at h
    simp only [Bool.false_eq_true, if_false, Bool.not_false] at h
    have fin : ∀ (v : Str) (o : Option Fm), P (optK (o.bind fun x => (Fm.kind false b).map fun y => .node v x y)) mu c →
        (mSeq (mSet 3 (mIf (mB (mOp notND (mVar 2) (mC .non))) (mCall (spn_kind_from n) (mCons (mOp subD (mVar 0) (mC (.int 2))) mNil)) (mC .non)))
          (mRet (mIf (mB (mOp isND (mVar 3) (mC .non))) (mC .non) (mTup (mCons (mVar 1) (mCons (mVar 2) (mCons (mVar 3) mNil)))))) : MS) ⟨[some (Fm.node w a b).toD, some (.str v), some (optK o), none], mu, c⟩ (EF P) (XF PX) := by
      intro v o h
      refine ⟨_, rfl, rfl, _, rfl, ?_⟩
      rw [optK_non]
      cases o with
      | none => exact iteF ⟨_, rfl, rfl, _, rfl, iteT ⟨c, Nat.le_refl _, h⟩⟩
      | some x =>
        refine iteT ⟨_, rfl, _, rfl, b, rfl, by omega, by omega, hob, ?_⟩
        refine ⟨_, rfl, rfl, _, rfl, ?_⟩
        rw [optK_non]
        cases eb : Fm.kind false b with
        | none => rw [eb] at h; exact iteT ⟨c, Nat.le_refl _, h⟩
        | some y => rw [eb] at h; exact iteF ⟨_, rfl, _, rfl, _, rfl, shortL 3 rfl, c, Nat.le_refl _, h⟩
    by_cases e : w = "between"
    · rw [if_pos e] at h
      refine iteTh (decide_eq_true e) ?_
      refine ⟨_, rfl, _, rfl, a, rfl, by omega, hoa, a.neg, rfl, by rw [Fm.neg_depth]; omega, by rw [Fm.neg_depth]; omega, Fm.neg_ok a hoa, _, _, rfl, ?_⟩
      rw [hka]
      exact fin _ _ h
    · rw [if_neg e] at h
      refine iteFh (decide_eq_false e) ?_
      obtain ⟨j, j1, j2, j3⟩ := kindf_at hw e
      refine ⟨_, rfl, _, rfl, j, j1, j2, _, atI_nat j3, _, rfl, _, rfl, a, rfl, by omega, by omega, hoa, _, _, rfl, ?_⟩
      exact fin _ _ h
-- @hash 45f32de4
/-- a def that wants a form -/
def spFo (g : Fm → D) : DSp := fun ds mu c P PX => ∃ d, ds = [d] ∧ fineD 12 d = true ∧ (isFormD d = false → PX ⟨"BadValue", [("value", d)]⟩ mu c) ∧ (isFormD d = true → ∃ k : Fm, d = k.toD ∧ k.ok = true ∧ k.depth ≤ 12 ∧ P (g k) mu c)
def sp_kind_of_form : DSp := spFo fun f => optK (Fm.kind false f)
def m_kind_of_form : MS := (mSeq (mDrop (mCall sp_need_form (mCons (mVar 0) mNil)))
  (mRet (mCall sp_kind_from (mCons (mVar 0) mNil))))
theorem rd_kind_of_form (ds : List D) (mu : Mu) (c : Nat) (P : D → Mu → Nat → Prop) (PX : Ex → Mu → Nat → Prop) (h : sp_kind_of_form ds mu c P PX) : m_kind_of_form (S0 ["form"] ["form"] ds mu c) (EF P) (XF PX) := by
  obtain ⟨d, rfl, hf, h0, h1⟩ := h
  refine ⟨d, rfl, d, rfl, hf, ?_⟩
  cases e : isFormD d with
  | false =>
    rw [if_neg Bool.false_ne_true]
    exact ⟨c, Nat.le_refl _, h0 e⟩
  | true =>
    rw [if_pos rfl]
    obtain ⟨k, rfl, ho, hd, hp⟩ := h1 e
    exact ⟨_, rfl, k, rfl, by omega, hd, ho, c, Nat.le_refl _, hp⟩
-- @hash dd18c7c8
def sp_kind_taken : DSp := spFo fun f => optK (Fm.kind true f)
def m_kind_taken : MS := (mSeq (mDrop (mCall sp_need_form (mCons (mVar 0) mNil)))
  (mRet (mCall sp_kind_from (mCons (mCall sp_counter_of (mCons (mVar 0) mNil)) mNil))))
theorem rd_kind_taken (ds : List D) (mu : Mu) (c : Nat) (P : D → Mu → Nat → Prop) (PX : Ex → Mu → Nat → Prop) (h : sp_kind_taken ds mu c P PX) : m_kind_taken (S0 ["form"] ["form"] ds mu c) (EF P) (XF PX) := by
  obtain ⟨d, rfl, hf, h0, h1⟩ := h
  refine ⟨d, rfl, d, rfl, hf, ?_⟩
  cases e : isFormD d with
  | false =>
    rw [if_neg Bool.false_ne_true]
    exact ⟨c, Nat.le_refl _, h0 e⟩
  | true =>
    rw [if_pos rfl]
    obtain ⟨k, rfl, ho, hd, hp⟩ := h1 e
    refine ⟨_, rfl, k, rfl, by omega, ho, k.neg, rfl, by rw [Fm.neg_depth]; omega, by rw [Fm.neg_depth]; omega, Fm.neg_ok k ho, c, Nat.le_refl _, ?_⟩
    rw [Fm.kind_neg k false ho]
    exact hp
-- @hash 61329720
-- @rec 14
def spn_names_in (n : Nat) : DSp := fun ds mu c P PX => ∃ k : Fm, ds = [k.toD] ∧ k.depth < n ∧ k.nms.length ≤ 60 ∧ P (.lst (k.nms.map D.str)) mu c
def sp_names_in : DSp := spn_names_in 14
def m_names_in (self : DSp) : MS := (mRet (mIf (mB (mOp eqD (mCB lenD (mCons (mVar 0) mNil)) (mC (.int 2)))) (mLst (mCons (mOp subD (mVar 0) (mC (.int 1))) mNil)) (mOp addD (mCall self (mCons (mOp subD (mVar 0) (mC (.int 1))) mNil)) (mCall self (mCons (mOp subD (mVar 0) (mC (.int 2))) mNil)))))
theorem rd_names_in (n : Nat) (ds : List D) (mu : Mu) (c : Nat) (P : D → Mu → Nat → Prop) (PX : Ex → Mu → Nat → Prop) (h : spn_names_in (n + 1) ds mu c P PX) : m_names_in (spn_names_in n) (S0 ["kind"] ["kind"] ds mu c) (EF P) (XF PX) := by
  obtain ⟨k, rfl, hn, hl, h⟩ := h
  cases k with
  | leaf w x =>
    refine ⟨_, rfl, ceq_of (n := 0) (m := 0) rfl rfl, _, rfl, iteT ?_⟩
    exact ⟨_, rfl, _, rfl, shortL 1 rfl, c, Nat.le_refl _, h⟩
  | node w a b =>
    have hd : max a.depth b.depth + 1 < n + 1 := hn
    have hl2 : (a.nms ++ b.nms).length ≤ 60 := hl
    rw [List.length_append] at hl2
    refine ⟨_, rfl, ceq_of (n := 0) (m := 0) rfl rfl, _, rfl, iteF ?_⟩
    refine ⟨_, rfl, _, rfl, a, rfl, by omega, by omega, _, rfl, _, rfl, b, rfl, by omega, by omega, ?_⟩
    refine ⟨two_le 60 60 (by rw [List.length_map]; omega) (by rw [List.length_map]; omega), c, Nat.le_refl _, ?_⟩
    have h : P (.lst ((a.nms ++ b.nms).map D.str)) mu c := h
    rw [List.map_append] at h
    exact h
-- @hash f80e0a9f
def sp_goods_in : DSp := fun ds mu c P PX => ∃ d, ds = [d] ∧ fineD 12 d = true ∧ (isKindD d = false → PX ⟨"BadValue", [("value", d)]⟩ mu c) ∧ (isKindD d = true → ∃ k : Fm, d = k.toD ∧ k.kok = true ∧ k.depth ≤ 12 ∧ k.leaves.length ≤ 60 ∧ ∀ ys : List Str, ys.Pairwise sLt → (∀ x, x ∈ ys ↔ x ∈ k.nms) → P (.tup (ys.map D.str)) mu c)
def m_goods_in : MS := (mSeq (mDrop (mCall sp_need_kind (mCons (mVar 0) mNil)))
  (mRet (mCB tupleD (mCons (mUn sortSetD (mCall sp_names_in (mCons (mVar 0) mNil))) mNil))))
theorem rd_goods_in (ds : List D) (mu : Mu) (c : Nat) (P : D → Mu → Nat → Prop) (PX : Ex → Mu → Nat → Prop) (h : sp_goods_in ds mu c P PX) : m_goods_in (S0 ["kind"] ["kind"] ds mu c) (EF P) (XF PX) := by
  obtain ⟨d, rfl, hf, h0, h1⟩ := h
  refine ⟨d, rfl, d, rfl, hf, ?_⟩
  cases e : isKindD d with
  | false =>
    rw [if_neg Bool.false_ne_true]
    exact ⟨c, Nat.le_refl _, h0 e⟩
  | true =>
    rw [if_pos rfl]
    obtain ⟨k, rfl, ho, hd, hl, hp⟩ := h1 e
    refine ⟨_, rfl, k, rfl, by omega, by rw [Fm.nms_len]; exact hl, k.nms, by rw [strsOf_map (fun x => x), List.map_id'], by rw [Fm.nms_len]; omega, fun ys hs hn hm => ?_⟩
    exact ⟨c, Nat.le_refl _, hp ys (strict_of hs hn) hm⟩
-- @hash 2a9950ea
def m__law_pick : MS := (mRet (mOp subD (mVar 1) (mCall sp__law_draw (mCons (mVar 0) (mCons (mCB lenD (mCons (mVar 1) mNil)) mNil)))))
theorem rd__law_pick (ds : List D) (mu : Mu) (c : Nat) (P : D → Mu → Nat → Prop) (PX : Ex → Mu → Nat → Prop) (h : sp__law_pick ds mu c P PX) : m__law_pick (S0 ["_law_pen", "_law_some"] ["_law_pen", "_law_some"] ds mu c) (EF P) (XF PX) := by
  obtain ⟨d, rfl, hc, h⟩ := h
  cases d <;> first | exact h.elim | skip
  · rename_i z
    obtain ⟨h1, h2, h3⟩ := h
    have e1 : z.length = z.cps.toList.length := by show z.cps.size = _; simp
    refine ⟨_, rfl, _, rfl, _, rfl, h2, z.length, rfl, by omega, by have : (LINE : Nat) = 16777216 := rfl; omega, hc, fun m m0 m1 => ?_⟩
    obtain ⟨j, rfl⟩ := Int.eq_ofNat_of_zero_le m0
    have hj : j < z.cps.toList.length := by omega
    exact ⟨h2, _, atI_nat (List.getElem?_eq_getElem hj), _, Nat.le_refl _, h3 _ (List.getElem_mem hj)⟩
  all_goals
    rename_i a
    obtain ⟨h1, h2, h3⟩ := h
    refine ⟨_, rfl, _, rfl, _, rfl, a.length, rfl, by omega, by omega, hc, fun m m0 m1 => ?_⟩
    obtain ⟨j, rfl⟩ := Int.eq_ofNat_of_zero_le m0
    have hj : j < a.length := by omega
    exact ⟨_, atI_nat (List.getElem?_eq_getElem hj), _, Nat.le_refl _, h3 _ (List.getElem_mem hj)⟩
-- @hash 82d45584
-- @rec 14
def spn__law_counter (n : Nat) : DSp := fun ds mu c P PX => ∃ f : Fm, ds = [f.toD] ∧ f.depth < n ∧ f.ok = true ∧ P f.neg.toD mu c
def sp__law_counter : DSp := spn__law_counter 14
theorem neg_look {w : Str} (h : halfW (.str w) = true) : look (mergeD [] [((.inr "both" : Key), D.str "between"), (.inr "between", .str "both"), (.inr "offered", .str "chosen"), (.inr "chosen", .str "offered")]) (.inr w) = some (.str (negW w)) := by
  rcases halfW_str h with rfl | rfl | rfl | rfl
  · rw [show negW "both" = Str.ofString "between" by decide +kernel]; rfl
  · rw [show negW "between" = Str.ofString "both" by decide +kernel]; rfl
  · rw [show negW "offered" = Str.ofString "chosen" by decide +kernel]; rfl
  · rw [show negW "chosen" = Str.ofString "offered" by decide +kernel]; rfl
def m__law_counter (self : DSp) : MS := (mSeq (mIfS (mB (mOp (inD id) (mOp subD (mVar 0) (mC (.int 0))) (mLst (mCons (mC (.str "good")) (mCons (mC (.str "counter")) mNil))))) (mRet (mTup (mCons (mIf (mB (mOp eqD (mOp subD (mVar 0) (mC (.int 0))) (mC (.str "good")))) (mC (.str "counter")) (mC (.str "good"))) (mCons (mOp subD (mVar 0) (mC (.int 1))) mNil)))) mNext)
  (mSeq (mSet 1 (mDisp [((mC (.str "both")), (mC (.str "between"))), ((mC (.str "between")), (mC (.str "both"))), ((mC (.str "offered")), (mC (.str "chosen"))), ((mC (.str "chosen")), (mC (.str "offered")))]))
  (mRet (mTup (mCons (mOp subD (mVar 1) (mOp subD (mVar 0) (mC (.int 0)))) (mCons (mCall self (mCons (mOp subD (mVar 0) (mC (.int 1))) mNil)) (mCons (mCall self (mCons (mOp subD (mVar 0) (mC (.int 2))) mNil)) mNil)))))))
theorem rd__law_counter (n : Nat) (ds : List D) (mu : Mu) (c : Nat) (P : D → Mu → Nat → Prop) (PX : Ex → Mu → Nat → Prop) (h : spn__law_counter (n + 1) ds mu c P PX) : m__law_counter (spn__law_counter n) (S0 ["_law_form", "_law_turned"] ["_law_form"] ds mu c) (EF P) (XF PX) := by
  obtain ⟨f, rfl, hn, ho, h⟩ := h
  cases f with
  | leaf w x =>
    have hw1 := (Bool.and_eq_true_iff.mp ho).1
    refine ⟨_, rfl, _, rfl, shortL 2 rfl, ceq_of (word_ok (.inl hw1) 64) leafWs_okl, _, rfl, ?_⟩
    refine iteTh (show id (leafW (.str w)) = true from hw1) ⟨_, rfl, _, rfl, ceq_of (m := 0) (word_ok (.inl hw1) 0) (by decide +kernel), _, rfl, ?_⟩
    rw [eqv_word]
    have h : P (.tup [.str (if w = "good" then "counter" else "good"), .str x]) mu c := h
    by_cases e : w = "good"
    · rw [if_pos e] at h
      exact iteTh (decide_eq_true e) ⟨_, rfl, _, rfl, shortL 2 rfl, c, Nat.le_refl _, h⟩
    · rw [if_neg e] at h
      exact iteFh (decide_eq_false e) ⟨_, rfl, _, rfl, shortL 2 rfl, c, Nat.le_refl _, h⟩
  | node w a b =>
    obtain ⟨hw, ho2⟩ := Bool.and_eq_true_iff.mp ho
    obtain ⟨hoa, hob⟩ := Bool.and_eq_true_iff.mp ho2
    have hd : max a.depth b.depth + 1 < n + 1 := hn
    refine ⟨_, rfl, _, rfl, shortL 2 rfl, ceq_of (word_ok (.inr hw) 64) leafWs_okl, _, rfl, ?_⟩
    refine iteFh (show id (leafW (.str w)) = false from leaf_half hw) ?_
    refine ⟨_, rfl, by decide, _, rfl, _, rfl, _, rfl, _, _, rfl, neg_look hw, ?_⟩
    exact ⟨_, rfl, _, rfl, a, rfl, by omega, hoa, _, rfl, _, rfl, b, rfl, by omega, hob, shortL 3 rfl, c, Nat.le_refl _, h⟩
-- @hash 750ffaee
-- @rec 32
def spn__law_leaves (n : Nat) : DSp := fun ds mu c P PX => ∃ f : Fm, ds = [f.toD] ∧ f.depth < n ∧ f.depth ≤ 18 ∧ P (.lst (f.leaves.map Fm.toD)) mu c
def sp__law_leaves : DSp := spn__law_leaves 32
theorem leaves_18 {f : Fm} (h : f.depth ≤ 18) : (f.leaves.map Fm.toD).length ≤ 1048576 := by rw [List.length_map]; exact leaves_24 (by omega)
def m__law_leaves (self : DSp) : MS := (mRet (mIf (mB (mOp eqD (mCB lenD (mCons (mVar 0) mNil)) (mC (.int 2)))) (mLst (mCons (mVar 0) mNil)) (mOp addD (mCall self (mCons (mOp subD (mVar 0) (mC (.int 1))) mNil)) (mCall self (mCons (mOp subD (mVar 0) (mC (.int 2))) mNil)))))
theorem rd__law_leaves (n : Nat) (ds : List D) (mu : Mu) (c : Nat) (P : D → Mu → Nat → Prop) (PX : Ex → Mu → Nat → Prop) (h : spn__law_leaves (n + 1) ds mu c P PX) : m__law_leaves (spn__law_leaves n) (S0 ["_law_form"] ["_law_form"] ds mu c) (EF P) (XF PX) := by
  obtain ⟨f, rfl, hn, hd, h⟩ := h
  cases f with
  | leaf w x =>
    refine ⟨_, rfl, ceq_of (n := 0) (m := 0) rfl rfl, _, rfl, ?_⟩
    refine iteT ?_
    exact ⟨_, rfl, shortL 1 rfl, c, Nat.le_refl _, h⟩
  | node w a b =>
    have hd' : max a.depth b.depth + 1 ≤ 18 := hd
    have hn' : max a.depth b.depth + 1 < n + 1 := hn
    refine ⟨_, rfl, ceq_of (n := 0) (m := 0) rfl rfl, _, rfl, ?_⟩
    refine iteF ?_
    refine ⟨_, rfl, _, rfl, a, rfl, by omega, by omega, ?_⟩
    refine ⟨_, rfl, _, rfl, b, rfl, by omega, by omega, ?_⟩
    refine ⟨?_, c, Nat.le_refl _, ?_⟩
    · have := leaves_18 (f := a) (by omega)
      have := leaves_18 (f := b) (by omega)
      exact two_lines (by assumption) (by assumption)
    · dsimp only
      rw [← List.map_append]
      exact h
-- @hash 04f3c9a8
-- @rec 6
def costK : Nat → Nat
  | 0 => 1
  | m + 1 => 2 + 2 * costK m
def wideK : Nat → Nat
  | 0 => 1
  | m + 1 => 2 * wideK m
theorem costK_pos : ∀ m, 2 ≤ costK m + 1 ∧ 1 ≤ wideK m
  | 0 => ⟨Nat.le_refl _, Nat.le_refl _⟩
  | m + 1 => by
    have := costK_pos m
    show 2 ≤ 2 + 2 * costK m + 1 ∧ 1 ≤ 2 * wideK m
    omega
structure KdA where
  ns : List Str
  m : Nat
def spn__law_kind (n : Nat) : DSp := fun ds mu c P PX => ∃ q : KdA, ds = [.pen, .lst (q.ns.map D.str), .int q.m] ∧ q.m < n ∧ 0 < q.ns.length ∧ q.ns.length ≤ 1000 ∧ (∀ s ∈ q.ns, isNameL s.cps.toList = true) ∧ c + costK q.m ≤ LIM ∧
  ∀ k : Fm, k.kok = true → k.depth ≤ q.m → k.leaves.length ≤ wideK q.m → P k.toD mu (c + costK q.m)
def sp__law_kind : DSp := spn__law_kind 6
def m__law_kind (self : DSp) : MS := (mSeq (mIfS (mOr (mB (mOp eqD (mVar 2) (mC (.int 0)))) (mB (mOp ltD (mCall sp__law_draw (mCons (mVar 0) (mCons (mC (.int 5)) mNil))) (mC (.int 2))))) (mRet (mTup (mCons (mC (.str "good")) (mCons (mCall sp__law_pick (mCons (mVar 0) (mCons (mVar 1) mNil))) mNil)))) mNext)
  (mSeq (mSet 3 (mCall sp__law_pick (mCons (mVar 0) (mCons (mLst (mCons (mC (.str "pair")) (mCons (mC (.str "sum")) (mCons (mC (.str "offer")) (mCons (mC (.str "to")) mNil))))) mNil))))
  (mSeq (mSet 4 (mCall self (mCons (mVar 0) (mCons (mVar 1) (mCons (mOp subtD (mVar 2) (mC (.int 1))) mNil)))))
  (mRet (mTup (mCons (mVar 3) (mCons (mVar 4) (mCons (mCall self (mCons (mVar 0) (mCons (mVar 1) (mCons (mOp subtD (mVar 2) (mC (.int 1))) mNil)))) mNil))))))))
theorem rd__law_kind (n : Nat) (ds : List D) (mu : Mu) (c : Nat) (P : D → Mu → Nat → Prop) (PX : Ex → Mu → Nat → Prop) (h : spn__law_kind (n + 1) ds mu c P PX) : m__law_kind (spn__law_kind n) (S0 ["_law_pen", "_law_goods", "_law_depth", "_law_word", "_law_left"] ["_law_pen", "_law_goods", "_law_depth"] ds mu c) (EF P) (XF PX) := by
  obtain ⟨⟨ns, m⟩, rfl, hn, h1, h2, hns, hc, h⟩ := h
  simp only at hn h1 h2 hns hc h
  have hL : LIM = 1152921504606846976 := rfl
  have hp := costK_pos m
  refine ⟨_, rfl, ceq_of (n := 0) (m := 0) rfl rfl, _, rfl, ?_⟩
  rw [show eqvD (.int (m : Int)) (.int 0) = decide (m = 0) by rw [eqv_int2, Bool.eq_iff_iff]; simp]
  have leaf : ∀ c1, c1 + 1 ≤ c + costK m → (mRet (mTup (mCons (mC (.str "good")) (mCons (mCall sp__law_pick (mCons (mVar 0) (mCons (mVar 1) mNil))) mNil))) : MS) ⟨[some .pen, some (.lst (ns.map D.str)), some (.int m), none, none], mu, c1⟩ (EF P) (XF PX) := by
    intro c1 hc1
    refine ⟨_, rfl, _, rfl, _, rfl, by show c1 < LIM; omega, by rw [List.length_map]; exact h1, by rw [List.length_map]; omega, fun x hx => ?_⟩
    obtain ⟨s, hs, rfl⟩ := List.mem_map.mp hx
    exact ⟨shortL 2 rfl, c + costK m, hc1, h (.leaf "good" s) (Bool.and_eq_true_iff.mpr ⟨rfl, hns s hs⟩) (Nat.zero_le _) hp.2⟩
  cases m with
  | zero => exact iteT (leaf c (Nat.le_refl _))
  | succ m =>
    have hcm : c + (2 + 2 * costK m) ≤ LIM := hc
    have hpm := costK_pos m
    have es : ((m + 1 : Nat) : Int) - 1 = (m : Int) := by omega
    refine iteF ?_
    refine ⟨_, rfl, (5 : Int), rfl, by decide, by decide, by show c < LIM; omega, fun a a0 a1 => ?_⟩
    refine ⟨_, rfl, ?_⟩
    refine ite2 (fun c1 => ?_) (fun c1 => ?_)
    · exact leaf (c + 1) (by show c + 1 + 1 ≤ c + (2 + 2 * costK m); omega)
    · refine ⟨_, rfl, shortL 4 rfl, _, rfl, by show c + 1 < LIM; omega, Nat.succ_pos _, by show 4 < 1073741824; decide, fun x hx => ?_⟩
      obtain ⟨w, rfl, hw⟩ : ∃ w : Str, x = .str w ∧ kindW (.str w) = true := by
        simp only [List.mem_cons, List.not_mem_nil, or_false] at hx
        rcases hx with rfl | rfl | rfl | rfl <;> exact ⟨_, rfl, by decide +kernel⟩
      refine ⟨_, rfl, _, rfl, _, rfl, ⟨ns, m⟩, by show [D.pen, .lst (ns.map D.str), D.int (((m + 1 : Nat) : Int) - 1)] = _; rw [es], by show m < n; omega, h1, h2, hns, by show c + 1 + 1 + costK m ≤ LIM; omega, fun k1 o1 d1 l1 => ?_⟩
      refine ⟨_, rfl, _, rfl, _, rfl, _, rfl, _, rfl, ⟨ns, m⟩, by show [D.pen, .lst (ns.map D.str), D.int (((m + 1 : Nat) : Int) - 1)] = _; rw [es], by show m < n; omega, h1, h2, hns, by show c + 1 + 1 + costK m + costK m ≤ LIM; omega, fun k2 o2 d2 l2 => ?_⟩
      have d1 : k1.depth ≤ m := d1
      have d2 : k2.depth ≤ m := d2
      have l1 : k1.leaves.length ≤ wideK m := l1
      have l2 : k2.leaves.length ≤ wideK m := l2
      refine ⟨shortL 3 rfl, c + costK (m + 1), by show c + 1 + 1 + costK m + costK m ≤ c + (2 + 2 * costK m); omega, h (.node w k1 k2) (Bool.and_eq_true_iff.mpr ⟨hw, Bool.and_eq_true_iff.mpr ⟨o1, o2⟩⟩) ?_ ?_⟩
      · show max k1.depth k2.depth + 1 ≤ m + 1
        omega
      · show (k1.leaves ++ k2.leaves).length ≤ 2 * wideK m
        rw [List.length_append]
        omega
-- @hash f7008a4b
-- @rec 14
def spn__law_form_of (n : Nat) : DSp := fun ds mu c P PX => ∃ k : Fm, ds = [k.toD] ∧ k.depth < n ∧ k.depth ≤ 12 ∧ k.kok = true ∧ P k.form.toD mu c
def sp__law_form_of : DSp := spn__law_form_of 14
theorem fw_look {w : Str} (h : kindW (.str w) = true) (h2 : w ≠ "to") : look (mergeD [] [((.inr "pair" : Key), D.str "both"), (.inr "sum", .str "chosen"), (.inr "offer", .str "offered")]) (.inr w) = some (.str (fw w)) := by
  rcases kindW_str h with rfl | rfl | rfl | rfl
  · rw [show fw "pair" = Str.ofString "both" by decide +kernel]; rfl
  · rw [show fw "sum" = Str.ofString "chosen" by decide +kernel]; rfl
  · rw [show fw "offer" = Str.ofString "offered" by decide +kernel]; rfl
  · exact absurd rfl h2
def m__law_form_of (self : DSp) : MS := (mSeq (mIfS (mB (mOp eqD (mOp subD (mVar 0) (mC (.int 0))) (mC (.str "good")))) (mRet (mVar 0)) mNext)
  (mSeq (mPar 1 2 (mCons (mCall self (mCons (mOp subD (mVar 0) (mC (.int 1))) mNil)) (mCons (mCall self (mCons (mOp subD (mVar 0) (mC (.int 2))) mNil)) mNil)))
  (mSeq (mIfS (mB (mOp eqD (mOp subD (mVar 0) (mC (.int 0))) (mC (.str "to")))) (mRet (mTup (mCons (mC (.str "between")) (mCons (mCall sp__law_counter (mCons (mVar 1) mNil)) (mCons (mVar 2) mNil))))) mNext)
  (mRet (mTup (mCons (mOp subD (mDisp [((mC (.str "pair")), (mC (.str "both"))), ((mC (.str "sum")), (mC (.str "chosen"))), ((mC (.str "offer")), (mC (.str "offered")))]) (mOp subD (mVar 0) (mC (.int 0)))) (mCons (mVar 1) (mCons (mVar 2) mNil))))))))
theorem rd__law_form_of (n : Nat) (ds : List D) (mu : Mu) (c : Nat) (P : D → Mu → Nat → Prop) (PX : Ex → Mu → Nat → Prop) (h : spn__law_form_of (n + 1) ds mu c P PX) : m__law_form_of (spn__law_form_of n) (S0 ["_law_kind_here", "_law_left", "_law_right"] ["_law_kind_here"] ds mu c) (EF P) (XF PX) := by
  obtain ⟨k, rfl, hn, h12, ho, h⟩ := h
  cases k with
  | leaf w x =>
    have hw1 := of_decide_eq_true (Bool.and_eq_true_iff.mp ho).1
    subst hw1
    refine ⟨_, rfl, _, rfl, ceq_of (n := 0) (m := 0) (by decide +kernel) (by decide +kernel), _, rfl, ?_⟩
    exact iteTh (eqv_word.trans (by decide +kernel)) ⟨_, rfl, c, Nat.le_refl _, h⟩
  | node w a b =>
    obtain ⟨hw, ho2⟩ := Bool.and_eq_true_iff.mp ho
    obtain ⟨hoa, hob⟩ := Bool.and_eq_true_iff.mp ho2
    have hd : max a.depth b.depth + 1 < n + 1 := hn
    have hd2 : max a.depth b.depth + 1 ≤ 12 := h12
    have ng : w ≠ "good" := by rcases kindW_str hw with rfl | rfl | rfl | rfl <;> decide +kernel
    refine ⟨_, rfl, _, rfl, ceq_of (m := 0) (kword_ok hw 64) (by decide +kernel), _, rfl, ?_⟩
    refine iteFh (eqv_word.trans (decide_eq_false ng)) ?_
    refine ⟨_, rfl, _, rfl, a, rfl, by omega, by omega, hoa, _, rfl, _, rfl, b, rfl, by omega, by omega, hob, _, _, rfl, ?_⟩
    refine ⟨_, rfl, _, rfl, ceq_of (m := 0) (kword_ok hw 64) (by decide +kernel), _, rfl, ?_⟩
    rw [eqv_word]
    rw [Fm.form_node] at h
    by_cases e : w = "to"
    · rw [if_pos e] at h
      refine iteTh (decide_eq_true e) ?_
      exact ⟨_, rfl, a.form, rfl, by rw [Fm.form_depth]; omega, Fm.form_ok a hoa, _, rfl, shortL 3 rfl, c, Nat.le_refl _, h⟩
    · rw [if_neg e] at h
      refine iteFh (decide_eq_false e) ?_
      exact ⟨_, rfl, by decide, _, rfl, _, rfl, _, _, rfl, fw_look hw e, _, rfl, _, rfl, shortL 3 rfl, c, Nat.le_refl _, h⟩
-- @hash 43025f1e
-- @eqm
def sp__law_once : DSp := fun ds mu c P PX => ∃ xs : List Str, ds = [.lst (xs.map D.str)] ∧ xs.length < 64 ∧ (∀ x ∈ xs, isNameL x.cps.toList = true) ∧ ∀ ys : List Str, ys.Pairwise sLt → (∀ x, x ∈ ys ↔ x ∈ xs) → P (.lst (ys.map D.str)) mu c
theorem names_okl {xs : List Str} (h : ∀ x ∈ xs, isNameL x.cps.toList = true) : (D.lst (xs.map D.str)).ok 64 = true := by
  refine D.pl_ok _ _ (lstP (m := 63) fun d hd => ?_)
  obtain ⟨x, hx, rfl⟩ := List.mem_map.mp hd
  exact (sA_name (h x hx)).pl
theorem eqv_nil (xs : List Str) : eqvD (.lst (xs.map D.str)) (.lst []) = xs.isEmpty := by
  cases xs with
  | nil => decide +kernel
  | cons x r => rfl
def m__law_once : MS := (mSeq (mSet 1 (mNewL mNil))
  (mSeq (mFor (mItems (mCB sortedD (mCons (mVar 0) mNil))) (gN 2) (mIfS (mOr (mB (mOp eqM (mVar 1) (mLst mNil))) (mB (mOp neD (mOp ixM (mVar 1) (mUn negD (mC (.int 1)))) (mVar 2)))) (mDrop (mApp (mVar 1) (mVar 2))) mNext))
  (mRet (mFrz (mVar 1)))))
theorem rd__law_once (ds : List D) (mu : Mu) (c : Nat) (P : D → Mu → Nat → Prop) (PX : Ex → Mu → Nat → Prop) (h : sp__law_once ds mu c P PX) : m__law_once (S0 ["_law_some", "_law_out", "_law_one"] ["_law_some"] ds mu c) (EF P) (XF PX) := by
  obtain ⟨xs, rfl, hl, hok, h⟩ := h
  refine ⟨shortL 0 rfl, fun a ha => ?_⟩
  have ha : mu a = none := ha
  refine ⟨_, rfl, xs, by rw [strsOf_map (fun x => x), List.map_id'], hl, fun ys hp hs => ?_⟩
  have hsp := sorted_pw hs
  have hok2 : ∀ x ∈ ys, isNameL x.cps.toList = true := fun x hx => hok x (hp.mem_iff.mp hx)
  have hlen : ys.length < 64 := by rw [hp.length_eq]; exact hl
  refine for_ind (fun ds st => ∃ seen rest acc x2, ds = rest.map D.str ∧ ys = seen ++ rest ∧ OnceI seen acc ∧ acc.length ≤ seen.length ∧ st = ⟨[some (.lst (xs.map D.str)), some (.ref a), x2], muSet mu a (some (.lst (acc.map D.str))), c⟩) _ _ ⟨[], ys, [], none, rfl, rfl, ⟨.nil, fun x => Iff.rfl⟩, Nat.le_refl _, rfl⟩ ?_ ?_
  · rintro s ⟨seen, rest, acc, x2, e1, e2, I, _, rfl⟩
    cases rest with
    | cons x r => cases e1
    | nil =>
      rw [List.append_nil] at e2
      subst e2
      refine ⟨_, rfl, a, _, rfl, muSet_same, c, Nat.le_refl _, ?_⟩
      show P _ (muSet (muSet mu a _) a none) c
      rw [muSet_undo ha]
      exact h acc I.st fun x => (I.mem x).trans hp.mem_iff
  · rintro d r s ⟨seen, rest, acc, x2, e1, e2, I, hal, rfl⟩ K hK
    cases rest with
    | nil => cases e1
    | cons x rest =>
      cases e1
      have hsl : seen.length + (x :: rest).length < 64 := by rw [← List.length_append, ← e2]; exact hlen
      rw [List.length_cons] at hsl
      have hlo : ∀ y ∈ seen, ¬ sLt x y := by
        rw [e2] at hsp
        exact fun y hy => (List.pairwise_append.mp hsp).2.2 y hy x List.mem_cons_self
      have hacc : ∀ y ∈ acc, isNameL y.cps.toList = true := fun y hy => hok2 y (by rw [e2]; exact List.mem_append_left _ ((I.mem y).mp hy))
      have hx : isNameL x.cps.toList = true := hok2 x (by rw [e2]; simp)
      have J := once_step I hlo
      have e2' : ys = (seen ++ [x]) ++ rest := by rw [e2]; simp
      have push : onceStep acc x = acc ++ [x] → (mDrop (mApp (mVar 1) (mVar 2)) : MS) ⟨[some (.lst (xs.map D.str)), some (.ref a), some (.str x)], muSet mu a (some (.lst (acc.map D.str))), c⟩ { nx := K, rt := (EF P).rt, bk := (EF P).nx, ct := K } (XF PX) := fun e => by
        refine ⟨_, rfl, a, _, rfl, muSet_same, _, rfl, _, muSet_same, ?_, ?_⟩
        · rw [List.length_map, sizeLine_eq]; omega
        · refine hK _ ⟨seen ++ [x], rest, acc ++ [x], some (.str x), rfl, e2', by rw [← e]; exact J, by simp only [List.length_append, List.length_cons, List.length_nil]; omega, ?_⟩
          show (⟨_, muSet (muSet mu a _) a _, c⟩ : S) = _
          rw [muSet_set, List.map_append]
          rfl
      refine ⟨_, rfl, shortL 0 rfl, a, _, rfl, muSet_same, ceq_of (m := 1) (names_okl hacc) (by decide +kernel), _, rfl, ?_⟩
      rw [eqv_nil]
      cases hac : acc with
      | nil =>
        rw [hac] at push
        exact iteT (iteT (push rfl))
      | cons y0 r0 =>
        refine iteF ?_
        rw [← hac]
        have hne : acc ≠ [] := by rw [hac]; exact List.cons_ne_nil _ _
        obtain ⟨l, m, hlm⟩ : ∃ l m, acc = l ++ [m] := ⟨acc.dropLast, acc.getLast hne, (List.dropLast_concat_getLast hne).symm⟩
        have hlast : acc.getLast? = some m := by rw [hlm, List.getLast?_concat]
        refine ⟨_, rfl, _, .str m, muSet_same, ?_, _, rfl, ceq_of (n := 0) (m := 0) (ok_ascS (sA_name (hacc m (by rw [hlm]; simp))).1 0) (ok_ascS (sA_name hx).1 0), _, rfl, ?_⟩
        · rw [hlm, List.map_append]
          exact atI_last _ _
        rw [eqv_word]
        by_cases em : m = x
        · refine iteFh (by rw [decide_eq_true em]; rfl) ?_
          have e : onceStep acc x = acc := by
            unfold onceStep
            rw [hlast, if_pos (by rw [em])]
          exact hK _ ⟨seen ++ [x], rest, acc, _, rfl, e2', by rw [← e]; exact J, by rw [List.length_append]; omega, rfl⟩
        · refine iteTh (by rw [decide_eq_false em]; rfl) (push ?_)
          unfold onceStep
          rw [hlast, if_neg (fun z => em (Option.some.inj z))]
-- @hash c06481c9
-- @rec 14
def spn__law_kind_of (n : Nat) : DSp := fun ds mu c P PX => ∃ f : Fm, ds = [f.toD] ∧ f.depth < n ∧ f.depth ≤ 12 ∧ f.ok = true ∧ P (optK (Fm.kind false f)) mu c
def sp__law_kind_of : DSp := spn__law_kind_of 14
def kwT (w : Str) : Str := if w = "between" then "to" else kw w
theorem kw_look {w : Str} (h : halfW (.str w) = true) : look (mergeD [] [((.inr "both" : Key), D.str "pair"), (.inr "chosen", .str "sum"), (.inr "offered", .str "offer"), (.inr "between", .str "to")]) (.inr w) = some (.str (kwT w)) := by
  rcases halfW_str h with rfl | rfl | rfl | rfl
  · rw [show kwT "both" = Str.ofString "pair" by decide +kernel]; rfl
  · rw [show kwT "between" = Str.ofString "to" by decide +kernel]; rfl
  · rw [show kwT "offered" = Str.ofString "offer" by decide +kernel]; rfl
  · rw [show kwT "chosen" = Str.ofString "sum" by decide +kernel]; rfl
theorem kwT_to {w : Str} (h : halfW (.str w) = true) : decide (kwT w = "to") = decide (w = "between") ∧ (D.str (kwT w)).ok 64 = true := by
  rcases halfW_str h with rfl | rfl | rfl | rfl <;> decide +kernel
def m__law_kind_of (self : DSp) : MS := (mSeq (mIfS (mB (mOp (inD id) (mOp subD (mVar 0) (mC (.int 0))) (mLst (mCons (mC (.str "good")) (mCons (mC (.str "counter")) mNil))))) (mRet (mIf (mB (mOp eqD (mOp subD (mVar 0) (mC (.int 0))) (mC (.str "good")))) (mVar 0) (mC .non))) mNext)
  (mSeq (mSet 1 (mOp subD (mDisp [((mC (.str "both")), (mC (.str "pair"))), ((mC (.str "chosen")), (mC (.str "sum"))), ((mC (.str "offered")), (mC (.str "offer"))), ((mC (.str "between")), (mC (.str "to")))]) (mOp subD (mVar 0) (mC (.int 0)))))
  (mSeq (mSet 2 (mCall self (mCons (mIf (mB (mOp eqD (mVar 1) (mC (.str "to")))) (mCall sp__law_counter (mCons (mOp subD (mVar 0) (mC (.int 1))) mNil)) (mOp subD (mVar 0) (mC (.int 1)))) mNil)))
  (mSeq (mSet 3 (mCall self (mCons (mOp subD (mVar 0) (mC (.int 2))) mNil)))
  (mRet (mIf (mOr (mB (mOp isND (mVar 2) (mC .non))) (mB (mOp isND (mVar 3) (mC .non)))) (mC .non) (mTup (mCons (mVar 1) (mCons (mVar 2) (mCons (mVar 3) mNil))))))))))
theorem rd__law_kind_of (n : Nat) (ds : List D) (mu : Mu) (c : Nat) (P : D → Mu → Nat → Prop) (PX : Ex → Mu → Nat → Prop) (h : spn__law_kind_of (n + 1) ds mu c P PX) : m__law_kind_of (spn__law_kind_of n) (S0 ["_law_form", "_law_word", "_law_left", "_law_right"] ["_law_form"] ds mu c) (EF P) (XF PX) := by
  obtain ⟨f, rfl, hn, h12, ho, h⟩ := h
  cases f with
  | leaf w x =>
    have hw1 := (Bool.and_eq_true_iff.mp ho).1
    refine ⟨_, rfl, _, rfl, shortL 2 rfl, ceq_of (word_ok (.inl hw1) 64) leafWs_okl, _, rfl, ?_⟩
    refine iteTh (show id (leafW (.str w)) = true from hw1) ?_
    refine ⟨_, rfl, _, rfl, ceq_of (m := 0) (word_ok (.inl hw1) 0) (by decide +kernel), _, rfl, ?_⟩
    rw [eqv_word]
    have h : P (optK (if (decide (w = "good")) != false then some (.leaf "good" x) else none)) mu c := h
    by_cases e : w = "good"
    · rw [decide_eq_true e, if_pos (show (true != false) = true from rfl)] at h
      subst e
      exact iteTh (decide_eq_true rfl) ⟨_, rfl, c, Nat.le_refl _, h⟩
    · rw [decide_eq_false e, if_neg (show ¬ (false != false) = true by decide)] at h
      exact iteFh (decide_eq_false e) ⟨c, Nat.le_refl _, h⟩
  | node w a b =>
    obtain ⟨hw, ho2⟩ := Bool.and_eq_true_iff.mp ho
    obtain ⟨hoa, hob⟩ := Bool.and_eq_true_iff.mp ho2
    have hd : max a.depth b.depth + 1 < n + 1 := hn
    have hd2 : max a.depth b.depth + 1 ≤ 12 := h12
    have hka := Fm.kind_neg a false hoa
    obtain ⟨kt, kk⟩ := kwT_to hw
    refine ⟨_, rfl, _, rfl, shortL 2 rfl, ceq_of (word_ok (.inr hw) 64) leafWs_okl, _, rfl, ?_⟩
    refine iteFh (show id (leafW (.str w)) = false from leaf_half hw) ?_
    refine ⟨_, rfl, by decide, _, rfl, _, rfl, _, _, rfl, kw_look hw, ?_⟩
    refine ⟨_, rfl, ceq_of (m := 0) kk (by decide +kernel), _, rfl, ?_⟩
    rw [eqv_word, kt]
    rw [Fm.kind_node] at h
    simp only [Bool.false_eq_true, if_false, Bool.not_false] at h
    have fin : ∀ (v : Str) (o : Option Fm), P (optK (o.bind fun x => (Fm.kind false b).map fun y => .node v x y)) mu c →
        (mSeq (mSet 3 (mCall (spn__law_kind_of n) (mCons (mOp subD (mVar 0) (mC (.int 2))) mNil)))
          (mRet (mIf (mOr (mB (mOp isND (mVar 2) (mC .non))) (mB (mOp isND (mVar 3) (mC .non)))) (mC .non) (mTup (mCons (mVar 1) (mCons (mVar 2) (mCons (mVar 3) mNil)))))) : MS) ⟨[some (Fm.node w a b).toD, some (.str v), some (optK o), none], mu, c⟩ (EF P) (XF PX) := by
      intro v o h
      refine ⟨_, rfl, _, rfl, b, rfl, by omega, by omega, hob, ?_⟩
      refine ⟨_, rfl, rfl, _, rfl, ?_⟩
      rw [optK_non]
      cases o with
      | none => exact iteT (iteT ⟨c, Nat.le_refl _, h⟩)
      | some x =>
        refine iteF ⟨_, rfl, rfl, _, rfl, ?_⟩
        rw [optK_non]
        cases eb : Fm.kind false b with
        | none => rw [eb] at h; exact iteT ⟨c, Nat.le_refl _, h⟩
        | some y => rw [eb] at h; exact iteF ⟨_, rfl, _, rfl, _, rfl, shortL 3 rfl, c, Nat.le_refl _, h⟩
    by_cases e : w = "between"
    · rw [if_pos e] at h
      refine iteTh (decide_eq_true e) ?_
      refine ⟨_, rfl, _, rfl, a, rfl, by omega, hoa, a.neg, rfl, by rw [Fm.neg_depth]; omega, by rw [Fm.neg_depth]; omega, Fm.neg_ok a hoa, ?_⟩
      rw [hka]
      have ev : kwT w = "to" := if_pos e
      rw [ev]
      exact fin _ _ h
    · rw [if_neg e] at h
      refine iteFh (decide_eq_false e) ?_
      have ev : kwT w = kw w := if_neg e
      rw [ev]
      refine ⟨_, rfl, _, rfl, a, rfl, by omega, by omega, hoa, ?_⟩
      exact fin _ _ h
-- @hash ea04ae6a
-- @rec 14
def spn__law_bent (n : Nat) : DSp := fun ds mu c P PX => ∃ f : Fm, ds = [.pen, f.toD] ∧ f.depth < n ∧ f.ok = true ∧ c + 2 * n ≤ LIM ∧ ∀ g : Fm, g.ok = true → g.depth ≤ f.depth → P g.toD mu (c + 2 * n)
def sp__law_bent : DSp := spn__law_bent 14
def m__law_bent (self : DSp) : MS := (mSeq (mIfS (mB (mOp eqD (mCB lenD (mCons (mVar 1) mNil)) (mC (.int 2)))) (mRet (mCall sp__law_counter (mCons (mVar 1) mNil))) mNext)
  (mSeq (mSet 2 (mCall sp__law_draw (mCons (mVar 0) (mCons (mC (.int 5)) mNil))))
  (mSeq (mIfS (mB (mOp eqD (mVar 2) (mC (.int 0)))) (mRet (mTup (mCons (mCall sp__law_pick (mCons (mVar 0) (mCons (mLst (mCons (mC (.str "both")) (mCons (mC (.str "between")) (mCons (mC (.str "offered")) (mCons (mC (.str "chosen")) mNil))))) mNil))) (mCons (mOp subD (mVar 1) (mC (.int 1))) (mCons (mOp subD (mVar 1) (mC (.int 2))) mNil))))) mNext)
  (mSeq (mIfS (mB (mOp eqD (mVar 2) (mC (.int 1)))) (mRet (mTup (mCons (mOp subD (mVar 1) (mC (.int 0))) (mCons (mOp subD (mVar 1) (mC (.int 2))) (mCons (mOp subD (mVar 1) (mC (.int 1))) mNil))))) mNext)
  (mRet (mIf (mB (mOp ltD (mVar 2) (mC (.int 3)))) (mTup (mCons (mOp subD (mVar 1) (mC (.int 0))) (mCons (mCall self (mCons (mVar 0) (mCons (mOp subD (mVar 1) (mC (.int 1))) mNil))) (mCons (mOp subD (mVar 1) (mC (.int 2))) mNil)))) (mTup (mCons (mOp subD (mVar 1) (mC (.int 0))) (mCons (mOp subD (mVar 1) (mC (.int 1))) (mCons (mCall self (mCons (mVar 0) (mCons (mOp subD (mVar 1) (mC (.int 2))) mNil))) mNil))))))))))
theorem rd__law_bent (n : Nat) (ds : List D) (mu : Mu) (c : Nat) (P : D → Mu → Nat → Prop) (PX : Ex → Mu → Nat → Prop) (h : spn__law_bent (n + 1) ds mu c P PX) : m__law_bent (spn__law_bent n) (S0 ["_law_pen", "_law_form", "_law_way"] ["_law_pen", "_law_form"] ds mu c) (EF P) (XF PX) := by
  obtain ⟨f, rfl, hn, ho, hc, h⟩ := h
  have hL : LIM = 1152921504606846976 := rfl
  cases f with
  | leaf w x =>
    refine ⟨_, rfl, ceq_of (n := 0) (m := 0) rfl rfl, _, rfl, iteT ?_⟩
    exact ⟨_, rfl, .leaf w x, rfl, by show 0 < 14; decide, ho, c + 2 * (n + 1), by show c ≤ c + 2 * (n + 1); omega, h _ (Fm.neg_ok _ ho) (by rw [Fm.neg_depth]; exact Nat.le_refl _)⟩
  | node w a b =>
    obtain ⟨hw, ho2⟩ := Bool.and_eq_true_iff.mp ho
    obtain ⟨hoa, hob⟩ := Bool.and_eq_true_iff.mp ho2
    have hd : max a.depth b.depth + 1 < n + 1 := hn
    have mk : ∀ (v : Str) (p q : Fm), halfW (.str v) = true → p.ok = true → q.ok = true → max p.depth q.depth ≤ max a.depth b.depth → P (Fm.node v p q).toD mu (c + 2 * (n + 1)) := fun v p q h1 h2 h3 h4 =>
      h (.node v p q) (Bool.and_eq_true_iff.mpr ⟨h1, Bool.and_eq_true_iff.mpr ⟨h2, h3⟩⟩) (by show max p.depth q.depth + 1 ≤ max a.depth b.depth + 1; omega)
    refine ⟨_, rfl, ceq_of (n := 0) (m := 0) rfl rfl, _, rfl, iteF ?_⟩
    refine ⟨_, rfl, (5 : Int), rfl, by decide, by decide, by show c < LIM; omega, fun t t0 t1 => ?_⟩
    refine ⟨_, rfl, ceq_of (n := 0) (m := 0) rfl rfl, _, rfl, ?_⟩
    refine ite2 (fun c1 => ?_) (fun c1 => ?_)
    · refine ⟨_, rfl, shortL 4 rfl, _, rfl, by show c + 1 < LIM; omega, Nat.succ_pos _, by show 4 < 1073741824; decide, fun x hx => ?_⟩
      obtain ⟨v, rfl, hv⟩ : ∃ v : Str, x = .str v ∧ halfW (.str v) = true := by
        simp only [List.mem_cons, List.not_mem_nil, or_false] at hx
        rcases hx with rfl | rfl | rfl | rfl <;> exact ⟨_, rfl, by decide +kernel⟩
      exact ⟨_, rfl, _, rfl, _, rfl, _, rfl, shortL 3 rfl, c + 2 * (n + 1), by show c + 1 + 1 ≤ c + 2 * (n + 1); omega, mk v a b hv hoa hob (Nat.le_refl _)⟩
    · refine ⟨_, rfl, ceq_of (n := 0) (m := 0) rfl rfl, _, rfl, ?_⟩
      refine ite2 (fun c2 => ?_) (fun c2 => ?_)
      · exact ⟨_, rfl, _, rfl, _, rfl, _, rfl, _, rfl, _, rfl, shortL 3 rfl, c + 2 * (n + 1), by show c + 1 ≤ c + 2 * (n + 1); omega, mk w b a hw hob hoa (by omega)⟩
      · refine ⟨_, rfl, _, rfl, ?_⟩
        refine ite2 (fun c3 => ?_) (fun c3 => ?_)
        · refine ⟨_, rfl, _, rfl, _, rfl, _, rfl, _, rfl, a, rfl, by omega, hoa, by show c + 1 + 2 * n ≤ LIM; omega, fun g og dg => ?_⟩
          exact ⟨_, rfl, _, rfl, shortL 3 rfl, c + 2 * (n + 1), by show c + 1 + 2 * n ≤ c + 2 * (n + 1); omega, mk w g b hw og hob (by omega)⟩
        · refine ⟨_, rfl, _, rfl, _, rfl, _, rfl, _, rfl, _, rfl, _, rfl, b, rfl, by omega, hob, by show c + 1 + 2 * n ≤ LIM; omega, fun g og dg => ?_⟩
          exact ⟨shortL 3 rfl, c + 2 * (n + 1), by show c + 1 + 2 * n ≤ c + 2 * (n + 1); omega, mk w a g hw hoa og (by omega)⟩
-- @hash ae9a4286
def sp__law_deep : DSp := fun ds mu c P PX => ∃ q : Fm × Nat, ds = [.pen, q.1.toD, .int q.2] ∧ q.1.kok = true ∧ q.2 ≤ 1000 ∧ c + 2 * q.2 ≤ LIM ∧ ∀ k : Fm, k.kok = true → k.depth = q.1.depth + q.2 → k.leaves.length = q.1.leaves.length + q.2 → P k.toD mu (c + 2 * q.2)
def m__law_deep : MS := (mSeq (mFor (mRng1 (mCons (mVar 2) mNil)) (gN 3) (mSeq (mSet 4 (mCall sp__law_pick (mCons (mVar 0) (mCons (mLst (mCons (mC (.str "pair")) (mCons (mC (.str "sum")) (mCons (mC (.str "offer")) (mCons (mC (.str "to")) mNil))))) mNil))))
  (mSet 1 (mIf (mB (mOp eqD (mCall sp__law_draw (mCons (mVar 0) (mCons (mC (.int 2)) mNil))) (mC (.int 0)))) (mTup (mCons (mVar 4) (mCons (mVar 1) (mCons (mTup (mCons (mC (.str "good")) (mCons (mC (.str "z")) mNil))) mNil)))) (mTup (mCons (mVar 4) (mCons (mTup (mCons (mC (.str "good")) (mCons (mC (.str "z")) mNil))) (mCons (mVar 1) mNil))))))))
  (mRet (mVar 1)))
theorem deep_go {g : MG} {body : MS} {E : DEnds} {PX : PXT} {mu : Mu} {r2 : D} : ∀ (k i c : Nat) (f : Fm), f.kok = true →
    (∀ (f : Fm) (i c' : Nat) (r3 r4 : Option D) (K : S → Prop), f.kok = true → c' + 2 ≤ c + 2 * k → (∀ (f' : Fm) r3 r4, f'.kok = true → f'.depth = f.depth + 1 → f'.leaves.length = f.leaves.length + 1 → K ⟨[some .pen, some f'.toD, some r2, r3, r4], mu, c' + 2⟩) → g (.int (0 + (i : Int))) ⟨[some .pen, some f.toD, some r2, r3, r4], mu, c'⟩ fun s2 => body s2 { nx := K, ct := K, bk := E.nx, rt := E.rt } PX) →
    (∀ (f' : Fm) r3 r4, f'.kok = true → f'.depth = f.depth + k → f'.leaves.length = f.leaves.length + k → E.nx ⟨[some .pen, some f'.toD, some r2, r3, r4], mu, c + 2 * k⟩) →
    ∀ r3 r4, forGo g body E PX ((List.range' i k).map fun i : Nat => D.int (0 + (i : Int))) ⟨[some .pen, some f.toD, some r2, r3, r4], mu, c⟩
  | 0, i, c, f, ho, hb, hE, r3, r4 => hE f r3 r4 ho rfl rfl
  | k + 1, i, c, f, ho, hb, hE, r3, r4 => by
    rw [List.range'_succ, List.map_cons]
    refine hb f i c r3 r4 _ ho (by omega) fun f' r3 r4 ho' hd hl => ?_
    exact deep_go k (i + 1) (c + 2) f' ho' (fun f i c' r3 r4 K h1 h2 h3 => hb f i c' r3 r4 K h1 (by omega) h3) (fun f'' r3 r4 ho'' hd' hl' => by
      have := hE f'' r3 r4 ho'' (by omega) (by omega)
      rw [show c + 2 + 2 * k = c + 2 * (k + 1) by omega]
      exact this) r3 r4
theorem rd__law_deep (ds : List D) (mu : Mu) (c : Nat) (P : D → Mu → Nat → Prop) (PX : Ex → Mu → Nat → Prop) (h : sp__law_deep ds mu c P PX) : m__law_deep (S0 ["_law_pen", "_law_kind_here", "_law_depth", "_law_k", "_law_word"] ["_law_pen", "_law_kind_here", "_law_depth"] ds mu c) (EF P) (XF PX) := by
  obtain ⟨⟨f, m⟩, rfl, ho, hm, hc, h⟩ := h
  simp only at ho hm hc h
  have hL : LIM = 1152921504606846976 := rfl
  refine ⟨_, rfl, (m : Int), rfl, by omega, by omega, ?_⟩
  rw [Int.toNat_natCast]
  unfold rngD
  rw [List.range_eq_range']
  refine deep_go m 0 c f ho (fun f i c' r3 r4 K ho hcc hK => ?_) (fun f' r3 r4 ho' hd' hl' => ?_) none none
  · refine ⟨_, rfl, shortL 4 rfl, _, rfl, by show c' < LIM; omega, Nat.succ_pos _, by show 4 < 1073741824; decide, fun x hx => ?_⟩
    obtain ⟨w, rfl, hw⟩ : ∃ w : Str, x = .str w ∧ kindW (.str w) = true := by
      simp only [List.mem_cons, List.not_mem_nil, or_false] at hx
      rcases hx with rfl | rfl | rfl | rfl <;> exact ⟨_, rfl, by decide +kernel⟩
    refine ⟨_, rfl, (2 : Int), rfl, by decide, by decide, by show c' + 1 < LIM; omega, fun t t0 t1 => ?_⟩
    refine ⟨ceq_of (n := 0) (m := 0) rfl rfl, _, rfl, ?_⟩
    refine ite2 (fun c1 => ?_) (fun c1 => ?_)
    · refine ⟨_, rfl, _, rfl, shortL 2 rfl, shortL 3 rfl, ?_⟩
      refine hK (.node w f (.leaf "good" "z")) _ _ ?_ ?_ List.length_append
      · exact Bool.and_eq_true_iff.mpr ⟨hw, Bool.and_eq_true_iff.mpr ⟨ho, by decide +kernel⟩⟩
      · show max f.depth 0 + 1 = f.depth + 1
        omega
    · refine ⟨_, rfl, shortL 2 rfl, _, rfl, shortL 3 rfl, ?_⟩
      refine hK (.node w (.leaf "good" "z") f) _ _ ?_ ?_ (List.length_append.trans (Nat.add_comm _ _))
      · exact Bool.and_eq_true_iff.mpr ⟨hw, Bool.and_eq_true_iff.mpr ⟨by decide +kernel, ho⟩⟩
      · show max 0 f.depth + 1 = f.depth + 1
        omega
  · exact ⟨_, rfl, c + 2 * m, Nat.le_refl _, h f' ho' hd' hl'⟩
-- @hash 3eeceb8d
-- @clo
def csp__law_why : CSp := fun B ds mu c P PX => ds = [] ∧ B mu c (fun _ mu c => P (.lst []) mu c) (fun x mu c => x.cls = "BadValue" ∧ ∃ v, x.fs = [(("value" : Str), v)] ∧ P (.lst [v]) mu c)
def m__law_why (g : Addr) (B : Beh) : MS := (mSeq (mTryAs 1 "BadValue" (mDrop (mAct 0 g B)) (fun a dd => (mRet (mLst (mCons (mBy "value" dd (mVar 1) a) mNil)))))
  (mRet (mLst mNil)))
theorem rd__law_why (g : Addr) (B : Beh) (hB : BMono B) (ds : List D) (mu : Mu) (c : Nat) (P : D → Mu → Nat → Prop) (PX : Ex → Mu → Nat → Prop) (h : csp__law_why B ds mu c P PX) : ds.length = 0 ∧ m__law_why g B (S0 ["_law_call", "e"] ["_law_call"] (.ref g :: ds) mu c) (EF P) (XF PX) := by
  obtain ⟨rfl, h⟩ := h
  refine ⟨rfl, rfl, hB _ _ _ _ _ _ h (fun d mu1 c1 h1 => ?_) (fun x mu1 c1 h1 => ?_)⟩
  · exact ⟨shortL 0 rfl, c1, Nat.le_refl _, h1⟩
  · obtain ⟨e1, v, e2, h1⟩ := h1
    refine ⟨e1, by rw [e2]; exact List.cons_ne_nil _ _, fun a dd hdd => ?_⟩
    refine ⟨_, rfl, rfl, v, ?_, shortL 1 rfl, c1, Nat.le_refl _, ?_⟩
    · show muSet mu1 dd (some (.xd x.fs)) dd = _
      rw [muSet_same, e2]
    · show P (.lst [v]) (muSet (muSet mu1 dd (some (.xd x.fs))) dd none) c1
      rw [muSet_undo hdd]
      exact h1
-- @hash ee5ab4a7
def sp__law_no_kinds : DSp := fun ds mu c P PX => ∃ k : Fm, ds = [.pen, k.toD] ∧ k.kok = true ∧ k.depth ≤ 4 ∧ c + 27 ≤ LIM ∧ ∀ ys : List D, 0 < ys.length → ys.length ≤ 100 → (∀ d ∈ ys, d.pl 20 = true ∧ isKindD d = false) → P (.lst ys) mu (c + 27)
def oddK (d : D) : Prop := d.pl 20 = true ∧ isKindD d = false
def m__law_no_kinds : MS := (mSeq (mSet 2 (mCall sp__law_pick (mCons (mVar 0) (mCons (mLst (mCons (mC (.str "")) (mCons (mC (.str "A")) (mCons (mC (.str "1a")) (mCons (mC (.str "a b")) (mCons (mC (.str "abcdefghijklm")) (mCons (mC .non) (mCons (mC (.int 3)) (mCons (mTup (mCons (mC (.str "a")) mNil)) (mCons (mC (.str "a~")) mNil)))))))))) mNil))))
  (mSeq (mSet 3 (mLst (mCons (mC .non) (mCons (mC (.int 5)) (mCons (mC (.bl true)) (mCons (mC (.str "a")) (mCons (mTup mNil) (mCons (mTup (mCons (mC (.str "good")) mNil)) (mCons (mTup (mCons (mC (.str "good")) (mCons (mVar 2) mNil))) (mCons (mTup (mCons (mC (.str "counter")) (mCons (mC (.str "a")) mNil))) (mCons (mLst (mCons (mC (.str "good")) (mCons (mC (.str "a")) mNil))) (mCons (mCB listD (mCons (mVar 1) mNil)) mNil))))))))))))
  (mSeq (mSet 3 (mOp addD (mVar 3) (mLst (mCons (mTup (mCons (mC (.str "pair")) (mCons (mVar 1) mNil))) (mCons (mTup (mCons (mC (.str "pair")) (mCons (mVar 1) (mCons (mVar 1) (mCons (mVar 1) mNil))))) (mCons (mTup (mCons (mC (.str "both")) (mCons (mVar 1) (mCons (mVar 1) mNil)))) (mCons (mTup (mCons (mC (.str "pair")) (mCons (mVar 1) (mCons (mC (.str "a")) mNil)))) mNil)))))))
  (mSeq (mSet 3 (mOp addD (mVar 3) (mLst (mCons (mTup (mCons (mC (.str "to")) (mCons (mVar 1) (mCons (mC .non) mNil)))) (mCons (mTup (mCons (mC (.int 3)) (mCons (mVar 1) (mCons (mVar 1) mNil)))) (mCons (mTup (mCons (mLst (mCons (mC (.str "pair")) mNil)) (mCons (mVar 1) (mCons (mVar 1) mNil)))) (mCons (mTup (mCons (mC (.str "pair")) (mCons (mLst (mCons (mC (.str "good")) (mCons (mC (.str "a")) mNil))) (mCons (mVar 1) mNil)))) mNil)))))))
  (mRet (mOp addD (mVar 3) (mLst (mCons (mCall sp__law_deep (mCons (mVar 0) (mCons (mTup (mCons (mC (.str "good")) (mCons (mC (.str "b")) mNil))) (mCons (mC (.int 13)) mNil)))) mNil))))))))
theorem rd__law_no_kinds (ds : List D) (mu : Mu) (c : Nat) (P : D → Mu → Nat → Prop) (PX : Ex → Mu → Nat → Prop) (h : sp__law_no_kinds ds mu c P PX) : m__law_no_kinds (S0 ["_law_pen", "_law_kind_here", "_law_name", "_law_odd"] ["_law_pen", "_law_kind_here"] ds mu c) (EF P) (XF PX) := by
  obtain ⟨k, rfl, ho, hd, hc, h⟩ := h
  have hL : LIM = 1152921504606846976 := rfl
  have hT : k.toD.pl 6 = true := Fm.kplain k 6 ho (by omega)
  obtain ⟨w, r, e⟩ := k.cons
  rw [e] at hT ⊢
  obtain ⟨T, eT⟩ : ∃ T : D, T = .tup (.str w :: r) := ⟨_, rfl⟩
  have hT2 : T.pl 18 = true := by rw [eT]; exact D.pl_mono _ _ _ (by omega) hT
  have hE : ∀ d ∈ D.str w :: r, d.pl 19 = true := fun d hd => D.pl_mono _ _ _ (by omega) (D.pls_mem (D.pl_tupI hT).2 d hd)
  have q1 : ∀ {m}, (D.str (Str.ofString "pair")).pl m = true := fun {m} => pl_str (by unfold asc; decide +kernel) (by decide +kernel)
  have q2 : ∀ {m}, (D.str (Str.ofString "both")).pl m = true := fun {m} => pl_str (by unfold asc; decide +kernel) (by decide +kernel)
  have q3 : ∀ {m}, (D.str (Str.ofString "to")).pl m = true := fun {m} => pl_str (by unfold asc; decide +kernel) (by decide +kernel)
  have q4 : ∀ {m}, (D.str (Str.ofString "a")).pl m = true := fun {m} => pl_str (by unfold asc; decide +kernel) (by decide +kernel)
  have q5 : ∀ {m}, (D.str (Str.ofString "good")).pl m = true := fun {m} => pl_str (by unfold asc; decide +kernel) (by decide +kernel)
  have hTm : ∀ {m}, 18 ≤ m → T.pl m = true := fun {m} hm => D.pl_mono _ _ _ hm hT2
  refine ⟨_, rfl, shortL 1 rfl, shortL 9 rfl, _, rfl, by show c < LIM; omega, Nat.succ_pos _, by show 9 < 1073741824; decide, fun x hx => ?_⟩
  have hx : x.pl 2 = true ∧ isNameD x = false := by
    simp only [List.mem_cons, List.not_mem_nil, or_false] at hx
    rcases hx with rfl | rfl | rfl | rfl | rfl | rfl | rfl | rfl | rfl <;> exact ⟨by decide +kernel, by decide +kernel⟩
  refine ⟨shortL 0 rfl, shortL 1 rfl, _, rfl, shortL 2 rfl, shortL 2 rfl, shortL 2 rfl, _, rfl, shortL 10 rfl, ?_⟩
  rw [← eT]
  refine ⟨_, rfl, _, rfl, shortL 2 rfl, _, rfl, _, rfl, _, rfl, shortL 4 rfl, _, rfl, _, rfl, shortL 3 rfl, _, rfl, shortL 3 rfl, shortL 4 rfl, two_le 10 4 (Nat.le_refl 10) (Nat.le_refl 4), ?_⟩
  refine ⟨_, rfl, _, rfl, shortL 3 rfl, _, rfl, _, rfl, shortL 3 rfl, shortL 1 rfl, _, rfl, _, rfl, shortL 3 rfl, shortL 2 rfl, _, rfl, shortL 3 rfl, shortL 4 rfl, two_le 14 4 (Nat.le_refl 14) (Nat.le_refl 4), ?_⟩
  refine ⟨_, rfl, _, rfl, shortL 2 rfl, (.leaf "good" "b", 13), rfl, by decide +kernel, by decide, by show c + 1 + 26 ≤ LIM; omega, fun g og dg lg => ?_⟩
  have dg : g.depth = 13 := by have : g.depth = 0 + 13 := dg; omega
  refine ⟨shortL 1 rfl, two_le 18 1 (Nat.le_refl 18) (Nat.le_refl 1), c + 27, by show c + 1 + 26 ≤ c + 27; omega, h _ (Nat.succ_pos _) (by show 19 ≤ 100; decide) ?_⟩
  refine al_app (p := oddK) (al_app (p := oddK) (al_app (p := oddK) ?_ ?_) ?_) (al_one (p := oddK) ⟨Fm.kplain g 20 og (by omega), ?_⟩)
  · refine al_cons (p := oddK) ⟨rfl, rfl⟩ (al_cons (p := oddK) ⟨rfl, rfl⟩ (al_cons (p := oddK) ⟨rfl, rfl⟩ (al_cons (p := oddK) ⟨q4, rfl⟩ (al_cons (p := oddK) ⟨rfl, rfl⟩ (al_cons (p := oddK) ⟨tupP (al_one q5), rfl⟩ (al_cons (p := oddK) ⟨tupP (al_cons q5 (al_one (D.pl_mono _ _ _ (by omega) hx.1))), ?_⟩ (al_cons (p := oddK) ⟨by decide +kernel, by decide +kernel⟩ (al_cons (p := oddK) ⟨lstP (al_cons q5 (al_one q4)), rfl⟩ (al_one (p := oddK) ⟨lstP hE, rfl⟩)))))))))
    show (eqvD (.str "good") (.str "good") && isNameD x) = false
    rw [hx.2, Bool.and_false]
  · refine al_cons (p := oddK) ⟨tupP (al_cons q1 (al_one (hTm (by omega)))), ?_⟩ (al_cons (p := oddK) ⟨tupP (al_cons q1 (al_cons (hTm (by omega)) (al_cons (hTm (by omega)) (al_one (hTm (by omega)))))), rfl⟩ (al_cons (p := oddK) ⟨tupP (al_cons q2 (al_cons (hTm (by omega)) (al_one (hTm (by omega))))), ?_⟩ (al_one (p := oddK) ⟨tupP (al_cons q1 (al_cons (hTm (by omega)) (al_one q4))), ?_⟩)))
    · show (eqvD (.str (Str.ofString "pair")) (.str "good") && isNameD T) = false
      rw [eqv_word, decide_eq_false (by decide +kernel), Bool.false_and]
    · show (kindW (.str (Str.ofString "both")) && (kindIn 11 T && kindIn 11 T)) = false
      rw [show kindW (.str (Str.ofString "both")) = false by decide +kernel, Bool.false_and]
    · show (kindW (.str (Str.ofString "pair")) && (kindIn 11 T && false)) = false
      rw [Bool.and_false, Bool.and_false]
  · refine al_cons (p := oddK) ⟨tupP (al_cons q3 (al_cons (hTm (by omega)) (al_one rfl))), ?_⟩ (al_cons (p := oddK) ⟨tupP (al_cons rfl (al_cons (hTm (by omega)) (al_one (hTm (by omega))))), ?_⟩ (al_cons (p := oddK) ⟨tupP (al_cons (lstP (al_one q1)) (al_cons (hTm (by omega)) (al_one (hTm (by omega))))), ?_⟩ (al_one (p := oddK) ⟨tupP (al_cons q1 (al_cons (lstP (al_cons q5 (al_one q4))) (al_one (hTm (by omega))))), ?_⟩)))
    · show (kindW (.str (Str.ofString "to")) && (kindIn 11 T && false)) = false
      rw [Bool.and_false, Bool.and_false]
    · show (kindW (.int 3) && (kindIn 11 T && kindIn 11 T)) = false
      rw [show kindW (.int 3) = false by decide +kernel, Bool.false_and]
    · show (kindW (.lst [.str (Str.ofString "pair")]) && (kindIn 11 T && kindIn 11 T)) = false
      rw [show kindW (.lst [.str (Str.ofString "pair")]) = false by decide +kernel, Bool.false_and]
    · show (kindW (.str (Str.ofString "pair")) && (false && kindIn 11 T)) = false
      rw [Bool.false_and, Bool.and_false]
  · show kindIn 12 g.toD = false
    rw [Fm.kindIn g 12 og, decide_eq_false (by omega)]
-- @hash d0ba5600
def sp__law_goods_right : DSp := fun ds mu c P PX => ∃ k : Fm, ds = [k.toD] ∧ k.kok = true ∧ k.depth ≤ 12 ∧ k.leaves.length ≤ 60 ∧ P (.bl true) mu c
theorem isKind_of {k : Fm} (h : k.kok = true) (hd : k.depth ≤ 12) : isKindD k.toD = true := by
  unfold isKindD
  rw [Fm.kindIn k 12 h]
  exact decide_eq_true hd
theorem fine_k {k : Fm} (h : k.kok = true) (hd : k.depth ≤ 12) : fineD 12 k.toD = true := fineD_pl 12 13 _ (by decide) (Fm.kplain k 13 h (by omega))
def m__law_goods_right : MS := (mSeq (mSet 1 (mCall sp__law_form_of (mCons (mVar 0) mNil)))
  (mRet (mOp eqD (mCall sp_goods_in (mCons (mVar 0) mNil)) (mCB tupleD (mCons (mCall sp__law_once (mCons (mLc (mItems (mCall sp__law_leaves (mCons (mVar 1) mNil))) [2] (gN 2) mYes (mOp subD (mVar 2) (mC (.int 1)))) mNil)) mNil)))))
theorem rd__law_goods_right (ds : List D) (mu : Mu) (c : Nat) (P : D → Mu → Nat → Prop) (PX : Ex → Mu → Nat → Prop) (h : sp__law_goods_right ds mu c P PX) : m__law_goods_right (S0 ["_law_kind_here", "_law_form", "_law_leaf"] ["_law_kind_here"] ds mu c) (EF P) (XF PX) := by
  obtain ⟨k, rfl, ho, hd, hl, h⟩ := h
  have hk := isKind_of ho hd
  have hfl : k.form.leaves.length = k.leaves.length := by rw [← Fm.nms_len, ← Fm.nms_len, Fm.form_nms]
  refine ⟨_, rfl, k, rfl, by show k.depth < 14; omega, hd, ho, ?_⟩
  refine ⟨_, rfl, k.toD, rfl, fine_k ho hd, fun e => (by rw [hk] at e; cases e), fun _ => ⟨k, rfl, ho, hd, hl, fun ys hs hm => ?_⟩⟩
  refine ⟨_, rfl, k.form, rfl, by rw [Fm.form_depth]; omega, by rw [Fm.form_depth]; omega, ?_⟩
  refine lc_each (fun d => match d with | .tup [_, x] => x | d => d) _ [] (fun d hd K hK => ?_) (by rw [List.length_map, hfl]; show 0 + _ ≤ LINE; have : (LINE : Nat) = 16777216 := rfl; omega) ?_
  · obtain ⟨g, hg, rfl⟩ := List.mem_map.mp hd
    obtain ⟨w, x, rfl⟩ := Fm.leaf_of _ _ hg
    exact ⟨_, rfl, _, rfl, hK⟩
  have e : ((k.form.leaves.map Fm.toD).map fun d => match d with | .tup [_, x] => x | d => d) = k.nms.map D.str := by
    rw [← Fm.form_nms, ← Fm.leaves_nms, List.map_map, List.map_map]
    refine List.map_congr_left fun g hg => ?_
    obtain ⟨w, x, rfl⟩ := Fm.leaf_of _ _ hg
    rfl
  rw [List.nil_append, e]
  refine ⟨k.nms, rfl, by rw [Fm.nms_len]; omega, Fm.nms_ok k ho, fun zs hz hmz => ?_⟩
  have ez : zs = ys := strict_same hz hs fun x => (hmz x).trans (hm x).symm
  subst ez
  have hokz : ∀ x ∈ zs, isNameL x.cps.toList = true := fun x hx => Fm.nms_ok k ho x ((hm x).mp hx)
  have hpl : (D.tup (zs.map D.str)).pl 3 = true := tupP fun d hd => by
    obtain ⟨x, hx, rfl⟩ := List.mem_map.mp hd
    exact (sA_name (hokz x hx)).pl
  refine ⟨ceq_of (n := 3) (m := 3) (D.pl_ok _ _ hpl) (D.pl_ok _ _ hpl), c, Nat.le_refl _, ?_⟩
  rw [D.eqv_refl _ (D.ok_mono _ _ _ (by omega) (D.pl_ok _ _ hpl))]
  exact h
-- @hash 27075110
theorem ok64 {d : D} {n : Nat} (h : d.pl n = true) (hn : n ≤ 64 := by decide) : d.ok 64 = true := D.ok_mono _ _ _ hn (D.pl_ok _ _ h)
theorem optK_ok {f : Fm} {b : Bool} (h : f.ok = true) (hd : f.depth ≤ 12) : (optK (Fm.kind b f)).ok 64 = true := by
  cases e : Fm.kind b f with
  | none => rfl
  | some k =>
    obtain ⟨h1, h2⟩ := Fm.kind_kok f b k h e
    exact ok64 (Fm.kplain k 13 h1 (by omega))
theorem neq_self {d : D} (h : d.ok 64 = true) : (!eqvD d d) = false := by rw [D.eqv_refl d h]; rfl
theorem isForm_of {f : Fm} (h : f.ok = true) (hd : f.depth ≤ 12) : isFormD f.toD = true := by
  show (depthIn 12 f.toD).isSome = true
  rw [Fm.dep f 12 h, if_pos hd]
  rfl
/-- the defs of a form, at a form -/
theorem fo_at {g : Fm → D} {f : Fm} {mu : Mu} {c : Nat} {P : D → Mu → Nat → Prop} {PX : Ex → Mu → Nat → Prop} (h : f.ok = true) (hd : f.depth ≤ 12) (k : P (g f) mu c) : spFo g [f.toD] mu c P PX :=
  ⟨_, rfl, Fm.fine f 12 h, fun e => (by rw [isForm_of h hd] at e; cases e), fun _ => ⟨f, rfl, h, hd, k⟩⟩
def m_law : MS := (mSeq (mSet 2 (mLc (mRng1 (mCons (mC (.int 3)) mNil)) [9] (gN 9) mYes (mCall sp__law_pick (mCons (mVar 1) (mCons (mLst (mCons (mC (.str "a")) (mCons (mC (.str "b")) (mCons (mC (.str "c1")) (mCons (mC (.str "let")) (mCons (mC (.str "x")) (mCons (mC (.str "abcdefghijkl")) (mCons (mC (.str "z9")) mNil)))))))) mNil)))))
  (mSeq (mSet 3 (mCall sp__law_kind (mCons (mVar 1) (mCons (mVar 2) (mCons (mC (.int 4)) mNil)))))
  (mSeq (mSet 4 (mCall sp__law_deep (mCons (mVar 1) (mCons (mTup (mCons (mC (.str "good")) (mCons (mOp subD (mVar 2) (mC (.int 0))) mNil))) (mCons (mC (.int 12)) mNil)))))
  (mSeq (mFor (mItems (mLst (mCons (mVar 3) (mCons (mVar 4) mNil)))) (gN 5) (mSeq (mSet 6 (mCall sp__law_form_of (mCons (mVar 5) mNil)))
  (mSeq (mIfS (mOr (mNot (mB (mCall sp_is_kind (mCons (mVar 5) mNil)))) (mOr (mB (mOp neD (mCall sp_form_of_kind (mCons (mVar 5) mNil)) (mVar 6))) (mOr (mB (mOp neD (mCall sp_kind_of_form (mCons (mVar 6) mNil)) (mVar 5))) (mB (mOp notND (mCall sp_kind_taken (mCons (mVar 6) mNil)) (mC .non)))))) (mRet (mC (.bl false))) mNext)
  (mSeq (mIfS (mOr (mB (mOp notND (mCall sp_kind_of_form (mCons (mCall sp__law_counter (mCons (mVar 6) mNil)) mNil)) (mC .non))) (mB (mOp neD (mCall sp_kind_taken (mCons (mCall sp__law_counter (mCons (mVar 6) mNil)) mNil)) (mVar 5)))) (mRet (mC (.bl false))) mNext)
  (mIfS (mNot (mB (mCall sp__law_goods_right (mCons (mVar 5) mNil)))) (mRet (mC (.bl false))) mNext)))))
  (mSeq (mFor (mItems (mLst (mCons (mCall sp__law_bent (mCons (mVar 1) (mCons (mCall sp__law_form_of (mCons (mVar 3) mNil)) mNil))) (mCons (mCall sp__law_bent (mCons (mVar 1) (mCons (mCall sp__law_counter (mCons (mCall sp__law_form_of (mCons (mVar 3) mNil)) mNil)) mNil))) mNil)))) (gN 6) (mIfS (mOr (mB (mOp neD (mCall sp_kind_of_form (mCons (mVar 6) mNil)) (mCall sp__law_kind_of (mCons (mVar 6) mNil)))) (mB (mOp neD (mCall sp_kind_taken (mCons (mVar 6) mNil)) (mCall sp__law_kind_of (mCons (mCall sp__law_counter (mCons (mVar 6) mNil)) mNil))))) (mRet (mC (.bl false))) mNext))
  (mSeq (mSet 7 (mCall sp__law_pick (mCons (mVar 1) (mCons (mCall sp__law_no_kinds (mCons (mVar 1) (mCons (mVar 3) mNil))) mNil))))
  (mSeq (mIfS (mOr (mB (mCall sp_is_kind (mCons (mVar 7) mNil))) (mB (mOp neD (mLamC csp__law_why (mCall sp_form_of_kind (mCons (mVar 7) mNil)) mNil) (mLst (mCons (mVar 7) mNil))))) (mRet (mC (.bl false))) mNext)
  (mSeq (mIfS (mB (mOp neD (mLamC csp__law_why (mCall sp_goods_in (mCons (mVar 7) mNil)) mNil) (mLst (mCons (mVar 7) mNil)))) (mRet (mC (.bl false))) mNext)
  (mSeq (mSet 8 (mLst (mCons (mC .non) (mCons (mC (.int 5)) (mCons (mC (.str "a")) (mCons (mTup mNil) (mCons (mOp addD (mVar 3) (mTup (mCons (mVar 3) mNil))) (mCons (mTup (mCons (mC (.str "pair")) (mCons (mTup (mCons (mC (.str "good")) (mCons (mC (.str "a")) mNil))) (mCons (mTup (mCons (mC (.str "good")) (mCons (mC (.str "b")) mNil))) mNil)))) (mCons (mCB listD (mCons (mCall sp__law_form_of (mCons (mVar 4) mNil)) mNil)) mNil)))))))))
  (mSeq (mSet 8 (mCall sp__law_pick (mCons (mVar 1) (mCons (mVar 8) mNil))))
  (mSeq (mIfS (mB (mOp neD (mLamC csp__law_why (mCall sp_kind_of_form (mCons (mVar 8) mNil)) mNil) (mLst (mCons (mVar 8) mNil)))) (mRet (mC (.bl false))) mNext)
  (mRet (mOp eqD (mLamC csp__law_why (mCall sp_kind_taken (mCons (mVar 8) mNil)) mNil) (mLst (mCons (mVar 8) mNil)))))))))))))))
theorem rd_law (mu : Mu) : m_law ⟨none :: some .pen :: List.replicate 8 none, mu, 0⟩ lawEnd PX0 := by
  have hL : LIM = 1152921504606846976 := rfl
  refine ⟨3, rfl, by decide, by decide, ?_⟩
  refine lc_rel (fun _ y => ∃ s : Str, y = .str s ∧ isNameL s.cps.toList = true) 1 3 _ _ _ (fun d hd c1 K hc1 hK => ?_) (by rw [rngD_len]; decide) (by rw [rngD_len]; decide) (fun ys hys => ?_)
  · refine ⟨_, rfl, shortL 7 rfl, _, rfl, by show c1 < LIM; omega, Nat.succ_pos _, by show 7 < 1073741824; decide, fun x hx => ?_⟩
    simp only [List.mem_cons, List.not_mem_nil, or_false] at hx
    rcases hx with rfl | rfl | rfl | rfl | rfl | rfl | rfl <;> exact hK _ ⟨_, rfl, by decide +kernel⟩
  obtain ⟨ns, rfl, hl, hns⟩ := all2_ex D.str (fun s => isNameL s.cps.toList = true) hys
  rw [rngD_len] at hl
  have hl : ns.length = 3 := hl
  cases ns with
  | nil => cases hl
  | cons s0 rest =>
  refine ⟨_, rfl, _, rfl, ⟨s0 :: rest, 4⟩, rfl, by show 4 < 6; decide, Nat.succ_pos _, by show (s0 :: rest).length ≤ 1000; omega, hns, by show 3 + 46 ≤ LIM; omega, fun k ko kd kl => ?_⟩
  have kd : k.depth ≤ 4 := kd
  have kl : k.leaves.length ≤ 16 := kl
  refine ⟨_, rfl, _, rfl, .str s0, atI_nat (j := 0) rfl, shortL 2 rfl, (.leaf "good" s0, 12), rfl, Bool.and_eq_true_iff.mpr ⟨rfl, hns s0 List.mem_cons_self⟩, by show 12 ≤ 1000; decide, by show 49 + 24 ≤ LIM; omega, fun g go gd gl => ?_⟩
  have gd : g.depth = 12 := by have : g.depth = 0 + 12 := gd; omega
  have gl : g.leaves.length = 13 := by have : g.leaves.length = 1 + 12 := gl; omega
  refine ⟨_, rfl, _, rfl, shortL 2 rfl, ?_⟩
  refine for_ind (fun ds st => (∀ d ∈ ds, ∃ q : Fm, d = q.toD ∧ q.kok = true ∧ q.depth ≤ 12 ∧ q.leaves.length ≤ 60) ∧ ∃ x5 x6, st = ⟨[none, some .pen, some (.lst ((s0 :: rest).map D.str)), some k.toD, some g.toD, x5, x6, none, none, none], mu, 73⟩) _ _ ⟨?_, none, none, rfl⟩ ?_ ?_
  · exact al_cons ⟨k, rfl, ko, by omega, by omega⟩ (al_one ⟨g, rfl, go, by omega, by omega⟩)
  case refine_3 =>
    rintro d r st ⟨hds, x5, x6, rfl⟩ K hK
    obtain ⟨q, rfl, qo, qd, ql⟩ := hds d List.mem_cons_self
    have fo := Fm.form_ok q qo
    have fd : q.form.depth ≤ 12 := by rw [Fm.form_depth]; exact qd
    have no := Fm.neg_ok _ fo
    have nd : q.form.neg.depth ≤ 12 := by rw [Fm.neg_depth]; exact fd
    have fk := ok64 (Fm.plain q.form 13 fo (by omega))
    have qk := ok64 (Fm.kplain q 13 qo (by omega))
    have hk := isKind_of qo qd
    obtain ⟨e1, e2⟩ := Fm.kind_form q qo
    refine ⟨_, rfl, q, rfl, by show q.depth < 14; omega, qd, qo, ?_⟩
    refine ⟨_, rfl, _, rfl, fine_k qo qd, _, rfl, ?_⟩
    refine iteFh (by rw [hk]; rfl) ?_
    refine ⟨_, rfl, _, rfl, fine_k qo qd, fun e => (by rw [hk] at e; cases e), fun _ => ⟨q, rfl, qo, qd, ql, ?_⟩⟩
    refine ⟨_, rfl, ceq_of (n := 64) (m := 64) fk fk, _, rfl, ?_⟩
    refine iteFh (neq_self fk) ?_
    refine ⟨_, rfl, _, rfl, Fm.fine _ 12 fo, fun e => (by rw [isForm_of fo fd] at e; cases e), fun _ => ⟨_, rfl, fo, fd, ?_⟩⟩
    dsimp only
    rw [e1]
    refine ⟨_, rfl, ceq_of (n := 64) (m := 64) qk qk, _, rfl, ?_⟩
    refine iteFh (neq_self qk) ?_
    refine ⟨_, rfl, _, rfl, Fm.fine _ 12 fo, fun e => (by rw [isForm_of fo fd] at e; cases e), fun _ => ⟨_, rfl, fo, fd, ?_⟩⟩
    dsimp only
    rw [e2]
    refine ⟨rfl, _, rfl, iteF ?_⟩
    refine ⟨_, rfl, q.form, rfl, by show q.form.depth < 14; omega, fo, _, rfl, Fm.fine _ 12 no, fun e => (by rw [isForm_of no nd] at e; cases e), fun _ => ⟨_, rfl, no, nd, ?_⟩⟩
    dsimp only
    rw [Fm.kind_neg _ _ fo, show (!false) = true from rfl, e2]
    refine ⟨rfl, _, rfl, iteF ?_⟩
    refine ⟨_, rfl, q.form, rfl, by show q.form.depth < 14; omega, fo, _, rfl, Fm.fine _ 12 no, fun e => (by rw [isForm_of no nd] at e; cases e), fun _ => ⟨_, rfl, no, nd, ?_⟩⟩
    dsimp only
    rw [Fm.kind_neg _ _ fo, show (!true) = false from rfl, e1]
    refine ⟨_, rfl, ceq_of (n := 64) (m := 64) qk qk, _, rfl, ?_⟩
    refine iteFh (neq_self qk) ?_
    refine ⟨_, rfl, q, rfl, qo, qd, ql, _, rfl, iteF ?_⟩
    exact hK _ ⟨fun d hd => hds d (List.mem_cons_of_mem _ hd), _, _, rfl⟩
  rintro st ⟨_, x5, x6, rfl⟩
  have kfo := Fm.form_ok k ko
  have kfd : k.form.depth ≤ 4 := by rw [Fm.form_depth]; exact kd
  have kno := Fm.neg_ok _ kfo
  have knd : k.form.neg.depth ≤ 4 := by rw [Fm.neg_depth]; exact kfd
  refine ⟨_, rfl, _, rfl, k, rfl, by show k.depth < 14; omega, by omega, ko, k.form, rfl, by show k.form.depth < 14; omega, kfo, by show 73 + 28 ≤ LIM; omega, fun f1 o1 d1 => ?_⟩
  refine ⟨_, rfl, _, rfl, k, rfl, by show k.depth < 14; omega, by omega, ko, k.form, rfl, by show k.form.depth < 14; omega, kfo, k.form.neg, rfl, by show k.form.neg.depth < 14; omega, kno, by show 101 + 28 ≤ LIM; omega, fun f2 o2 d2 => ?_⟩
  refine ⟨shortL 2 rfl, ?_⟩
  refine for_ind (fun ds st => (∀ d ∈ ds, ∃ q : Fm, d = q.toD ∧ q.ok = true ∧ q.depth ≤ 12) ∧ ∃ x6, st = ⟨[none, some .pen, some (.lst ((s0 :: rest).map D.str)), some k.toD, some g.toD, x5, x6, none, none, none], mu, 129⟩) _ _ ⟨?_, x6, rfl⟩ ?_ ?_
  · exact al_cons ⟨f1, rfl, o1, by omega⟩ (al_one ⟨f2, rfl, o2, by omega⟩)
  case refine_3 =>
    rintro d r st ⟨hds, x6, rfl⟩ K hK
    obtain ⟨q, rfl, qo, qd⟩ := hds d List.mem_cons_self
    have no := Fm.neg_ok _ qo
    have nd : q.neg.depth ≤ 12 := by rw [Fm.neg_depth]; exact qd
    have k1 := optK_ok (b := false) qo qd
    have k2 := optK_ok (b := true) qo qd
    refine ⟨_, rfl, _, rfl, Fm.fine _ 12 qo, fun e => (by rw [isForm_of qo qd] at e; cases e), fun _ => ⟨_, rfl, qo, qd, ?_⟩⟩
    refine ⟨_, rfl, q, rfl, by show q.depth < 14; omega, qd, qo, ceq_of (n := 64) (m := 64) k1 k1, _, rfl, ?_⟩
    refine iteFh (neq_self k1) ?_
    refine ⟨_, rfl, _, rfl, Fm.fine _ 12 qo, fun e => (by rw [isForm_of qo qd] at e; cases e), fun _ => ⟨_, rfl, qo, qd, ?_⟩⟩
    refine ⟨_, rfl, q, rfl, by show q.depth < 14; omega, qo, q.neg, rfl, by show q.neg.depth < 14; omega, nd, no, ?_⟩
    rw [Fm.kind_neg _ _ qo, show (!false) = true from rfl]
    refine ⟨ceq_of (n := 64) (m := 64) k2 k2, _, rfl, ?_⟩
    refine iteFh (neq_self k2) ?_
    exact hK _ ⟨fun d hd => hds d (List.mem_cons_of_mem _ hd), _, rfl⟩
  rintro st ⟨_, x6, rfl⟩
  refine ⟨_, rfl, _, rfl, _, rfl, k, rfl, ko, kd, by show 129 + 27 ≤ LIM; omega, fun ys y0 y1 hy => ?_⟩
  refine ⟨_, rfl, by show 156 < LIM; omega, y0, by omega, fun odd hodd => ?_⟩
  obtain ⟨op, ok⟩ := hy odd hodd
  have ofine : fineD 12 odd = true := fineD_pl 12 20 odd (by decide) op
  have ook : (D.lst [odd]).ok 64 = true := ok64 (lstP (al_one op))
  refine ⟨_, rfl, odd, rfl, ofine, _, rfl, ?_⟩
  refine iteFh ok ?_
  refine ⟨rfl, _, _, ⟨_, rfl, odd, rfl, ofine, fun _ => ?_, fun e => (by rw [ok] at e; cases e)⟩, fun _ _ z => z, fun _ _ z => z⟩
  refine ⟨rfl, odd, rfl, _, rfl, shortL 1 rfl, ceq_of (n := 64) (m := 64) ook ook, _, rfl, iteFh (neq_self ook) ?_⟩
  refine ⟨rfl, _, _, ⟨_, rfl, odd, rfl, ofine, fun _ => ?_, fun e => (by rw [ok] at e; cases e)⟩, fun _ _ z => z, fun _ _ z => z⟩
  refine ⟨rfl, odd, rfl, _, rfl, shortL 1 rfl, ceq_of (n := 64) (m := 64) ook ook, _, rfl, iteFh (neq_self ook) ?_⟩
  -- no forms
  have kT : k.toD.pl 6 = true := Fm.kplain k 6 ko (by omega)
  have gT : g.form.toD.pl 14 = true := Fm.plain g.form 14 (Fm.form_ok g go) (by rw [Fm.form_depth]; omega)
  obtain ⟨w, r, ek, hr⟩ : ∃ w r, k.toD = .tup (.str w :: r) ∧ r.length ≤ 2 := by cases k <;> exact ⟨_, _, rfl, by simp⟩
  obtain ⟨w2, r2, eg⟩ := g.form.cons
  have hgood : ∀ {m}, (D.str (Str.ofString "good")).pl m = true := fun {m} => pl_str (by unfold asc; decide +kernel) (by decide +kernel)
  have hkk : (D.tup ((.str w :: r) ++ [k.toD])).pl 7 = true ∧ isFormD (D.tup ((.str w :: r) ++ [k.toD])) = false := by
    refine ⟨?_, ?_⟩
    · refine tupP (al_app (fun d hd => ?_) (al_one kT))
      rw [ek] at kT
      exact D.pl_mono _ _ _ (by omega) (D.pls_mem (D.pl_tupI kT).2 d hd)
    · cases k with
      | leaf v x =>
        have hv := of_decide_eq_true (Bool.and_eq_true_iff.mp ko).1
        subst hv
        cases ek
        show (if halfW (.str (Str.ofString "good")) = true then _ else none : Option Nat).isSome = false
        rw [show halfW (.str (Str.ofString "good")) = false by decide +kernel, if_neg Bool.false_ne_true]
        rfl
      | node v a b =>
        cases ek
        rfl
  obtain ⟨T, eT⟩ : ∃ T : D, T = .tup ((.str w :: r) ++ [k.toD]) := ⟨_, rfl⟩
  have hT : T.pl 20 = true ∧ isFormD T = false := by
    have e : D.str w :: r = D.str w :: r := rfl
    rw [eT]
    exact ⟨D.pl_mono _ _ _ (by omega) hkk.1, hkk.2⟩
  have hG : (D.lst (.str w2 :: r2)).pl 20 = true ∧ isFormD (D.lst (.str w2 :: r2)) = false := by
    refine ⟨lstP fun d hd => ?_, rfl⟩
    rw [eg] at gT
    exact D.pl_mono _ _ _ (by omega) (D.pls_mem (D.pl_tupI gT).2 d hd)
  refine ⟨shortL 0 rfl, _, rfl, _, rfl, shortL 1 rfl, ?_⟩
  rw [ek] at eT
  rw [ek]
  refine ⟨two_le 3 1 (by rw [List.length_cons]; omega) (Nat.le_refl 1), shortL 2 rfl, shortL 2 rfl, shortL 3 rfl, ?_⟩
  rw [← eT]
  refine ⟨_, rfl, g, rfl, by show g.depth < 14; omega, by omega, go, ?_⟩
  rw [eg]
  refine ⟨shortL 7 rfl, ?_⟩
  refine ⟨_, rfl, _, rfl, _, rfl, by show 157 < LIM; omega, Nat.succ_pos _, by show 7 < 1073741824; decide, fun x hx => ?_⟩
  have hx : x.pl 20 = true ∧ isFormD x = false := by
    simp only [List.mem_cons, List.not_mem_nil, or_false] at hx
    rcases hx with rfl | rfl | rfl | rfl | rfl | rfl | rfl
    · exact ⟨rfl, rfl⟩
    · exact ⟨rfl, rfl⟩
    · exact ⟨by decide +kernel, rfl⟩
    · exact ⟨rfl, rfl⟩
    · exact hT
    · exact ⟨by decide +kernel, by decide +kernel⟩
    · exact hG
  obtain ⟨xp, xn⟩ := hx
  have xfine : fineD 12 x = true := fineD_pl 12 20 x (by decide) xp
  have xok : (D.lst [x]).ok 64 = true := ok64 (lstP (al_one xp))
  refine ⟨rfl, _, _, ⟨_, rfl, x, rfl, xfine, fun _ => ?_, fun e => (by rw [xn] at e; cases e)⟩, fun _ _ z => z, fun _ _ z => z⟩
  refine ⟨rfl, x, rfl, _, rfl, shortL 1 rfl, ceq_of (n := 64) (m := 64) xok xok, _, rfl, iteFh (neq_self xok) ?_⟩
  refine ⟨rfl, _, _, ⟨_, rfl, x, rfl, xfine, fun _ => ?_, fun e => (by rw [xn] at e; cases e)⟩, fun _ _ z => z, fun _ _ z => z⟩
  refine ⟨rfl, x, rfl, _, rfl, shortL 1 rfl, ceq_of (n := 64) (m := 64) xok xok, ?_⟩
  exact congrArg D.bl (D.eqv_refl _ xok)
end DL
namespace DL
open PySem L2
local macro_rules | `(tactic| walk_at "st") => `(tactic| repeat (first | refine ⟨_, rfl, ?_⟩ | refine iteT ?_ | refine iteF ?_ | refine ⟨rfl, ?_⟩ | refine ⟨ceq_of (n := 0) (m := 0) rfl rfl, ?_⟩ | refine ⟨shortL _ rfl, ?_⟩))
local macro_rules | `(tactic| walk_at "c") => `(tactic| dsimp only [mNil])
local macro_rules | `(tactic| walk_at "ff") => `(tactic| first | (show if false = true then _ else _; refine iteF ?_) | skip)
def top (i : Nat) : Stmt := PySem.Challenge.pw_alldeeds_k83_kinds_and_their_forms.main.body.getD i (.Pass ⟨0, 0, 0, 0⟩)
structure Tx (P : Program) (K : PySem.W.Frag) (mg : Str → Option Value) : Prop where
  e_BadValue : ∃ C fI, OwnErr P K mg "BadValue" "value" C fI
  i_FORM_WORDS : GlobT K mg "FORM_WORDS" ["both", "chosen", "offered"]
  i_HALVED_WORDS : GlobT K mg "HALVED_WORDS" ["both", "between", "offered", "chosen"]
  i_KIND_WORDS : GlobT K mg "KIND_WORDS" ["pair", "sum", "offer", "to"]
  g_COUNTERS : GlobD K mg "COUNTERS" (.tup [(.str "between"), (.str "both"), (.str "chosen"), (.str "offered")])
  g_FORM_WORDS : GlobD K mg "FORM_WORDS" (.tup [(.str "both"), (.str "chosen"), (.str "offered")])
  g_HALVED_WORDS : GlobD K mg "HALVED_WORDS" (.tup [(.str "both"), (.str "between"), (.str "offered"), (.str "chosen")])
  g_KIND_WORDS : GlobD K mg "KIND_WORDS" (.tup [(.str "pair"), (.str "sum"), (.str "offer"), (.str "to")])
  g_LEAF_WORDS : GlobD K mg "LEAF_WORDS" (.tup [(.str "good"), (.str "counter")])
  g_LETTERS : GlobD K mg "LETTERS" (.str "abcdefghijklmnopqrstuvwxyz")
  g_MOST_DEPTH : GlobD K mg "MOST_DEPTH" (.int 12)
  g_MOST_SIGNS : GlobD K mg "MOST_SIGNS" (.int 12)
  g_SIGNS : GlobD K mg "SIGNS" (.str "abcdefghijklmnopqrstuvwxyz0123456789")
  b_abs : mg "abs" = none
  b_all : mg "all" = none
  b_int : mg "int" = none
  b_isinstance : mg "isinstance" = none
  b_len : mg "len" = none
  b_list : mg "list" = none
  b_max : mg "max" = none
  b_range : mg "range" = none
  b_set : mg "set" = none
  b_sorted : mg "sorted" = none
  b_str : mg "str" = none
  b_tuple : mg "tuple" = none
section
variable {P : Program} {w : World} {K : PySem.W.Frag} {mg : Str → Option Value} {Tb : List (Addr × Str)} {base : Heap}
abbrev s__law_begin : Stmt := top 31
theorem sc__law_begin : FnScope ["_law_script"] ["_law_script"] (defScope s__law_begin) := ⟨rfl, rfl, rfl, by decide +kernel, rfl, by decide +kernel, by decide +kernel⟩
theorem ok__law_begin {f : Addr} {fd : FuncData} (F : Fun K "_law_begin" "_law_begin" s__law_begin f fd) (T : Tx P K mg) : FnOk P w K mg base (L2.CX P w) 1 f fd ["_law_script"] (spBegin0 K) := by
  refine F.okX sc__law_begin (fun vs H Q E h => ?_) (fun cdv A outer s H vs Q E hr h => ?_)
  · obtain ⟨a, ns, rfl, _⟩ := h
    rfl
  · refine ⟨_, pss_one (ps_ret (pe_disp (pps_cons pe_str (pe_callTy call_list_of (by rfl) T.b_list (by decide +kernel) (pa_cons (pe_slice sl_list (pv 0) po_none (po_some pe_int)) pa_nil)) (pps_cons pe_str pe_int (pps_cons pe_str pe_int pps_nil))) (by rfl) (by rfl) (fun z => by cases z) (by decide))), ?_⟩
    obtain ⟨a, ns, rfl, hS, hl, k⟩ := h
    intro p hp
    have hS1 : SqL K (upd H p (.dK [])) a (ns.map V.int) := by
      rcases hS with (h | ⟨o, h⟩) | h
      · exact .inl (.inl (by rw [upd_ne (ne_of_none h hp)]; exact h))
      · exact .inl (.inr ⟨o, by rw [upd_ne (ne_of_none h hp)]; exact h⟩)
      · exact .inr h
    have hcut : cutV (ns.map V.int) none (some 63) = ns.map V.int := by
      refine cutV_all ⟨rfl, ?_⟩
      rw [List.length_map]
      have := HT.sIx_nat ns.length ns.length 63
      rw [show ((63 : Nat) : Int) = 63 from rfl] at this
      rw [this]
      omega
    refine ⟨_, rfl, _, rfl, _, _, rfl, hS1, fun q hq => ?_⟩
    have npq : p ≠ q := ne_of_none upd_same hq
    refine ⟨_, _, rfl, .inl (SqL.of upd_same), fun ca hca => ?_⟩
    have npc : p ≠ ca := ne_of_none (by rw [upd_ne npq]; exact upd_same) hca
    have nqc : q ≠ ca := ne_of_none upd_same hca
    refine ⟨by rw [upd_ne npc, upd_ne npq]; exact upd_same, penKvs ca 0 0, rfl, (by show 3 ≤ 15; decide), ?_⟩
    have em : mergeK [] (penKvs ca 0 0) = penKvs ca 0 0 := by
      show putK (putK (putK [] (.inr "cells" : Key) (.ref ca)) (.inr "begun" : Key) (.int 0)) (.inr "left" : Key) (.int 0) = _
      have e1 : putK [] (.inr "cells" : Key) (.ref ca) = [((.inr "cells" : Key), .ref ca)] := rfl
      have e2 : putK [((.inr "cells" : Key), V.ref ca)] (.inr "begun" : Key) (.int 0) = [((.inr "cells" : Key), .ref ca), ((.inr "begun" : Key), .int 0)] := putK_new _ (by rw [valV_neg k_cb]; rfl)
      have e3 : putK [((.inr "cells" : Key), V.ref ca), ((.inr "begun" : Key), .int 0)] (.inr "left" : Key) (.int 0) = penKvs ca 0 0 := putK_new _ (by rw [valV_neg k_cl, valV_neg k_bl]; rfl)
      rw [e1, e2, e3]
    rw [em]
    refine k p ca _ hp ?_ npc upd_same (by rw [upd_ne npc.symm, upd_same, hcut]) fun b o e => ?_
    · rw [upd_ne nqc.symm, upd_ne npc.symm] at hca
      exact hca
    · have n1 := ne_of_none e hp
      rw [upd_ne n1]
      have e1 : (upd H p (.dK [])) b = some o := by rw [upd_ne n1]; exact e
      have n2 := ne_of_none e1 hq
      have e2 : (upd (upd H p (.dK [])) q (.lst (cutV (ns.map V.int) none (some 63)))) b = some o := by rw [upd_ne n2]; exact e1
      rw [upd_ne (ne_of_none e2 hca)]
      exact e2
abbrev s__law_draw : Stmt := top 32
theorem sc__law_draw : FnScope ["_law_pen", "_law_span", "_law_digit", "_law_at", "_law_cell", "_law_n"] ["_law_pen", "_law_span"] (defScope s__law_draw) := ⟨rfl, rfl, rfl, by decide +kernel, rfl, by decide +kernel, by decide +kernel⟩
theorem ok__law_draw {f : Addr} {fd : FuncData} (F : Fun K "_law_draw" "_law_draw" s__law_draw f fd) (T : Tx P K mg) : FnOk P w K mg base (L2.CX P w) 1 f fd ["_law_pen", "_law_span"] spDraw0 := by
  refine F.okX sc__law_draw (fun vs H Q E h => ?_) (fun cdv A outer s H vs Q E hr h => ?_)
  · obtain ⟨p, ca, n, b, l, ns, rfl, _⟩ := h
    rfl
  · have hu := u1 hr
    have nd := sc__law_draw.nd
    have getL : ∀ {X : Cx} {x : Str} {p1 p2 p3 : Pos} {j : Nat} (hu : X.A.units + 1 < cLine) (hN : X.N[(0 : Nat)]? = some (Str.ofString "_law_pen")) (hv : Vis X.env.scope (Str.ofString "_law_pen")), PE X (.Subscript (.Name (Str.ofString "_law_pen") p1) (.Constant (.str x) j p2) p3) (tDGet (tVar 0) (tC (.str x))) :=
      fun hu hN hv => pe_dget hu (pe_var hN hv) pe_str (fun _ _ => rfl)
    refine ⟨_, pss_cons (ps_if (pt_cmpR op_gt (getL hu rfl (Or.inl rfl)) pe_int (nomark _))
        (pss_cons (ps_set (i := 2) nd rfl (Or.inl rfl) (pe_op op_mod (pe_callTy call_int1 (by rfl) T.b_int PyProof.Rows.boot_int (pa_cons (getL hu rfl (Or.inl rfl)) pa_nil)) (pv 1)))
        (pss_cons (ps_dput hu (pv 0) pe_str (pe_op op_fdiv (getL hu rfl (Or.inl rfl)) (pv 1)) rfl)
        (pss_one (ps_ret (pv 2))))) pss_nil)
      (pss_cons (ps_set (i := 3) nd rfl (Or.inl rfl) (getL hu rfl (Or.inl rfl)))
      (pss_cons (ps_dput hu (pv 0) pe_str (pe_op op_add (pv 3) pe_int) rfl)
      (pss_cons (ps_set (i := 4) nd rfl (Or.inl rfl) (pe_op op_add (pe_op op_mul pe_int (pv 3)) pe_int))
      (pss_cons (ps_if (pt_cmpR (op_neD hr.units) (getL hu rfl (Or.inl rfl)) (pe_lst pa_nil) (nomark _))
        (pss_one (ps_set (i := 4) nd rfl (Or.inl rfl) (pe_ix ix_list (getL hu rfl (Or.inl rfl)) (pe_op op_mod (pe_callTy call_int1 (by rfl) T.b_int PyProof.Rows.boot_int (pa_cons (pv 3) pa_nil)) (pe_callB call_len_seq (by rfl) T.b_len boot_len (pa_cons (getL hu rfl (Or.inl rfl)) pa_nil))) (fun _ _ => rfl)))) pss_nil)
      (pss_cons (ps_if (PW.pt (pw_and (pt_cmpR op_lt (pv 3) (pe_callB call_len_seq (by rfl) T.b_len boot_len (pa_cons (getL hu rfl (Or.inl rfl)) pa_nil)) (nomark _))
          (pw_and1 (pt_cmpR op_ge (pe_callB call_abs (by rfl) T.b_abs (by decide +kernel) (pa_cons (pv 4) pa_nil)) (pe_op op_pow pe_int pe_int) (nomark _)))))
        (pss_cons (ps_dput hu (pv 0) pe_str (pe_op op_fdiv (pe_op op_sub (pe_callB call_abs (by rfl) T.b_abs (by decide +kernel) (pa_cons (pv 4) pa_nil)) (pe_op op_pow pe_int pe_int)) (pv 1)) rfl)
        (pss_one (ps_ret (pe_op op_mod (pe_callTy call_int1 (by rfl) T.b_int PyProof.Rows.boot_int (pa_cons (pe_op op_sub (pe_callB call_abs (by rfl) T.b_abs (by decide +kernel) (pa_cons (pv 4) pa_nil)) (pe_op op_pow pe_int pe_int)) pa_nil)) (pv 1))))) pss_nil)
      (pss_cons (ps_set (i := 5) nd rfl (Or.inl rfl) (pe_op op_add (pe_op op_mul (pe_op op_mod (pe_callTy call_int1 (by rfl) T.b_int PyProof.Rows.boot_int (pa_cons (pv 4) pa_nil)) pe_int) pe_int) (pe_op op_mul (pe_op op_mul pe_int (pv 3)) (pv 3))))
      (pss_cons (ps_set (i := 5) nd rfl (Or.inl rfl) (pe_op op_mod (pe_callTy call_int1 (by rfl) T.b_int PyProof.Rows.boot_int (pa_cons (pe_op op_add (pe_op op_add (pv 5) (pe_op op_mul pe_int (pv 3))) pe_int) pa_nil)) pe_int))
      (pss_cons (ps_set (i := 5) nd rfl (Or.inl rfl) (pe_op op_mod (pe_callTy call_int1 (by rfl) T.b_int PyProof.Rows.boot_int (pa_cons (pe_op op_add (pe_op op_add (pe_op op_add (pe_op op_mul (pv 5) (pv 5)) (pe_op op_mul pe_int (pv 5))) (pe_op op_mul pe_int (pv 3))) pe_int) pa_nil)) pe_int))
      (pss_cons (ps_set (i := 5) nd rfl (Or.inl rfl) (pe_op op_mod (pe_callTy call_int1 (by rfl) T.b_int PyProof.Rows.boot_int (pa_cons (pe_op op_add (pe_op op_add (pe_op op_mul (pv 5) (pv 5)) (pe_op op_mul pe_int (pv 5))) (pv 3)) pa_nil)) pe_int))
      (pss_one (ps_ret (pe_op op_mod (pe_callTy call_int1 (by rfl) T.b_int PyProof.Rows.boot_int (pa_cons (pe_op op_fdiv (pe_op op_mod (pe_callTy call_int1 (by rfl) T.b_int PyProof.Rows.boot_int (pa_cons (pe_op op_mul (pv 5) (pe_op op_add (pv 5) pe_int)) pa_nil)) pe_int) pe_int) pa_nil)) (pv 1))))))))))))), ?_⟩
    obtain ⟨p, ca, n, b, l, ns, rfl, hn0, hn1, hp, hca, hns, hb0, hb1, hl0, k⟩ := h
    refine ⟨_, rfl, _, _, rfl, pen_left hp, _, _, rfl, rfl, _, rfl, ?_⟩
    have npc : ca ≠ p := fun z => by rw [z, hp] at hca; cases hca
    refine ite2 (fun c0 => ?_) (fun c0 => ?_)
    · refine ⟨_, rfl, _, _, rfl, pen_left hp, .inl ⟨_, rfl, _, rfl, _, _, rfl, rfl, hn0, ?_⟩⟩
      refine ⟨_, rfl, _, _, rfl, pen_left hp, _, rfl, _, _, rfl, rfl, ⟨hn0, hn1⟩, _, rfl, _, _, rfl, pen_left_put _ hp, _, rfl, ?_⟩
      exact k _ b _ _ (fmod_nn hn0).1 (fmod_nn hn0).2 (Int.le_refl _) (by omega) (Int.ediv_nonneg hl0 (by omega)) upd_same fun a o h1 h2 => by rw [upd_ne h2]; exact h1
    · refine ⟨_, rfl, _, _, rfl, pen_begun hp, ?_⟩
      refine ⟨_, rfl, _, _, rfl, rfl, _, rfl, _, _, rfl, pen_begun_put _ hp, ?_⟩
      have hp1 : (upd H p (.dK (penKvs ca (b + 1) l))) p = some (.dK (penKvs ca (b + 1) l)) := upd_same
      have hc1 : (upd H p (.dK (penKvs ca (b + 1) l))) ca = some (.lst (ns.map V.int)) := by rw [upd_ne npc]; exact hca
      have fr1 : ∀ a o, H a = some o → a ≠ p → (upd H p (.dK (penKvs ca (b + 1) l))) a = some o := fun a o h1 h2 => by rw [upd_ne h2]; exact h1
      generalize upd H p (.dK (penKvs ca (b + 1) l)) = H1 at hp1 hc1 fr1
      refine ⟨_, rfl, _, _, rfl, rfl, .inl (by decide), _, _, rfl, rfl, ?_⟩
      refine ⟨_, rfl, _, _, rfl, pen_cells hp1, Nat.zero_le _, fun q hq => ?_⟩
      have hp2 : (upd H1 q (.lst [])) p = some (.dK (penKvs ca (b + 1) l)) := by rw [upd_ne (ne_of_none hp1 hq)]; exact hp1
      have hc2 : (upd H1 q (.lst [])) ca = some (.lst (ns.map V.int)) := by rw [upd_ne (ne_of_none hc1 hq)]; exact hc1
      have fr2 : ∀ a o, H a = some o → a ≠ p → (upd H1 q (.lst [])) a = some o := fun a o h1 h2 => by rw [upd_ne (ne_of_none (fr1 a o h1 h2) hq)]; exact fr1 a o h1 h2
      have hq2 : (upd H1 q (.lst [])) q = some (.lst []) := upd_same
      generalize upd H1 q (.lst []) = H2 at hp2 hc2 fr2 hq2
      refine ⟨.list (ns.map PyData.int), .list [], dp_ints hc2, .lst (SqL.of hq2) .nil, shaped_ints ns, rfl, _, rfl, ?_⟩
      have two : ∀ {A B : Prop}, (ns = [] → B) → (ns ≠ [] → A) → if (!(PyData.list (ns.map PyData.int)).eqv (PyData.list [])) = true then A else B := by
        intro A B h1 h2
        cases ns with
        | nil => exact h1 rfl
        | cons x r => exact h2 (List.cons_ne_nil _ _)
      have hlen : (ns.map V.int).length = ns.length := List.length_map ..
      refine two (fun hne => ?_) (fun hne => ?_)
      case' refine_2 =>
        have hpos : 0 < ns.length := List.length_pos_iff.mpr hne
        have hb' : (0 : Int) < ((ns.map V.int).length : Nat) := by rw [hlen]; omega
        obtain ⟨j, hj, hjl⟩ : ∃ j : Nat, b % (((ns.map V.int).length : Nat) : Int) = (j : Int) ∧ j < ns.length := by
          have h1 := fmod_nn (a := b) hb'
          refine ⟨(b % (((ns.map V.int).length : Nat) : Int)).toNat, (Int.toNat_of_nonneg h1.1).symm, ?_⟩
          have h2 := h1.2
          rw [hlen] at h2 ⊢
          omega
        refine ⟨_, rfl, _, _, rfl, pen_cells hp2, _, rfl, .inl ⟨_, rfl, _, rfl, _, _, rfl, pen_cells hp2, _, _, rfl, .inl (SqL.of hc2), _, _, rfl, rfl, hb', _, _, _, V.int (ns[j]), rfl, rfl, SqL.of hc2, by rw [hj]; exact atI_nat (by simp [hjl]), ?_⟩⟩
        generalize ns[j] = cell
      case' refine_1 =>
        refine (?_ : L2.tNext _ _ _)
        show L2.tSeq _ _ _ [some (V.ref p), some (V.int n), none, some (V.int b), some (V.int (101 * b + 47)), none] H2
        generalize 101 * b + 47 = cell
      case' refine_2 =>
        show L2.tSeq _ _ _ [some (V.ref p), some (V.int n), none, some (V.int b), some (V.int cell), none] H2
      all_goals
        refine ⟨_, rfl, _, rfl, _, _, rfl, pen_cells hp2, _, _, rfl, .inl (SqL.of hc2), _, _, rfl, rfl, _, rfl, ?_⟩
        have tail : ∀ {A : Prop}, (∀ n1 : Int, 0 ≤ n1 → n1 < n → A) → A := fun h => h 0 (Int.le_refl _) hn0
        have last : ∀ (a m : Int), 0 < m → 0 ≤ a % m ∧ a % m < m := fun a m hm => fmod_nn hm
        have pw : CPow 10 18 := ⟨by decide, by decide, by decide⟩
        refine ite2 (fun c1 => ?_) (fun c1 => ?_)
        · refine ⟨_, rfl, _, rfl, _, _, rfl, rfl, pw, _, _, rfl, rfl, _, rfl, ?_⟩
          refine ite2 (fun c2 => ?_) (fun c2 => ?_)
          · refine ⟨_, rfl, _, rfl, _, _, rfl, rfl, pw, _, _, rfl, rfl, _, rfl, _, _, rfl, rfl, ⟨hn0, hn1⟩, _, rfl, _, _, rfl, pen_left_put _ hp2, ?_⟩
            refine ⟨_, rfl, _, rfl, _, _, rfl, rfl, pw, _, _, rfl, rfl, .inl ⟨_, rfl, _, rfl, _, _, rfl, rfl, hn0, ?_⟩⟩
            have c3 : (10 : Int) ^ (18 : Int).toNat ≤ (if cell < 0 then -cell else cell) := of_decide_eq_true c2
            refine k _ (b + 1) _ _ (last _ _ hn0).1 (last _ _ hn0).2 (by omega) (Int.le_refl _) (Int.ediv_nonneg (by omega) (by omega)) upd_same fun a o h1 h2 => by rw [upd_ne h2]; exact fr2 a o h1 h2
          · refine ⟨_, rfl, .inl ⟨_, rfl, _, _, rfl, rfl, (by show (0 : Int) < _; decide), _, _, rfl, rfl, .inr ⟨by decide, by decide⟩, _, rfl, _, _, rfl, rfl, .inl ⟨by decide, by decide⟩, _, rfl, _, _, rfl, rfl, .inr ⟨by omega, by omega⟩, _, _, rfl, rfl, ?_⟩⟩
            generalize (cell % 2147483423 * 48611 + 29501 * b * b) = n1
            refine ⟨_, rfl, _, rfl, _, _, rfl, rfl, .inl ⟨by decide, by decide⟩, _, _, rfl, rfl, _, _, rfl, rfl, .inl ⟨_, rfl, _, _, rfl, rfl, (by show (0 : Int) < _; decide), ?_⟩⟩
            have b2 := last (n1 + 811 * b + 53) 2147483399 (by decide)
            generalize (n1 + 811 * b + 53) % 2147483399 = n2 at b2
            refine ⟨_, rfl, _, rfl, _, _, rfl, rfl, .inl ⟨by omega, by omega⟩, _, rfl, _, _, rfl, rfl, .inl ⟨by decide, by decide⟩, _, _, rfl, rfl, _, rfl, _, _, rfl, rfl, .inl ⟨by decide, by decide⟩, _, _, rfl, rfl, _, _, rfl, rfl, .inl ⟨_, rfl, _, _, rfl, rfl, (by show (0 : Int) < _; decide), ?_⟩⟩
            have b3 := last (n2 * n2 + 37813 * n2 + 71 * b + 23) 2147483353 (by decide)
            generalize (n2 * n2 + 37813 * n2 + 71 * b + 23) % 2147483353 = n3 at b3
            refine ⟨_, rfl, _, rfl, _, _, rfl, rfl, .inl ⟨by omega, by omega⟩, _, rfl, _, _, rfl, rfl, .inl ⟨by decide, by decide⟩, _, _, rfl, rfl, _, rfl, _, _, rfl, rfl, .inl ⟨_, rfl, _, _, rfl, rfl, (by show (0 : Int) < _; decide), ?_⟩⟩
            have b4 := last (n3 * n3 + 31181 * n3 + b) 2147483323 (by decide)
            generalize (n3 * n3 + 31181 * n3 + b) % 2147483323 = n4 at b4
            refine ⟨_, rfl, _, rfl, _, _, rfl, rfl, _, _, rfl, rfl, .inl ⟨by omega, by omega⟩, .inl ⟨_, rfl, _, _, rfl, rfl, (by show (0 : Int) < _; decide), _, _, rfl, rfl, ⟨by decide, by decide⟩, .inl ⟨_, rfl, _, rfl, _, _, rfl, rfl, hn0, ?_⟩⟩⟩
            exact k _ (b + 1) _ _ (last _ _ hn0).1 (last _ _ hn0).2 (by omega) (Int.le_refl _) hl0 hp2 fr2
        · refine ⟨_, rfl, .inl ⟨_, rfl, _, _, rfl, rfl, (by show (0 : Int) < _; decide), _, _, rfl, rfl, .inr ⟨by decide, by decide⟩, _, rfl, _, _, rfl, rfl, .inl ⟨by decide, by decide⟩, _, rfl, _, _, rfl, rfl, .inr ⟨by omega, by omega⟩, _, _, rfl, rfl, ?_⟩⟩
          generalize (cell % 2147483423 * 48611 + 29501 * b * b) = n1
          refine ⟨_, rfl, _, rfl, _, _, rfl, rfl, .inl ⟨by decide, by decide⟩, _, _, rfl, rfl, _, _, rfl, rfl, .inl ⟨_, rfl, _, _, rfl, rfl, (by show (0 : Int) < _; decide), ?_⟩⟩
          have b2 := last (n1 + 811 * b + 53) 2147483399 (by decide)
          generalize (n1 + 811 * b + 53) % 2147483399 = n2 at b2
          refine ⟨_, rfl, _, rfl, _, _, rfl, rfl, .inl ⟨by omega, by omega⟩, _, rfl, _, _, rfl, rfl, .inl ⟨by decide, by decide⟩, _, _, rfl, rfl, _, rfl, _, _, rfl, rfl, .inl ⟨by decide, by decide⟩, _, _, rfl, rfl, _, _, rfl, rfl, .inl ⟨_, rfl, _, _, rfl, rfl, (by show (0 : Int) < _; decide), ?_⟩⟩
          have b3 := last (n2 * n2 + 37813 * n2 + 71 * b + 23) 2147483353 (by decide)
          generalize (n2 * n2 + 37813 * n2 + 71 * b + 23) % 2147483353 = n3 at b3
          refine ⟨_, rfl, _, rfl, _, _, rfl, rfl, .inl ⟨by omega, by omega⟩, _, rfl, _, _, rfl, rfl, .inl ⟨by decide, by decide⟩, _, _, rfl, rfl, _, rfl, _, _, rfl, rfl, .inl ⟨_, rfl, _, _, rfl, rfl, (by show (0 : Int) < _; decide), ?_⟩⟩
          have b4 := last (n3 * n3 + 31181 * n3 + b) 2147483323 (by decide)
          generalize (n3 * n3 + 31181 * n3 + b) % 2147483323 = n4 at b4
          refine ⟨_, rfl, _, rfl, _, _, rfl, rfl, _, _, rfl, rfl, .inl ⟨by omega, by omega⟩, .inl ⟨_, rfl, _, _, rfl, rfl, (by show (0 : Int) < _; decide), _, _, rfl, rfl, ⟨by decide, by decide⟩, .inl ⟨_, rfl, _, rfl, _, _, rfl, rfl, hn0, ?_⟩⟩⟩
          exact k _ (b + 1) _ _ (last _ _ hn0).1 (last _ _ hn0).2 (by omega) (Int.le_refl _) hl0 hp2 fr2
theorem fn__law_draw {f : Addr} {fd : FuncData} (F : Fun K "_law_draw" "_law_draw" s__law_draw f fd) (hmg : mg "_law_draw" = some (.ref f)) (b : Binds K fd ["_law_pen", "_law_span"] []) (T : Tx P K mg) : FnD P w K mg Tb base 1 "_law_draw" ["_law_pen", "_law_span"] sp__law_draw :=
  .raw (ok__law_draw F T) hmg F.kp b fun _ => draw_of
abbrev s_is_name : Stmt := top 11
abbrev N_is_name : List Str := ["value", "sign"]
theorem sc_is_name : FnScope N_is_name ["value"] (defScope s_is_name) := ⟨rfl, rfl, rfl, by decide +kernel, rfl, by decide +kernel, by decide +kernel⟩
theorem fn_is_name {f : Addr} {fd : FuncData} (F : Fun K "is_name" "is_name" s_is_name f fd) (hmg : mg "is_name" = some (.ref f)) (b : Binds K fd ["value"] []) (T : Tx P K mg) : FnD P w K mg Tb base 1 "is_name" ["value"] sp_is_name := by
  refine fnD (k := 0) F hmg b sc_is_name (fun _ _ _ _ _ h => by obtain ⟨_, rfl, _⟩ := h; rfl) ?_
  rintro _ q W ⟨cdv, A, outer, s, H, E, rfl⟩ tk hr hp
  have nd := sc_is_name.nd
  exact ⟨m_is_name, (dss_cons (ds_if (dt_bool (dw_or (dt_not (dt_val (de_isi rfl rfl T.b_isinstance (de_var (i := 0)) rfl T.b_str bb_str kits_str))) (dw_or (dt_not (dt_chain od_le od_le de_int (de_callB (cd_len rfl) rfl T.b_len boot_len (da_cons (de_var (i := 0)) da_nil)) (de_gl T.g_MOST_SIGNS rfl rfl))) (dw_or1 (dt_cmp (od_notIn rfl (u65 hr)) (de_sub rfl (u1 hr) (de_var (i := 0)) de_int) (de_gl T.g_LETTERS rfl rfl)))))) (dss_one (ds_ret de_bl)) dss_nil)
  (dss_one (ds_ret (de_callB (cd_all rfl) rfl T.b_all bb_all (da_cons (de_lc (own := [("sign", 1)]) rfl nd (di_any rfl (de_var (i := 0))) (blkOk_by (own := [("sign", 1)]) (N := N_is_name) (sc := defScope s_is_name) (by decide +kernel)) (gw_name (i := 1) (by decide)) (fun _ _ _ _ _ => pg_name (i := 1) nd rfl (Or.inl rfl)) (fun _ _ _ _ _ => dts_nil) (fun _ _ _ _ _ => (de_cmp (od_in rfl (u65 hr)) (de_var (i := 1)) (de_gl T.g_SIGNS rfl rfl)))) da_nil))))), rd_is_name⟩
abbrev s_depth_within : Stmt := top 12
abbrev N_depth_within : List Str := ["value", "most", "one", "other"]
theorem sc_depth_within : FnScope N_depth_within ["value", "most"] (defScope s_depth_within) := ⟨rfl, rfl, rfl, by decide +kernel, rfl, by decide +kernel, by decide +kernel⟩
theorem fnn_depth_within {f : Addr} {fd : FuncData} (F : Fun K "depth_within" "depth_within" s_depth_within f fd) (hmg : mg "depth_within" = some (.ref f)) (b : Binds K fd ["value", "most"] []) (T : Tx P K mg) (F_is_name : FnD P w K mg Tb base 1 "is_name" ["value"] sp_is_name) : ∀ n, FnD P w K mg Tb base (2 + n) "depth_within" ["value", "most"] (spn_depth_within n)
  | 0 => FnD.none F hmg b sc_depth_within fun _ _ _ _ _ h => by obtain ⟨_, _, h0, _⟩ := h; exact Nat.not_lt_zero _ h0
  | n + 1 => by
    have Fself := fnn_depth_within F hmg b T F_is_name n
    refine fnD (k := 2 + n) F hmg b sc_depth_within (fun _ _ _ _ _ h => by obtain ⟨_, rfl, _⟩ := h; rfl) ?_
    rintro _ q W ⟨cdv, A, outer, s, H, E, rfl⟩ tk hr hp
    have nd := sc_depth_within.nd
    exact ⟨m_depth_within (spn_depth_within n), (dss_cons (ds_if (dt_bool (dw_or (dt_not (dt_val (de_isi rfl rfl T.b_isinstance (de_var (i := 0)) rfl T.b_tuple bb_tuple kits_tuple))) (dw_or1 (dt_cmp (od_notIn rfl (u65 hr)) (de_callB (cd_len rfl) rfl T.b_len boot_len (da_cons (de_var (i := 0)) da_nil)) (de_tup (da_cons de_int (da_cons de_int da_nil))))))) (dss_one (ds_ret de_non)) dss_nil)
  (dss_cons (ds_if (dt_cmp (od_eq rfl hr.units) (de_callB (cd_len rfl) rfl T.b_len boot_len (da_cons (de_var (i := 0)) da_nil)) de_int) (dss_one (ds_ret (de_if (dt_bool (dw_and (dt_cmp (od_in rfl (u65 hr)) (de_sub rfl (u1 hr) (de_var (i := 0)) de_int) (de_gl T.g_LEAF_WORDS rfl rfl)) (dw_and1 (dt_val (de_call (F_is_name.mono (by omega)) tk hr rfl (da_cons (de_sub rfl (u1 hr) (de_var (i := 0)) de_int) da_nil)))))) de_int de_non))) dss_nil)
  (dss_cons (ds_if (dt_bool (dw_or (dt_cmp (od_notIn rfl (u65 hr)) (de_sub rfl (u1 hr) (de_var (i := 0)) de_int) (de_gl T.g_HALVED_WORDS rfl rfl)) (dw_or1 (dt_cmp (od_eq rfl hr.units) (de_var (i := 1)) de_int)))) (dss_one (ds_ret de_non)) dss_nil)
  (dss_cons (ds_set (i := 2) nd rfl (Or.inl rfl) (de_call Fself tk hr rfl (da_cons (de_sub rfl (u1 hr) (de_var (i := 0)) de_int) (da_cons (de_op od_sub (de_var (i := 1)) de_int) da_nil))))
  (dss_cons (ds_set (i := 3) nd rfl (Or.inl rfl) (de_if (dt_cmp od_notN (de_var (i := 2)) de_non) (de_call Fself tk hr rfl (da_cons (de_sub rfl (u1 hr) (de_var (i := 0)) de_int) (da_cons (de_op od_sub (de_var (i := 1)) de_int) da_nil))) de_non))
  (dss_one (ds_ret (de_if (dt_cmp od_isN (de_var (i := 3)) de_non) de_non (de_op (od_add rfl) (de_callB (cd_max rfl) rfl T.b_max bb_max (da_cons (de_var (i := 2)) (da_cons (de_var (i := 3)) da_nil))) de_int))))))))), rd_depth_within n⟩
theorem fn_depth_within {f : Addr} {fd : FuncData} (F : Fun K "depth_within" "depth_within" s_depth_within f fd) (hmg : mg "depth_within" = some (.ref f)) (b : Binds K fd ["value", "most"] []) (T : Tx P K mg) (F_is_name : FnD P w K mg Tb base 1 "is_name" ["value"] sp_is_name) : FnD P w K mg Tb base 16 "depth_within" ["value", "most"] sp_depth_within := fnn_depth_within F hmg b T F_is_name 14
abbrev s_is_form : Stmt := top 13
abbrev N_is_form : List Str := ["value"]
theorem sc_is_form : FnScope N_is_form ["value"] (defScope s_is_form) := ⟨rfl, rfl, rfl, by decide +kernel, rfl, by decide +kernel, by decide +kernel⟩
theorem fn_is_form {f : Addr} {fd : FuncData} (F : Fun K "is_form" "is_form" s_is_form f fd) (hmg : mg "is_form" = some (.ref f)) (b : Binds K fd ["value"] []) (T : Tx P K mg) (F_depth_within : FnD P w K mg Tb base 16 "depth_within" ["value", "most"] sp_depth_within) : FnD P w K mg Tb base 17 "is_form" ["value"] sp_is_form := by
  refine fnD (k := 16) F hmg b sc_is_form (fun _ _ _ _ _ h => by obtain ⟨_, rfl, _⟩ := h; rfl) ?_
  rintro _ q W ⟨cdv, A, outer, s, H, E, rfl⟩ tk hr hp
  have nd := sc_is_form.nd
  exact ⟨m_is_form, (dss_one (ds_ret (de_cmp od_notN (de_call (F_depth_within.mono (by omega)) tk hr rfl (da_cons (de_var (i := 0)) (da_cons (de_gl T.g_MOST_DEPTH rfl rfl) da_nil))) de_non))), rd_is_form⟩
abbrev s_need_form : Stmt := top 14
abbrev N_need_form : List Str := ["value"]
theorem sc_need_form : FnScope N_need_form ["value"] (defScope s_need_form) := ⟨rfl, rfl, rfl, by decide +kernel, rfl, by decide +kernel, by decide +kernel⟩
theorem fn_need_form {f : Addr} {fd : FuncData} (F : Fun K "need_form" "need_form" s_need_form f fd) (hmg : mg "need_form" = some (.ref f)) (b : Binds K fd ["value"] []) (T : Tx P K mg) (F_is_form : FnD P w K mg Tb base 17 "is_form" ["value"] sp_is_form) : FnD P w K mg Tb base 18 "need_form" ["value"] sp_need_form := by
  obtain ⟨C_BadValue, f_BadValue, E_BadValue⟩ := T.e_BadValue
  refine fnD (k := 17) F hmg b sc_need_form (fun _ _ _ _ _ h => by obtain ⟨_, rfl, _⟩ := h; rfl) ?_
  rintro _ q W ⟨cdv, A, outer, s, H, E, rfl⟩ tk hr hp
  have nd := sc_need_form.nd
  exact ⟨m_need_form, (dss_one (ds_if (dt_not (dt_val (de_call (F_is_form.mono (by omega)) tk hr rfl (da_cons (de_var (i := 0)) da_nil)))) (dss_one (ds_raise rfl E_BadValue rfl hr tk (de_var (i := 0)) rfl)) dss_nil)), rd_need_form⟩
abbrev s_is_leaf : Stmt := top 15
abbrev N_is_leaf : List Str := ["form"]
theorem sc_is_leaf : FnScope N_is_leaf ["form"] (defScope s_is_leaf) := ⟨rfl, rfl, rfl, by decide +kernel, rfl, by decide +kernel, by decide +kernel⟩
theorem fn_is_leaf {f : Addr} {fd : FuncData} (F : Fun K "is_leaf" "is_leaf" s_is_leaf f fd) (hmg : mg "is_leaf" = some (.ref f)) (b : Binds K fd ["form"] []) (T : Tx P K mg) : FnD P w K mg Tb base 1 "is_leaf" ["form"] sp_is_leaf := by
  refine fnD (k := 0) F hmg b sc_is_leaf (fun _ _ _ _ _ h => by obtain ⟨_, rfl, _⟩ := h; rfl) ?_
  rintro _ q W ⟨cdv, A, outer, s, H, E, rfl⟩ tk hr hp
  have nd := sc_is_leaf.nd
  exact ⟨m_is_leaf, (dss_one (ds_ret (de_cmp (od_in rfl (u65 hr)) (de_sub rfl (u1 hr) (de_var (i := 0)) de_int) (de_gl T.g_LEAF_WORDS rfl rfl)))), rd_is_leaf⟩
abbrev s_counter_of : Stmt := top 16
abbrev N_counter_of : List Str := ["form"]
theorem sc_counter_of : FnScope N_counter_of ["form"] (defScope s_counter_of) := ⟨rfl, rfl, rfl, by decide +kernel, rfl, by decide +kernel, by decide +kernel⟩
theorem fnn_counter_of {f : Addr} {fd : FuncData} (F : Fun K "counter_of" "counter_of" s_counter_of f fd) (hmg : mg "counter_of" = some (.ref f)) (b : Binds K fd ["form"] []) (T : Tx P K mg) (F_is_leaf : FnD P w K mg Tb base 1 "is_leaf" ["form"] sp_is_leaf) : ∀ n, FnD P w K mg Tb base (2 + n) "counter_of" ["form"] (spn_counter_of n)
  | 0 => FnD.none F hmg b sc_counter_of fun _ _ _ _ _ h => by obtain ⟨_, _, h0, _⟩ := h; exact Nat.not_lt_zero _ h0
  | n + 1 => by
    have Fself := fnn_counter_of F hmg b T F_is_leaf n
    refine fnD (k := 2 + n) F hmg b sc_counter_of (fun _ _ _ _ _ h => by obtain ⟨_, rfl, _⟩ := h; rfl) ?_
    rintro _ q W ⟨cdv, A, outer, s, H, E, rfl⟩ tk hr hp
    have nd := sc_counter_of.nd
    exact ⟨m_counter_of (spn_counter_of n), (dss_cons (ds_if (dt_val (de_call (F_is_leaf.mono (by omega)) tk hr rfl (da_cons (de_var (i := 0)) da_nil))) (dss_one (ds_ret (de_tup (da_cons (de_if (dt_cmp (od_eq rfl hr.units) (de_sub rfl (u1 hr) (de_var (i := 0)) de_int) de_str) de_str de_str) (da_cons (de_sub rfl (u1 hr) (de_var (i := 0)) de_int) da_nil))))) dss_nil)
  (dss_one (ds_ret (de_tup (da_cons (de_sub rfl (u1 hr) (de_gl T.g_COUNTERS rfl rfl) (de_indexG T.i_HALVED_WORDS rfl (de_sub rfl (u1 hr) (de_var (i := 0)) de_int))) (da_cons (de_call Fself tk hr rfl (da_cons (de_sub rfl (u1 hr) (de_var (i := 0)) de_int) da_nil)) (da_cons (de_call Fself tk hr rfl (da_cons (de_sub rfl (u1 hr) (de_var (i := 0)) de_int) da_nil)) da_nil))))))), rd_counter_of n⟩
theorem fn_counter_of {f : Addr} {fd : FuncData} (F : Fun K "counter_of" "counter_of" s_counter_of f fd) (hmg : mg "counter_of" = some (.ref f)) (b : Binds K fd ["form"] []) (T : Tx P K mg) (F_is_leaf : FnD P w K mg Tb base 1 "is_leaf" ["form"] sp_is_leaf) : FnD P w K mg Tb base 16 "counter_of" ["form"] sp_counter_of := fnn_counter_of F hmg b T F_is_leaf 14
abbrev s_kind_within : Stmt := top 20
abbrev N_kind_within : List Str := ["value", "most"]
theorem sc_kind_within : FnScope N_kind_within ["value", "most"] (defScope s_kind_within) := ⟨rfl, rfl, rfl, by decide +kernel, rfl, by decide +kernel, by decide +kernel⟩
theorem fnn_kind_within {f : Addr} {fd : FuncData} (F : Fun K "kind_within" "kind_within" s_kind_within f fd) (hmg : mg "kind_within" = some (.ref f)) (b : Binds K fd ["value", "most"] []) (T : Tx P K mg) (F_is_name : FnD P w K mg Tb base 1 "is_name" ["value"] sp_is_name) : ∀ n, FnD P w K mg Tb base (2 + n) "kind_within" ["value", "most"] (spn_kind_within n)
  | 0 => FnD.none F hmg b sc_kind_within fun _ _ _ _ _ h => by obtain ⟨_, _, h0, _⟩ := h; exact Nat.not_lt_zero _ h0
  | n + 1 => by
    have Fself := fnn_kind_within F hmg b T F_is_name n
    refine fnD (k := 2 + n) F hmg b sc_kind_within (fun _ _ _ _ _ h => by obtain ⟨_, rfl, _⟩ := h; rfl) ?_
    rintro _ q W ⟨cdv, A, outer, s, H, E, rfl⟩ tk hr hp
    have nd := sc_kind_within.nd
    exact ⟨m_kind_within (spn_kind_within n), (dss_cons (ds_if (dt_bool (dw_or (dt_not (dt_val (de_isi rfl rfl T.b_isinstance (de_var (i := 0)) rfl T.b_tuple bb_tuple kits_tuple))) (dw_or1 (dt_cmp (od_notIn rfl (u65 hr)) (de_callB (cd_len rfl) rfl T.b_len boot_len (da_cons (de_var (i := 0)) da_nil)) (de_tup (da_cons de_int (da_cons de_int da_nil))))))) (dss_one (ds_ret de_bl)) dss_nil)
  (dss_cons (ds_if (dt_cmp (od_eq rfl hr.units) (de_callB (cd_len rfl) rfl T.b_len boot_len (da_cons (de_var (i := 0)) da_nil)) de_int) (dss_one (ds_ret (de_and (de_cmp (od_eq rfl hr.units) (de_sub rfl (u1 hr) (de_var (i := 0)) de_int) de_str) (de_one (de_call (F_is_name.mono (by omega)) tk hr rfl (da_cons (de_sub rfl (u1 hr) (de_var (i := 0)) de_int) da_nil)))))) dss_nil)
  (dss_cons (ds_if (dt_bool (dw_or (dt_cmp (od_notIn rfl (u65 hr)) (de_sub rfl (u1 hr) (de_var (i := 0)) de_int) (de_gl T.g_KIND_WORDS rfl rfl)) (dw_or1 (dt_cmp (od_eq rfl hr.units) (de_var (i := 1)) de_int)))) (dss_one (ds_ret de_bl)) dss_nil)
  (dss_one (ds_ret (de_and (de_call Fself tk hr rfl (da_cons (de_sub rfl (u1 hr) (de_var (i := 0)) de_int) (da_cons (de_op od_sub (de_var (i := 1)) de_int) da_nil))) (de_one (de_call Fself tk hr rfl (da_cons (de_sub rfl (u1 hr) (de_var (i := 0)) de_int) (da_cons (de_op od_sub (de_var (i := 1)) de_int) da_nil)))))))))), rd_kind_within n⟩
theorem fn_kind_within {f : Addr} {fd : FuncData} (F : Fun K "kind_within" "kind_within" s_kind_within f fd) (hmg : mg "kind_within" = some (.ref f)) (b : Binds K fd ["value", "most"] []) (T : Tx P K mg) (F_is_name : FnD P w K mg Tb base 1 "is_name" ["value"] sp_is_name) : FnD P w K mg Tb base 16 "kind_within" ["value", "most"] sp_kind_within := fnn_kind_within F hmg b T F_is_name 14
abbrev s_is_kind : Stmt := top 21
abbrev N_is_kind : List Str := ["value"]
theorem sc_is_kind : FnScope N_is_kind ["value"] (defScope s_is_kind) := ⟨rfl, rfl, rfl, by decide +kernel, rfl, by decide +kernel, by decide +kernel⟩
theorem fn_is_kind {f : Addr} {fd : FuncData} (F : Fun K "is_kind" "is_kind" s_is_kind f fd) (hmg : mg "is_kind" = some (.ref f)) (b : Binds K fd ["value"] []) (T : Tx P K mg) (F_kind_within : FnD P w K mg Tb base 16 "kind_within" ["value", "most"] sp_kind_within) : FnD P w K mg Tb base 17 "is_kind" ["value"] sp_is_kind := by
  refine fnD (k := 16) F hmg b sc_is_kind (fun _ _ _ _ _ h => by obtain ⟨_, rfl, _⟩ := h; rfl) ?_
  rintro _ q W ⟨cdv, A, outer, s, H, E, rfl⟩ tk hr hp
  have nd := sc_is_kind.nd
  exact ⟨m_is_kind, (dss_one (ds_ret (de_call (F_kind_within.mono (by omega)) tk hr rfl (da_cons (de_var (i := 0)) (da_cons (de_gl T.g_MOST_DEPTH rfl rfl) da_nil))))), rd_is_kind⟩
abbrev s_need_kind : Stmt := top 22
abbrev N_need_kind : List Str := ["value"]
theorem sc_need_kind : FnScope N_need_kind ["value"] (defScope s_need_kind) := ⟨rfl, rfl, rfl, by decide +kernel, rfl, by decide +kernel, by decide +kernel⟩
theorem fn_need_kind {f : Addr} {fd : FuncData} (F : Fun K "need_kind" "need_kind" s_need_kind f fd) (hmg : mg "need_kind" = some (.ref f)) (b : Binds K fd ["value"] []) (T : Tx P K mg) (F_is_kind : FnD P w K mg Tb base 17 "is_kind" ["value"] sp_is_kind) : FnD P w K mg Tb base 18 "need_kind" ["value"] sp_need_kind := by
  obtain ⟨C_BadValue, f_BadValue, E_BadValue⟩ := T.e_BadValue
  refine fnD (k := 17) F hmg b sc_need_kind (fun _ _ _ _ _ h => by obtain ⟨_, rfl, _⟩ := h; rfl) ?_
  rintro _ q W ⟨cdv, A, outer, s, H, E, rfl⟩ tk hr hp
  have nd := sc_need_kind.nd
  exact ⟨m_need_kind, (dss_one (ds_if (dt_not (dt_val (de_call (F_is_kind.mono (by omega)) tk hr rfl (da_cons (de_var (i := 0)) da_nil)))) (dss_one (ds_raise rfl E_BadValue rfl hr tk (de_var (i := 0)) rfl)) dss_nil)), rd_need_kind⟩
abbrev s_form_from : Stmt := top 23
abbrev N_form_from : List Str := ["kind", "one", "other"]
theorem sc_form_from : FnScope N_form_from ["kind"] (defScope s_form_from) := ⟨rfl, rfl, rfl, by decide +kernel, rfl, by decide +kernel, by decide +kernel⟩
theorem fnn_form_from {f : Addr} {fd : FuncData} (F : Fun K "form_from" "form_from" s_form_from f fd) (hmg : mg "form_from" = some (.ref f)) (b : Binds K fd ["kind"] []) (T : Tx P K mg) (F_counter_of : FnD P w K mg Tb base 16 "counter_of" ["form"] sp_counter_of) : ∀ n, FnD P w K mg Tb base (17 + n) "form_from" ["kind"] (spn_form_from n)
  | 0 => FnD.none F hmg b sc_form_from fun _ _ _ _ _ h => by obtain ⟨_, _, h0, _⟩ := h; exact Nat.not_lt_zero _ h0
  | n + 1 => by
    have Fself := fnn_form_from F hmg b T F_counter_of n
    refine fnD (k := 17 + n) F hmg b sc_form_from (fun _ _ _ _ _ h => by obtain ⟨_, rfl, _⟩ := h; rfl) ?_
    rintro _ q W ⟨cdv, A, outer, s, H, E, rfl⟩ tk hr hp
    have nd := sc_form_from.nd
    exact ⟨m_form_from (spn_form_from n), (dss_cons (ds_if (dt_cmp (od_eq rfl hr.units) (de_sub rfl (u1 hr) (de_var (i := 0)) de_int) de_str) (dss_one (ds_ret (de_var (i := 0)))) dss_nil)
  (dss_cons (ds_par (i := 1) (j := 2) rfl nd rfl rfl (by decide) rfl rfl (da_cons (de_call Fself tk hr rfl (da_cons (de_sub rfl (u1 hr) (de_var (i := 0)) de_int) da_nil)) (da_cons (de_call Fself tk hr rfl (da_cons (de_sub rfl (u1 hr) (de_var (i := 0)) de_int) da_nil)) da_nil)))
  (dss_cons (ds_if (dt_cmp (od_eq rfl hr.units) (de_sub rfl (u1 hr) (de_var (i := 0)) de_int) de_str) (dss_one (ds_ret (de_tup (da_cons de_str (da_cons (de_call (F_counter_of.mono (by omega)) tk hr rfl (da_cons (de_var (i := 1)) da_nil)) (da_cons (de_var (i := 2)) da_nil)))))) dss_nil)
  (dss_one (ds_ret (de_tup (da_cons (de_sub rfl (u1 hr) (de_gl T.g_FORM_WORDS rfl rfl) (de_indexG T.i_KIND_WORDS rfl (de_sub rfl (u1 hr) (de_var (i := 0)) de_int))) (da_cons (de_var (i := 1)) (da_cons (de_var (i := 2)) da_nil))))))))), rd_form_from n⟩
theorem fn_form_from {f : Addr} {fd : FuncData} (F : Fun K "form_from" "form_from" s_form_from f fd) (hmg : mg "form_from" = some (.ref f)) (b : Binds K fd ["kind"] []) (T : Tx P K mg) (F_counter_of : FnD P w K mg Tb base 16 "counter_of" ["form"] sp_counter_of) : FnD P w K mg Tb base 31 "form_from" ["kind"] sp_form_from := fnn_form_from F hmg b T F_counter_of 14
abbrev s_form_of_kind : Stmt := top 24
abbrev N_form_of_kind : List Str := ["kind"]
theorem sc_form_of_kind : FnScope N_form_of_kind ["kind"] (defScope s_form_of_kind) := ⟨rfl, rfl, rfl, by decide +kernel, rfl, by decide +kernel, by decide +kernel⟩
theorem fn_form_of_kind {f : Addr} {fd : FuncData} (F : Fun K "form_of_kind" "form_of_kind" s_form_of_kind f fd) (hmg : mg "form_of_kind" = some (.ref f)) (b : Binds K fd ["kind"] []) (T : Tx P K mg) (F_form_from : FnD P w K mg Tb base 31 "form_from" ["kind"] sp_form_from) (F_need_kind : FnD P w K mg Tb base 18 "need_kind" ["value"] sp_need_kind) : FnD P w K mg Tb base 32 "form_of_kind" ["kind"] sp_form_of_kind := by
  refine fnD (k := 31) F hmg b sc_form_of_kind (fun _ _ _ _ _ h => by obtain ⟨_, rfl, _⟩ := h; rfl) ?_
  rintro _ q W ⟨cdv, A, outer, s, H, E, rfl⟩ tk hr hp
  have nd := sc_form_of_kind.nd
  exact ⟨m_form_of_kind, (dss_cons (ds_expr (de_call (F_need_kind.mono (by omega)) tk hr rfl (da_cons (de_var (i := 0)) da_nil)))
  (dss_one (ds_ret (de_call (F_form_from.mono (by omega)) tk hr rfl (da_cons (de_var (i := 0)) da_nil))))), rd_form_of_kind⟩
abbrev s_kind_from : Stmt := top 25
abbrev N_kind_from : List Str := ["form", "word", "one", "other"]
theorem sc_kind_from : FnScope N_kind_from ["form"] (defScope s_kind_from) := ⟨rfl, rfl, rfl, by decide +kernel, rfl, by decide +kernel, by decide +kernel⟩
theorem fnn_kind_from {f : Addr} {fd : FuncData} (F : Fun K "kind_from" "kind_from" s_kind_from f fd) (hmg : mg "kind_from" = some (.ref f)) (b : Binds K fd ["form"] []) (T : Tx P K mg) (F_counter_of : FnD P w K mg Tb base 16 "counter_of" ["form"] sp_counter_of) : ∀ n, FnD P w K mg Tb base (17 + n) "kind_from" ["form"] (spn_kind_from n)
  | 0 => FnD.none F hmg b sc_kind_from fun _ _ _ _ _ h => by obtain ⟨_, _, h0, _⟩ := h; exact Nat.not_lt_zero _ h0
  | n + 1 => by
    have Fself := fnn_kind_from F hmg b T F_counter_of n
    refine fnD (k := 17 + n) F hmg b sc_kind_from (fun _ _ _ _ _ h => by obtain ⟨_, rfl, _⟩ := h; rfl) ?_
    rintro _ q W ⟨cdv, A, outer, s, H, E, rfl⟩ tk hr hp
    have nd := sc_kind_from.nd
    exact ⟨m_kind_from (spn_kind_from n), (dss_cons (ds_if (dt_cmp (od_eq rfl hr.units) (de_callB (cd_len rfl) rfl T.b_len boot_len (da_cons (de_var (i := 0)) da_nil)) de_int) (dss_one (ds_ret (de_if (dt_cmp (od_eq rfl hr.units) (de_sub rfl (u1 hr) (de_var (i := 0)) de_int) de_str) (de_var (i := 0)) de_non))) dss_nil)
  (dss_cons (ds_if (dt_cmp (od_eq rfl hr.units) (de_sub rfl (u1 hr) (de_var (i := 0)) de_int) de_str) (dss_one (ds_par (i := 1) (j := 2) rfl nd rfl rfl (by decide) rfl rfl (da_cons de_str (da_cons (de_call Fself tk hr rfl (da_cons (de_call (F_counter_of.mono (by omega)) tk hr rfl (da_cons (de_sub rfl (u1 hr) (de_var (i := 0)) de_int) da_nil)) da_nil)) da_nil)))) (dss_one (ds_par (i := 1) (j := 2) rfl nd rfl rfl (by decide) rfl rfl (da_cons (de_sub rfl (u1 hr) (de_gl T.g_KIND_WORDS rfl rfl) (de_indexG T.i_FORM_WORDS rfl (de_sub rfl (u1 hr) (de_var (i := 0)) de_int))) (da_cons (de_call Fself tk hr rfl (da_cons (de_sub rfl (u1 hr) (de_var (i := 0)) de_int) da_nil)) da_nil)))))
  (dss_cons (ds_set (i := 3) nd rfl (Or.inl rfl) (de_if (dt_cmp od_notN (de_var (i := 2)) de_non) (de_call Fself tk hr rfl (da_cons (de_sub rfl (u1 hr) (de_var (i := 0)) de_int) da_nil)) de_non))
  (dss_one (ds_ret (de_if (dt_cmp od_isN (de_var (i := 3)) de_non) de_non (de_tup (da_cons (de_var (i := 1)) (da_cons (de_var (i := 2)) (da_cons (de_var (i := 3)) da_nil)))))))))), rd_kind_from n⟩
theorem fn_kind_from {f : Addr} {fd : FuncData} (F : Fun K "kind_from" "kind_from" s_kind_from f fd) (hmg : mg "kind_from" = some (.ref f)) (b : Binds K fd ["form"] []) (T : Tx P K mg) (F_counter_of : FnD P w K mg Tb base 16 "counter_of" ["form"] sp_counter_of) : FnD P w K mg Tb base 31 "kind_from" ["form"] sp_kind_from := fnn_kind_from F hmg b T F_counter_of 14
abbrev s_kind_of_form : Stmt := top 26
abbrev N_kind_of_form : List Str := ["form"]
theorem sc_kind_of_form : FnScope N_kind_of_form ["form"] (defScope s_kind_of_form) := ⟨rfl, rfl, rfl, by decide +kernel, rfl, by decide +kernel, by decide +kernel⟩
theorem fn_kind_of_form {f : Addr} {fd : FuncData} (F : Fun K "kind_of_form" "kind_of_form" s_kind_of_form f fd) (hmg : mg "kind_of_form" = some (.ref f)) (b : Binds K fd ["form"] []) (T : Tx P K mg) (F_kind_from : FnD P w K mg Tb base 31 "kind_from" ["form"] sp_kind_from) (F_need_form : FnD P w K mg Tb base 18 "need_form" ["value"] sp_need_form) : FnD P w K mg Tb base 32 "kind_of_form" ["form"] sp_kind_of_form := by
  refine fnD (k := 31) F hmg b sc_kind_of_form (fun _ _ _ _ _ h => by obtain ⟨_, rfl, _⟩ := h; rfl) ?_
  rintro _ q W ⟨cdv, A, outer, s, H, E, rfl⟩ tk hr hp
  have nd := sc_kind_of_form.nd
  exact ⟨m_kind_of_form, (dss_cons (ds_expr (de_call (F_need_form.mono (by omega)) tk hr rfl (da_cons (de_var (i := 0)) da_nil)))
  (dss_one (ds_ret (de_call (F_kind_from.mono (by omega)) tk hr rfl (da_cons (de_var (i := 0)) da_nil))))), rd_kind_of_form⟩
abbrev s_kind_taken : Stmt := top 27
abbrev N_kind_taken : List Str := ["form"]
theorem sc_kind_taken : FnScope N_kind_taken ["form"] (defScope s_kind_taken) := ⟨rfl, rfl, rfl, by decide +kernel, rfl, by decide +kernel, by decide +kernel⟩
theorem fn_kind_taken {f : Addr} {fd : FuncData} (F : Fun K "kind_taken" "kind_taken" s_kind_taken f fd) (hmg : mg "kind_taken" = some (.ref f)) (b : Binds K fd ["form"] []) (T : Tx P K mg) (F_counter_of : FnD P w K mg Tb base 16 "counter_of" ["form"] sp_counter_of) (F_kind_from : FnD P w K mg Tb base 31 "kind_from" ["form"] sp_kind_from) (F_need_form : FnD P w K mg Tb base 18 "need_form" ["value"] sp_need_form) : FnD P w K mg Tb base 32 "kind_taken" ["form"] sp_kind_taken := by
  refine fnD (k := 31) F hmg b sc_kind_taken (fun _ _ _ _ _ h => by obtain ⟨_, rfl, _⟩ := h; rfl) ?_
  rintro _ q W ⟨cdv, A, outer, s, H, E, rfl⟩ tk hr hp
  have nd := sc_kind_taken.nd
  exact ⟨m_kind_taken, (dss_cons (ds_expr (de_call (F_need_form.mono (by omega)) tk hr rfl (da_cons (de_var (i := 0)) da_nil)))
  (dss_one (ds_ret (de_call (F_kind_from.mono (by omega)) tk hr rfl (da_cons (de_call (F_counter_of.mono (by omega)) tk hr rfl (da_cons (de_var (i := 0)) da_nil)) da_nil))))), rd_kind_taken⟩
abbrev s_names_in : Stmt := top 28
abbrev N_names_in : List Str := ["kind"]
theorem sc_names_in : FnScope N_names_in ["kind"] (defScope s_names_in) := ⟨rfl, rfl, rfl, by decide +kernel, rfl, by decide +kernel, by decide +kernel⟩
theorem fnn_names_in {f : Addr} {fd : FuncData} (F : Fun K "names_in" "names_in" s_names_in f fd) (hmg : mg "names_in" = some (.ref f)) (b : Binds K fd ["kind"] []) (T : Tx P K mg) : ∀ n, FnD P w K mg Tb base (1 + n) "names_in" ["kind"] (spn_names_in n)
  | 0 => FnD.none F hmg b sc_names_in fun _ _ _ _ _ h => by obtain ⟨_, _, h0, _⟩ := h; exact Nat.not_lt_zero _ h0
  | n + 1 => by
    have Fself := fnn_names_in F hmg b T n
    refine fnD (k := 1 + n) F hmg b sc_names_in (fun _ _ _ _ _ h => by obtain ⟨_, rfl, _⟩ := h; rfl) ?_
    rintro _ q W ⟨cdv, A, outer, s, H, E, rfl⟩ tk hr hp
    have nd := sc_names_in.nd
    exact ⟨m_names_in (spn_names_in n), (dss_one (ds_ret (de_if (dt_cmp (od_eq rfl hr.units) (de_callB (cd_len rfl) rfl T.b_len boot_len (da_cons (de_var (i := 0)) da_nil)) de_int) (de_lst (da_cons (de_sub rfl (u1 hr) (de_var (i := 0)) de_int) da_nil)) (de_op (od_add rfl) (de_call Fself tk hr rfl (da_cons (de_sub rfl (u1 hr) (de_var (i := 0)) de_int) da_nil)) (de_call Fself tk hr rfl (da_cons (de_sub rfl (u1 hr) (de_var (i := 0)) de_int) da_nil)))))), rd_names_in n⟩
theorem fn_names_in {f : Addr} {fd : FuncData} (F : Fun K "names_in" "names_in" s_names_in f fd) (hmg : mg "names_in" = some (.ref f)) (b : Binds K fd ["kind"] []) (T : Tx P K mg) : FnD P w K mg Tb base 15 "names_in" ["kind"] sp_names_in := fnn_names_in F hmg b T 14
abbrev s_goods_in : Stmt := top 29
abbrev N_goods_in : List Str := ["kind"]
theorem sc_goods_in : FnScope N_goods_in ["kind"] (defScope s_goods_in) := ⟨rfl, rfl, rfl, by decide +kernel, rfl, by decide +kernel, by decide +kernel⟩
theorem fn_goods_in {f : Addr} {fd : FuncData} (F : Fun K "goods_in" "goods_in" s_goods_in f fd) (hmg : mg "goods_in" = some (.ref f)) (b : Binds K fd ["kind"] []) (T : Tx P K mg) (F_names_in : FnD P w K mg Tb base 15 "names_in" ["kind"] sp_names_in) (F_need_kind : FnD P w K mg Tb base 18 "need_kind" ["value"] sp_need_kind) : FnD P w K mg Tb base 19 "goods_in" ["kind"] sp_goods_in := by
  refine fnD (k := 18) F hmg b sc_goods_in (fun _ _ _ _ _ h => by obtain ⟨_, rfl, _⟩ := h; rfl) ?_
  rintro _ q W ⟨cdv, A, outer, s, H, E, rfl⟩ tk hr hp
  have nd := sc_goods_in.nd
  exact ⟨m_goods_in, (dss_cons (ds_expr (de_call (F_need_kind.mono (by omega)) tk hr rfl (da_cons (de_var (i := 0)) da_nil)))
  (dss_one (ds_ret (de_callTy (cd_tuple rfl) rfl T.b_tuple bb_tuple (da_cons (de_sortSet rfl rfl T.b_sorted rfl T.b_set (de_call (F_names_in.mono (by omega)) tk hr rfl (da_cons (de_var (i := 0)) da_nil))) da_nil))))), rd_goods_in⟩
abbrev s__law_pick : Stmt := top 33
abbrev N__law_pick : List Str := ["_law_pen", "_law_some"]
theorem sc__law_pick : FnScope N__law_pick ["_law_pen", "_law_some"] (defScope s__law_pick) := ⟨rfl, rfl, rfl, by decide +kernel, rfl, by decide +kernel, by decide +kernel⟩
theorem fn__law_pick {f : Addr} {fd : FuncData} (F : Fun K "_law_pick" "_law_pick" s__law_pick f fd) (hmg : mg "_law_pick" = some (.ref f)) (b : Binds K fd ["_law_pen", "_law_some"] []) (T : Tx P K mg) (F__law_draw : FnD P w K mg Tb base 1 "_law_draw" ["_law_pen", "_law_span"] sp__law_draw) : FnD P w K mg Tb base 2 "_law_pick" ["_law_pen", "_law_some"] sp__law_pick := by
  refine fnD (k := 1) F hmg b sc__law_pick (fun _ _ _ _ _ h => by obtain ⟨_, rfl, _⟩ := h; rfl) ?_
  rintro _ q W ⟨cdv, A, outer, s, H, E, rfl⟩ tk hr hp
  have nd := sc__law_pick.nd
  exact ⟨m__law_pick, (dss_one (ds_ret (de_sub rfl (u1 hr) (de_var (i := 1)) (de_call (F__law_draw.mono (by omega)) tk hr rfl (da_cons (de_var (i := 0)) (da_cons (de_callB (cd_len rfl) rfl T.b_len boot_len (da_cons (de_var (i := 1)) da_nil)) da_nil)))))), rd__law_pick⟩
abbrev s__law_counter : Stmt := top 34
abbrev N__law_counter : List Str := ["_law_form", "_law_turned"]
theorem sc__law_counter : FnScope N__law_counter ["_law_form"] (defScope s__law_counter) := ⟨rfl, rfl, rfl, by decide +kernel, rfl, by decide +kernel, by decide +kernel⟩
theorem fnn__law_counter {f : Addr} {fd : FuncData} (F : Fun K "_law_counter" "_law_counter" s__law_counter f fd) (hmg : mg "_law_counter" = some (.ref f)) (b : Binds K fd ["_law_form"] []) (T : Tx P K mg) : ∀ n, FnD P w K mg Tb base (1 + n) "_law_counter" ["_law_form"] (spn__law_counter n)
  | 0 => FnD.none F hmg b sc__law_counter fun _ _ _ _ _ h => by obtain ⟨_, _, h0, _⟩ := h; exact Nat.not_lt_zero _ h0
  | n + 1 => by
    have Fself := fnn__law_counter F hmg b T n
    refine fnD (k := 1 + n) F hmg b sc__law_counter (fun _ _ _ _ _ h => by obtain ⟨_, rfl, _⟩ := h; rfl) ?_
    rintro _ q W ⟨cdv, A, outer, s, H, E, rfl⟩ tk hr hp
    have nd := sc__law_counter.nd
    exact ⟨m__law_counter (spn__law_counter n), (dss_cons (ds_if (dt_cmp (od_in rfl (u65 hr)) (de_sub rfl (u1 hr) (de_var (i := 0)) de_int) (de_lst (da_cons de_str (da_cons de_str da_nil)))) (dss_one (ds_ret (de_tup (da_cons (de_if (dt_cmp (od_eq rfl hr.units) (de_sub rfl (u1 hr) (de_var (i := 0)) de_int) de_str) de_str de_str) (da_cons (de_sub rfl (u1 hr) (de_var (i := 0)) de_int) da_nil))))) dss_nil)
  (dss_cons (ds_set (i := 1) nd rfl (Or.inl rfl) (de_disp (.cons de_str de_str (.cons de_str de_str (.cons de_str de_str (.cons de_str de_str .nil))))))
  (dss_one (ds_ret (de_tup (da_cons (de_sub rfl (u1 hr) (de_var (i := 1)) (de_sub rfl (u1 hr) (de_var (i := 0)) de_int)) (da_cons (de_call Fself tk hr rfl (da_cons (de_sub rfl (u1 hr) (de_var (i := 0)) de_int) da_nil)) (da_cons (de_call Fself tk hr rfl (da_cons (de_sub rfl (u1 hr) (de_var (i := 0)) de_int) da_nil)) da_nil)))))))), rd__law_counter n⟩
theorem fn__law_counter {f : Addr} {fd : FuncData} (F : Fun K "_law_counter" "_law_counter" s__law_counter f fd) (hmg : mg "_law_counter" = some (.ref f)) (b : Binds K fd ["_law_form"] []) (T : Tx P K mg) : FnD P w K mg Tb base 15 "_law_counter" ["_law_form"] sp__law_counter := fnn__law_counter F hmg b T 14
abbrev s__law_leaves : Stmt := top 35
abbrev N__law_leaves : List Str := ["_law_form"]
theorem sc__law_leaves : FnScope N__law_leaves ["_law_form"] (defScope s__law_leaves) := ⟨rfl, rfl, rfl, by decide +kernel, rfl, by decide +kernel, by decide +kernel⟩
theorem fnn__law_leaves {f : Addr} {fd : FuncData} (F : Fun K "_law_leaves" "_law_leaves" s__law_leaves f fd) (hmg : mg "_law_leaves" = some (.ref f)) (b : Binds K fd ["_law_form"] []) (T : Tx P K mg) : ∀ n, FnD P w K mg Tb base (1 + n) "_law_leaves" ["_law_form"] (spn__law_leaves n)
  | 0 => FnD.none F hmg b sc__law_leaves fun _ _ _ _ _ h => by obtain ⟨_, _, h0, _⟩ := h; exact Nat.not_lt_zero _ h0
  | n + 1 => by
    have Fself := fnn__law_leaves F hmg b T n
    refine fnD (k := 1 + n) F hmg b sc__law_leaves (fun _ _ _ _ _ h => by obtain ⟨_, rfl, _⟩ := h; rfl) ?_
    rintro _ q W ⟨cdv, A, outer, s, H, E, rfl⟩ tk hr hp
    have nd := sc__law_leaves.nd
    exact ⟨m__law_leaves (spn__law_leaves n), (dss_one (ds_ret (de_if (dt_cmp (od_eq rfl hr.units) (de_callB (cd_len rfl) rfl T.b_len boot_len (da_cons (de_var (i := 0)) da_nil)) de_int) (de_lst (da_cons (de_var (i := 0)) da_nil)) (de_op (od_add rfl) (de_call Fself tk hr rfl (da_cons (de_sub rfl (u1 hr) (de_var (i := 0)) de_int) da_nil)) (de_call Fself tk hr rfl (da_cons (de_sub rfl (u1 hr) (de_var (i := 0)) de_int) da_nil)))))), rd__law_leaves n⟩
theorem fn__law_leaves {f : Addr} {fd : FuncData} (F : Fun K "_law_leaves" "_law_leaves" s__law_leaves f fd) (hmg : mg "_law_leaves" = some (.ref f)) (b : Binds K fd ["_law_form"] []) (T : Tx P K mg) : FnD P w K mg Tb base 33 "_law_leaves" ["_law_form"] sp__law_leaves := fnn__law_leaves F hmg b T 32
abbrev s__law_kind : Stmt := top 36
abbrev N__law_kind : List Str := ["_law_pen", "_law_goods", "_law_depth", "_law_word", "_law_left"]
theorem sc__law_kind : FnScope N__law_kind ["_law_pen", "_law_goods", "_law_depth"] (defScope s__law_kind) := ⟨rfl, rfl, rfl, by decide +kernel, rfl, by decide +kernel, by decide +kernel⟩
theorem fnn__law_kind {f : Addr} {fd : FuncData} (F : Fun K "_law_kind" "_law_kind" s__law_kind f fd) (hmg : mg "_law_kind" = some (.ref f)) (b : Binds K fd ["_law_pen", "_law_goods", "_law_depth"] []) (T : Tx P K mg) (F__law_draw : FnD P w K mg Tb base 1 "_law_draw" ["_law_pen", "_law_span"] sp__law_draw) (F__law_pick : FnD P w K mg Tb base 2 "_law_pick" ["_law_pen", "_law_some"] sp__law_pick) : ∀ n, FnD P w K mg Tb base (3 + n) "_law_kind" ["_law_pen", "_law_goods", "_law_depth"] (spn__law_kind n)
  | 0 => FnD.none F hmg b sc__law_kind fun _ _ _ _ _ h => by obtain ⟨_, _, h0, _⟩ := h; exact Nat.not_lt_zero _ h0
  | n + 1 => by
    have Fself := fnn__law_kind F hmg b T F__law_draw F__law_pick n
    refine fnD (k := 3 + n) F hmg b sc__law_kind (fun _ _ _ _ _ h => by obtain ⟨_, rfl, _⟩ := h; rfl) ?_
    rintro _ q W ⟨cdv, A, outer, s, H, E, rfl⟩ tk hr hp
    have nd := sc__law_kind.nd
    exact ⟨m__law_kind (spn__law_kind n), (dss_cons (ds_if (dt_bool (dw_or (dt_cmp (od_eq rfl hr.units) (de_var (i := 2)) de_int) (dw_or1 (dt_cmp od_lt (de_call (F__law_draw.mono (by omega)) tk hr rfl (da_cons (de_var (i := 0)) (da_cons de_int da_nil))) de_int)))) (dss_one (ds_ret (de_tup (da_cons de_str (da_cons (de_call (F__law_pick.mono (by omega)) tk hr rfl (da_cons (de_var (i := 0)) (da_cons (de_var (i := 1)) da_nil))) da_nil))))) dss_nil)
  (dss_cons (ds_set (i := 3) nd rfl (Or.inl rfl) (de_call (F__law_pick.mono (by omega)) tk hr rfl (da_cons (de_var (i := 0)) (da_cons (de_lst (da_cons de_str (da_cons de_str (da_cons de_str (da_cons de_str da_nil))))) da_nil))))
  (dss_cons (ds_set (i := 4) nd rfl (Or.inl rfl) (de_call Fself tk hr rfl (da_cons (de_var (i := 0)) (da_cons (de_var (i := 1)) (da_cons (de_op od_sub (de_var (i := 2)) de_int) da_nil)))))
  (dss_one (ds_ret (de_tup (da_cons (de_var (i := 3)) (da_cons (de_var (i := 4)) (da_cons (de_call Fself tk hr rfl (da_cons (de_var (i := 0)) (da_cons (de_var (i := 1)) (da_cons (de_op od_sub (de_var (i := 2)) de_int) da_nil)))) da_nil))))))))), rd__law_kind n⟩
theorem fn__law_kind {f : Addr} {fd : FuncData} (F : Fun K "_law_kind" "_law_kind" s__law_kind f fd) (hmg : mg "_law_kind" = some (.ref f)) (b : Binds K fd ["_law_pen", "_law_goods", "_law_depth"] []) (T : Tx P K mg) (F__law_draw : FnD P w K mg Tb base 1 "_law_draw" ["_law_pen", "_law_span"] sp__law_draw) (F__law_pick : FnD P w K mg Tb base 2 "_law_pick" ["_law_pen", "_law_some"] sp__law_pick) : FnD P w K mg Tb base 9 "_law_kind" ["_law_pen", "_law_goods", "_law_depth"] sp__law_kind := fnn__law_kind F hmg b T F__law_draw F__law_pick 6
abbrev s__law_form_of : Stmt := top 37
abbrev N__law_form_of : List Str := ["_law_kind_here", "_law_left", "_law_right"]
theorem sc__law_form_of : FnScope N__law_form_of ["_law_kind_here"] (defScope s__law_form_of) := ⟨rfl, rfl, rfl, by decide +kernel, rfl, by decide +kernel, by decide +kernel⟩
theorem fnn__law_form_of {f : Addr} {fd : FuncData} (F : Fun K "_law_form_of" "_law_form_of" s__law_form_of f fd) (hmg : mg "_law_form_of" = some (.ref f)) (b : Binds K fd ["_law_kind_here"] []) (T : Tx P K mg) (F__law_counter : FnD P w K mg Tb base 15 "_law_counter" ["_law_form"] sp__law_counter) : ∀ n, FnD P w K mg Tb base (16 + n) "_law_form_of" ["_law_kind_here"] (spn__law_form_of n)
  | 0 => FnD.none F hmg b sc__law_form_of fun _ _ _ _ _ h => by obtain ⟨_, _, h0, _⟩ := h; exact Nat.not_lt_zero _ h0
  | n + 1 => by
    have Fself := fnn__law_form_of F hmg b T F__law_counter n
    refine fnD (k := 16 + n) F hmg b sc__law_form_of (fun _ _ _ _ _ h => by obtain ⟨_, rfl, _⟩ := h; rfl) ?_
    rintro _ q W ⟨cdv, A, outer, s, H, E, rfl⟩ tk hr hp
    have nd := sc__law_form_of.nd
    exact ⟨m__law_form_of (spn__law_form_of n), (dss_cons (ds_if (dt_cmp (od_eq rfl hr.units) (de_sub rfl (u1 hr) (de_var (i := 0)) de_int) de_str) (dss_one (ds_ret (de_var (i := 0)))) dss_nil)
  (dss_cons (ds_par (i := 1) (j := 2) rfl nd rfl rfl (by decide) rfl rfl (da_cons (de_call Fself tk hr rfl (da_cons (de_sub rfl (u1 hr) (de_var (i := 0)) de_int) da_nil)) (da_cons (de_call Fself tk hr rfl (da_cons (de_sub rfl (u1 hr) (de_var (i := 0)) de_int) da_nil)) da_nil)))
  (dss_cons (ds_if (dt_cmp (od_eq rfl hr.units) (de_sub rfl (u1 hr) (de_var (i := 0)) de_int) de_str) (dss_one (ds_ret (de_tup (da_cons de_str (da_cons (de_call (F__law_counter.mono (by omega)) tk hr rfl (da_cons (de_var (i := 1)) da_nil)) (da_cons (de_var (i := 2)) da_nil)))))) dss_nil)
  (dss_one (ds_ret (de_tup (da_cons (de_sub rfl (u1 hr) (de_disp (.cons de_str de_str (.cons de_str de_str (.cons de_str de_str .nil)))) (de_sub rfl (u1 hr) (de_var (i := 0)) de_int)) (da_cons (de_var (i := 1)) (da_cons (de_var (i := 2)) da_nil))))))))), rd__law_form_of n⟩
theorem fn__law_form_of {f : Addr} {fd : FuncData} (F : Fun K "_law_form_of" "_law_form_of" s__law_form_of f fd) (hmg : mg "_law_form_of" = some (.ref f)) (b : Binds K fd ["_law_kind_here"] []) (T : Tx P K mg) (F__law_counter : FnD P w K mg Tb base 15 "_law_counter" ["_law_form"] sp__law_counter) : FnD P w K mg Tb base 30 "_law_form_of" ["_law_kind_here"] sp__law_form_of := fnn__law_form_of F hmg b T F__law_counter 14
abbrev s__law_once : Stmt := top 38
abbrev N__law_once : List Str := ["_law_some", "_law_out", "_law_one"]
theorem sc__law_once : FnScope N__law_once ["_law_some"] (defScope s__law_once) := ⟨rfl, rfl, rfl, by decide +kernel, rfl, by decide +kernel, by decide +kernel⟩
theorem fn__law_once {f : Addr} {fd : FuncData} (F : Fun K "_law_once" "_law_once" s__law_once f fd) (hmg : mg "_law_once" = some (.ref f)) (b : Binds K fd ["_law_some"] []) (T : Tx P K mg) : FnD P w K mg Tb base 1 "_law_once" ["_law_some"] sp__law_once := by
  refine fnD (k := 0) F hmg b sc__law_once (fun _ _ _ _ _ h => by obtain ⟨_, rfl, _⟩ := h; rfl) ?_
  rintro _ q W ⟨cdv, A, outer, s, H, E, rfl⟩ tk hr hp
  have nd := sc__law_once.nd
  exact ⟨m__law_once, (dss_cons (ds_set (i := 1) nd rfl (Or.inl rfl) (de_newL da_nil))
  (dss_cons (ds_for hp rfl (di_any rfl (de_callB cd_sorted rfl T.b_sorted bb_sorted (da_cons (de_var (i := 0)) da_nil))) (dg_name (i := 2) nd rfl (Or.inl rfl)) (dss_one (ds_if (dt_bool (dw_or (dt_cmp (od_eqM rfl hr.units) (de_var (i := 1)) (de_lst da_nil)) (dw_or1 (dt_cmp (od_ne rfl hr.units) (de_ixM (de_var (i := 1)) (de_un ud_neg de_int)) (de_var (i := 2)))))) (dss_one (ds_expr (de_app (de_var (i := 1)) (de_var (i := 2))))) dss_nil)))
  (dss_one (ds_ret (de_frz (de_var (i := 1))))))), rd__law_once⟩
abbrev s__law_kind_of : Stmt := top 39
abbrev N__law_kind_of : List Str := ["_law_form", "_law_word", "_law_left", "_law_right"]
theorem sc__law_kind_of : FnScope N__law_kind_of ["_law_form"] (defScope s__law_kind_of) := ⟨rfl, rfl, rfl, by decide +kernel, rfl, by decide +kernel, by decide +kernel⟩
theorem fnn__law_kind_of {f : Addr} {fd : FuncData} (F : Fun K "_law_kind_of" "_law_kind_of" s__law_kind_of f fd) (hmg : mg "_law_kind_of" = some (.ref f)) (b : Binds K fd ["_law_form"] []) (T : Tx P K mg) (F__law_counter : FnD P w K mg Tb base 15 "_law_counter" ["_law_form"] sp__law_counter) : ∀ n, FnD P w K mg Tb base (16 + n) "_law_kind_of" ["_law_form"] (spn__law_kind_of n)
  | 0 => FnD.none F hmg b sc__law_kind_of fun _ _ _ _ _ h => by obtain ⟨_, _, h0, _⟩ := h; exact Nat.not_lt_zero _ h0
  | n + 1 => by
    have Fself := fnn__law_kind_of F hmg b T F__law_counter n
    refine fnD (k := 16 + n) F hmg b sc__law_kind_of (fun _ _ _ _ _ h => by obtain ⟨_, rfl, _⟩ := h; rfl) ?_
    rintro _ q W ⟨cdv, A, outer, s, H, E, rfl⟩ tk hr hp
    have nd := sc__law_kind_of.nd
    exact ⟨m__law_kind_of (spn__law_kind_of n), (dss_cons (ds_if (dt_cmp (od_in rfl (u65 hr)) (de_sub rfl (u1 hr) (de_var (i := 0)) de_int) (de_lst (da_cons de_str (da_cons de_str da_nil)))) (dss_one (ds_ret (de_if (dt_cmp (od_eq rfl hr.units) (de_sub rfl (u1 hr) (de_var (i := 0)) de_int) de_str) (de_var (i := 0)) de_non))) dss_nil)
  (dss_cons (ds_set (i := 1) nd rfl (Or.inl rfl) (de_sub rfl (u1 hr) (de_disp (.cons de_str de_str (.cons de_str de_str (.cons de_str de_str (.cons de_str de_str .nil))))) (de_sub rfl (u1 hr) (de_var (i := 0)) de_int)))
  (dss_cons (ds_set (i := 2) nd rfl (Or.inl rfl) (de_call Fself tk hr rfl (da_cons (de_if (dt_cmp (od_eq rfl hr.units) (de_var (i := 1)) de_str) (de_call (F__law_counter.mono (by omega)) tk hr rfl (da_cons (de_sub rfl (u1 hr) (de_var (i := 0)) de_int) da_nil)) (de_sub rfl (u1 hr) (de_var (i := 0)) de_int)) da_nil)))
  (dss_cons (ds_set (i := 3) nd rfl (Or.inl rfl) (de_call Fself tk hr rfl (da_cons (de_sub rfl (u1 hr) (de_var (i := 0)) de_int) da_nil)))
  (dss_one (ds_ret (de_if (dt_bool (dw_or (dt_cmp od_isN (de_var (i := 2)) de_non) (dw_or1 (dt_cmp od_isN (de_var (i := 3)) de_non)))) de_non (de_tup (da_cons (de_var (i := 1)) (da_cons (de_var (i := 2)) (da_cons (de_var (i := 3)) da_nil))))))))))), rd__law_kind_of n⟩
theorem fn__law_kind_of {f : Addr} {fd : FuncData} (F : Fun K "_law_kind_of" "_law_kind_of" s__law_kind_of f fd) (hmg : mg "_law_kind_of" = some (.ref f)) (b : Binds K fd ["_law_form"] []) (T : Tx P K mg) (F__law_counter : FnD P w K mg Tb base 15 "_law_counter" ["_law_form"] sp__law_counter) : FnD P w K mg Tb base 30 "_law_kind_of" ["_law_form"] sp__law_kind_of := fnn__law_kind_of F hmg b T F__law_counter 14
abbrev s__law_bent : Stmt := top 40
abbrev N__law_bent : List Str := ["_law_pen", "_law_form", "_law_way"]
theorem sc__law_bent : FnScope N__law_bent ["_law_pen", "_law_form"] (defScope s__law_bent) := ⟨rfl, rfl, rfl, by decide +kernel, rfl, by decide +kernel, by decide +kernel⟩
theorem fnn__law_bent {f : Addr} {fd : FuncData} (F : Fun K "_law_bent" "_law_bent" s__law_bent f fd) (hmg : mg "_law_bent" = some (.ref f)) (b : Binds K fd ["_law_pen", "_law_form"] []) (T : Tx P K mg) (F__law_counter : FnD P w K mg Tb base 15 "_law_counter" ["_law_form"] sp__law_counter) (F__law_draw : FnD P w K mg Tb base 1 "_law_draw" ["_law_pen", "_law_span"] sp__law_draw) (F__law_pick : FnD P w K mg Tb base 2 "_law_pick" ["_law_pen", "_law_some"] sp__law_pick) : ∀ n, FnD P w K mg Tb base (16 + n) "_law_bent" ["_law_pen", "_law_form"] (spn__law_bent n)
  | 0 => FnD.none F hmg b sc__law_bent fun _ _ _ _ _ h => by obtain ⟨_, _, h0, _⟩ := h; exact Nat.not_lt_zero _ h0
  | n + 1 => by
    have Fself := fnn__law_bent F hmg b T F__law_counter F__law_draw F__law_pick n
    refine fnD (k := 16 + n) F hmg b sc__law_bent (fun _ _ _ _ _ h => by obtain ⟨_, rfl, _⟩ := h; rfl) ?_
    rintro _ q W ⟨cdv, A, outer, s, H, E, rfl⟩ tk hr hp
    have nd := sc__law_bent.nd
    exact ⟨m__law_bent (spn__law_bent n), (dss_cons (ds_if (dt_cmp (od_eq rfl hr.units) (de_callB (cd_len rfl) rfl T.b_len boot_len (da_cons (de_var (i := 1)) da_nil)) de_int) (dss_one (ds_ret (de_call (F__law_counter.mono (by omega)) tk hr rfl (da_cons (de_var (i := 1)) da_nil)))) dss_nil)
  (dss_cons (ds_set (i := 2) nd rfl (Or.inl rfl) (de_call (F__law_draw.mono (by omega)) tk hr rfl (da_cons (de_var (i := 0)) (da_cons de_int da_nil))))
  (dss_cons (ds_if (dt_cmp (od_eq rfl hr.units) (de_var (i := 2)) de_int) (dss_one (ds_ret (de_tup (da_cons (de_call (F__law_pick.mono (by omega)) tk hr rfl (da_cons (de_var (i := 0)) (da_cons (de_lst (da_cons de_str (da_cons de_str (da_cons de_str (da_cons de_str da_nil))))) da_nil))) (da_cons (de_sub rfl (u1 hr) (de_var (i := 1)) de_int) (da_cons (de_sub rfl (u1 hr) (de_var (i := 1)) de_int) da_nil)))))) dss_nil)
  (dss_cons (ds_if (dt_cmp (od_eq rfl hr.units) (de_var (i := 2)) de_int) (dss_one (ds_ret (de_tup (da_cons (de_sub rfl (u1 hr) (de_var (i := 1)) de_int) (da_cons (de_sub rfl (u1 hr) (de_var (i := 1)) de_int) (da_cons (de_sub rfl (u1 hr) (de_var (i := 1)) de_int) da_nil)))))) dss_nil)
  (dss_one (ds_ret (de_if (dt_cmp od_lt (de_var (i := 2)) de_int) (de_tup (da_cons (de_sub rfl (u1 hr) (de_var (i := 1)) de_int) (da_cons (de_call Fself tk hr rfl (da_cons (de_var (i := 0)) (da_cons (de_sub rfl (u1 hr) (de_var (i := 1)) de_int) da_nil))) (da_cons (de_sub rfl (u1 hr) (de_var (i := 1)) de_int) da_nil)))) (de_tup (da_cons (de_sub rfl (u1 hr) (de_var (i := 1)) de_int) (da_cons (de_sub rfl (u1 hr) (de_var (i := 1)) de_int) (da_cons (de_call Fself tk hr rfl (da_cons (de_var (i := 0)) (da_cons (de_sub rfl (u1 hr) (de_var (i := 1)) de_int) da_nil))) da_nil))))))))))), rd__law_bent n⟩
theorem fn__law_bent {f : Addr} {fd : FuncData} (F : Fun K "_law_bent" "_law_bent" s__law_bent f fd) (hmg : mg "_law_bent" = some (.ref f)) (b : Binds K fd ["_law_pen", "_law_form"] []) (T : Tx P K mg) (F__law_counter : FnD P w K mg Tb base 15 "_law_counter" ["_law_form"] sp__law_counter) (F__law_draw : FnD P w K mg Tb base 1 "_law_draw" ["_law_pen", "_law_span"] sp__law_draw) (F__law_pick : FnD P w K mg Tb base 2 "_law_pick" ["_law_pen", "_law_some"] sp__law_pick) : FnD P w K mg Tb base 30 "_law_bent" ["_law_pen", "_law_form"] sp__law_bent := fnn__law_bent F hmg b T F__law_counter F__law_draw F__law_pick 14
abbrev s__law_deep : Stmt := top 41
abbrev N__law_deep : List Str := ["_law_pen", "_law_kind_here", "_law_depth", "_law_k", "_law_word"]
theorem sc__law_deep : FnScope N__law_deep ["_law_pen", "_law_kind_here", "_law_depth"] (defScope s__law_deep) := ⟨rfl, rfl, rfl, by decide +kernel, rfl, by decide +kernel, by decide +kernel⟩
theorem fn__law_deep {f : Addr} {fd : FuncData} (F : Fun K "_law_deep" "_law_deep" s__law_deep f fd) (hmg : mg "_law_deep" = some (.ref f)) (b : Binds K fd ["_law_pen", "_law_kind_here", "_law_depth"] []) (T : Tx P K mg) (F__law_draw : FnD P w K mg Tb base 1 "_law_draw" ["_law_pen", "_law_span"] sp__law_draw) (F__law_pick : FnD P w K mg Tb base 2 "_law_pick" ["_law_pen", "_law_some"] sp__law_pick) : FnD P w K mg Tb base 3 "_law_deep" ["_law_pen", "_law_kind_here", "_law_depth"] sp__law_deep := by
  refine fnD (k := 2) F hmg b sc__law_deep (fun _ _ _ _ _ h => by obtain ⟨_, rfl, _⟩ := h; rfl) ?_
  rintro _ q W ⟨cdv, A, outer, s, H, E, rfl⟩ tk hr hp
  have nd := sc__law_deep.nd
  exact ⟨m__law_deep, (dss_cons (ds_for hp rfl (di_rng1 rfl T.b_range (da_cons (de_var (i := 2)) da_nil)) (dg_name (i := 3) nd rfl (Or.inl rfl)) (dss_cons (ds_set (i := 4) nd rfl (Or.inl rfl) (de_call (F__law_pick.mono (by omega)) tk hr rfl (da_cons (de_var (i := 0)) (da_cons (de_lst (da_cons de_str (da_cons de_str (da_cons de_str (da_cons de_str da_nil))))) da_nil))))
  (dss_one (ds_set (i := 1) nd rfl (Or.inl rfl) (de_if (dt_cmp (od_eq rfl hr.units) (de_call (F__law_draw.mono (by omega)) tk hr rfl (da_cons (de_var (i := 0)) (da_cons de_int da_nil))) de_int) (de_tup (da_cons (de_var (i := 4)) (da_cons (de_var (i := 1)) (da_cons (de_tup (da_cons de_str (da_cons de_str da_nil))) da_nil)))) (de_tup (da_cons (de_var (i := 4)) (da_cons (de_tup (da_cons de_str (da_cons de_str da_nil))) (da_cons (de_var (i := 1)) da_nil)))))))))
  (dss_one (ds_ret (de_var (i := 1))))), rd__law_deep⟩
abbrev s__law_why : Stmt := top 42
abbrev N__law_why : List Str := ["_law_call", "e"]
theorem sc__law_why : FnScope N__law_why ["_law_call"] (defScope s__law_why) := ⟨rfl, rfl, rfl, by decide +kernel, rfl, by decide +kernel, by decide +kernel⟩
theorem clo__law_why {f : Addr} {fd : FuncData} (F : Fun K "_law_why" "_law_why" s__law_why f fd) (hmg : mg "_law_why" = some (.ref f)) (b : Binds K fd ["_law_call"] []) (T : Tx P K mg) : CFn P w K mg Tb base 1 "_law_why" csp__law_why := by
  obtain ⟨C_BadValue, f_BadValue, E_BadValue⟩ := T.e_BadValue
  refine cFn F hmg b sc__law_why m__law_why ?_ rd__law_why
  rintro _ q W g kB B hB ⟨cdv, A, outer, s, H, E, rfl⟩ hclo tk hr hp
  have nd := sc__law_why.nd
  exact (dss_cons (ds_tryAs rfl rfl E_BadValue rfl nd rfl rfl rfl (fun W pn xe tk hp => (dss_one (ds_expr (de_act hclo tk (hr.mono (by omega)) rfl (by first | exact .inl rfl | exact .inr (.inl rfl)))))) (fun a oe dd pn hz hd => (dss_one (ds_ret (de_lst (da_cons (de_by E_BadValue hz hd (de_var (i := 1))) da_nil))))))
  (dss_one (ds_ret (de_lst da_nil))))
abbrev s__law_no_kinds : Stmt := top 43
abbrev N__law_no_kinds : List Str := ["_law_pen", "_law_kind_here", "_law_name", "_law_odd"]
theorem sc__law_no_kinds : FnScope N__law_no_kinds ["_law_pen", "_law_kind_here"] (defScope s__law_no_kinds) := ⟨rfl, rfl, rfl, by decide +kernel, rfl, by decide +kernel, by decide +kernel⟩
theorem fn__law_no_kinds {f : Addr} {fd : FuncData} (F : Fun K "_law_no_kinds" "_law_no_kinds" s__law_no_kinds f fd) (hmg : mg "_law_no_kinds" = some (.ref f)) (b : Binds K fd ["_law_pen", "_law_kind_here"] []) (T : Tx P K mg) (F__law_deep : FnD P w K mg Tb base 3 "_law_deep" ["_law_pen", "_law_kind_here", "_law_depth"] sp__law_deep) (F__law_pick : FnD P w K mg Tb base 2 "_law_pick" ["_law_pen", "_law_some"] sp__law_pick) : FnD P w K mg Tb base 4 "_law_no_kinds" ["_law_pen", "_law_kind_here"] sp__law_no_kinds := by
  refine fnD (k := 3) F hmg b sc__law_no_kinds (fun _ _ _ _ _ h => by obtain ⟨_, rfl, _⟩ := h; rfl) ?_
  rintro _ q W ⟨cdv, A, outer, s, H, E, rfl⟩ tk hr hp
  have nd := sc__law_no_kinds.nd
  exact ⟨m__law_no_kinds, (dss_cons (ds_set (i := 2) nd rfl (Or.inl rfl) (de_call (F__law_pick.mono (by omega)) tk hr rfl (da_cons (de_var (i := 0)) (da_cons (de_lst (da_cons de_str (da_cons de_str (da_cons de_str (da_cons de_str (da_cons de_str (da_cons de_non (da_cons de_int (da_cons (de_tup (da_cons de_str da_nil)) (da_cons de_str da_nil)))))))))) da_nil))))
  (dss_cons (ds_set (i := 3) nd rfl (Or.inl rfl) (de_lst (da_cons de_non (da_cons de_int (da_cons de_bl (da_cons de_str (da_cons (de_tup da_nil) (da_cons (de_tup (da_cons de_str da_nil)) (da_cons (de_tup (da_cons de_str (da_cons (de_var (i := 2)) da_nil))) (da_cons (de_tup (da_cons de_str (da_cons de_str da_nil))) (da_cons (de_lst (da_cons de_str (da_cons de_str da_nil))) (da_cons (de_callTy (cd_list rfl) rfl T.b_list bb_list (da_cons (de_var (i := 1)) da_nil)) da_nil))))))))))))
  (dss_cons (ds_set (i := 3) nd rfl (Or.inl rfl) (de_op (od_add rfl) (de_var (i := 3)) (de_lst (da_cons (de_tup (da_cons de_str (da_cons (de_var (i := 1)) da_nil))) (da_cons (de_tup (da_cons de_str (da_cons (de_var (i := 1)) (da_cons (de_var (i := 1)) (da_cons (de_var (i := 1)) da_nil))))) (da_cons (de_tup (da_cons de_str (da_cons (de_var (i := 1)) (da_cons (de_var (i := 1)) da_nil)))) (da_cons (de_tup (da_cons de_str (da_cons (de_var (i := 1)) (da_cons de_str da_nil)))) da_nil)))))))
  (dss_cons (ds_set (i := 3) nd rfl (Or.inl rfl) (de_op (od_add rfl) (de_var (i := 3)) (de_lst (da_cons (de_tup (da_cons de_str (da_cons (de_var (i := 1)) (da_cons de_non da_nil)))) (da_cons (de_tup (da_cons de_int (da_cons (de_var (i := 1)) (da_cons (de_var (i := 1)) da_nil)))) (da_cons (de_tup (da_cons (de_lst (da_cons de_str da_nil)) (da_cons (de_var (i := 1)) (da_cons (de_var (i := 1)) da_nil)))) (da_cons (de_tup (da_cons de_str (da_cons (de_lst (da_cons de_str (da_cons de_str da_nil))) (da_cons (de_var (i := 1)) da_nil)))) da_nil)))))))
  (dss_one (ds_ret (de_op (od_add rfl) (de_var (i := 3)) (de_lst (da_cons (de_call (F__law_deep.mono (by omega)) tk hr rfl (da_cons (de_var (i := 0)) (da_cons (de_tup (da_cons de_str (da_cons de_str da_nil))) (da_cons de_int da_nil)))) da_nil))))))))), rd__law_no_kinds⟩
abbrev s__law_goods_right : Stmt := top 44
abbrev N__law_goods_right : List Str := ["_law_kind_here", "_law_form", "_law_leaf"]
theorem sc__law_goods_right : FnScope N__law_goods_right ["_law_kind_here"] (defScope s__law_goods_right) := ⟨rfl, rfl, rfl, by decide +kernel, rfl, by decide +kernel, by decide +kernel⟩
theorem fn__law_goods_right {f : Addr} {fd : FuncData} (F : Fun K "_law_goods_right" "_law_goods_right" s__law_goods_right f fd) (hmg : mg "_law_goods_right" = some (.ref f)) (b : Binds K fd ["_law_kind_here"] []) (T : Tx P K mg) (F__law_form_of : FnD P w K mg Tb base 30 "_law_form_of" ["_law_kind_here"] sp__law_form_of) (F__law_leaves : FnD P w K mg Tb base 33 "_law_leaves" ["_law_form"] sp__law_leaves) (F__law_once : FnD P w K mg Tb base 1 "_law_once" ["_law_some"] sp__law_once) (F_goods_in : FnD P w K mg Tb base 19 "goods_in" ["kind"] sp_goods_in) : FnD P w K mg Tb base 34 "_law_goods_right" ["_law_kind_here"] sp__law_goods_right := by
  refine fnD (k := 33) F hmg b sc__law_goods_right (fun _ _ _ _ _ h => by obtain ⟨_, rfl, _⟩ := h; rfl) ?_
  rintro _ q W ⟨cdv, A, outer, s, H, E, rfl⟩ tk hr hp
  have nd := sc__law_goods_right.nd
  exact ⟨m__law_goods_right, (dss_cons (ds_set (i := 1) nd rfl (Or.inl rfl) (de_call (F__law_form_of.mono (by omega)) tk hr rfl (da_cons (de_var (i := 0)) da_nil)))
  (dss_one (ds_ret (de_cmp (od_eq rfl hr.units) (de_call (F_goods_in.mono (by omega)) tk hr rfl (da_cons (de_var (i := 0)) da_nil)) (de_callTy (cd_tuple rfl) rfl T.b_tuple bb_tuple (da_cons (de_call (F__law_once.mono (by omega)) tk hr rfl (da_cons (de_lc (own := [("_law_leaf", 2)]) rfl nd (di_any rfl (de_call (F__law_leaves.mono (by omega)) tk hr rfl (da_cons (de_var (i := 1)) da_nil))) (blkOk_by (own := [("_law_leaf", 2)]) (N := N__law_goods_right) (sc := defScope s__law_goods_right) (by decide +kernel)) (gw_name (i := 2) (by decide)) (fun _ _ _ _ _ => pg_name (i := 2) nd rfl (Or.inl rfl)) (fun _ _ _ _ _ => dts_nil) (fun _ _ _ _ _ => (de_sub rfl (u1 hr) (de_var (i := 2)) de_int))) da_nil)) da_nil)))))), rd__law_goods_right⟩
abbrev s_law : Stmt := top 45
abbrev N_law : List Str := ["_law_script", "_law_pen", "_law_goods", "_law_kind_here", "_law_deep_here", "_law_one", "_law_form", "_law_odd", "_law_none", "_law_k"]
theorem sc_law : FnScope N_law ["_law_script"] (defScope s_law) := ⟨rfl, rfl, rfl, by decide +kernel, rfl, by decide +kernel, by decide +kernel⟩
theorem ok_law {f fb : Addr} {fd fdb : FuncData} (F : Fun K "law" "law" s_law f fd) (FB : Fun K "_law_begin" "_law_begin" s__law_begin fb fdb) (mb : mg "_law_begin" = some (.ref fb)) (bb : Binds K fdb ["_law_script"] []) (T : Tx P K mg) (F__law_bent : FnD P w K mg Tb base 30 "_law_bent" ["_law_pen", "_law_form"] sp__law_bent) (F__law_counter : FnD P w K mg Tb base 15 "_law_counter" ["_law_form"] sp__law_counter) (F__law_deep : FnD P w K mg Tb base 3 "_law_deep" ["_law_pen", "_law_kind_here", "_law_depth"] sp__law_deep) (F__law_form_of : FnD P w K mg Tb base 30 "_law_form_of" ["_law_kind_here"] sp__law_form_of) (F__law_goods_right : FnD P w K mg Tb base 34 "_law_goods_right" ["_law_kind_here"] sp__law_goods_right) (F__law_kind : FnD P w K mg Tb base 9 "_law_kind" ["_law_pen", "_law_goods", "_law_depth"] sp__law_kind) (F__law_kind_of : FnD P w K mg Tb base 30 "_law_kind_of" ["_law_form"] sp__law_kind_of) (F__law_no_kinds : FnD P w K mg Tb base 4 "_law_no_kinds" ["_law_pen", "_law_kind_here"] sp__law_no_kinds) (F__law_pick : FnD P w K mg Tb base 2 "_law_pick" ["_law_pen", "_law_some"] sp__law_pick) (F_form_of_kind : FnD P w K mg Tb base 32 "form_of_kind" ["kind"] sp_form_of_kind) (F_goods_in : FnD P w K mg Tb base 19 "goods_in" ["kind"] sp_goods_in) (F_is_kind : FnD P w K mg Tb base 17 "is_kind" ["value"] sp_is_kind) (F_kind_of_form : FnD P w K mg Tb base 32 "kind_of_form" ["form"] sp_kind_of_form) (F_kind_taken : FnD P w K mg Tb base 32 "kind_taken" ["form"] sp_kind_taken) (CF__law_why : CFn P w K mg Tb base 1 "_law_why" csp__law_why) {c_law p_law : Addr} (hc : fd.code = .ref c_law) (TBc : LamX.TabB base mg c_law p_law) (hmT : (p_law, ("law" : Str) ++ ".<locals>." ++ "<lambda>") ∈ Tb) (hu : ∀ p ∈ Tb, p.1 = p_law → p.2 = ("law" : Str) ++ ".<locals>." ++ "<lambda>") : FnOk P w K mg base (L2.CX P w) 35 f fd ["_law_script"] (spLaw K Tb) := by
  refine okXc F hc sc_law (fun vs H Q E h => ?_) (fun A outer s H vs Q E hr h => ?_)
  · obtain ⟨a, ns, rfl, _⟩ := h
    rfl
  · have nd := sc_law.nd
    have tk : Takes (cxOf (L2.CX P w) P w K mg base N_law "law" (defScope s_law) f (.ref c_law) A outer s H E) (fun cls d _ H => E cls d H) := takes_of rfl rfl rfl rfl
    have hp : PassesOwn (model (cxOf (L2.CX P w) P w K mg base N_law "law" (defScope s_law) f (.ref c_law) A outer s H E).prog (cxOf (L2.CX P w) P w K mg base N_law "law" (defScope s_law) f (.ref c_law) A outer s H E).w) (cxOf (L2.CX P w) P w K mg base N_law "law" (defScope s_law) f (.ref c_law) A outer s H E).A (cxOf (L2.CX P w) P w K mg base N_law "law" (defScope s_law) f (.ref c_law) A outer s H E).env (cxOf (L2.CX P w) P w K mg base N_law "law" (defScope s_law) f (.ref c_law) A outer s H E).xe := passes_of rfl
    have rest : ∀ p, DSs (cxOf (L2.CX P w) P w K mg base N_law "law" (defScope s_law) f (.ref c_law) A outer s H E) (Yp K mg Tb p) (fun cls d _ H => E cls d H) (defBody s_law).tail m_law := fun p => (dss_cons (ds_setLc (i := 2) (own := [("_law_k", 9)]) rfl nd rfl rfl (sw_true rfl rfl rfl (by decide +kernel)) (di_rng1 rfl T.b_range (da_cons de_int da_nil)) (blkOk_by (own := [("_law_k", 9)]) (N := N_law) (sc := defScope s_law) (by decide +kernel)) (gw_name (i := 9) (by decide)) (fun _ _ _ _ _ => pg_name (i := 9) nd rfl (Or.inl rfl)) (fun _ _ _ _ _ => dts_nil) (fun _ _ _ _ _ => (de_call (F__law_pick.mono (by omega)) takes0 hr rfl (da_cons (de_var (i := 1)) (da_cons (de_lst (da_cons de_str (da_cons de_str (da_cons de_str (da_cons de_str (da_cons de_str (da_cons de_str (da_cons de_str da_nil)))))))) da_nil)))))
  (dss_cons (ds_set (i := 3) nd rfl (Or.inl rfl) (de_call (F__law_kind.mono (by omega)) tk hr rfl (da_cons (de_var (i := 1)) (da_cons (de_var (i := 2)) (da_cons de_int da_nil)))))
  (dss_cons (ds_set (i := 4) nd rfl (Or.inl rfl) (de_call (F__law_deep.mono (by omega)) tk hr rfl (da_cons (de_var (i := 1)) (da_cons (de_tup (da_cons de_str (da_cons (de_sub rfl (u1 hr) (de_var (i := 2)) de_int) da_nil))) (da_cons de_int da_nil)))))
  (dss_cons (ds_for hp rfl (di_any rfl (de_lst (da_cons (de_var (i := 3)) (da_cons (de_var (i := 4)) da_nil)))) (dg_name (i := 5) nd rfl (Or.inl rfl)) (dss_cons (ds_set (i := 6) nd rfl (Or.inl rfl) (de_call (F__law_form_of.mono (by omega)) tk hr rfl (da_cons (de_var (i := 5)) da_nil)))
  (dss_cons (ds_if (dt_bool (dw_or (dt_not (dt_val (de_call (F_is_kind.mono (by omega)) tk hr rfl (da_cons (de_var (i := 5)) da_nil)))) (dw_or (dt_cmp (od_ne rfl hr.units) (de_call (F_form_of_kind.mono (by omega)) tk hr rfl (da_cons (de_var (i := 5)) da_nil)) (de_var (i := 6))) (dw_or (dt_cmp (od_ne rfl hr.units) (de_call (F_kind_of_form.mono (by omega)) tk hr rfl (da_cons (de_var (i := 6)) da_nil)) (de_var (i := 5))) (dw_or1 (dt_cmp od_notN (de_call (F_kind_taken.mono (by omega)) tk hr rfl (da_cons (de_var (i := 6)) da_nil)) de_non)))))) (dss_one (ds_ret de_bl)) dss_nil)
  (dss_cons (ds_if (dt_bool (dw_or (dt_cmp od_notN (de_call (F_kind_of_form.mono (by omega)) tk hr rfl (da_cons (de_call (F__law_counter.mono (by omega)) tk hr rfl (da_cons (de_var (i := 6)) da_nil)) da_nil)) de_non) (dw_or1 (dt_cmp (od_ne rfl hr.units) (de_call (F_kind_taken.mono (by omega)) tk hr rfl (da_cons (de_call (F__law_counter.mono (by omega)) tk hr rfl (da_cons (de_var (i := 6)) da_nil)) da_nil)) (de_var (i := 5)))))) (dss_one (ds_ret de_bl)) dss_nil)
  (dss_one (ds_if (dt_not (dt_val (de_call (F__law_goods_right.mono (by omega)) tk hr rfl (da_cons (de_var (i := 5)) da_nil)))) (dss_one (ds_ret de_bl)) dss_nil))))))
  (dss_cons (ds_for hp rfl (di_any rfl (de_lst (da_cons (de_call (F__law_bent.mono (by omega)) tk hr rfl (da_cons (de_var (i := 1)) (da_cons (de_call (F__law_form_of.mono (by omega)) tk hr rfl (da_cons (de_var (i := 3)) da_nil)) da_nil))) (da_cons (de_call (F__law_bent.mono (by omega)) tk hr rfl (da_cons (de_var (i := 1)) (da_cons (de_call (F__law_counter.mono (by omega)) tk hr rfl (da_cons (de_call (F__law_form_of.mono (by omega)) tk hr rfl (da_cons (de_var (i := 3)) da_nil)) da_nil)) da_nil))) da_nil)))) (dg_name (i := 6) nd rfl (Or.inl rfl)) (dss_one (ds_if (dt_bool (dw_or (dt_cmp (od_ne rfl hr.units) (de_call (F_kind_of_form.mono (by omega)) tk hr rfl (da_cons (de_var (i := 6)) da_nil)) (de_call (F__law_kind_of.mono (by omega)) tk hr rfl (da_cons (de_var (i := 6)) da_nil))) (dw_or1 (dt_cmp (od_ne rfl hr.units) (de_call (F_kind_taken.mono (by omega)) tk hr rfl (da_cons (de_var (i := 6)) da_nil)) (de_call (F__law_kind_of.mono (by omega)) tk hr rfl (da_cons (de_call (F__law_counter.mono (by omega)) tk hr rfl (da_cons (de_var (i := 6)) da_nil)) da_nil)))))) (dss_one (ds_ret de_bl)) dss_nil)))
  (dss_cons (ds_set (i := 7) nd rfl (Or.inr rfl) (de_call (F__law_pick.mono (by omega)) tk hr rfl (da_cons (de_var (i := 1)) (da_cons (de_call (F__law_no_kinds.mono (by omega)) tk hr rfl (da_cons (de_var (i := 1)) (da_cons (de_var (i := 3)) da_nil))) da_nil))))
  (dss_cons (ds_if (dt_bool (dw_or (dt_val (de_call (F_is_kind.mono (by omega)) tk hr rfl (da_cons (de_var (i := 7)) da_nil))) (dw_or1 (dt_cmp (od_ne rfl hr.units) (de_lamC (k := 32) CF__law_why tk rfl rfl rfl TBc rfl hmT hu (hr.mono (by omega)) (LamX.lamS_by (by show LamX.lamSB (defScope s_law) _ = true; decide +kernel)) rfl (fun _ _ _ _ _ => rfl) (fun A outer s H E f c0 hr tk => (de_call (F_form_of_kind.mono (by omega)) tk hr rfl (da_cons (de_var (i := 7)) da_nil))) da_nil) (de_lst (da_cons (de_var (i := 7)) da_nil)))))) (dss_one (ds_ret de_bl)) dss_nil)
  (dss_cons (ds_if (dt_cmp (od_ne rfl hr.units) (de_lamC (k := 32) CF__law_why tk rfl rfl rfl TBc rfl hmT hu (hr.mono (by omega)) (LamX.lamS_by (by show LamX.lamSB (defScope s_law) _ = true; decide +kernel)) rfl (fun _ _ _ _ _ => rfl) (fun A outer s H E f c0 hr tk => (de_call (F_goods_in.mono (by omega)) tk hr rfl (da_cons (de_var (i := 7)) da_nil))) da_nil) (de_lst (da_cons (de_var (i := 7)) da_nil))) (dss_one (ds_ret de_bl)) dss_nil)
  (dss_cons (ds_set (i := 8) nd rfl (Or.inr rfl) (de_lst (da_cons de_non (da_cons de_int (da_cons de_str (da_cons (de_tup da_nil) (da_cons (de_op (od_add rfl) (de_var (i := 3)) (de_tup (da_cons (de_var (i := 3)) da_nil))) (da_cons (de_tup (da_cons de_str (da_cons (de_tup (da_cons de_str (da_cons de_str da_nil))) (da_cons (de_tup (da_cons de_str (da_cons de_str da_nil))) da_nil)))) (da_cons (de_callTy (cd_list rfl) rfl T.b_list bb_list (da_cons (de_call (F__law_form_of.mono (by omega)) tk hr rfl (da_cons (de_var (i := 4)) da_nil)) da_nil)) da_nil)))))))))
  (dss_cons (ds_set (i := 8) nd rfl (Or.inr rfl) (de_call (F__law_pick.mono (by omega)) tk hr rfl (da_cons (de_var (i := 1)) (da_cons (de_var (i := 8)) da_nil))))
  (dss_cons (ds_if (dt_cmp (od_ne rfl hr.units) (de_lamC (k := 32) CF__law_why tk rfl rfl rfl TBc rfl hmT hu (hr.mono (by omega)) (LamX.lamS_by (by show LamX.lamSB (defScope s_law) _ = true; decide +kernel)) rfl (fun _ _ _ _ _ => rfl) (fun A outer s H E f c0 hr tk => (de_call (F_kind_of_form.mono (by omega)) tk hr rfl (da_cons (de_var (i := 8)) da_nil))) da_nil) (de_lst (da_cons (de_var (i := 8)) da_nil))) (dss_one (ds_ret de_bl)) dss_nil)
  (dss_one (ds_ret (de_cmp (od_eq rfl hr.units) (de_lamC (k := 32) CF__law_why tk rfl rfl rfl TBc rfl hmT hu (hr.mono (by omega)) (LamX.lamS_by (by show LamX.lamSB (defScope s_law) _ = true; decide +kernel)) rfl (fun _ _ _ _ _ => rfl) (fun A outer s H E f c0 hr tk => (de_call (F_kind_taken.mono (by omega)) tk hr rfl (da_cons (de_var (i := 8)) da_nil))) da_nil) (de_lst (da_cons (de_var (i := 8)) da_nil))))))))))))))))
    refine ⟨_, pss_cons (ps_set (i := 1) nd rfl (Or.inr rfl) (pe_callS (ok__law_begin FB T) (hr.mono (by decide)) rfl mb FB.kp bb (fun σ => passAt tk σ) (pa_cons (pv 0) pa_nil))) (rest_pen rest), ?_⟩
    obtain ⟨a, ns, rfl, hS, hl, hT, k⟩ := h
    refine ⟨_, rfl, a, ns, rfl, hS, hl, fun p ca H1 z1 z2 z3 z4 z5 z6 => ⟨⟨p, [], fun _ => none⟩, ?_⟩⟩
    exact law_fin 8 z3 z4 z5 hl (hT.ext z6) (rd_law fun _ => none) k
end
end DL
set_option pp.maxSteps 300
namespace DL
open PySem L2
abbrev sE_BadValue : Stmt := inClass (top 2) 0
theorem tE_BadValue : ErrTx sE_BadValue "value" := ⟨_, _, _, _, _, _, _, _, _, _, _, _, rfl, rfl, rfl, ⟨⟨_, fun _ => rfl⟩, fun _ => rfl, fun _ => rfl⟩⟩
theorem fo_value : FldOk "value" := ⟨by decide +kernel, by decide +kernel, by decide +kernel, by decide +kernel, by decide +kernel, by decide +kernel, by decide +kernel, by decide +kernel, fun _ _ _ _ _ _ _ _ _ _ _ _ => rfl⟩
theorem all_mk {l : PySem.W.OpenLaw} {w : World} {K : PySem.W.Frag} {h : Heap} {mg : Str → Option Value} {fa f0 f1 f2 f3 f4 f5 f6 f7 f8 f9 f10 f11 f12 f13 f14 f15 f16 f17 f18 f19 f20 f21 f22 f23 f24 f25 f26 f27 f28 f29 f30 : Addr} (X : K.In h) (G : h.Ns mainGlobals mg) (hfa : mg "law" = some (.ref fa)) (OT : ∀ x ∈ (["law"] : List Str), ∀ a, mg x = some (.ref a) → LamX.OwnTab K a h)
    {od0 od1 od2 od3 od4 od5 od6 od7 od8 od9 od10 od11 od12 od13 od14 od15 od16 od17 od18 od19 od20 od21 od22 od23 od24 od25 od26 od27 od28 od29 od30 an0 an1 an2 an3 an4 an5 an6 an7 an8 an9 an10 an11 an12 an13 an14 an15 an16 an17 an18 an19 an20 an21 an22 an23 an24 an25 an26 an27 an28 an29 an30 : Option Addr} {sl0 sl1 sl2 sl3 sl4 sl5 sl6 sl7 sl8 sl9 sl10 sl11 sl12 sl13 sl14 sl15 sl16 sl17 sl18 sl19 sl20 sl21 sl22 sl23 sl24 sl25 sl26 sl27 sl28 sl29 sl30 : Array (Option Value)} {oc0 oc1 oc2 oc3 oc4 oc5 oc6 oc7 oc8 oc9 oc10 oc11 oc12 oc13 oc14 oc15 oc16 oc17 oc18 oc19 oc20 oc21 oc22 oc23 oc24 oc25 oc26 oc27 oc28 oc29 oc30 kV0 kV1 kV2 kV3 kV4 kV5 kV6 kV7 kV8 kV9 kV10 kV11 kV12 kV13 kV14 kV15 kV16 kV17 kV18 kV19 kV20 kV21 kV22 kV23 kV24 kV25 kV26 kV27 kV28 kV29 kV30 dc0 dc1 dc2 dc3 dc4 dc5 dc6 dc7 dc8 dc9 dc10 dc11 dc12 dc13 dc14 dc15 dc16 dc17 dc18 dc19 dc20 dc21 dc22 dc23 dc24 dc25 dc26 dc27 dc28 dc29 dc30 pm0 pm1 pm2 pm3 pm4 pm5 pm6 pm7 pm8 pm9 pm10 pm11 pm12 pm13 pm14 pm15 pm16 pm17 pm18 pm19 pm20 pm21 pm22 pm23 pm24 pm25 pm26 pm27 pm28 pm29 pm30 cd0 cd1 cd2 cd3 cd4 cd5 cd6 cd7 cd8 cd9 cd10 cd11 cd12 cd13 cd14 cd15 cd16 cd17 cd18 cd19 cd20 cd21 cd22 cd23 cd24 cd25 cd26 cd27 cd28 cd29 ct0 ct1 ct2 ct3 ct4 ct5 ct6 ct7 ct8 ct9 ct10 ct11 ct12 ct13 ct14 ct15 ct16 ct17 ct18 ct19 ct20 ct21 ct22 ct23 ct24 ct25 ct26 ct27 ct28 ct29 ct30 : Value}
    (a0 : PySem.W.nsIn K mainGlobals "is_name" = some (some (.ref f0)))
    (l0 : K.lookup f0 = some ⟨oc0, od0, .func (PySem.W.fnOf "is_name" "is_name" (defArgs s_is_name) (defBody s_is_name) (defScope s_is_name) .none kV0 dc0 pm0 an0 cd0 ct0), sl0⟩)
    (c0 : PySem.W.codeIn K cd0 "is_name" = true)
    (k0 : PySem.W.keepIn K (.ref f0) = true)
    (a1 : PySem.W.nsIn K mainGlobals "depth_within" = some (some (.ref f1)))
    (l1 : K.lookup f1 = some ⟨oc1, od1, .func (PySem.W.fnOf "depth_within" "depth_within" (defArgs s_depth_within) (defBody s_depth_within) (defScope s_depth_within) .none kV1 dc1 pm1 an1 cd1 ct1), sl1⟩)
    (c1 : PySem.W.codeIn K cd1 "depth_within" = true)
    (k1 : PySem.W.keepIn K (.ref f1) = true)
    (a2 : PySem.W.nsIn K mainGlobals "is_form" = some (some (.ref f2)))
    (l2 : K.lookup f2 = some ⟨oc2, od2, .func (PySem.W.fnOf "is_form" "is_form" (defArgs s_is_form) (defBody s_is_form) (defScope s_is_form) .none kV2 dc2 pm2 an2 cd2 ct2), sl2⟩)
    (c2 : PySem.W.codeIn K cd2 "is_form" = true)
    (k2 : PySem.W.keepIn K (.ref f2) = true)
    (a3 : PySem.W.nsIn K mainGlobals "need_form" = some (some (.ref f3)))
    (l3 : K.lookup f3 = some ⟨oc3, od3, .func (PySem.W.fnOf "need_form" "need_form" (defArgs s_need_form) (defBody s_need_form) (defScope s_need_form) .none kV3 dc3 pm3 an3 cd3 ct3), sl3⟩)
    (c3 : PySem.W.codeIn K cd3 "need_form" = true)
    (k3 : PySem.W.keepIn K (.ref f3) = true)
    (a4 : PySem.W.nsIn K mainGlobals "is_leaf" = some (some (.ref f4)))
    (l4 : K.lookup f4 = some ⟨oc4, od4, .func (PySem.W.fnOf "is_leaf" "is_leaf" (defArgs s_is_leaf) (defBody s_is_leaf) (defScope s_is_leaf) .none kV4 dc4 pm4 an4 cd4 ct4), sl4⟩)
    (c4 : PySem.W.codeIn K cd4 "is_leaf" = true)
    (k4 : PySem.W.keepIn K (.ref f4) = true)
    (a5 : PySem.W.nsIn K mainGlobals "counter_of" = some (some (.ref f5)))
    (l5 : K.lookup f5 = some ⟨oc5, od5, .func (PySem.W.fnOf "counter_of" "counter_of" (defArgs s_counter_of) (defBody s_counter_of) (defScope s_counter_of) .none kV5 dc5 pm5 an5 cd5 ct5), sl5⟩)
    (c5 : PySem.W.codeIn K cd5 "counter_of" = true)
    (k5 : PySem.W.keepIn K (.ref f5) = true)
    (a6 : PySem.W.nsIn K mainGlobals "kind_within" = some (some (.ref f6)))
    (l6 : K.lookup f6 = some ⟨oc6, od6, .func (PySem.W.fnOf "kind_within" "kind_within" (defArgs s_kind_within) (defBody s_kind_within) (defScope s_kind_within) .none kV6 dc6 pm6 an6 cd6 ct6), sl6⟩)
    (c6 : PySem.W.codeIn K cd6 "kind_within" = true)
    (k6 : PySem.W.keepIn K (.ref f6) = true)
    (a7 : PySem.W.nsIn K mainGlobals "is_kind" = some (some (.ref f7)))
    (l7 : K.lookup f7 = some ⟨oc7, od7, .func (PySem.W.fnOf "is_kind" "is_kind" (defArgs s_is_kind) (defBody s_is_kind) (defScope s_is_kind) .none kV7 dc7 pm7 an7 cd7 ct7), sl7⟩)
    (c7 : PySem.W.codeIn K cd7 "is_kind" = true)
    (k7 : PySem.W.keepIn K (.ref f7) = true)
    (a8 : PySem.W.nsIn K mainGlobals "need_kind" = some (some (.ref f8)))
    (l8 : K.lookup f8 = some ⟨oc8, od8, .func (PySem.W.fnOf "need_kind" "need_kind" (defArgs s_need_kind) (defBody s_need_kind) (defScope s_need_kind) .none kV8 dc8 pm8 an8 cd8 ct8), sl8⟩)
    (c8 : PySem.W.codeIn K cd8 "need_kind" = true)
    (k8 : PySem.W.keepIn K (.ref f8) = true)
    (a9 : PySem.W.nsIn K mainGlobals "form_from" = some (some (.ref f9)))
    (l9 : K.lookup f9 = some ⟨oc9, od9, .func (PySem.W.fnOf "form_from" "form_from" (defArgs s_form_from) (defBody s_form_from) (defScope s_form_from) .none kV9 dc9 pm9 an9 cd9 ct9), sl9⟩)
    (c9 : PySem.W.codeIn K cd9 "form_from" = true)
    (k9 : PySem.W.keepIn K (.ref f9) = true)
    (a10 : PySem.W.nsIn K mainGlobals "form_of_kind" = some (some (.ref f10)))
    (l10 : K.lookup f10 = some ⟨oc10, od10, .func (PySem.W.fnOf "form_of_kind" "form_of_kind" (defArgs s_form_of_kind) (defBody s_form_of_kind) (defScope s_form_of_kind) .none kV10 dc10 pm10 an10 cd10 ct10), sl10⟩)
    (c10 : PySem.W.codeIn K cd10 "form_of_kind" = true)
    (k10 : PySem.W.keepIn K (.ref f10) = true)
    (a11 : PySem.W.nsIn K mainGlobals "kind_from" = some (some (.ref f11)))
    (l11 : K.lookup f11 = some ⟨oc11, od11, .func (PySem.W.fnOf "kind_from" "kind_from" (defArgs s_kind_from) (defBody s_kind_from) (defScope s_kind_from) .none kV11 dc11 pm11 an11 cd11 ct11), sl11⟩)
    (c11 : PySem.W.codeIn K cd11 "kind_from" = true)
    (k11 : PySem.W.keepIn K (.ref f11) = true)
    (a12 : PySem.W.nsIn K mainGlobals "kind_of_form" = some (some (.ref f12)))
    (l12 : K.lookup f12 = some ⟨oc12, od12, .func (PySem.W.fnOf "kind_of_form" "kind_of_form" (defArgs s_kind_of_form) (defBody s_kind_of_form) (defScope s_kind_of_form) .none kV12 dc12 pm12 an12 cd12 ct12), sl12⟩)
    (c12 : PySem.W.codeIn K cd12 "kind_of_form" = true)
    (k12 : PySem.W.keepIn K (.ref f12) = true)
    (a13 : PySem.W.nsIn K mainGlobals "kind_taken" = some (some (.ref f13)))
    (l13 : K.lookup f13 = some ⟨oc13, od13, .func (PySem.W.fnOf "kind_taken" "kind_taken" (defArgs s_kind_taken) (defBody s_kind_taken) (defScope s_kind_taken) .none kV13 dc13 pm13 an13 cd13 ct13), sl13⟩)
    (c13 : PySem.W.codeIn K cd13 "kind_taken" = true)
    (k13 : PySem.W.keepIn K (.ref f13) = true)
    (a14 : PySem.W.nsIn K mainGlobals "names_in" = some (some (.ref f14)))
    (l14 : K.lookup f14 = some ⟨oc14, od14, .func (PySem.W.fnOf "names_in" "names_in" (defArgs s_names_in) (defBody s_names_in) (defScope s_names_in) .none kV14 dc14 pm14 an14 cd14 ct14), sl14⟩)
    (c14 : PySem.W.codeIn K cd14 "names_in" = true)
    (k14 : PySem.W.keepIn K (.ref f14) = true)
    (a15 : PySem.W.nsIn K mainGlobals "goods_in" = some (some (.ref f15)))
    (l15 : K.lookup f15 = some ⟨oc15, od15, .func (PySem.W.fnOf "goods_in" "goods_in" (defArgs s_goods_in) (defBody s_goods_in) (defScope s_goods_in) .none kV15 dc15 pm15 an15 cd15 ct15), sl15⟩)
    (c15 : PySem.W.codeIn K cd15 "goods_in" = true)
    (k15 : PySem.W.keepIn K (.ref f15) = true)
    (a16 : PySem.W.nsIn K mainGlobals "_law_begin" = some (some (.ref f16)))
    (l16 : K.lookup f16 = some ⟨oc16, od16, .func (PySem.W.fnOf "_law_begin" "_law_begin" (defArgs s__law_begin) (defBody s__law_begin) (defScope s__law_begin) .none kV16 dc16 pm16 an16 cd16 ct16), sl16⟩)
    (c16 : PySem.W.codeIn K cd16 "_law_begin" = true)
    (k16 : PySem.W.keepIn K (.ref f16) = true)
    (a17 : PySem.W.nsIn K mainGlobals "_law_draw" = some (some (.ref f17)))
    (l17 : K.lookup f17 = some ⟨oc17, od17, .func (PySem.W.fnOf "_law_draw" "_law_draw" (defArgs s__law_draw) (defBody s__law_draw) (defScope s__law_draw) .none kV17 dc17 pm17 an17 cd17 ct17), sl17⟩)
    (c17 : PySem.W.codeIn K cd17 "_law_draw" = true)
    (k17 : PySem.W.keepIn K (.ref f17) = true)
    (a18 : PySem.W.nsIn K mainGlobals "_law_pick" = some (some (.ref f18)))
    (l18 : K.lookup f18 = some ⟨oc18, od18, .func (PySem.W.fnOf "_law_pick" "_law_pick" (defArgs s__law_pick) (defBody s__law_pick) (defScope s__law_pick) .none kV18 dc18 pm18 an18 cd18 ct18), sl18⟩)
    (c18 : PySem.W.codeIn K cd18 "_law_pick" = true)
    (k18 : PySem.W.keepIn K (.ref f18) = true)
    (a19 : PySem.W.nsIn K mainGlobals "_law_counter" = some (some (.ref f19)))
    (l19 : K.lookup f19 = some ⟨oc19, od19, .func (PySem.W.fnOf "_law_counter" "_law_counter" (defArgs s__law_counter) (defBody s__law_counter) (defScope s__law_counter) .none kV19 dc19 pm19 an19 cd19 ct19), sl19⟩)
    (c19 : PySem.W.codeIn K cd19 "_law_counter" = true)
    (k19 : PySem.W.keepIn K (.ref f19) = true)
    (a20 : PySem.W.nsIn K mainGlobals "_law_leaves" = some (some (.ref f20)))
    (l20 : K.lookup f20 = some ⟨oc20, od20, .func (PySem.W.fnOf "_law_leaves" "_law_leaves" (defArgs s__law_leaves) (defBody s__law_leaves) (defScope s__law_leaves) .none kV20 dc20 pm20 an20 cd20 ct20), sl20⟩)
    (c20 : PySem.W.codeIn K cd20 "_law_leaves" = true)
    (k20 : PySem.W.keepIn K (.ref f20) = true)
    (a21 : PySem.W.nsIn K mainGlobals "_law_kind" = some (some (.ref f21)))
    (l21 : K.lookup f21 = some ⟨oc21, od21, .func (PySem.W.fnOf "_law_kind" "_law_kind" (defArgs s__law_kind) (defBody s__law_kind) (defScope s__law_kind) .none kV21 dc21 pm21 an21 cd21 ct21), sl21⟩)
    (c21 : PySem.W.codeIn K cd21 "_law_kind" = true)
    (k21 : PySem.W.keepIn K (.ref f21) = true)
    (a22 : PySem.W.nsIn K mainGlobals "_law_form_of" = some (some (.ref f22)))
    (l22 : K.lookup f22 = some ⟨oc22, od22, .func (PySem.W.fnOf "_law_form_of" "_law_form_of" (defArgs s__law_form_of) (defBody s__law_form_of) (defScope s__law_form_of) .none kV22 dc22 pm22 an22 cd22 ct22), sl22⟩)
    (c22 : PySem.W.codeIn K cd22 "_law_form_of" = true)
    (k22 : PySem.W.keepIn K (.ref f22) = true)
    (a23 : PySem.W.nsIn K mainGlobals "_law_once" = some (some (.ref f23)))
    (l23 : K.lookup f23 = some ⟨oc23, od23, .func (PySem.W.fnOf "_law_once" "_law_once" (defArgs s__law_once) (defBody s__law_once) (defScope s__law_once) .none kV23 dc23 pm23 an23 cd23 ct23), sl23⟩)
    (c23 : PySem.W.codeIn K cd23 "_law_once" = true)
    (k23 : PySem.W.keepIn K (.ref f23) = true)
    (a24 : PySem.W.nsIn K mainGlobals "_law_kind_of" = some (some (.ref f24)))
    (l24 : K.lookup f24 = some ⟨oc24, od24, .func (PySem.W.fnOf "_law_kind_of" "_law_kind_of" (defArgs s__law_kind_of) (defBody s__law_kind_of) (defScope s__law_kind_of) .none kV24 dc24 pm24 an24 cd24 ct24), sl24⟩)
    (c24 : PySem.W.codeIn K cd24 "_law_kind_of" = true)
    (k24 : PySem.W.keepIn K (.ref f24) = true)
    (a25 : PySem.W.nsIn K mainGlobals "_law_bent" = some (some (.ref f25)))
    (l25 : K.lookup f25 = some ⟨oc25, od25, .func (PySem.W.fnOf "_law_bent" "_law_bent" (defArgs s__law_bent) (defBody s__law_bent) (defScope s__law_bent) .none kV25 dc25 pm25 an25 cd25 ct25), sl25⟩)
    (c25 : PySem.W.codeIn K cd25 "_law_bent" = true)
    (k25 : PySem.W.keepIn K (.ref f25) = true)
    (a26 : PySem.W.nsIn K mainGlobals "_law_deep" = some (some (.ref f26)))
    (l26 : K.lookup f26 = some ⟨oc26, od26, .func (PySem.W.fnOf "_law_deep" "_law_deep" (defArgs s__law_deep) (defBody s__law_deep) (defScope s__law_deep) .none kV26 dc26 pm26 an26 cd26 ct26), sl26⟩)
    (c26 : PySem.W.codeIn K cd26 "_law_deep" = true)
    (k26 : PySem.W.keepIn K (.ref f26) = true)
    (a27 : PySem.W.nsIn K mainGlobals "_law_why" = some (some (.ref f27)))
    (l27 : K.lookup f27 = some ⟨oc27, od27, .func (PySem.W.fnOf "_law_why" "_law_why" (defArgs s__law_why) (defBody s__law_why) (defScope s__law_why) .none kV27 dc27 pm27 an27 cd27 ct27), sl27⟩)
    (c27 : PySem.W.codeIn K cd27 "_law_why" = true)
    (k27 : PySem.W.keepIn K (.ref f27) = true)
    (a28 : PySem.W.nsIn K mainGlobals "_law_no_kinds" = some (some (.ref f28)))
    (l28 : K.lookup f28 = some ⟨oc28, od28, .func (PySem.W.fnOf "_law_no_kinds" "_law_no_kinds" (defArgs s__law_no_kinds) (defBody s__law_no_kinds) (defScope s__law_no_kinds) .none kV28 dc28 pm28 an28 cd28 ct28), sl28⟩)
    (c28 : PySem.W.codeIn K cd28 "_law_no_kinds" = true)
    (k28 : PySem.W.keepIn K (.ref f28) = true)
    (a29 : PySem.W.nsIn K mainGlobals "_law_goods_right" = some (some (.ref f29)))
    (l29 : K.lookup f29 = some ⟨oc29, od29, .func (PySem.W.fnOf "_law_goods_right" "_law_goods_right" (defArgs s__law_goods_right) (defBody s__law_goods_right) (defScope s__law_goods_right) .none kV29 dc29 pm29 an29 cd29 ct29), sl29⟩)
    (c29 : PySem.W.codeIn K cd29 "_law_goods_right" = true)
    (k29 : PySem.W.keepIn K (.ref f29) = true)
    {cL30 PL30 : Addr} {ce30 : Value} {cdd30 : Option Addr} {cvs30 : Array Value} {csl30 : Array (Option Value)}
    (a30 : PySem.W.nsIn K mainGlobals "law" = some (some (.ref f30)))
    (l30 : K.lookup f30 = some ⟨oc30, od30, .func (PySem.W.fnOf "law" "law" (defArgs s_law) (defBody s_law) (defScope s_law) .none kV30 dc30 pm30 an30 (.ref cL30) ct30), sl30⟩)
    (c30 : PySem.W.codeIn K (.ref cL30) "law" = true)
    (k30 : PySem.W.keepIn K (.ref f30) = true)
    (lc30 : K.lookup cL30 = some ⟨ce30, cdd30, .fields cvs30, csl30⟩)
    (vp30 : cvs30[11]? = some (.ref PL30))
    (np30 : K.lookup PL30 = none)
    (hh30 : PySem.W.codeHdIn K cL30 PL30 = true)
    (e_BadValue : ∃ C fI, OwnErr l.prog K mg "BadValue" "value" C fI)
    (i_FORM_WORDS : GlobT K mg "FORM_WORDS" ["both", "chosen", "offered"])
    (i_HALVED_WORDS : GlobT K mg "HALVED_WORDS" ["both", "between", "offered", "chosen"])
    (i_KIND_WORDS : GlobT K mg "KIND_WORDS" ["pair", "sum", "offer", "to"])
    {t1 : Tok}
    {t2 : Tok}
    {t3 : Tok}
    {t4 : Tok}
    {q5 : Addr} {qo5 : Option Addr} {qn5 : Nat} {qs5 : Array (Option Value)} (hq5 : K.lookup q5 = some ⟨.type "tuple", qo5, .seq #[(.str "between" t1), (.str "both" t2), (.str "chosen" t3), (.str "offered" t4)] qn5, qs5⟩)
    (g_COUNTERS : PySem.W.nsIn K mainGlobals "COUNTERS" = some (some (.ref q5)))
    {t6 : Tok}
    {t7 : Tok}
    {t8 : Tok}
    {q9 : Addr} {qo9 : Option Addr} {qn9 : Nat} {qs9 : Array (Option Value)} (hq9 : K.lookup q9 = some ⟨.type "tuple", qo9, .seq #[(.str "both" t6), (.str "chosen" t7), (.str "offered" t8)] qn9, qs9⟩)
    (g_FORM_WORDS : PySem.W.nsIn K mainGlobals "FORM_WORDS" = some (some (.ref q9)))
    {t10 : Tok}
    {t11 : Tok}
    {t12 : Tok}
    {t13 : Tok}
    {q14 : Addr} {qo14 : Option Addr} {qn14 : Nat} {qs14 : Array (Option Value)} (hq14 : K.lookup q14 = some ⟨.type "tuple", qo14, .seq #[(.str "both" t10), (.str "between" t11), (.str "offered" t12), (.str "chosen" t13)] qn14, qs14⟩)
    (g_HALVED_WORDS : PySem.W.nsIn K mainGlobals "HALVED_WORDS" = some (some (.ref q14)))
    {t15 : Tok}
    {t16 : Tok}
    {t17 : Tok}
    {t18 : Tok}
    {q19 : Addr} {qo19 : Option Addr} {qn19 : Nat} {qs19 : Array (Option Value)} (hq19 : K.lookup q19 = some ⟨.type "tuple", qo19, .seq #[(.str "pair" t15), (.str "sum" t16), (.str "offer" t17), (.str "to" t18)] qn19, qs19⟩)
    (g_KIND_WORDS : PySem.W.nsIn K mainGlobals "KIND_WORDS" = some (some (.ref q19)))
    {t20 : Tok}
    {t21 : Tok}
    {q22 : Addr} {qo22 : Option Addr} {qn22 : Nat} {qs22 : Array (Option Value)} (hq22 : K.lookup q22 = some ⟨.type "tuple", qo22, .seq #[(.str "good" t20), (.str "counter" t21)] qn22, qs22⟩)
    (g_LEAF_WORDS : PySem.W.nsIn K mainGlobals "LEAF_WORDS" = some (some (.ref q22)))
    {t23 : Tok}
    (g_LETTERS : PySem.W.nsIn K mainGlobals "LETTERS" = some (some (.str "abcdefghijklmnopqrstuvwxyz" t23)))
    {t24 : Tok}
    (g_MOST_DEPTH : PySem.W.nsIn K mainGlobals "MOST_DEPTH" = some (some (.int 12 t24)))
    {t25 : Tok}
    (g_MOST_SIGNS : PySem.W.nsIn K mainGlobals "MOST_SIGNS" = some (some (.int 12 t25)))
    {t26 : Tok}
    (g_SIGNS : PySem.W.nsIn K mainGlobals "SIGNS" = some (some (.str "abcdefghijklmnopqrstuvwxyz0123456789" t26)))
    (z_abs : PySem.W.nsIn K mainGlobals "abs" = some none)
    (z_all : PySem.W.nsIn K mainGlobals "all" = some none)
    (z_int : PySem.W.nsIn K mainGlobals "int" = some none)
    (z_isinstance : PySem.W.nsIn K mainGlobals "isinstance" = some none)
    (z_len : PySem.W.nsIn K mainGlobals "len" = some none)
    (z_list : PySem.W.nsIn K mainGlobals "list" = some none)
    (z_max : PySem.W.nsIn K mainGlobals "max" = some none)
    (z_range : PySem.W.nsIn K mainGlobals "range" = some none)
    (z_set : PySem.W.nsIn K mainGlobals "set" = some none)
    (z_sorted : PySem.W.nsIn K mainGlobals "sorted" = some none)
    (z_str : PySem.W.nsIn K mainGlobals "str" = some none)
    (z_tuple : PySem.W.nsIn K mainGlobals "tuple" = some none)
    : LamX.LawAtS l w K (L2.CX l.prog w) 35 63 "_law_script" mg fa h := by
  have e := hfa.symm.trans (PySem.W.mg_of X G a30)
  cases e
  have T : Tx l.prog K mg := ⟨e_BadValue, i_FORM_WORDS, i_HALVED_WORDS, i_KIND_WORDS, glob_kd X G g_COUNTERS (.tup hq5 (by show 4 ≤ sizeLine; rw [sizeLine_eq]; decide) (.cons (.str _ _) (.cons (.str _ _) (.cons (.str _ _) (.cons (.str _ _) .nil))))), glob_kd X G g_FORM_WORDS (.tup hq9 (by show 3 ≤ sizeLine; rw [sizeLine_eq]; decide) (.cons (.str _ _) (.cons (.str _ _) (.cons (.str _ _) .nil)))), glob_kd X G g_HALVED_WORDS (.tup hq14 (by show 4 ≤ sizeLine; rw [sizeLine_eq]; decide) (.cons (.str _ _) (.cons (.str _ _) (.cons (.str _ _) (.cons (.str _ _) .nil))))), glob_kd X G g_KIND_WORDS (.tup hq19 (by show 4 ≤ sizeLine; rw [sizeLine_eq]; decide) (.cons (.str _ _) (.cons (.str _ _) (.cons (.str _ _) (.cons (.str _ _) .nil))))), glob_kd X G g_LEAF_WORDS (.tup hq22 (by show 2 ≤ sizeLine; rw [sizeLine_eq]; decide) (.cons (.str _ _) (.cons (.str _ _) .nil))), glob_kd X G g_LETTERS (.str _ _), glob_kd X G g_MOST_DEPTH (.int _ _), glob_kd X G g_MOST_SIGNS (.int _ _), glob_kd X G g_SIGNS (.str _ _), PySem.W.mg_none_of X G z_abs, PySem.W.mg_none_of X G z_all, PySem.W.mg_none_of X G z_int, PySem.W.mg_none_of X G z_isinstance, PySem.W.mg_none_of X G z_len, PySem.W.mg_none_of X G z_list, PySem.W.mg_none_of X G z_max, PySem.W.mg_none_of X G z_range, PySem.W.mg_none_of X G z_set, PySem.W.mg_none_of X G z_sorted, PySem.W.mg_none_of X G z_str, PySem.W.mg_none_of X G z_tuple⟩
  have F0 := fun_mk (st := s_is_name) l0 c0 k0
  have b0 := F0.binds (ps := ["value"]) fun _ _ _ _ _ _ us hl => match us, hl with | [_], _ => rfl
  have m0 := PySem.W.mg_of X G a0
  have F1 := fun_mk (st := s_depth_within) l1 c1 k1
  have b1 := F1.binds (ps := ["value", "most"]) fun _ _ _ _ _ _ us hl => match us, hl with | [_, _], _ => rfl
  have m1 := PySem.W.mg_of X G a1
  have F2 := fun_mk (st := s_is_form) l2 c2 k2
  have b2 := F2.binds (ps := ["value"]) fun _ _ _ _ _ _ us hl => match us, hl with | [_], _ => rfl
  have m2 := PySem.W.mg_of X G a2
  have F3 := fun_mk (st := s_need_form) l3 c3 k3
  have b3 := F3.binds (ps := ["value"]) fun _ _ _ _ _ _ us hl => match us, hl with | [_], _ => rfl
  have m3 := PySem.W.mg_of X G a3
  have F4 := fun_mk (st := s_is_leaf) l4 c4 k4
  have b4 := F4.binds (ps := ["form"]) fun _ _ _ _ _ _ us hl => match us, hl with | [_], _ => rfl
  have m4 := PySem.W.mg_of X G a4
  have F5 := fun_mk (st := s_counter_of) l5 c5 k5
  have b5 := F5.binds (ps := ["form"]) fun _ _ _ _ _ _ us hl => match us, hl with | [_], _ => rfl
  have m5 := PySem.W.mg_of X G a5
  have F6 := fun_mk (st := s_kind_within) l6 c6 k6
  have b6 := F6.binds (ps := ["value", "most"]) fun _ _ _ _ _ _ us hl => match us, hl with | [_, _], _ => rfl
  have m6 := PySem.W.mg_of X G a6
  have F7 := fun_mk (st := s_is_kind) l7 c7 k7
  have b7 := F7.binds (ps := ["value"]) fun _ _ _ _ _ _ us hl => match us, hl with | [_], _ => rfl
  have m7 := PySem.W.mg_of X G a7
  have F8 := fun_mk (st := s_need_kind) l8 c8 k8
  have b8 := F8.binds (ps := ["value"]) fun _ _ _ _ _ _ us hl => match us, hl with | [_], _ => rfl
  have m8 := PySem.W.mg_of X G a8
  have F9 := fun_mk (st := s_form_from) l9 c9 k9
  have b9 := F9.binds (ps := ["kind"]) fun _ _ _ _ _ _ us hl => match us, hl with | [_], _ => rfl
  have m9 := PySem.W.mg_of X G a9
  have F10 := fun_mk (st := s_form_of_kind) l10 c10 k10
  have b10 := F10.binds (ps := ["kind"]) fun _ _ _ _ _ _ us hl => match us, hl with | [_], _ => rfl
  have m10 := PySem.W.mg_of X G a10
  have F11 := fun_mk (st := s_kind_from) l11 c11 k11
  have b11 := F11.binds (ps := ["form"]) fun _ _ _ _ _ _ us hl => match us, hl with | [_], _ => rfl
  have m11 := PySem.W.mg_of X G a11
  have F12 := fun_mk (st := s_kind_of_form) l12 c12 k12
  have b12 := F12.binds (ps := ["form"]) fun _ _ _ _ _ _ us hl => match us, hl with | [_], _ => rfl
  have m12 := PySem.W.mg_of X G a12
  have F13 := fun_mk (st := s_kind_taken) l13 c13 k13
  have b13 := F13.binds (ps := ["form"]) fun _ _ _ _ _ _ us hl => match us, hl with | [_], _ => rfl
  have m13 := PySem.W.mg_of X G a13
  have F14 := fun_mk (st := s_names_in) l14 c14 k14
  have b14 := F14.binds (ps := ["kind"]) fun _ _ _ _ _ _ us hl => match us, hl with | [_], _ => rfl
  have m14 := PySem.W.mg_of X G a14
  have F15 := fun_mk (st := s_goods_in) l15 c15 k15
  have b15 := F15.binds (ps := ["kind"]) fun _ _ _ _ _ _ us hl => match us, hl with | [_], _ => rfl
  have m15 := PySem.W.mg_of X G a15
  have F16 := fun_mk (st := s__law_begin) l16 c16 k16
  have b16 := F16.binds (ps := ["_law_script"]) fun _ _ _ _ _ _ us hl => match us, hl with | [_], _ => rfl
  have m16 := PySem.W.mg_of X G a16
  have F17 := fun_mk (st := s__law_draw) l17 c17 k17
  have b17 := F17.binds (ps := ["_law_pen", "_law_span"]) fun _ _ _ _ _ _ us hl => match us, hl with | [_, _], _ => rfl
  have m17 := PySem.W.mg_of X G a17
  have F18 := fun_mk (st := s__law_pick) l18 c18 k18
  have b18 := F18.binds (ps := ["_law_pen", "_law_some"]) fun _ _ _ _ _ _ us hl => match us, hl with | [_, _], _ => rfl
  have m18 := PySem.W.mg_of X G a18
  have F19 := fun_mk (st := s__law_counter) l19 c19 k19
  have b19 := F19.binds (ps := ["_law_form"]) fun _ _ _ _ _ _ us hl => match us, hl with | [_], _ => rfl
  have m19 := PySem.W.mg_of X G a19
  have F20 := fun_mk (st := s__law_leaves) l20 c20 k20
  have b20 := F20.binds (ps := ["_law_form"]) fun _ _ _ _ _ _ us hl => match us, hl with | [_], _ => rfl
  have m20 := PySem.W.mg_of X G a20
  have F21 := fun_mk (st := s__law_kind) l21 c21 k21
  have b21 := F21.binds (ps := ["_law_pen", "_law_goods", "_law_depth"]) fun _ _ _ _ _ _ us hl => match us, hl with | [_, _, _], _ => rfl
  have m21 := PySem.W.mg_of X G a21
  have F22 := fun_mk (st := s__law_form_of) l22 c22 k22
  have b22 := F22.binds (ps := ["_law_kind_here"]) fun _ _ _ _ _ _ us hl => match us, hl with | [_], _ => rfl
  have m22 := PySem.W.mg_of X G a22
  have F23 := fun_mk (st := s__law_once) l23 c23 k23
  have b23 := F23.binds (ps := ["_law_some"]) fun _ _ _ _ _ _ us hl => match us, hl with | [_], _ => rfl
  have m23 := PySem.W.mg_of X G a23
  have F24 := fun_mk (st := s__law_kind_of) l24 c24 k24
  have b24 := F24.binds (ps := ["_law_form"]) fun _ _ _ _ _ _ us hl => match us, hl with | [_], _ => rfl
  have m24 := PySem.W.mg_of X G a24
  have F25 := fun_mk (st := s__law_bent) l25 c25 k25
  have b25 := F25.binds (ps := ["_law_pen", "_law_form"]) fun _ _ _ _ _ _ us hl => match us, hl with | [_, _], _ => rfl
  have m25 := PySem.W.mg_of X G a25
  have F26 := fun_mk (st := s__law_deep) l26 c26 k26
  have b26 := F26.binds (ps := ["_law_pen", "_law_kind_here", "_law_depth"]) fun _ _ _ _ _ _ us hl => match us, hl with | [_, _, _], _ => rfl
  have m26 := PySem.W.mg_of X G a26
  have F27 := fun_mk (st := s__law_why) l27 c27 k27
  have b27 := F27.binds (ps := ["_law_call"]) fun _ _ _ _ _ _ us hl => match us, hl with | [_], _ => rfl
  have m27 := PySem.W.mg_of X G a27
  have F28 := fun_mk (st := s__law_no_kinds) l28 c28 k28
  have b28 := F28.binds (ps := ["_law_pen", "_law_kind_here"]) fun _ _ _ _ _ _ us hl => match us, hl with | [_, _], _ => rfl
  have m28 := PySem.W.mg_of X G a28
  have F29 := fun_mk (st := s__law_goods_right) l29 c29 k29
  have b29 := F29.binds (ps := ["_law_kind_here"]) fun _ _ _ _ _ _ us hl => match us, hl with | [_], _ => rfl
  have m29 := PySem.W.mg_of X G a29
  have F30 := fun_mk (st := s_law) l30 c30 k30
  have m30 := PySem.W.mg_of X G a30
  refine ⟨PySem.W.fnOf "law" "law" (defArgs s_law) (defBody s_law) (defScope s_law) .none kV30 dc30 pm30 an30 (.ref cL30) ct30, [(cL30, PL30)], spLaw K [(PL30, ("law" : Str) ++ ".<locals>." ++ "<lambda>")], (al_cons (own_at (OT _ List.mem_cons_self _ m30) l30 rfl lc30 vp30) al_nil), (al_cons (np30) al_nil), (al_cons (PySem.W.codeHd_of_K X hh30) al_nil), fun s v => .of_eq rfl, fun H a ns hl _ hH _ => ⟨a, ns, rfl, by assumption, hl, tabs_all [(cL30, PL30)] [(PL30, ("law" : Str) ++ ".<locals>." ++ "<lambda>")] rfl hH, fun _ => rfl⟩, fun base _ _ TB => ?_⟩
  have D17 := fn__law_draw (P := l.prog) (w := w) (Tb := [(PL30, ("law" : Str) ++ ".<locals>." ++ "<lambda>")]) (base := base) F17 m17 b17 T
  have D0 := fn_is_name (P := l.prog) (w := w) (Tb := [(PL30, ("law" : Str) ++ ".<locals>." ++ "<lambda>")]) (base := base) F0 m0 b0 T
  have D1 := fn_depth_within (P := l.prog) (w := w) (Tb := [(PL30, ("law" : Str) ++ ".<locals>." ++ "<lambda>")]) (base := base) F1 m1 b1 T D0
  have D2 := fn_is_form (P := l.prog) (w := w) (Tb := [(PL30, ("law" : Str) ++ ".<locals>." ++ "<lambda>")]) (base := base) F2 m2 b2 T D1
  have D3 := fn_need_form (P := l.prog) (w := w) (Tb := [(PL30, ("law" : Str) ++ ".<locals>." ++ "<lambda>")]) (base := base) F3 m3 b3 T D2
  have D4 := fn_is_leaf (P := l.prog) (w := w) (Tb := [(PL30, ("law" : Str) ++ ".<locals>." ++ "<lambda>")]) (base := base) F4 m4 b4 T
  have D5 := fn_counter_of (P := l.prog) (w := w) (Tb := [(PL30, ("law" : Str) ++ ".<locals>." ++ "<lambda>")]) (base := base) F5 m5 b5 T D4
  have D6 := fn_kind_within (P := l.prog) (w := w) (Tb := [(PL30, ("law" : Str) ++ ".<locals>." ++ "<lambda>")]) (base := base) F6 m6 b6 T D0
  have D7 := fn_is_kind (P := l.prog) (w := w) (Tb := [(PL30, ("law" : Str) ++ ".<locals>." ++ "<lambda>")]) (base := base) F7 m7 b7 T D6
  have D8 := fn_need_kind (P := l.prog) (w := w) (Tb := [(PL30, ("law" : Str) ++ ".<locals>." ++ "<lambda>")]) (base := base) F8 m8 b8 T D7
  have D9 := fn_form_from (P := l.prog) (w := w) (Tb := [(PL30, ("law" : Str) ++ ".<locals>." ++ "<lambda>")]) (base := base) F9 m9 b9 T D5
  have D10 := fn_form_of_kind (P := l.prog) (w := w) (Tb := [(PL30, ("law" : Str) ++ ".<locals>." ++ "<lambda>")]) (base := base) F10 m10 b10 T D9 D8
  have D11 := fn_kind_from (P := l.prog) (w := w) (Tb := [(PL30, ("law" : Str) ++ ".<locals>." ++ "<lambda>")]) (base := base) F11 m11 b11 T D5
  have D12 := fn_kind_of_form (P := l.prog) (w := w) (Tb := [(PL30, ("law" : Str) ++ ".<locals>." ++ "<lambda>")]) (base := base) F12 m12 b12 T D11 D3
  have D13 := fn_kind_taken (P := l.prog) (w := w) (Tb := [(PL30, ("law" : Str) ++ ".<locals>." ++ "<lambda>")]) (base := base) F13 m13 b13 T D5 D11 D3
  have D14 := fn_names_in (P := l.prog) (w := w) (Tb := [(PL30, ("law" : Str) ++ ".<locals>." ++ "<lambda>")]) (base := base) F14 m14 b14 T
  have D15 := fn_goods_in (P := l.prog) (w := w) (Tb := [(PL30, ("law" : Str) ++ ".<locals>." ++ "<lambda>")]) (base := base) F15 m15 b15 T D14 D8
  have D18 := fn__law_pick (P := l.prog) (w := w) (Tb := [(PL30, ("law" : Str) ++ ".<locals>." ++ "<lambda>")]) (base := base) F18 m18 b18 T D17
  have D19 := fn__law_counter (P := l.prog) (w := w) (Tb := [(PL30, ("law" : Str) ++ ".<locals>." ++ "<lambda>")]) (base := base) F19 m19 b19 T
  have D20 := fn__law_leaves (P := l.prog) (w := w) (Tb := [(PL30, ("law" : Str) ++ ".<locals>." ++ "<lambda>")]) (base := base) F20 m20 b20 T
  have D21 := fn__law_kind (P := l.prog) (w := w) (Tb := [(PL30, ("law" : Str) ++ ".<locals>." ++ "<lambda>")]) (base := base) F21 m21 b21 T D17 D18
  have D22 := fn__law_form_of (P := l.prog) (w := w) (Tb := [(PL30, ("law" : Str) ++ ".<locals>." ++ "<lambda>")]) (base := base) F22 m22 b22 T D19
  have D23 := fn__law_once (P := l.prog) (w := w) (Tb := [(PL30, ("law" : Str) ++ ".<locals>." ++ "<lambda>")]) (base := base) F23 m23 b23 T
  have D24 := fn__law_kind_of (P := l.prog) (w := w) (Tb := [(PL30, ("law" : Str) ++ ".<locals>." ++ "<lambda>")]) (base := base) F24 m24 b24 T D19
  have D25 := fn__law_bent (P := l.prog) (w := w) (Tb := [(PL30, ("law" : Str) ++ ".<locals>." ++ "<lambda>")]) (base := base) F25 m25 b25 T D19 D17 D18
  have D26 := fn__law_deep (P := l.prog) (w := w) (Tb := [(PL30, ("law" : Str) ++ ".<locals>." ++ "<lambda>")]) (base := base) F26 m26 b26 T D17 D18
  have C27 := clo__law_why (P := l.prog) (w := w) (Tb := [(PL30, ("law" : Str) ++ ".<locals>." ++ "<lambda>")]) (base := base) F27 m27 b27 T
  have D28 := fn__law_no_kinds (P := l.prog) (w := w) (Tb := [(PL30, ("law" : Str) ++ ".<locals>." ++ "<lambda>")]) (base := base) F28 m28 b28 T D26 D18
  have D29 := fn__law_goods_right (P := l.prog) (w := w) (Tb := [(PL30, ("law" : Str) ++ ".<locals>." ++ "<lambda>")]) (base := base) F29 m29 b29 T D22 D20 D23 D15
  exact ok_law (Tb := [(PL30, ("law" : Str) ++ ".<locals>." ++ "<lambda>")]) F30 F16 m16 b16 T D25 D19 D26 D22 D29 D21 D24 D28 D18 D10 D15 D7 D12 D13 C27 rfl (TB (cL30, PL30) List.mem_cons_self) List.mem_cons_self (al_cons (fun _ => rfl) al_nil)
end DL
open PySem PySem.W PyProof.Rows
set_option maxRecDepth 100000 in
set_option maxHeartbeats 0 in
theorem PySem.Challenge.cw_alldeeds_k83_kinds_and_their_forms_holds : PySem.Challenge.rw_alldeeds_k83_kinds_and_their_forms.Holds := by
  w_on; o_law; k_head; (case hw => w_witness2)
  k_fill
  refine DL.endXT (l := PySem.Challenge.rw_alldeeds_k83_kinds_and_their_forms) (n := 63) (k := 35) (x := "_law_script") ["law"] rfl (by decide) (by decide) rfl ⟨rfl, by decide, by decide⟩ ?R (fun w h Y => by first | exact PySem.W.kIn_of Y | exact PySem.W.km_in_of Y) ?F
  case R => decide +kernel
  case F =>
    intro w mg fa h XQ KX hG hmg OT
    refine' DL.all_mk KX hG hmg OT ?a0 ?l0 ?c0 ?k0 ?a1 ?l1 ?c1 ?k1 ?a2 ?l2 ?c2 ?k2 ?a3 ?l3 ?c3 ?k3 ?a4 ?l4 ?c4 ?k4 ?a5 ?l5 ?c5 ?k5 ?a6 ?l6 ?c6 ?k6 ?a7 ?l7 ?c7 ?k7 ?a8 ?l8 ?c8 ?k8 ?a9 ?l9 ?c9 ?k9 ?a10 ?l10 ?c10 ?k10 ?a11 ?l11 ?c11 ?k11 ?a12 ?l12 ?c12 ?k12 ?a13 ?l13 ?c13 ?k13 ?a14 ?l14 ?c14 ?k14 ?a15 ?l15 ?c15 ?k15 ?a16 ?l16 ?c16 ?k16 ?a17 ?l17 ?c17 ?k17 ?a18 ?l18 ?c18 ?k18 ?a19 ?l19 ?c19 ?k19 ?a20 ?l20 ?c20 ?k20 ?a21 ?l21 ?c21 ?k21 ?a22 ?l22 ?c22 ?k22 ?a23 ?l23 ?c23 ?k23 ?a24 ?l24 ?c24 ?k24 ?a25 ?l25 ?c25 ?k25 ?a26 ?l26 ?c26 ?k26 ?a27 ?l27 ?c27 ?k27 ?a28 ?l28 ?c28 ?k28 ?a29 ?l29 ?c29 ?k29 ?a30 ?l30 ?c30 ?k30 ?lc30 ?vp30 ?np30 ?hh30 ?e_BadValue ?i_FORM_WORDS ?i_HALVED_WORDS ?i_KIND_WORDS ?hq5 ?g_COUNTERS ?hq9 ?g_FORM_WORDS ?hq14 ?g_HALVED_WORDS ?hq19 ?g_KIND_WORDS ?hq22 ?g_LEAF_WORDS ?g_LETTERS ?g_MOST_DEPTH ?g_MOST_SIGNS ?g_SIGNS ?z_abs ?z_all ?z_int ?z_isinstance ?z_len ?z_list ?z_max ?z_range ?z_set ?z_sorted ?z_str ?z_tuple
    (case a0 => k_is)
    (case l0 => k_is)
    (case c0 => k_is)
    (case k0 => k_is)
    (case a1 => k_is)
    (case l1 => k_is)
    (case c1 => k_is)
    (case k1 => k_is)
    (case a2 => k_is)
    (case l2 => k_is)
    (case c2 => k_is)
    (case k2 => k_is)
    (case a3 => k_is)
    (case l3 => k_is)
    (case c3 => k_is)
    (case k3 => k_is)
    (case a4 => k_is)
    (case l4 => k_is)
    (case c4 => k_is)
    (case k4 => k_is)
    (case a5 => k_is)
    (case l5 => k_is)
    (case c5 => k_is)
    (case k5 => k_is)
    (case a6 => k_is)
    (case l6 => k_is)
    (case c6 => k_is)
    (case k6 => k_is)
    (case a7 => k_is)
    (case l7 => k_is)
    (case c7 => k_is)
    (case k7 => k_is)
    (case a8 => k_is)
    (case l8 => k_is)
    (case c8 => k_is)
    (case k8 => k_is)
    (case a9 => k_is)
    (case l9 => k_is)
    (case c9 => k_is)
    (case k9 => k_is)
    (case a10 => k_is)
    (case l10 => k_is)
    (case c10 => k_is)
    (case k10 => k_is)
    (case a11 => k_is)
    (case l11 => k_is)
    (case c11 => k_is)
    (case k11 => k_is)
    (case a12 => k_is)
    (case l12 => k_is)
    (case c12 => k_is)
    (case k12 => k_is)
    (case a13 => k_is)
    (case l13 => k_is)
    (case c13 => k_is)
    (case k13 => k_is)
    (case a14 => k_is)
    (case l14 => k_is)
    (case c14 => k_is)
    (case k14 => k_is)
    (case a15 => k_is)
    (case l15 => k_is)
    (case c15 => k_is)
    (case k15 => k_is)
    (case a16 => k_is)
    (case l16 => k_is)
    (case c16 => k_is)
    (case k16 => k_is)
    (case a17 => k_is)
    (case l17 => k_is)
    (case c17 => k_is)
    (case k17 => k_is)
    (case a18 => k_is)
    (case l18 => k_is)
    (case c18 => k_is)
    (case k18 => k_is)
    (case a19 => k_is)
    (case l19 => k_is)
    (case c19 => k_is)
    (case k19 => k_is)
    (case a20 => k_is)
    (case l20 => k_is)
    (case c20 => k_is)
    (case k20 => k_is)
    (case a21 => k_is)
    (case l21 => k_is)
    (case c21 => k_is)
    (case k21 => k_is)
    (case a22 => k_is)
    (case l22 => k_is)
    (case c22 => k_is)
    (case k22 => k_is)
    (case a23 => k_is)
    (case l23 => k_is)
    (case c23 => k_is)
    (case k23 => k_is)
    (case a24 => k_is)
    (case l24 => k_is)
    (case c24 => k_is)
    (case k24 => k_is)
    (case a25 => k_is)
    (case l25 => k_is)
    (case c25 => k_is)
    (case k25 => k_is)
    (case a26 => k_is)
    (case l26 => k_is)
    (case c26 => k_is)
    (case k26 => k_is)
    (case a27 => k_is)
    (case l27 => k_is)
    (case c27 => k_is)
    (case k27 => k_is)
    (case a28 => k_is)
    (case l28 => k_is)
    (case c28 => k_is)
    (case k28 => k_is)
    (case a29 => k_is)
    (case l29 => k_is)
    (case c29 => k_is)
    (case k29 => k_is)
    (case a30 => k_is)
    (case l30 => k_is)
    (case c30 => k_is)
    (case k30 => k_is)
    (case lc30 => k_is)
    (case vp30 => rfl)
    (case np30 => first | rfl | k_is)
    (case hh30 => first | rfl | kernel_rfl)
    case e_BadValue =>
      refine' DL.own_mk KX hG DL.fo_value DL.tE_BadValue ?aC ?cls ?rv ?sa ?ga ?gg ?noN ?iC ?tC ?kC ?exC ?tyC ?hdC ?isC ?sC ?sup ?top ?any ?ini ?ve ?xi ?mro ?l ?hcd ?lcd ?v2 ?ff ?lcc
      (case aC => k_is)
      (case cls => k_is)
      (case rv => first | rfl | decide +kernel)
      (case sa => k_is)
      (case ga => k_is)
      (case gg => k_is)
      (case noN => k_is)
      (case iC => k_is)
      (case tC => k_is)
      (case kC => k_is)
      (case exC => k_is)
      (case tyC => k_is)
      (case hdC => k_is)
      (case isC => k_is)
      (case sC => first | rfl | k_is)
      (case sup => k_is)
      (case top => first | rfl | decide +kernel)
      (case any => k_is)
      (case ini => ks_is)
      (case ve => k_is)
      (case xi => first | k_exc | rfl | kernel_rfl)
      (case mro => first | k_is | rfl)
      (case l => k_is)
      (case hcd => k_is)
      (case lcd => k_is)
      (case v2 => rfl)
      (case ff => first | rfl | decide +kernel)
      (case lcc => k_is)
    case i_FORM_WORDS =>
      refine' DL.globT_mk KX hG ?a ?l ?s ?v
      (case a => k_is)
      (case l => k_is)
      (case s => decide)
      (case v => exact (.cons ⟨_, rfl⟩ (.cons ⟨_, rfl⟩ (.cons ⟨_, rfl⟩ .nil))))
    case i_HALVED_WORDS =>
      refine' DL.globT_mk KX hG ?a ?l ?s ?v
      (case a => k_is)
      (case l => k_is)
      (case s => decide)
      (case v => exact (.cons ⟨_, rfl⟩ (.cons ⟨_, rfl⟩ (.cons ⟨_, rfl⟩ (.cons ⟨_, rfl⟩ .nil)))))
    case i_KIND_WORDS =>
      refine' DL.globT_mk KX hG ?a ?l ?s ?v
      (case a => k_is)
      (case l => k_is)
      (case s => decide)
      (case v => exact (.cons ⟨_, rfl⟩ (.cons ⟨_, rfl⟩ (.cons ⟨_, rfl⟩ (.cons ⟨_, rfl⟩ .nil)))))
    (case g_COUNTERS => k_is)
    (case g_FORM_WORDS => k_is)
    (case g_HALVED_WORDS => k_is)
    (case g_KIND_WORDS => k_is)
    (case g_LEAF_WORDS => k_is)
    (case g_LETTERS => k_is)
    (case g_MOST_DEPTH => k_is)
    (case g_MOST_SIGNS => k_is)
    (case g_SIGNS => k_is)
    (case z_abs => k_is)
    (case z_all => k_is)
    (case z_int => k_is)
    (case z_isinstance => k_is)
    (case z_len => k_is)
    (case z_list => k_is)
    (case z_max => k_is)
    (case z_range => k_is)
    (case z_set => k_is)
    (case z_sorted => k_is)
    (case z_str => k_is)
    (case z_tuple => k_is)
    (case hq22 => k_is)
    (case hq19 => k_is)
    (case hq14 => k_is)
    (case hq9 => k_is)
    (case hq5 => k_is)
