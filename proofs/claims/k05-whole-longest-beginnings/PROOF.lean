import PyProof.Rows.All
import Wide.All
import OpenK.AllK
import Wide.FinOn
import HandS.ForMost
import HandS.ForExc
import HandS.Deep
import HandS.TupAny
import HandS.IsInst
import HandS.CallSlots
import HandS.Lambda
import HandS.Iter
import HandS.Zip
import HandS.Style
import KE.KExcSuper
import KE.KSuper
import Open.SpecLaws
import KE.OsGo
import HandS.Strs
import HandS.TryMany
import HandS.EndOwn
import KE.KAssignIn
import HandS.More
import KE.GoesMore
import HandS.ReplaceLit
import PyProof.StrLoop
import PyProof.StrLawsReplace
import PyProof.StrLawsWords
import PySem.Challenge.RW_alldeeds_k05_whole_longest_beginnings
set_option Elab.async false
set_option linter.all false
set_option maxHeartbeats 4000000
set_option maxRecDepth 100000
namespace DL
open PySem L2
/-! ### data -/
inductive D where
  | non | bl (b : Bool) | int (i : Int) | str (s : Str)
  | tup (ds : List D) | lst (ds : List D) | dct (es : List (Key × D)) | pen | ref (a : Addr)
/-- what an exception bears: its class and its own fields -/
structure Ex where
  cls : Str
  fs : List (Str × D)
/-- the fixed things of a walk: the written part, the source of draws (its place, what holds of it behind c draws) -/
structure Yc where
  K : PySem.W.Frag
  mg : Str → Option Value
  T : List (Addr × Str)
  raw : List (Addr × Str)
  G0 : Hp
  p : Addr
  W : Hp → Nat → HO → Prop
  mono : ∀ G G' c o, Same G G' → W G c o → W G' c o
  more : ∀ G c c' o, c ≤ c' → W G c o → W G c' o
mutual
inductive Rep (Y : Yc) (G : Hp) : D → V → Prop
  | non : Rep Y G .non .non
  | bl (b : Bool) : Rep Y G (.bl b) (.bl b)
  | int (i : Int) : Rep Y G (.int i) (.int i)
  | str (s : Str) : Rep Y G (.str s) (.str s)
  | pen : Rep Y G .pen (.ref Y.p)
  | ref (a : Addr) : Rep Y G (.ref a) (.ref a)
  | tup {a : Addr} {xs : List V} {ds : List D} : SqT Y.K G a xs → Reps Y G ds xs → Rep Y G (.tup ds) (.ref a)
  | lst {a : Addr} {xs : List V} {ds : List D} : G a = some (.lst xs) → Reps Y G ds xs → Rep Y G (.lst ds) (.ref a)
  | dct {a : Addr} {kvs : List (Key × V)} {es : List (Key × D)} : G a = some (.dK kvs) → Repk Y G es kvs → Rep Y G (.dct es) (.ref a)
inductive Reps (Y : Yc) (G : Hp) : List D → List V → Prop
  | nil : Reps Y G [] []
  | cons {d : D} {v : V} {ds : List D} {vs : List V} : Rep Y G d v → Reps Y G ds vs → Reps Y G (d :: ds) (v :: vs)
inductive Repk (Y : Yc) (G : Hp) : List (Key × D) → List (Key × V) → Prop
  | nil : Repk Y G [] []
  | cons (k : Key) {d : D} {v : V} {ds : List (Key × D)} {vs : List (Key × V)} : Rep Y G d v → Repk Y G ds vs → Repk Y G ((k, d) :: ds) ((k, v) :: vs)
end
theorem sqT_mono {K : PySem.W.Frag} {G G' : Hp} {a : Addr} {xs : List V} (s : Same G G') (h : SqT K G a xs) : SqT K G' a xs := by
  rcases h with (h | ⟨o, h⟩) | h
  · exact .inl (.inl (s _ _ h))
  · exact .inl (.inr ⟨o, s _ _ h⟩)
  · exact .inr h
mutual
theorem Rep.mono {Y : Yc} {G G' : Hp} (s : Same G G') : ∀ {d : D} {v : V}, Rep Y G d v → Rep Y G' d v
  | _, _, .non => .non
  | _, _, .bl b => .bl b
  | _, _, .int i => .int i
  | _, _, .str x => .str x
  | _, _, .pen => .pen
  | _, _, .ref a => .ref a
  | _, _, .tup h r => .tup (sqT_mono s h) (Reps.mono s r)
  | _, _, .lst h r => .lst (s _ _ h) (Reps.mono s r)
  | _, _, .dct h r => .dct (s _ _ h) (Repk.mono s r)
theorem Reps.mono {Y : Yc} {G G' : Hp} (s : Same G G') : ∀ {d : List D} {v : List V}, Reps Y G d v → Reps Y G' d v
  | _, _, .nil => .nil
  | _, _, .cons h r => .cons (Rep.mono s h) (Reps.mono s r)
theorem Repk.mono {Y : Yc} {G G' : Hp} (s : Same G G') : ∀ {d : List (Key × D)} {v : List (Key × V)}, Repk Y G d v → Repk Y G' d v
  | _, _, .nil => .nil
  | _, _, .cons k h r => .cons k (Rep.mono s h) (Repk.mono s r)
end
theorem Reps.length {Y : Yc} {G : Hp} : ∀ {ds : List D} {vs : List V}, Reps Y G ds vs → ds.length = vs.length
  | _, _, .nil => rfl
  | _, _, .cons _ r => congrArg (· + 1) (Reps.length r)
theorem Reps.get {Y : Yc} {G : Hp} : ∀ {ds : List D} {vs : List V} {i : Nat} {d : D}, Reps Y G ds vs → ds[i]? = some d → ∃ v, vs[i]? = some v ∧ Rep Y G d v
  | _, _, i, d, .nil, e => by simp at e
  | _, _, 0, d, .cons h _, e => by simp at e; subst e; exact ⟨_, rfl, h⟩
  | _, _, i + 1, d, .cons _ r, e => Reps.get (i := i) r (by simpa using e)
theorem Reps.append {Y : Yc} {G : Hp} : ∀ {ds es : List D} {vs us : List V}, Reps Y G ds vs → Reps Y G es us → Reps Y G (ds ++ es) (vs ++ us)
  | _, _, _, _, .nil, s => s
  | _, _, _, _, .cons h r, s => .cons h (Reps.append r s)
theorem Reps.take {Y : Yc} {G : Hp} : ∀ {ds : List D} {vs : List V} (n : Nat), Reps Y G ds vs → Reps Y G (ds.take n) (vs.take n)
  | _, _, 0, _ => .nil
  | _, _, _ + 1, .nil => .nil
  | _, _, n + 1, .cons h r => .cons h (Reps.take n r)
theorem Reps.drop {Y : Yc} {G : Hp} : ∀ {ds : List D} {vs : List V} (n : Nat), Reps Y G ds vs → Reps Y G (ds.drop n) (vs.drop n)
  | _, _, 0, r => r
  | _, _, _ + 1, .nil => .nil
  | _, _, n + 1, .cons _ r => Reps.drop n r
theorem Reps.reverse {Y : Yc} {G : Hp} {ds : List D} {vs : List V} (r : Reps Y G ds vs) : Reps Y G ds.reverse vs.reverse := by
  induction ds generalizing vs with
  | nil => cases r; exact .nil
  | cons d ds ih =>
    cases r with
    | cons h r => rw [List.reverse_cons, List.reverse_cons]; exact (ih r).append (.cons h .nil)
/-! ### the state -/
/-- what an object that may still change holds -/
inductive MO where
  | lst (ds : List D)
  | dct (es : List (Key × D))
  | ins (cn : Str) (fs : List (Str × D))
  | xd (fs : List (Str × D))
abbrev Mu := Addr → Option MO
structure S where
  r : List (Option D)
  mu : Mu
  c : Nat
inductive RepF (Y : Yc) (G : Hp) : List (Str × D) → List (Str × V) → Prop
  | nil : RepF Y G [] []
  | cons (k : Str) {d : D} {v : V} {ds : List (Str × D)} {vs : List (Str × V)} : Rep Y G d v → RepF Y G ds vs → RepF Y G ((k, d) :: ds) ((k, v) :: vs)
theorem RepF.mono {Y : Yc} {G G' : Hp} (s : Same G G') {ds : List (Str × D)} {vs : List (Str × V)} (h : RepF Y G ds vs) : RepF Y G' ds vs := by
  induction h with
  | nil => exact .nil
  | cons k h _ ih => exact .cons k (h.mono s) ih
inductive RM (Y : Yc) (G : Hp) : MO → HO → Prop
  | lst {ds : List D} {vs : List V} : Reps Y G ds vs → RM Y G (.lst ds) (.lst vs)
  | dct {ds : List (Key × D)} {vs : List (Key × V)} : Repk Y G ds vs → RM Y G (.dct ds) (.dK vs)
  | ins {cn : Str} {C dx : Addr} {ds : List (Str × D)} {vs : List (Str × V)} : Y.mg cn = some (.ref C) → RepF Y G ds vs → RM Y G (.ins cn ds) (.ins C dx vs)
  | xd {ds : List (Str × D)} {vs : List (Str × V)} : RepF Y G ds vs → RM Y G (.xd ds) (.xd vs)
theorem RM.mono {Y : Yc} {G G' : Hp} (s : Same G G') {m : MO} {o : HO} (h : RM Y G m o) : RM Y G' m o := by
  cases h with
  | lst h => exact .lst (h.mono s)
  | dct h => exact .dct (h.mono s)
  | ins e h => exact .ins e (h.mono s)
  | xd h => exact .xd (h.mono s)
/-- an object that is neither a table of code objects nor a code object -/
def plainO (o : HO) : Prop := (∀ ps, o ≠ .tbl ps) ∧ ∀ c q, o ≠ LamX.CodeO c q
/-- an object that a frame keeps: no table, no exception's dict -/
def frmO (o : HO) : Prop := (∀ ps, o ≠ .tbl ps) ∧ ∀ vs, o ≠ .xd vs
theorem frm_lst {vs : List V} : frmO (.lst vs) := ⟨fun _ z => (by cases z), fun _ z => (by cases z)⟩
theorem frm_dK {vs : List (Key × V)} : frmO (.dK vs) := ⟨fun _ z => (by cases z), fun _ z => (by cases z)⟩
/-- the tables of code objects, the code objects that stand apart -/
structure X0 (Y : Yc) (G : Hp) (mu : Mu) (H : Hp) : Prop where
  tab : LamX.Tabs Y.T H
  tabO : ∀ p ∈ Y.T, G p.1 = none ∧ mu p.1 = none
  raw : ∀ p ∈ Y.raw, H p.1 = some (LamX.CodeO p.1 p.2) ∧ G p.1 = none ∧ mu p.1 = none
  pl : ∀ a o, G a = some o → plainO o
  lo : Same Y.G0 G
theorem X0.laid {Y : Yc} {G : Hp} {mu : Mu} {H : Hp} (h : X0 Y G mu H) {q : Addr} (hq : H q = none) (o : HO) : X0 Y G mu (upd H q o) := by
  have k : ∀ b x, H b = some x → upd H q o b = some x := fun b x e => by
    rw [upd_ne (ne_of_none e hq)]
    exact e
  exact ⟨h.tab.ext k, h.tabO, fun p hp => ⟨k _ _ (h.raw p hp).1, (h.raw p hp).2⟩, h.pl, h.lo⟩
theorem X0.off {Y : Yc} {G : Hp} {mu : Mu} {H : Hp} (h : X0 Y G mu H) {q : Addr} (hq : (∀ o, H q = some o → plainO o)) : (∀ p ∈ Y.T, p.1 ≠ q) ∧ ∀ p ∈ Y.raw, p.1 ≠ q := by
  refine ⟨fun p hp z => ?_, fun p hp z => ?_⟩
  · obtain ⟨ps, h1, _⟩ := h.tab p hp
    rw [z] at h1
    exact (hq _ h1).1 ps rfl
  · have h1 := (h.raw p hp).1
    rw [z] at h1
    rw [← z] at h1
    exact (hq _ (by rw [z] at h1; exact h1)).2 _ _ rfl
theorem X0.grow {Y : Yc} {G : Hp} {mu : Mu} {H : Hp} (h : X0 Y G mu H) {q : Addr} (hq : ∀ o, H q = some o → plainO o) (o : HO) (ho : plainO o) (hG : G q = none) : X0 Y (upd G q o) mu H := by
  obtain ⟨a, b⟩ := h.off hq
  exact ⟨h.tab, fun p hp => ⟨by rw [upd_ne (a p hp)]; exact (h.tabO p hp).1, (h.tabO p hp).2⟩, fun p hp => ⟨(h.raw p hp).1, by rw [upd_ne (b p hp)]; exact (h.raw p hp).2.1, (h.raw p hp).2.2⟩, fun x y e => by
    by_cases hx : x = q
    · subst hx; rw [upd_same] at e; cases e; exact ho
    · rw [upd_ne hx] at e; exact h.pl x y e, fun x y e => by
    have e2 := h.lo x y e
    rw [upd_ne (ne_of_none e2 hG)]
    exact e2⟩
theorem X0.turn {Y : Yc} {G : Hp} {mu : Mu} {H : Hp} (h : X0 Y G mu H) {q : Addr} {H' : Hp} (hq : ∀ o, H q = some o → plainO o) (k : ∀ b x, b ≠ q → H b = some x → H' b = some x) : X0 Y G mu H' := by
  obtain ⟨a, b⟩ := h.off hq
  refine ⟨fun p hp => ?_, h.tabO, fun p hp => ⟨k _ _ (b p hp) (h.raw p hp).1, (h.raw p hp).2⟩, h.pl, h.lo⟩
  obtain ⟨ps, h1, h2, h3⟩ := h.tab p hp
  refine ⟨ps, k _ _ (a p hp) h1, h2, fun pos cv hc => ?_⟩
  obtain ⟨c, e1, e2⟩ := h3 pos cv hc
  exact ⟨c, e1, k _ _ (fun z => by rw [z] at e2; exact (hq _ e2).2 _ _ rfl) e2⟩
theorem plain_lst {vs : List V} : plainO (.lst vs) := ⟨fun _ z => (by cases z), fun _ _ z => (by unfold LamX.CodeO at z; cases z)⟩
theorem plain_tup {vs : List V} : plainO (.tup vs) := ⟨fun _ z => (by cases z), fun _ _ z => (by unfold LamX.CodeO at z; cases z)⟩
theorem plain_dK {vs : List (Key × V)} : plainO (.dK vs) := ⟨fun _ z => (by cases z), fun _ _ z => (by unfold LamX.CodeO at z; cases z)⟩
theorem plain_ins {C dx : Addr} {vs : List (Str × V)} : plainO (.ins C dx vs) := ⟨fun _ z => (by cases z), fun _ _ z => (by unfold LamX.CodeO at z; cases z)⟩
theorem plain_xd {vs : List (Str × V)} : plainO (.xd vs) := ⟨fun _ z => (by cases z), fun _ _ z => (by unfold LamX.CodeO at z; cases z)⟩
structure R0 (Y : Yc) (G : Hp) (mu : Mu) (c : Nat) (H : Hp) : Prop where
  sub : Same G H
  mus : ∀ a m, mu a = some m → G a = none ∧ ∃ o, H a = some o ∧ RM Y G m o
  pen : ∃ o, H Y.p = some o ∧ Y.W G c o ∧ G Y.p = none ∧ mu Y.p = none
  ext : X0 Y G mu H
/-- the slots of a frame -/
def Sl (Y : Yc) (G : Hp) (r : List (Option D)) (σ : St) : Prop := r.length = σ.length ∧ ∀ (i : Nat) (d : D), r[i]? = some (some d) → ∃ v, σ[i]? = some (some v) ∧ Rep Y G d v
theorem Sl.mono {Y : Yc} {G G' : Hp} (s : Same G G') {r : List (Option D)} {σ : St} (h : Sl Y G r σ) : Sl Y G' r σ :=
  ⟨h.1, fun i d e => let ⟨v, e1, q⟩ := h.2 i d e; ⟨v, e1, q.mono s⟩⟩
theorem Sl.set {Y : Yc} {G : Hp} {r : List (Option D)} {σ : St} {d : D} {v : V} (h : Sl Y G r σ) (i : Nat) (q : Rep Y G d v) : Sl Y G (r.set i (some d)) (σ.set i (some v)) := by
  refine ⟨by simp [h.1], fun j e he => ?_⟩
  by_cases hj : i = j
  · subst hj
    by_cases hl : i < r.length
    · rw [List.getElem?_set_self hl] at he
      cases he
      exact ⟨v, by rw [List.getElem?_set_self (by rw [← h.1]; exact hl)], q⟩
    · rw [List.getElem?_eq_none (by simpa using hl)] at he
      cases he
  · rw [List.getElem?_set_ne hj] at he
    obtain ⟨u, e1, q1⟩ := h.2 j e he
    exact ⟨u, by rw [List.getElem?_set_ne hj]; exact e1, q1⟩
theorem Sl.start {Y : Yc} {G : Hp} {ds : List D} {vs : List V} (h : Reps Y G ds vs) (n : Nat) : Sl Y G (ds.map some ++ List.replicate n none) (vs.map some ++ List.replicate n none) := by
  refine ⟨by simp [h.length], fun i d e => ?_⟩
  by_cases hi : i < ds.length
  · rw [List.getElem?_append_left (by simpa using hi), List.getElem?_map] at e
    cases e2 : ds[i]? with
    | none => rw [e2] at e; cases e
    | some x =>
      rw [e2] at e
      cases e
      obtain ⟨v, e3, q⟩ := h.get e2
      refine ⟨v, ?_, q⟩
      rw [List.getElem?_append_left (by simpa [← h.length] using hi), List.getElem?_map, e3]
      rfl
  · rw [List.getElem?_append_right (by simpa using Nat.le_of_not_lt hi)] at e
    have := List.mem_of_getElem? e
    simp at this
structure R (Y : Yc) (G : Hp) (st : S) (σ : St) (H : Hp) : Prop where
  h : R0 Y G st.mu st.c H
  s : Sl Y G st.r σ
/-- what is not the walk's to change stands -/
def Frm (Y : Yc) (G : Hp) (mu : Mu) (H : Hp) (G' : Hp) (mu' : Mu) (H' : Hp) : Prop := ∀ a o, H a = some o → G a = none → mu a = none → a ≠ Y.p ∧ frmO o → H' a = some o ∧ G' a = none ∧ mu' a = none
theorem Frm.refl {Y : Yc} {G : Hp} {mu : Mu} {H : Hp} : Frm Y G mu H G mu H := fun _ _ h1 h2 h3 _ => ⟨h1, h2, h3⟩
theorem Frm.trans {Y : Yc} {G G1 G2 : Hp} {mu mu1 mu2 : Mu} {H H1 H2 : Hp} (f : Frm Y G mu H G1 mu1 H1) (g : Frm Y G1 mu1 H1 G2 mu2 H2) : Frm Y G mu H G2 mu2 H2 := fun a o h1 h2 h3 h4 =>
  let ⟨e1, e2, e3⟩ := f a o h1 h2 h3 h4
  g a o e1 e2 e3 h4
/-- a new object is laid -/
theorem same_upd {H : Hp} {q : Addr} {o : HO} (hq : H q = none) : Same H (upd H q o) := fun b x e => by
  rw [upd_ne (ne_of_none e hq)]
  exact e
theorem R0.new {Y : Yc} {G : Hp} {mu : Mu} {c : Nat} {H : Hp} (h : R0 Y G mu c H) {q : Addr} (hq : H q = none) (o : HO) (ho : plainO o := by first | exact plain_lst | exact plain_tup | exact plain_dK) : R0 Y (upd G q o) mu c (upd H q o) ∧ Same G (upd G q o) ∧ Same H (upd H q o) := by
  have hG : G q = none := h.sub.free hq
  have sG : Same G (upd G q o) := same_upd hG
  refine ⟨⟨fun b x e => ?_, fun a m e => ?_, ?_, (h.ext.grow (fun o z => by rw [hq] at z; cases z) o ho hG).laid hq o⟩, sG, same_upd hq⟩
  · by_cases hb : b = q
    · subst hb; rw [upd_same] at e ⊢; exact e
    · rw [upd_ne hb] at e ⊢; exact h.sub b x e
  · obtain ⟨h1, x, h2, h3⟩ := h.mus a m e
    have hn : a ≠ q := ne_of_none h2 hq
    exact ⟨by rw [upd_ne hn]; exact h1, x, by rw [upd_ne hn]; exact h2, h3.mono sG⟩
  · obtain ⟨x, h1, h2, h3, h4⟩ := h.pen
    have hn : Y.p ≠ q := ne_of_none h1 hq
    exact ⟨x, by rw [upd_ne hn]; exact h1, Y.mono _ _ _ _ sG h2, by rw [upd_ne hn]; exact h3, h4⟩
theorem Frm.new {Y : Yc} {G : Hp} {mu : Mu} {H : Hp} {q : Addr} {o o' : HO} (hq : H q = none) : Frm Y G mu H (upd G q o) mu (upd H q o') := fun a x h1 h2 h3 _ =>
  have n := ne_of_none h1 hq
  ⟨by rw [upd_ne n]; exact h1, by rw [upd_ne n]; exact h2, h3⟩
theorem Frm.add {Y : Yc} {G : Hp} {mu : Mu} {H : Hp} {q : Addr} {o' : HO} (hq : H q = none) : Frm Y G mu H G mu (upd H q o') := fun a x h1 h2 h3 _ =>
  have n := ne_of_none h1 hq
  ⟨by rw [upd_ne n]; exact h1, h2, h3⟩
/-! ### readings over data -/
abbrev PXT := Ex → S → Prop
abbrev ME := S → (D → S → Prop) → PXT → Prop
abbrev MT := S → (Bool → S → Prop) → PXT → Prop
abbrev MA := S → (List D → S → Prop) → PXT → Prop
structure DEnds where
  nx : S → Prop
  rt : D → S → Prop
  bk : S → Prop := fun _ => False
  ct : S → Prop := fun _ => False
abbrev MS := S → DEnds → PXT → Prop
/-- how an exception of the data shows -/
def RepX (Y : Yc) (G : Hp) (mu : Mu) (H : Hp) (x : Ex) (cls : Value) (d : Option Addr) : Prop := (∃ C : Addr, Y.mg x.cls = some (.ref C) ∧ cls = .ref C) ∧ ((x.fs = [] ∧ d = none) ∨ ∃ dd vs, d = some dd ∧ H dd = some (.xd vs) ∧ RepF Y G x.fs vs ∧ G dd = none ∧ mu dd = none ∧ dd ≠ Y.p)
def XPost (Y : Yc) (W : WX) (G : Hp) (st : S) (σ : St) (H : Hp) (PX : PXT) : Prop :=
  ∀ x st' cls d σ' G' H', PX x st' → Same G G' → Frm Y G st.mu H G' st'.mu H' → R Y G' st' σ' H' → RepX Y G' st'.mu H' x cls d → W cls d σ' H'
theorem XPost.on {Y : Yc} {W : WX} {G G1 : Hp} {st st1 : S} {σ σ1 : St} {H H1 : Hp} {PX : PXT} (x : XPost Y W G st σ H PX) (s : Same G G1) (f : Frm Y G st.mu H G1 st1.mu H1) : XPost Y W G1 st1 σ1 H1 PX :=
  fun e st' cls d σ' G' H' h1 h2 h3 h4 h5 => x e st' cls d σ' G' H' h1 (s.trans h2) (f.trans h3) h4 h5
def TEof (Y : Yc) (W : WX) (m : ME) : TE := fun σ H Q => ∃ G st P PX, R Y G st σ H ∧ m st P PX ∧ XPost Y W G st σ H PX ∧
  ∀ d st' v G' H', P d st' → Same G G' → Frm Y G st.mu H G' st'.mu H' → R Y G' st' σ H' → Rep Y G' d v → Q v H'
def TTof (Y : Yc) (W : WX) (m : MT) : TT := fun σ H Q => ∃ G st P PX, R Y G st σ H ∧ m st P PX ∧ XPost Y W G st σ H PX ∧
  ∀ b st' G' H', P b st' → Same G G' → Frm Y G st.mu H G' st'.mu H' → R Y G' st' σ H' → Q b H'
def TAof (Y : Yc) (W : WX) (m : MA) : TA := fun σ H Q => ∃ G st P PX, R Y G st σ H ∧ m st P PX ∧ XPost Y W G st σ H PX ∧
  ∀ ds st' vs G' H', P ds st' → Same G G' → Frm Y G st.mu H G' st'.mu H' → R Y G' st' σ H' → Reps Y G' ds vs → Q vs H'
/-- the ends of a block -/
structure EndsOk (Y : Yc) (G : Hp) (st : S) (H : Hp) (E : DEnds) (D : Ends) : Prop where
  nx : ∀ st' σ' G' H', E.nx st' → Same G G' → Frm Y G st.mu H G' st'.mu H' → R Y G' st' σ' H' → D.nx σ' H'
  rt : ∀ d st' v σ' G' H', E.rt d st' → Same G G' → Frm Y G st.mu H G' st'.mu H' → R Y G' st' σ' H' → Rep Y G' d v → D.rt v H'
  bk : ∀ st' σ' G' H', E.bk st' → Same G G' → Frm Y G st.mu H G' st'.mu H' → R Y G' st' σ' H' → D.bk σ' H'
  ct : ∀ st' σ' G' H', E.ct st' → Same G G' → Frm Y G st.mu H G' st'.mu H' → R Y G' st' σ' H' → D.ct σ' H'
def TSof (Y : Yc) (W : WX) (m : MS) : TS := fun D σ H => ∃ G st E PX, R Y G st σ H ∧ m st E PX ∧ XPost Y W G st σ H PX ∧ EndsOk Y G st H E D
theorem EndsOk.on {Y : Yc} {G G1 : Hp} {st st1 : S} {H H1 : Hp} {E : DEnds} {D : Ends} (x : EndsOk Y G st H E D) (s : Same G G1) (f : Frm Y G st.mu H G1 st1.mu H1) : EndsOk Y G1 st1 H1 E D :=
  ⟨fun _ _ _ _ a b c d => x.nx _ _ _ _ a (s.trans b) (f.trans c) d, fun _ _ _ _ _ _ a b c d e => x.rt _ _ _ _ _ _ a (s.trans b) (f.trans c) d e, fun _ _ _ _ a b c d => x.bk _ _ _ _ a (s.trans b) (f.trans c) d, fun _ _ _ _ a b c d => x.ct _ _ _ _ a (s.trans b) (f.trans c) d⟩
section
variable {X : Cx}
theorem peImp {e : Expr} {t t' : TE} (h : PE X e t) (i : ∀ σ H Q, t' σ H Q → t σ H Q) : PE X e t' := ⟨fun pins s σ H Q I q => h.run pins s σ H Q I (i σ H Q q)⟩
theorem ptImp {e : Expr} {t t' : TT} (h : PT X e t) (i : ∀ σ H Q, t' σ H Q → t σ H Q) : PT X e t' := ⟨fun pins s σ H Q I q => h.run pins s σ H Q I (i σ H Q q)⟩
theorem pwImp {e : Expr} {t t' : TT} (h : PW X e t) (i : ∀ σ H Q, t' σ H Q → t σ H Q) : PW X e t' := ⟨fun wh pins s σ H Q I q => h.run wh pins s σ H Q I (i σ H Q q)⟩
theorem paImp {e : List Expr} {t t' : TA} (h : PA X e t) (i : ∀ σ H Q, t' σ H Q → t σ H Q) : PA X e t' := ⟨fun pos pins s σ H Q I q => h.run pos pins s σ H Q I (i σ H Q q)⟩
theorem psImp {e : Stmt} {t t' : TS} (h : PS X e t) (i : ∀ D σ H, t' D σ H → t D σ H) : PS X e t' := ⟨fun pins s σ H D I q => h.run pins s σ H D I (i D σ H q)⟩
theorem pssImp {e : List Stmt} {t t' : TS} (h : PSs X e t) (i : ∀ D σ H, t' D σ H → t D σ H) : PSs X e t' := ⟨fun pins s σ H D I q => h.run pins s σ H D I (i D σ H q)⟩
end
/-- the judgements over data -/
abbrev DE (X : Cx) (Y : Yc) (W : WX) (e : Expr) (m : ME) : Prop := PE X e (TEof Y W m)
abbrev DT (X : Cx) (Y : Yc) (W : WX) (e : Expr) (m : MT) : Prop := PT X e (TTof Y W m)
abbrev DW (X : Cx) (Y : Yc) (W : WX) (e : Expr) (m : MT) : Prop := PW X e (TTof Y W m)
abbrev DA (X : Cx) (Y : Yc) (W : WX) (e : List Expr) (m : MA) : Prop := PA X e (TAof Y W m)
abbrev DS (X : Cx) (Y : Yc) (W : WX) (e : Stmt) (m : MS) : Prop := PS X e (TSof Y W m)
abbrev DSs (X : Cx) (Y : Yc) (W : WX) (e : List Stmt) (m : MS) : Prop := PSs X e (TSof Y W m)
section
variable {X : Cx} {Y : Yc} {W : WX} {a b c e : Expr} {ma mb mc me : ME} {es : List Expr} {pos : Pos}
/-! ### names, constants -/
def mVar (i : Nat) : ME := fun st P _ => ∃ d, st.r[i]? = some (some d) ∧ P d st
theorem de_var {i : Nat} {x : Str} (hN : X.N[i]? = some x := by rfl) (hv : Vis X.env.scope x := by first | exact Or.inl rfl | exact Or.inr (Or.inl rfl) | exact Or.inr (Or.inr rfl)) (hd : (x == ("__debug__" : Str)) = false := by decide)
    (hcd : (x == ("__classdict__" : Str)) = false := by decide) : DE X Y W (.Name x pos) (mVar i) :=
  peImp (pe_var hN hv hd hcd) fun σ H Q ⟨G, st, P, PX, r, ⟨d, e1, hp⟩, _, k⟩ => by
    obtain ⟨v, e2, q⟩ := r.s.2 i d e1
    exact ⟨v, e2, k d st v G H hp (Same.refl G) .refl r q⟩
def mC (d : D) : ME := fun st P _ => P d st
theorem de_of {v : V} {d : D} (h : PE X e (tC v)) (hr : ∀ G, Rep Y G d v) : DE X Y W e (mC d) :=
  peImp h fun σ H Q ⟨G, st, P, PX, r, hp, _, k⟩ => k d st v G H hp (Same.refl G) .refl r (hr G)
theorem de_int {i : Int} {j : Nat} : DE X Y W (.Constant (.int i) j pos) (mC (.int i)) := de_of pe_int fun _ => .int i
theorem de_bl {i : Bool} {j : Nat} : DE X Y W (.Constant (.bool i) j pos) (mC (.bl i)) := de_of pe_bl fun _ => .bl i
theorem de_non {j : Nat} : DE X Y W (.Constant .none j pos) (mC .non) := de_of pe_non fun _ => .non
theorem de_str {x : Str} {j : Nat} : DE X Y W (.Constant (.str x) j pos) (mC (.str x)) := de_of pe_str fun _ => .str x
theorem de_glob {x : Str} {d : D} {v : V} {u : Value} (hg : Gl X x) (hm : X.mg x = some u) (r : RelV v u) (hr : ∀ G, Rep Y G d v) (hd : (x == ("__debug__" : Str)) = false := by decide) : DE X Y W (.Name x pos) (mC d) :=
  de_of (pe_glob hg hm r hd) hr
/-! ### operators, by values -/
abbrev O1 := Mu → D → (D → Prop) → Prop
abbrev O2 := Mu → D → D → (D → Prop) → Prop
abbrev OL := Mu → List D → (D → Prop) → Prop
/-- the end of an operation that lays new objects at most -/
def Post (Y : Yc) (G : Hp) (mu : Mu) (c : Nat) (H : Hp) (P : D → Prop) (Q : VK) : Prop := ∀ r v G' H', P r → Same G G' → Frm Y G mu H G' mu H' → R0 Y G' mu c H' → Rep Y G' r v → Q v H'
def l2 (Y : Yc) (g : O2) : R2 := fun x y H Q => ∃ G mu c d e P, R0 Y G mu c H ∧ Rep Y G d x ∧ Rep Y G e y ∧ g mu d e P ∧ Post Y G mu c H P Q
def l1 (Y : Yc) (g : O1) : V → Hp → VK → Prop := fun x H Q => ∃ G mu c d P, R0 Y G mu c H ∧ Rep Y G d x ∧ g mu d P ∧ Post Y G mu c H P Q
def lL (Y : Yc) (g : OL) : List V → Hp → VK → Prop := fun xs H Q => ∃ G mu c ds P, R0 Y G mu c H ∧ Reps Y G ds xs ∧ g mu ds P ∧ Post Y G mu c H P Q
abbrev OpD (X : Cx) (Y : Yc) (f : Value → Value → Sem Value) (g : O2) : Prop := OpR X f (l2 Y g)
abbrev UnD (X : Cx) (Y : Yc) (f : Value → Sem Value) (g : O1) : Prop := UnR X f (l1 Y g)
abbrev CallD (X : Cx) (Y : Yc) (f : Value) (g : OL) : Prop := CallR X f (lL Y g)
theorem opImp {f : Value → Value → Sem Value} {r r' : R2} (h : OpR X f r) (i : ∀ x y H Q, r' x y H Q → r x y H Q) : OpR X f r' := fun pins s σ H x y v u Q I rx ry q => h pins s σ H x y v u Q I rx ry (i x y H Q q)
theorem unImp {f : Value → Sem Value} {r r' : V → Hp → VK → Prop} (h : UnR X f r) (i : ∀ x H Q, r' x H Q → r x H Q) : UnR X f r' := fun pins s σ H x v Q I rx q => h pins s σ H x v Q I rx (i x H Q q)
theorem callImp {f : Value} {r r' : List V → Hp → VK → Prop} (h : CallR X f r) (i : ∀ x H Q, r' x H Q → r x H Q) : CallR X f r' := fun pins s σ H x v Q I rx q => h pins s σ H x v Q I rx (i x H Q q)
def mOp (g : O2) (ma mb : ME) : ME := fun st P PX => ma st (fun d s1 => mb s1 (fun e s2 => g s2.mu d e fun r => P r s2) PX) PX
theorem mOp_ok {g : O2} {r : R2} (hr : ∀ x y H Q, l2 Y g x y H Q → r x y H Q) : ∀ σ H Q, TEof Y W (mOp g ma mb) σ H Q → tOp r (TEof Y W ma) (TEof Y W mb) σ H Q := fun σ H Q ⟨G, st, P, PX, rr, hm, xp, k⟩ =>
  ⟨G, st, _, PX, rr, hm, xp, fun d s1 v G1 H1 hm1 g1 f1 r1 q1 =>
    ⟨G1, s1, _, PX, r1, hm1, xp.on g1 f1, fun e s2 w G2 H2 hm2 g2 f2 r2 q2 =>
      hr _ _ _ _ ⟨G2, s2.mu, s2.c, d, e, _, r2.h, q1.mono g2, q2, hm2, fun z v3 G3 H3 hp g3 h3 r3 q3 =>
        k z s2 v3 G3 H3 hp ((g1.trans g2).trans g3) ((f1.trans f2).trans h3) ⟨r3, r2.s.mono g3⟩ q3⟩⟩⟩
theorem de_op {op : Operator} {g : O2} (ho : OpD X Y (binaryOp op) g) (ha : DE X Y W a ma) (hb : DE X Y W b mb) : DE X Y W (.BinOp a op b pos) (mOp g ma mb) :=
  peImp (pe_op ho ha hb) (mOp_ok fun _ _ _ _ h => h)
theorem de_cmp {op : CmpOp} {g : O2} (ho : OpD X Y (compareOp op) g) (ha : DE X Y W a ma) (hb : DE X Y W b mb) (hm : behindInMarks op b = false := by first | exact nomark _ (by decide) (by decide) | rfl) : DE X Y W (.Compare a [op] [b] pos) (mOp g ma mb) :=
  peImp (pe_cmpR ho ha hb hm) (mOp_ok fun _ _ _ _ h => h)
def mUn (g : O1) (ma : ME) : ME := fun st P PX => ma st (fun d s1 => g s1.mu d fun r => P r s1) PX
theorem de_un {op : UnaryOp} {g : O1} (ho : UnD X Y (unaryOp op) g) (ha : DE X Y W a ma) : DE X Y W (.UnaryOp op a pos) (mUn g ma) :=
  peImp (pe_un ho ha) fun σ H Q ⟨G, st, P, PX, rr, hm, xp, k⟩ =>
    ⟨G, st, _, PX, rr, hm, xp, fun d s1 v G1 H1 hm1 g1 f1 r1 q1 =>
      ⟨G1, s1.mu, s1.c, d, _, r1.h, q1, hm1, fun z v3 G3 H3 hp g3 h3 r3 q3 => k z s1 v3 G3 H3 hp (g1.trans g3) (f1.trans h3) ⟨r3, r1.s.mono g3⟩ q3⟩⟩
/-! ### tests -/
/-- a value that must be a truth -/
def mB (m : ME) : MT := fun st P PX => m st (fun d s1 => ∃ k, d = .bl k ∧ P k s1) PX
theorem tB_ok {m : ME} : ∀ σ H Q, TTof Y W (mB m) σ H Q → tB (TEof Y W m) σ H Q := fun σ H Q ⟨G, st, P, PX, rr, hm, xp, k⟩ =>
  ⟨G, st, fun d s1 => ∃ k, d = .bl k ∧ P k s1, PX, rr, hm, xp, fun d s1 v G1 H1 hm1 g1 f1 r1 q1 => by
    obtain ⟨b, rfl, hp⟩ := hm1
    cases q1
    exact ⟨b, rfl, k b s1 G1 H1 hp g1 f1 r1⟩⟩
theorem dt_val {m : ME} (h : DE X Y W e m) (he : ∀ whole, isTrue e X.env whole = (do let v ← whole; standAt e.pos; holding [v] (truthy v)) := by intro _; rfl) : DT X Y W e (mB m) :=
  ptImp (pt_val h he) tB_ok
theorem dt_cmp {op : CmpOp} {g : O2} (ho : OpD X Y (compareOp op) g) (ha : DE X Y W a ma) (hb : DE X Y W b mb) (hm : behindInMarks op b = false := by first | exact nomark _ (by decide) (by decide) | rfl) : DT X Y W (.Compare a [op] [b] pos) (mB (mOp g ma mb)) :=
  ptImp (pt_cmpR ho ha hb hm) fun σ H Q h => by
    obtain ⟨G, st, P, PX, rr, hm, xp, k⟩ := h
    refine mOp_ok (r := l2 Y g) (fun _ _ _ _ h => h) σ H _ ⟨G, st, fun d s1 => ∃ k, d = .bl k ∧ P k s1, PX, rr, hm, xp, fun d s1 v G1 H1 hm1 g1 f1 r1 q1 => ?_⟩
    obtain ⟨b, rfl, hp⟩ := hm1
    cases q1
    exact ⟨b, rfl, k b s1 G1 H1 hp g1 f1 r1⟩
variable {mt mu' : MT} {rest : List Expr}
def mAnd (t u : MT) : MT := fun st P PX => t st (fun k s1 => if k = true then u s1 P PX else P false s1) PX
def mOr (t u : MT) : MT := fun st P PX => t st (fun k s1 => if k = true then P true s1 else u s1 P PX) PX
def mNot (t : MT) : MT := fun st P PX => t st (fun k s1 => P (!k) s1) PX
theorem dw_and1 (ha : DT X Y W a mt) : DW X Y W (.BoolOp .And [a] pos) mt := pw_and1 ha
theorem dw_or1 (ha : DT X Y W a mt) : DW X Y W (.BoolOp .Or [a] pos) mt := pw_or1 ha
theorem dw_and (ha : DT X Y W a mt) (hb : DW X Y W (.BoolOp .And (b :: rest) pos) mu') : DW X Y W (.BoolOp .And (a :: b :: rest) pos) (mAnd mt mu') :=
  pwImp (pw_and ha hb) fun σ H Q ⟨G, st, P, PX, rr, hm, xp, k⟩ => ⟨G, st, fun k s1 => if k = true then mu' s1 P PX else P false s1, PX, rr, hm, xp, fun d s1 G1 H1 hm1 g1 f1 r1 => by
    cases d with
    | true => rw [if_pos rfl] at hm1 ⊢; exact ⟨G1, s1, P, PX, r1, hm1, xp.on g1 f1, fun b st' G' H' hp g2 f2 r2 => k b st' G' H' hp (g1.trans g2) (f1.trans f2) r2⟩
    | false => rw [if_neg Bool.false_ne_true] at hm1 ⊢; exact k false s1 G1 H1 hm1 g1 f1 r1⟩
theorem dw_or (ha : DT X Y W a mt) (hb : DW X Y W (.BoolOp .Or (b :: rest) pos) mu') : DW X Y W (.BoolOp .Or (a :: b :: rest) pos) (mOr mt mu') :=
  pwImp (pw_or ha hb) fun σ H Q ⟨G, st, P, PX, rr, hm, xp, k⟩ => ⟨G, st, fun k s1 => if k = true then P true s1 else mu' s1 P PX, PX, rr, hm, xp, fun d s1 G1 H1 hm1 g1 f1 r1 => by
    cases d with
    | false => rw [if_neg Bool.false_ne_true] at hm1 ⊢; exact ⟨G1, s1, P, PX, r1, hm1, xp.on g1 f1, fun b st' G' H' hp g2 f2 r2 => k b st' G' H' hp (g1.trans g2) (f1.trans f2) r2⟩
    | true => rw [if_pos rfl] at hm1 ⊢; exact k true s1 G1 H1 hm1 g1 f1 r1⟩
theorem dt_bool (h : DW X Y W e mt) : DT X Y W e mt := h.pt
theorem dt_not (ha : DT X Y W a mt) : DT X Y W (.UnaryOp .Not a pos) (mNot mt) :=
  ptImp (pt_not ha) fun σ H Q ⟨G, st, P, PX, rr, hm, xp, k⟩ => ⟨G, st, _, PX, rr, hm, xp, fun d s1 G1 H1 hm1 g1 f1 r1 => k (!d) s1 G1 H1 hm1 g1 f1 r1⟩
/-- a chain of two comparisons -/
def mChain (g g' : O2) (ma mb mc : ME) : MT := fun st P PX => ma st (fun x s1 => mb s1 (fun y s2 => g s2.mu x y fun z => ∃ k, z = .bl k ∧ if k = true then mc s2 (fun w s3 => g' s3.mu y w fun z' => ∃ k', z' = .bl k' ∧ P k' s3) PX else P false s2) PX) PX
/-! ### values by and, or, not -/
/-- and, or as values: all but the last are truths -/
def mAndV (m n : ME) : ME := fun st P PX => m st (fun d s1 => ∃ k, d = .bl k ∧ if k = true then n s1 P PX else P (.bl false) s1) PX
def mOrV (m n : ME) : ME := fun st P PX => m st (fun d s1 => ∃ k, d = .bl k ∧ if k = true then P (.bl true) s1 else n s1 P PX) PX
def mNotV (m : ME) : ME := fun st P PX => m st (fun d s1 => ∃ k, d = .bl k ∧ P (.bl (!k)) s1) PX
theorem de_one {op : BoolOp} (ha : DE X Y W a ma) : DE X Y W (.BoolOp op [a] pos) ma := pe_one ha
theorem de_and (ha : DE X Y W a ma) (hb : DE X Y W (.BoolOp .And (b :: rest) pos) mb) : DE X Y W (.BoolOp .And (a :: b :: rest) pos) (mAndV ma mb) :=
  peImp (pe_and ha hb) fun σ H Q ⟨G, st, P, PX, rr, hm, xp, k⟩ => ⟨G, st, fun d s1 => ∃ k, d = .bl k ∧ if k = true then mb s1 P PX else P (.bl false) s1, PX, rr, hm, xp, fun d s1 v G1 H1 hm1 g1 f1 r1 q1 => by
    obtain ⟨z, rfl, hm1⟩ := hm1
    cases q1
    refine ⟨z, rfl, ?_⟩
    cases z with
    | true => rw [if_pos rfl] at hm1 ⊢; exact ⟨G1, s1, P, PX, r1, hm1, xp.on g1 f1, fun d st' v G' H' hp g2 f2 r2 q2 => k d st' v G' H' hp (g1.trans g2) (f1.trans f2) r2 q2⟩
    | false => rw [if_neg Bool.false_ne_true] at hm1 ⊢; exact k _ s1 _ G1 H1 hm1 g1 f1 r1 (.bl false)⟩
theorem de_or (ha : DE X Y W a ma) (hb : DE X Y W (.BoolOp .Or (b :: rest) pos) mb) : DE X Y W (.BoolOp .Or (a :: b :: rest) pos) (mOrV ma mb) :=
  peImp (pe_or ha hb) fun σ H Q ⟨G, st, P, PX, rr, hm, xp, k⟩ => ⟨G, st, fun d s1 => ∃ k, d = .bl k ∧ if k = true then P (.bl true) s1 else mb s1 P PX, PX, rr, hm, xp, fun d s1 v G1 H1 hm1 g1 f1 r1 q1 => by
    obtain ⟨z, rfl, hm1⟩ := hm1
    cases q1
    refine ⟨z, rfl, ?_⟩
    cases z with
    | false => rw [if_neg Bool.false_ne_true] at hm1 ⊢; exact ⟨G1, s1, P, PX, r1, hm1, xp.on g1 f1, fun d st' v G' H' hp g2 f2 r2 q2 => k d st' v G' H' hp (g1.trans g2) (f1.trans f2) r2 q2⟩
    | true => rw [if_pos rfl] at hm1 ⊢; exact k _ s1 _ G1 H1 hm1 g1 f1 r1 (.bl true)⟩
theorem de_not (ha : DE X Y W a ma) : DE X Y W (.UnaryOp .Not a pos) (mNotV ma) :=
  peImp (pe_not ha) fun σ H Q ⟨G, st, P, PX, rr, hm, xp, k⟩ => ⟨G, st, fun d s1 => ∃ k, d = .bl k ∧ P (.bl (!k)) s1, PX, rr, hm, xp, fun d s1 v G1 H1 hm1 g1 f1 r1 q1 => by
    obtain ⟨z, rfl, hm1⟩ := hm1
    cases q1
    exact ⟨z, rfl, k _ s1 _ G1 H1 hm1 g1 f1 r1 (.bl _)⟩⟩
def mIf (t : MT) (m n : ME) : ME := fun st P PX => t st (fun k s1 => if k = true then m s1 P PX else n s1 P PX) PX
theorem de_if (hc : DT X Y W c mt) (ha : DE X Y W a ma) (hb : DE X Y W b mb) : DE X Y W (.IfExp c a b pos) (mIf mt ma mb) :=
  peImp (pe_ifExp hc ha hb) fun σ H Q ⟨G, st, P, PX, rr, hm, xp, k⟩ => ⟨G, st, fun k s1 => if k = true then ma s1 P PX else mb s1 P PX, PX, rr, hm, xp, fun d s1 G1 H1 hm1 g1 f1 r1 => by
    cases d with
    | true => rw [if_pos rfl] at hm1 ⊢; exact ⟨G1, s1, P, PX, r1, hm1, xp.on g1 f1, fun d st' v G' H' hp g2 f2 r2 q2 => k d st' v G' H' hp (g1.trans g2) (f1.trans f2) r2 q2⟩
    | false => rw [if_neg Bool.false_ne_true] at hm1 ⊢; exact ⟨G1, s1, P, PX, r1, hm1, xp.on g1 f1, fun d st' v G' H' hp g2 f2 r2 q2 => k d st' v G' H' hp (g1.trans g2) (f1.trans f2) r2 q2⟩⟩
/-! ### arguments, displays -/
def mNil : MA := fun st P _ => P [] st
def mCons (m : ME) (n : MA) : MA := fun st P PX => m st (fun d s1 => n s1 (fun ds s2 => P (d :: ds) s2) PX) PX
variable {mas : MA}
theorem da_nil : DA X Y W [] mNil := paImp pa_nil fun σ H Q ⟨G, st, P, PX, rr, hm, xp, k⟩ => k [] st [] G H hm (Same.refl G) .refl rr .nil
theorem da_cons (ha : DE X Y W e me) (hr : DA X Y W es mas) (hs : starEach (e :: es) X.env = (false, eval e X.env) :: starEach es X.env := by rfl) : DA X Y W (e :: es) (mCons me mas) :=
  paImp (pa_cons ha hr hs) fun σ H Q ⟨G, st, P, PX, rr, hm, xp, k⟩ => ⟨G, st, _, PX, rr, hm, xp, fun d s1 v G1 H1 hm1 g1 f1 r1 q1 =>
    ⟨G1, s1, _, PX, r1, hm1, xp.on g1 f1, fun ds s2 vs G2 H2 hm2 g2 f2 r2 q2 => k _ s2 _ G2 H2 hm2 (g1.trans g2) (f1.trans f2) r2 (.cons (q1.mono g2) q2)⟩⟩
/-- (a, b, ..), [a, b, ..] -/
def mTup (n : MA) : ME := fun st P PX => n st (fun ds s1 => ds.length ≤ sizeLine ∧ P (.tup ds) s1) PX
def mLst (n : MA) : ME := fun st P PX => n st (fun ds s1 => ds.length ≤ sizeLine ∧ P (.lst ds) s1) PX
theorem R.new {Y : Yc} {G : Hp} {st : S} {σ : St} {H : Hp} (h : R Y G st σ H) {q : Addr} (hq : H q = none) (o : HO) (ho : plainO o := by first | exact plain_lst | exact plain_tup | exact plain_dK) : R Y (upd G q o) st σ (upd H q o) :=
  ⟨(h.h.new hq o ho).1, h.s.mono (h.h.new hq o ho).2.1⟩
theorem de_tup {x1 : Nat} (h : DA X Y W es mas) : DE X Y W (.Tuple es x1 pos) (mTup mas) :=
  peImp (pe_tup h) fun σ H Q ⟨G, st, P, PX, rr, hm, xp, k⟩ => ⟨G, st, _, PX, rr, hm, xp, fun ds s1 vs G1 H1 hm1 g1 f1 r1 q1 =>
    ⟨by rw [← q1.length]; exact hm1.1, fun q hq => k _ s1 _ _ _ hm1.2 (g1.trans (r1.h.new hq _).2.1) (f1.trans (.new hq)) (r1.new hq (.tup vs)) (.tup (SqT.of upd_same) (q1.mono (r1.h.new hq _).2.1))⟩⟩
theorem de_lst (h : DA X Y W es mas) : DE X Y W (.List es pos) (mLst mas) :=
  peImp (pe_lst h) fun σ H Q ⟨G, st, P, PX, rr, hm, xp, k⟩ => ⟨G, st, _, PX, rr, hm, xp, fun ds s1 vs G1 H1 hm1 g1 f1 r1 q1 =>
    ⟨by rw [← q1.length]; exact hm1.1, fun q hq => k _ s1 _ _ _ hm1.2 (g1.trans (r1.h.new hq _).2.1) (f1.trans (.new hq)) (r1.new hq (.lst vs)) (.lst upd_same (q1.mono (r1.h.new hq _).2.1))⟩⟩
/-! ### built-ins by name -/
def mCB (g : OL) (n : MA) : ME := fun st P PX => n st (fun ds s1 => g s1.mu ds fun r => P r s1) PX
variable {x : Str} {p : Pos} {id T : String} {g : OL}
theorem mCB_ok {r : List V → Hp → VK → Prop} (hr : ∀ xs H Q, lL Y g xs H Q → r xs H Q) : ∀ σ H Q, TEof Y W (mCB g mas) σ H Q → tCB r (TAof Y W mas) σ H Q := fun σ H Q ⟨G, st, P, PX, rr, hm, xp, k⟩ =>
  ⟨G, st, _, PX, rr, hm, xp, fun ds s1 vs G1 H1 hm1 g1 f1 r1 q1 => hr _ _ _ ⟨G1, s1.mu, s1.c, ds, _, r1.h, q1, hm1, fun z v3 G3 H3 hp g3 h3 r3 q3 => k z s1 v3 G3 H3 hp (g1.trans g3) (f1.trans h3) ⟨r3, r1.s.mono g3⟩ q3⟩⟩
theorem de_callB (hc : CallD X Y (.builtin id) g) (hg : Gl X x) (hm : X.mg x = none) (hv : bootBuiltins x = some (.builtin id)) (ha : DA X Y W (e :: es) mas) (hn : x ≠ "__name__" := by decide) (hdb : (x == ("__debug__" : Str)) = false := by decide)
    (he : starEach (e :: es) X.env = (false, eval e X.env) :: starEach es X.env := by rfl) (hpl : (backTo pos (starEach es X.env)).any (·.1) = false := by rfl) : DE X Y W (.Call (.Name x p) (e :: es) [] pos) (mCB g mas) :=
  peImp (pe_callB hc hg hm hv ha hn hdb he hpl) (mCB_ok fun _ _ _ h => h)
theorem de_callTy (hc : CallD X Y (.type T) g) (hg : Gl X x) (hm : X.mg x = none) (hv : bootBuiltins x = some (.type T)) (ha : DA X Y W (e :: es) mas) (hn : x ≠ "__name__" := by decide) (hdb : (x == ("__debug__" : Str)) = false := by decide)
    (he : starEach (e :: es) X.env = (false, eval e X.env) :: starEach es X.env := by rfl) (hpl : (backTo pos (starEach es X.env)).any (·.1) = false := by rfl) : DE X Y W (.Call (.Name x p) (e :: es) [] pos) (mCB g mas) :=
  peImp (pe_callTy hc hg hm hv ha hn hdb he hpl) (mCB_ok fun _ _ _ h => h)
/-! ### statements -/
variable {ms ns : MS} {st : Stmt} {sts sts2 : List Stmt}
def mNext : MS := fun st E _ => E.nx st
def mSeq (t u : MS) : MS := fun st E PX => t st { E with nx := fun s1 => u s1 E PX } PX
theorem EndsOk.next {Y : Yc} {G : Hp} {st : S} {σ : St} {H : Hp} {E : DEnds} {D : Ends} (x : EndsOk Y G st H E D) (r : R Y G st σ H) (h : E.nx st) : D.nx σ H := x.nx _ _ _ _ h (Same.refl G) .refl r
theorem dss_nil : DSs X Y W [] mNext := pssImp pss_nil fun D σ H ⟨G, st, E, PX, rr, hm, xp, k⟩ => k.next rr hm
theorem dss_one (h : DS X Y W st ms) : DSs X Y W [st] ms := pss_one h
theorem dss_cons (h1 : DS X Y W st ms) (h2 : DSs X Y W sts ns) : DSs X Y W (st :: sts) (mSeq ms ns) :=
  pssImp (pss_cons h1 h2) fun D σ H ⟨G, st, E, PX, rr, hm, xp, k⟩ => ⟨G, st, _, PX, rr, hm, xp, ⟨fun s1 σ1 G1 H1 h g f r => ⟨G1, s1, E, PX, r, h, xp.on g f, k.on g f⟩, k.rt, k.bk, k.ct⟩⟩
def mPass : MS := mNext
theorem ds_pass : DS X Y W (.Pass pos) mNext := psImp ps_pass fun D σ H ⟨G, st, E, PX, rr, hm, xp, k⟩ => k.next rr hm
def mBreak : MS := fun st E _ => E.bk st
def mCont : MS := fun st E _ => E.ct st
theorem ds_break : DS X Y W (.Break pos) mBreak := psImp ps_break fun D σ H ⟨G, st, E, PX, rr, hm, xp, k⟩ => k.bk _ _ _ _ hm (Same.refl G) .refl rr
theorem ds_continue : DS X Y W (.Continue pos) mCont := psImp ps_continue fun D σ H ⟨G, st, E, PX, rr, hm, xp, k⟩ => k.ct _ _ _ _ hm (Same.refl G) .refl rr
def mDrop (m : ME) : MS := fun st E PX => m st (fun _ s1 => E.nx s1) PX
theorem ds_expr (he : DE X Y W e me) (hs : swapsWith e none pos.line X.env = pure false := by rfl) : DS X Y W (.Expr e pos) (mDrop me) :=
  psImp (ps_expr he hs) fun D σ H ⟨G, st, E, PX, rr, hm, xp, k⟩ => ⟨G, st, _, PX, rr, hm, xp, fun d s1 v G1 H1 h g f r q => k.nx _ _ _ _ h g f r⟩
def mRet (m : ME) : MS := fun st E PX => m st E.rt PX
theorem ds_ret (he : DE X Y W e me) : DS X Y W (.Return (some e) pos) (mRet me) :=
  psImp (ps_ret he) fun D σ H ⟨G, st, E, PX, rr, hm, xp, k⟩ => ⟨G, st, _, PX, rr, hm, xp, fun d s1 v G1 H1 h g f r q => k.rt _ _ _ σ _ _ h g f r q⟩
def mRetN : MS := fun st E _ => E.rt .non st
theorem ds_retN : DS X Y W (.Return none pos) mRetN := psImp ps_retN fun D σ H ⟨G, st, E, PX, rr, hm, xp, k⟩ => k.rt _ _ _ σ _ _ hm (Same.refl G) .refl rr .non
def mIfS (t : MT) (m n : MS) : MS := fun st E PX => t st (fun k s1 => if k = true then m s1 E PX else n s1 E PX) PX
theorem ds_if (hc : DT X Y W c mt) (ha : DSs X Y W sts ms) (hb : DSs X Y W sts2 ns) : DS X Y W (.If c sts sts2 pos) (mIfS mt ms ns) :=
  psImp (ps_if hc ha hb) fun D σ H ⟨G, st, E, PX, rr, hm, xp, k⟩ => ⟨G, st, fun k s1 => if k = true then ms s1 E PX else ns s1 E PX, PX, rr, hm, xp, fun d s1 G1 H1 hm1 g1 f1 r1 => by
    cases d with
    | true => rw [if_pos rfl] at hm1 ⊢; exact ⟨G1, s1, E, PX, r1, hm1, xp.on g1 f1, k.on g1 f1⟩
    | false => rw [if_neg Bool.false_ne_true] at hm1 ⊢; exact ⟨G1, s1, E, PX, r1, hm1, xp.on g1 f1, k.on g1 f1⟩⟩
/-- a place of the frame is set -/
def S.put (st : S) (i : Nat) (d : D) : S := { st with r := st.r.set i (some d) }
theorem R.put {G : Hp} {st : S} {σ : St} {H : Hp} (r : R Y G st σ H) (i : Nat) {d : D} {v : V} (q : Rep Y G d v) : R Y G (st.put i d) (σ.set i (some v)) H := ⟨r.h, r.s.set i q⟩
def mSet (i : Nat) (m : ME) : MS := fun st E PX => m st (fun d s1 => E.nx (s1.put i d)) PX
theorem ds_set {i : Nat} {x : Str} {pos' : Pos} (hN : X.N.Nodup) (hi : X.N[i]? = some x) (hx : Loc X.env.scope x) (he : DE X Y W e me) (hs : swapsWith e (some (.Name x pos')) pos.line X.env = pure false := by rfl)
    (hf : X.fn x = true ∨ X.env.scope.names.lookup x = some .local := by first | exact .inl rfl | exact .inr rfl | assumption) : DS X Y W (.Assign [.Name x pos'] e pos) (mSet i me) :=
  psImp (ps_set hN hi hx he hs hf) fun D σ H ⟨G, st, E, PX, rr, hm, xp, k⟩ => ⟨G, st, _, PX, rr, hm, xp, fun d s1 v G1 H1 h g f r q => k.nx _ _ _ _ h g f (r.put i q)⟩
/-! targets: a value comes to names -/
abbrev MG := D → S → (S → Prop) → Prop
abbrev MGs := List D → S → (S → Prop) → Prop
def TGof (Y : Yc) (m : MG) : TG := fun v σ H Q => ∃ G st d P, R Y G st σ H ∧ Rep Y G d v ∧ m d st P ∧ ∀ st' σ' G' H', P st' → Same G G' → Frm Y G st.mu H G' st'.mu H' → R Y G' st' σ' H' → Q σ' H'
def TGsof (Y : Yc) (m : MGs) : TGs := fun v σ H Q => ∃ G st d P, R Y G st σ H ∧ Reps Y G d v ∧ m d st P ∧ ∀ st' σ' G' H', P st' → Same G G' → Frm Y G st.mu H G' st'.mu H' → R Y G' st' σ' H' → Q σ' H'
abbrev DG (X : Cx) (Y : Yc) (e : Expr) (m : MG) : Prop := PG X e (TGof Y m)
abbrev DGs (X : Cx) (Y : Yc) (e : List Expr) (m : MGs) : Prop := PGs X e (TGsof Y m)
theorem pgImp {e : Expr} {t t' : TG} (h : PG X e t) (i : ∀ v σ H Q, t' v σ H Q → t v σ H Q) : PG X e t' := ⟨fun pins s σ H v u Q I r q => h.run pins s σ H v u Q I r (i v σ H Q q)⟩
theorem pgsImp {e : List Expr} {t t' : TGs} (h : PGs X e t) (i : ∀ v σ H Q, t' v σ H Q → t v σ H Q) : PGs X e t' := ⟨fun pins s σ H v u Q I r q => h.run pins s σ H v u Q I r (i v σ H Q q)⟩
def gN (i : Nat) : MG := fun d st P => P (st.put i d)
theorem dg_name {i : Nat} {x : Str} (hN : X.N.Nodup) (hi : X.N[i]? = some x) (hx : Loc X.env.scope x) (hf : X.fn x = true ∨ X.env.scope.names.lookup x = some .local := by first | exact .inl rfl | exact .inr rfl | assumption) : DG X Y (.Name x pos) (gN i) :=
  pgImp (pg_name hN hi hx hf) fun v σ H Q ⟨G, st, d, P, r, q, h, k⟩ => k _ _ G H h (Same.refl G) .refl (r.put i q)
def gsN : MGs := fun ds st P => ds = [] ∧ P st
def gsC (g : MG) (gs : MGs) : MGs := fun ds st P => ∃ d r, ds = d :: r ∧ g d st fun s1 => gs r s1 P
theorem dgs_nil : DGs X Y [] gsN := pgsImp pgs_nil fun v σ H Q ⟨G, st, d, P, r, q, ⟨e, h⟩, k⟩ => by
  subst e
  cases q
  exact ⟨rfl, k _ _ G H h (Same.refl G) .refl r⟩
theorem dgs_cons {g : MG} {gs : MGs} (h1 : DG X Y e g) (h2 : DGs X Y es gs) (hs : (assignEach (e :: es) X.env).map (·.2) = assign e X.env :: (assignEach es X.env).map (·.2) := by rfl) : DGs X Y (e :: es) (gsC g gs) :=
  pgsImp (pgs_cons h1 h2 hs) fun v σ H Q ⟨G, st, d, P, r, q, ⟨d1, dr, e, h⟩, k⟩ => by
    subst e
    cases q with
    | cons q1 q2 => exact ⟨_, _, rfl, G, st, d1, _, r, q1, h, fun s1 σ1 G1 H1 h1 g1 f1 r1 => ⟨G1, s1, dr, P, r1, q2.mono g1, h1, fun s2 σ2 G2 H2 h2 g2 f2 r2 => k s2 σ2 G2 H2 h2 (g1.trans g2) (f1.trans f2) r2⟩⟩
def gT (n : Nat) (gs : MGs) : MG := fun d st P => ∃ ds, d = .tup ds ∧ ds.length = n ∧ gs ds st P
theorem dg_tup {k : Nat} {gs : MGs} {n : Nat} (hY : Y.K = X.K) (hc : X.calm = true) (h : DGs X Y es gs) (hn : (assignEach es X.env).length = n := by rfl) (hst : (assignEach es X.env).findIdx? (·.1) = none := by rfl) : DG X Y (.Tuple es k pos) (gT n gs) :=
  pgImp (pg_tup hc h hn hst) fun v σ H Q ⟨G, st, d, P, r, q, ⟨ds, e, hl, h⟩, k⟩ => by
    subst e
    cases q with
    | tup q1 q2 => exact ⟨_, _, rfl, sqT_mono r.h.sub (hY ▸ q1), by rw [← q2.length]; exact hl, G, st, ds, P, r, q2, h, k⟩
/-- target = value -/
def mAsg (m : ME) (g : MG) : MS := fun st E PX => m st (fun d s1 => g d s1 E.nx) PX
theorem ds_asg {tg : Expr} {g : MG} (he : DE X Y W e me) (hg : DG X Y tg g) (hs : swapsWithSole [tg] e pos.line X.env = pure false := by rfl) (hw : swappedStores [tg] e X.env = pure none := by rfl)
    (h1 : (assignEach [tg] X.env).map (·.2) = [assign tg X.env] := by rfl) : DS X Y W (.Assign [tg] e pos) (mAsg me g) :=
  psImp (ps_asg he hg hs hw h1) fun D σ H ⟨G, st, E, PX, rr, hm, xp, k⟩ => ⟨G, st, _, PX, rr, hm, xp, fun d s1 v G1 H1 h g f r q => ⟨G1, s1, d, _, r, q, h, fun s2 σ2 G2 H2 h2 g2 f2 r2 => k.nx _ _ _ _ h2 (g.trans g2) (f.trans f2) r2⟩⟩
/-- a, b = x, y -/
def mPar (i j : Nat) (n : MA) : MS := fun st E PX => n st (fun ds s1 => ∃ d e, ds = [d, e] ∧ E.nx ((s1.put i d).put j e)) PX
theorem ds_par {i j : Nat} {x y : Str} {px py pt : Pos} {kt k2 : Nat} {pt2 : Pos} (hc : X.calm = true) (hN : X.N.Nodup) (hi : X.N[i]? = some x) (hj : X.N[j]? = some y) (hij : i ≠ j)
    (hx : X.env.scope.names.lookup x = some .local) (hy : X.env.scope.names.lookup y = some .local) (ha : DA X Y W [a, b] mas)
    (hw : swappedStores [.Tuple [.Name x px, .Name y py] kt pt] (.Tuple [a, b] k2 pt2) X.env = pure (some [x, y]) := by rfl)
    (hs : swapsWithSole [.Tuple [.Name x px, .Name y py] kt pt] (.Tuple [a, b] k2 pt2) pos.line X.env = pure false := by rfl) :
    DS X Y W (.Assign [.Tuple [.Name x px, .Name y py] kt pt] (.Tuple [a, b] k2 pt2) pos) (mPar i j mas) :=
  psImp (ps_par hc hN hi hj hij hx hy ha hw hs) fun D σ H ⟨G, st, E, PX, rr, hm, xp, k⟩ => ⟨G, st, _, PX, rr, hm, xp, fun ds s1 vs G1 H1 ⟨d, e, e1, h⟩ g f r q => by
    subst e1
    cases q with
    | cons q1 q2 =>
      cases q2 with
      | cons q2 q3 =>
        cases q3
        exact ⟨_, _, rfl, k.nx _ _ _ _ h g f ((r.put i q1).put j q2)⟩⟩
/-! ### a def of the text, called -/
/-- the promise of a def over data: its arguments, what may change, the draws; the end, the exception -/
abbrev DSp := List D → Mu → Nat → (D → Mu → Nat → Prop) → (Ex → Mu → Nat → Prop) → Prop
def SpOf (Y : Yc) (sp : DSp) : Sp := fun vs H Q E => ∃ G mu c ds P PX, R0 Y G mu c H ∧ Reps Y G ds vs ∧ sp ds mu c P PX ∧
  (∀ d mu' c' v G' H', P d mu' c' → Same G G' → Frm Y G mu H G' mu' H' → R0 Y G' mu' c' H' → Rep Y G' d v → Q v H') ∧
  (∀ x mu' c' cls d G' H', PX x mu' c' → Same G G' → Frm Y G mu H G' mu' H' → R0 Y G' mu' c' H' → RepX Y G' mu' H' x cls d → E cls d H')
end
/-- what the source of draws holds: the cells, how many were begun, what is left -/
def penKvs (ca : Addr) (b l : Int) : List (Key × V) := [(.inr "cells", .ref ca), (.inr "begun", .int b), (.inr "left", .int l)]
def penW (G : Hp) (c : Nat) (o : HO) : Prop := ∃ (ca : Addr) (b l : Int) (ns : List Int), o = .dK (penKvs ca b l) ∧ G ca = some (.lst (ns.map V.int)) ∧ ns.length ≤ 63 ∧ 0 ≤ b ∧ b ≤ c ∧ 0 ≤ l
/-- where the source of draws stands, which code objects stand apart -/
structure Qp where
  p : Addr
  raw : List (Addr × Str)
  G0 : Hp
def Yp (K : PySem.W.Frag) (mg : Str → Option Value) (T : List (Addr × Str)) (q : Qp) : Yc where
  K := K
  mg := mg
  T := T
  raw := q.raw
  G0 := q.G0
  p := q.p
  W := penW
  mono := fun G G' c o s ⟨ca, b, l, ns, h1, h2, h3⟩ => ⟨ca, b, l, ns, h1, s _ _ h2, h3⟩
  more := fun G c c' o hc ⟨ca, b, l, ns, h1, h2, h3, h4, h5, h6⟩ => ⟨ca, b, l, ns, h1, h2, h3, h4, by omega, h6⟩
/-- the def called x keeps the promise sp, by at most k calls one in another -/
structure FnD (P : Program) (w : World) (K : PySem.W.Frag) (mg : Str → Option Value) (T : List (Addr × Str)) (base : Heap) (k : Nat) (x : Str) (ps : List Str) (sp : DSp) : Prop where
  ex : ∃ (f : Addr) (fd : FuncData), mg x = some (.ref f) ∧ PySem.W.keepIn K (.ref f) = true ∧ Binds K fd ps [] ∧ ∀ (q : Qp), FnOk P w K mg base (L2.CX P w) k f fd ps (SpOf (Yp K mg T q) sp)
theorem FnD.mono {P : Program} {w : World} {K : PySem.W.Frag} {mg : Str → Option Value} {T : List (Addr × Str)} {base : Heap} {j k : Nat} {x : Str} {ps : List Str} {sp : DSp} (F : FnD P w K mg T base j x ps sp) (h : j ≤ k) : FnD P w K mg T base k x ps sp :=
  let ⟨f, fd, h1, h2, h3, h4⟩ := F.ex
  ⟨f, fd, h1, h2, h3, fun q => (h4 q).mono h⟩
section
variable {X : Cx} {Y : Yc} {W : WX} {e : Expr} {es : List Expr} {mas : MA} {pos p : Pos} {x : Str} {k : Nat} {ps : List Str} {sp : DSp}
def mCall (sp : DSp) (n : MA) : ME := fun st P PX => n st (fun ds s1 => sp ds s1.mu s1.c (fun d mu' c' => P d { s1 with mu := mu', c := c' }) (fun x mu' c' => PX x { s1 with mu := mu', c := c' })) PX
theorem de_call {q : Qp} {T : List (Addr × Str)} (F : FnD X.prog X.w X.K X.mg T X.base k x ps sp) (tk : Takes X W) (hr : Room k X.A) (hg : Gl X x) (ha : DA X (Yp X.K X.mg T q) W (e :: es) mas) (hdb : (x == ("__debug__" : Str)) = false := by decide)
    (he : starEach (e :: es) X.env = (false, eval e X.env) :: starEach es X.env := by rfl) (hpl : (backTo pos (starEach es X.env)).any (·.1) = false := by rfl) : DE X (Yp X.K X.mg T q) W (.Call (.Name x p) (e :: es) [] pos) (mCall sp mas) := by
  obtain ⟨f, fd, h1, h2, h3, h4⟩ := F.ex
  refine peImp (pe_callSD (dvs := []) (ds := []) (E := WE W) (h4 q) hr hg h1 h2 h3 .nil (fun σ => passAt tk σ) ha hdb he hpl) fun σ H Q ⟨G, st, P, PX, rr, hm, xp, k⟩ => ?_
  refine ⟨G, st, _, PX, rr, hm, xp, fun ds s1 vs G1 H1 hm1 g1 f1 r1 q1 => ?_⟩
  refine ⟨G1, s1.mu, s1.c, ds, _, _, r1.h, (by rw [List.append_nil]; exact q1), hm1, fun d mu' c' v G' H' hp g f r q => ?_, fun ex mu' c' cls d G' H' hp g f r q => ?_⟩
  · exact k d _ v G' H' hp (g1.trans g) (f1.trans f) ⟨r, r1.s.mono g⟩ q
  · exact xp ex _ cls d σ G' H' hp (g1.trans g) (f1.trans f) ⟨r, r1.s.mono g⟩ q
end
theorem u65 {k : Nat} {A : Around} (r : Room k A) : A.units + 65 < cLine := by have := r.un; omega
theorem u1 {k : Nat} {A : Around} (r : Room k A) : A.units + 1 < cLine := by have := r.un; omega
/-- what a module's name holds -/
def GlobD (K : PySem.W.Frag) (mg : Str → Option Value) (x : Str) (d : D) : Prop := ∃ v u, mg x = some u ∧ RelV v u ∧ ∀ Y : Yc, Y.K = K → ∀ G, Rep Y G d v
theorem de_gl {X : Cx} {Y : Yc} {W : WX} {x : Str} {d : D} {pos : Pos} (h : GlobD X.K X.mg x d) (hY : Y.K = X.K) (hg : Gl X x) (hd : (x == ("__debug__" : Str)) = false := by decide) : DE X Y W (.Name x pos) (mC d) :=
  let ⟨_, _, h1, h2, h3⟩ := h
  de_glob hg h1 h2 (h3 Y hY) hd
section
variable {P : Program} {w : World} {K : PySem.W.Frag} {mg : Str → Option Value} {T : List (Addr × Str)} {base : Heap}
/-- a def's state at its entry, what is wanted at its ends (the draws may be told as more) -/
def S0 (N ps : List Str) (ds : List D) (mu : Mu) (c : Nat) : S := ⟨ds.map some ++ List.replicate (N.length - ps.length) none, mu, c⟩
def EF (P : D → Mu → Nat → Prop) : DEnds := { nx := fun s => ∃ c', s.c ≤ c' ∧ P .non s.mu c', rt := fun d s => ∃ c', s.c ≤ c' ∧ P d s.mu c' }
def XF (PX : Ex → Mu → Nat → Prop) : PXT := fun x s => ∃ c', s.c ≤ c' ∧ PX x s.mu c'
theorem R0.more {Y : Yc} {G : Hp} {mu : Mu} {c c' : Nat} {H : Hp} (h : R0 Y G mu c H) (l : c ≤ c') : R0 Y G mu c' H :=
  ⟨h.sub, h.mus, let ⟨o, h1, h2, h3⟩ := h.pen; ⟨o, h1, Y.more _ _ _ _ l h2, h3⟩, h.ext⟩
theorem dss_never {X : Cx} {Y : Yc} {W : WX} {sts : List Stmt} : DSs X Y W sts (fun _ _ _ => False) := pssImp pss_never fun D σ H ⟨_, _, _, _, _, h, _⟩ => h.elim
/-- THE RULE for a def over data -/
theorem fnD {x : Str} {st : Stmt} {f : Addr} {fd : FuncData} {N ps : List Str} {k : Nat} {sp : DSp} (F : Fun K x x st f fd) (hmg : mg x = some (.ref f)) (b : Binds K fd ps []) (Sc : FnScope N ps (defScope st))
    (len : ∀ ds mu c P PX, sp ds mu c P PX → ds.length = ps.length)
    (hbody : ∀ (X : Cx) (q : Qp) (W : WX), (∃ cdv A outer s H E, X = cxOf (L2.CX P w) P w K mg base N x (defScope st) f cdv A outer s H E) → Takes X W → Room k X.A → PassesOwn (model X.prog X.w) X.A X.env X.xe →
      ∃ m, DSs X (Yp K mg T q) W (defBody st) m ∧ ∀ ds mu c P PX, sp ds mu c P PX → m (S0 N ps ds mu c) (EF P) (XF PX)) :
    FnD P w K mg T base (k + 1) x ps sp := by
  refine ⟨f, fd, hmg, F.kp, b, fun q => ?_⟩
  refine F.okX Sc (fun vs H Q E ⟨G, mu, c, ds, P, PX, r0, qv, h, _⟩ => ?_) fun cdv A outer s H vs Q E hr ⟨G, mu, c, ds, P, PX, r0, qv, h, kq, kx⟩ => ?_
  · rw [← qv.length]
    exact len _ _ _ _ _ h
  · obtain ⟨m, hm, hs⟩ := hbody (cxOf (L2.CX _ w) _ w K mg base N x (defScope st) f cdv A outer s H E) q (fun cls d _ H => E cls d H) ⟨cdv, A, outer, s, H, E, rfl⟩ (takes_of rfl rfl rfl rfl) hr (passes_of rfl)
    have e1 : N.length - vs.length = N.length - ps.length := by rw [← qv.length, len _ _ _ _ _ h]
    refine ⟨_, hm, G, _, _, _, ⟨r0, ?_⟩, hs ds mu c _ _ h, ?_, ?_⟩
    · show Sl (Yp K mg T q) G _ (L2.start N vs)
      unfold L2.start
      rw [e1]
      exact Sl.start qv _
    · exact fun ex st' cls d σ' G' H' ⟨c', l, h1⟩ h2 h3 h4 h5 => kx ex _ _ cls d G' H' h1 h2 h3 (h4.h.more l) h5
    · exact ⟨fun st' σ' G' H' ⟨c', l, h1⟩ h2 h3 h4 => kq _ _ _ _ G' H' h1 h2 h3 (h4.h.more l) .non, fun d st' v σ' G' H' ⟨c', l, h1⟩ h2 h3 h4 h5 => kq _ _ _ _ G' H' h1 h2 h3 (h4.h.more l) h5, fun _ _ _ _ h => h.elim, fun _ _ _ _ h => h.elim⟩
theorem FnD.none {x : Str} {st : Stmt} {f : Addr} {fd : FuncData} {N ps : List Str} {k : Nat} {sp : DSp} (F : Fun K x x st f fd) (hmg : mg x = some (.ref f)) (b : Binds K fd ps []) (Sc : FnScope N ps (defScope st)) (h0 : ∀ ds mu c P PX, ¬ sp ds mu c P PX) : FnD P w K mg T base (k + 1) x ps sp :=
  fnD F hmg b Sc (fun ds mu c P PX h => (h0 ds mu c P PX h).elim) fun X q W _ _ _ _ => ⟨_, dss_never, fun ds mu c P PX h => (h0 ds mu c P PX h).elim⟩
/-- a promise that was shown at the layer's own level -/
theorem FnD.raw {x : Str} {f : Addr} {fd : FuncData} {ps : List Str} {k : Nat} {sp : DSp} {sp0 : Sp} (F : FnOk P w K mg base (L2.CX P w) k f fd ps sp0) (hmg : mg x = some (.ref f)) (hk : PySem.W.keepIn K (.ref f) = true) (b : Binds K fd ps [])
    (h : ∀ q vs H Q E, SpOf (Yp K mg T q) sp vs H Q E → sp0 vs H Q E) : FnD P w K mg T base k x ps sp := ⟨f, fd, hmg, hk, b, fun q => F.imp (h q)⟩
end
end DL
namespace DL
open PySem L2
/-! ### data as the library's data, for == -/
mutual
def D.py : D → PyData
  | .non => .none
  | .bl b => .bool b
  | .int i => .int i
  | .str s => .str s
  | .tup ds => .tuple (D.pys ds)
  | .lst ds => .list (D.pys ds)
  | .dct _ => .none
  | .pen => .none
  | .ref _ => .none
def D.pys : List D → List PyData
  | [] => []
  | d :: ds => D.py d :: D.pys ds
end
mutual
/-- plain data, at most n deep -/
def D.ok : D → Nat → Bool
  | .non, _ => true
  | .bl _, _ => true
  | .int _, _ => true
  | .str s, _ => PyData.strOk s
  | .tup ds, n => decide (0 < n) && D.oks ds (n - 1)
  | .lst ds, n => decide (0 < n) && D.oks ds (n - 1)
  | .dct _, _ => false
  | .pen, _ => false
  | .ref _, _ => false
def D.oks : List D → Nat → Bool
  | [], _ => true
  | d :: ds, n => D.ok d n && D.oks ds n
end
mutual
theorem D.ok_mono : ∀ (d : D) (n m : Nat), n ≤ m → d.ok n = true → d.ok m = true
  | .non, _, _, _, _ => rfl
  | .bl _, _, _, _, _ => rfl
  | .int _, _, _, _, _ => rfl
  | .str s, _, _, _, h => h
  | .tup ds, n, m, l, h => by
    simp only [D.ok, Bool.and_eq_true, decide_eq_true_eq] at h ⊢
    exact ⟨by omega, D.oks_mono ds _ _ (by omega) h.2⟩
  | .lst ds, n, m, l, h => by
    simp only [D.ok, Bool.and_eq_true, decide_eq_true_eq] at h ⊢
    exact ⟨by omega, D.oks_mono ds _ _ (by omega) h.2⟩
  | .dct _, _, _, _, h => by cases h
  | .pen, _, _, _, h => by cases h
  | .ref _, _, _, _, h => by cases h
theorem D.oks_mono : ∀ (d : List D) (n m : Nat), n ≤ m → D.oks d n = true → D.oks d m = true
  | [], _, _, _, _ => rfl
  | d :: ds, n, m, l, h => by
    simp only [D.oks, Bool.and_eq_true] at h ⊢
    exact ⟨D.ok_mono d n m l h.1, D.oks_mono ds n m l h.2⟩
end
mutual
theorem D.ok_lay : ∀ (d : D) (n : Nat), d.ok n = true → d.py.canLay0 = true ∧ d.py.depth ≤ n
  | .non, _, _ => ⟨by simp [D.py, PyData.canLay0], by simp [D.py, PyData.depth]⟩
  | .bl _, _, _ => ⟨by simp [D.py, PyData.canLay0], by simp [D.py, PyData.depth]⟩
  | .int _, _, _ => ⟨by simp [D.py, PyData.canLay0], by simp [D.py, PyData.depth]⟩
  | .str s, _, h => ⟨by simp only [D.py, PyData.canLay0]; exact h, by simp [D.py, PyData.depth]⟩
  | .tup ds, n, h => by
    simp only [D.ok, Bool.and_eq_true, decide_eq_true_eq] at h
    have q := D.oks_lay ds _ h.2
    exact ⟨by simp only [D.py, PyData.canLay0]; exact q.1, by simp only [D.py, PyData.depth]; omega⟩
  | .lst ds, n, h => by
    simp only [D.ok, Bool.and_eq_true, decide_eq_true_eq] at h
    have q := D.oks_lay ds _ h.2
    exact ⟨by simp only [D.py, PyData.canLay0]; exact q.1, by simp only [D.py, PyData.depth]; omega⟩
  | .dct _, _, h => by cases h
  | .pen, _, h => by cases h
  | .ref _, _, h => by cases h
theorem D.oks_lay : ∀ (d : List D) (n : Nat), D.oks d n = true → PyData.canLayAll0 (D.pys d) = true ∧ PyData.depthAll (D.pys d) ≤ n
  | [], _, _ => ⟨by simp [D.pys, PyData.canLayAll0], by simp [D.pys, PyData.depthAll]⟩
  | d :: ds, n, h => by
    simp only [D.oks, Bool.and_eq_true] at h
    have q1 := D.ok_lay d n h.1
    have q2 := D.oks_lay ds n h.2
    exact ⟨by simp only [D.pys, PyData.canLayAll0, Bool.and_eq_true]; exact ⟨q1.1, q2.1⟩, by simp only [D.pys, PyData.depthAll]; omega⟩
end
theorem D.shaped {d : D} {n : Nat} (h : d.ok n = true) (hn : n ≤ 64) : SeqAt.shaped d.py = true := by
  obtain ⟨h1, h2⟩ := d.ok_lay n h
  simp only [SeqAt.shaped, h1, Bool.true_and, decide_eq_true_eq]
  omega
mutual
theorem Rep.dp {Y : Yc} {G H : Hp} (s : Same G H) {n : Nat} : ∀ {d : D} {v : V}, Rep Y G d v → d.ok n = true → Dp Y.K H v d.py
  | _, _, .non, _ => .non
  | _, _, .bl b, _ => .bl b
  | _, _, .int i, _ => .int i
  | _, _, .str x, _ => .str x
  | _, _, .pen, h => by cases h
  | _, _, .ref a, h => by cases h
  | _, _, .tup h r, k => .tup (sqT_mono s h) (Reps.dp s r (Bool.and_eq_true_iff.mp k).2)
  | _, _, .lst h r, k => .lst (SqL.of (s _ _ h)) (Reps.dp s r (Bool.and_eq_true_iff.mp k).2)
  | _, _, .dct h r, k => by cases k
theorem Reps.dp {Y : Yc} {G H : Hp} (s : Same G H) {n : Nat} : ∀ {d : List D} {v : List V}, Reps Y G d v → D.oks d n = true → DpAll Y.K H v (D.pys d)
  | _, _, .nil, _ => .nil
  | _, _, .cons h r, k => .cons (Rep.dp s h (Bool.and_eq_true_iff.mp k).1) (Reps.dp s r (Bool.and_eq_true_iff.mp k).2)
end
def eqvD (d e : D) : Bool := PyData.eqv d.py e.py
def eqvs (d e : List D) : Bool := PyData.eqvAll (D.pys d) (D.pys e)
section
variable {X : Cx} {Y : Yc} {G : Hp} {mu : Mu} {c : Nat} {H : Hp} {P : D → Prop} {Q : VK}
theorem Post.here (k : Post Y G mu c H P Q) (r0 : R0 Y G mu c H) {r : D} {v : V} (h : P r) (q : Rep Y G r v) : Q v H := k r v G H h (Same.refl G) .refl r0 q
theorem Post.lst (k : Post Y G mu c H P Q) (r0 : R0 Y G mu c H) {ds : List D} {vs : List V} (h : P (.lst ds)) (q : Reps Y G ds vs) : ∀ p, H p = none → Q (.ref p) (upd H p (.lst vs)) := fun p hp =>
  k _ _ _ _ h (r0.new hp _).2.1 (.new hp) (r0.new hp (.lst vs)).1 (.lst upd_same (q.mono (r0.new hp _).2.1))
theorem Post.tup (k : Post Y G mu c H P Q) (r0 : R0 Y G mu c H) {ds : List D} {vs : List V} (h : P (.tup ds)) (q : Reps Y G ds vs) : ∀ p, H p = none → Q (.ref p) (upd H p (.tup vs)) := fun p hp =>
  k _ _ _ _ h (r0.new hp _).2.1 (.new hp) (r0.new hp (.tup vs)).1 (.tup (SqT.of upd_same) (q.mono (r0.new hp _).2.1))
/-! ### arithmetic -/
abbrev LINE : Nat := 16777216
theorem line_eq : sizeLine = LINE := sizeLine_eq
def addD : O2 := fun _ d e P => match d, e with
  | .int i, .int j => P (.int (i + j))
  | .str a, .str b => a.length + b.length ≤ LINE ∧ P (.str (a ++ b))
  | .lst a, .lst b => a.length + b.length ≤ LINE ∧ P (.lst (a ++ b))
  | .tup a, .tup b => a.length + b.length ≤ LINE ∧ P (.tup (a ++ b))
  | _, _ => False
theorem vs_nil {Y : Yc} {G : Hp} {ds : List D} {vs : List V} (q : Reps Y G ds vs) (h : vs = []) : ds = [] := by
  subst h
  cases q
  rfl
theorem Rep.tupI {ds : List D} {v : V} (h : Rep Y G (.tup ds) v) : ∃ a xs, v = .ref a ∧ SqT Y.K G a xs ∧ Reps Y G ds xs := by
  cases h with
  | tup h1 q1 => exact ⟨_, _, rfl, h1, q1⟩
theorem Rep.lstI {ds : List D} {v : V} (h : Rep Y G (.lst ds) v) : ∃ a xs, v = .ref a ∧ G a = some (.lst xs) ∧ Reps Y G ds xs := by
  cases h with
  | lst h1 q1 => exact ⟨_, _, rfl, h1, q1⟩
theorem Rep.dctI {ds : List (Key × D)} {v : V} (h : Rep Y G (.dct ds) v) : ∃ a xs, v = .ref a ∧ G a = some (.dK xs) ∧ Repk Y G ds xs := by
  cases h with
  | dct h1 q1 => exact ⟨_, _, rfl, h1, q1⟩
theorem od_add (hY : Y.K = X.K) : OpD X Y (binaryOp .Add) addD := by
  intro pins s σ H x y v u Q I rx ry ⟨G, mu, c, d, e, P, r0, qd, qe, h, k⟩
  have e0 := line_eq
  cases d <;> cases e <;> first | exact False.elim h | skip
  · cases qd; cases qe
    exact op_add pins s σ H _ _ v u Q I rx ry ⟨_, _, rfl, rfl, k.here r0 h (.int _)⟩
  · cases qd; cases qe
    exact op_add_str pins s σ H _ _ v u Q I rx ry ⟨_, _, rfl, rfl, by rw [e0]; exact h.1, k.here r0 h.2 (.str _)⟩
  · obtain ⟨a1, xs1, rfl, h1, q1⟩ := qd.tupI
    obtain ⟨a2, xs2, rfl, h2, q2⟩ := qe.tupI
    refine op_catA pins s σ H _ _ v u Q I rx ry ⟨_, _, _, _, rfl, rfl, sqT_mono r0.sub (hY ▸ h1), sqT_mono r0.sub (hY ▸ h2), by rw [← q1.length, ← q2.length, e0]; exact h.1, fun z => ?_, fun z1 z2 => ?_, fun z1 z2 => ?_⟩
    · exact k.here r0 (by rw [vs_nil q1 z] at h; exact h.2) (.tup h2 q2)
    · exact k.here r0 (by rw [vs_nil q2 z2] at h; have h3 := h.2; rw [List.append_nil] at h3; exact h3) (.tup h1 q1)
    · exact k.tup r0 h.2 (q1.append q2)
  · obtain ⟨a1, xs1, rfl, h1, q1⟩ := qd.lstI
    obtain ⟨a2, xs2, rfl, h2, q2⟩ := qe.lstI
    exact op_cat pins s σ H _ _ v u Q I rx ry ⟨_, _, _, _, rfl, rfl, r0.sub _ _ h1, r0.sub _ _ h2, by rw [← q1.length, ← q2.length, e0]; exact h.1, k.lst r0 h.2 (q1.append q2)⟩
def intD (C : Int → Int → Prop) (g : Int → Int → D) : O2 := fun _ d e P => match d, e with
  | .int i, .int j => C i j ∧ P (g i j)
  | _, _ => False
theorem od_int {f : Value → Value → Sem Value} {C : Int → Int → Prop} {g : Int → Int → V} {g' : Int → Int → D} (h : OpR X f (rI C g)) (hg : ∀ i j G, Rep Y G (g' i j) (g i j)) : OpD X Y f (intD C g') := by
  intro pins s σ H x y v u Q I rx ry ⟨G, mu, c, d, e, P, r0, qd, qe, h1, k⟩
  cases d <;> cases e <;> first | exact False.elim h1 | skip
  cases qd; cases qe
  exact h pins s σ H _ _ v u Q I rx ry ⟨_, _, rfl, rfl, h1.1, k.here r0 h1.2 (hg _ _ _)⟩
def intD0 (g : Int → Int → D) : O2 := fun _ d e P => match d, e with
  | .int i, .int j => P (g i j)
  | _, _ => False
theorem od_int0 {f : Value → Value → Sem Value} {g : Int → Int → V} {g' : Int → Int → D} (h : OpR X f (rI0 g)) (hg : ∀ i j G, Rep Y G (g' i j) (g i j)) : OpD X Y f (intD0 g') := by
  intro pins s σ H x y v u Q I rx ry ⟨G, mu, c, d, e, P, r0, qd, qe, h1, k⟩
  cases d <;> cases e <;> first | exact False.elim h1 | skip
  cases qd; cases qe
  exact h pins s σ H _ _ v u Q I rx ry ⟨_, _, rfl, rfl, k.here r0 h1 (hg _ _ _)⟩
def subtD : O2 := intD0 fun i j => .int (i - j)
def modD : O2 := intD (fun _ j => 0 < j) fun i j => .int (i % j)
def fdivD : O2 := intD CDiv fun i j => .int (i / j)
def powD : O2 := intD CPow fun i j => .int (i ^ j.toNat)
def shlD : O2 := intD CPow fun i j => .int (i * 2 ^ j.toNat)
def ltD : O2 := intD0 fun i j => .bl (decide (i < j))
def leD : O2 := intD0 fun i j => .bl (decide (i ≤ j))
def gtD : O2 := intD0 fun i j => .bl (decide (j < i))
def geD : O2 := intD0 fun i j => .bl (decide (j ≤ i))
theorem od_sub : OpD X Y (binaryOp .Sub) subtD := od_int0 op_sub fun _ _ _ => .int _
theorem od_mod : OpD X Y (binaryOp .Mod) modD := od_int op_mod fun _ _ _ => .int _
theorem od_fdiv : OpD X Y (binaryOp .FloorDiv) fdivD := od_int op_fdiv fun _ _ _ => .int _
theorem od_pow : OpD X Y (binaryOp .Pow) powD := od_int op_pow fun _ _ _ => .int _
theorem od_shl : OpD X Y (binaryOp .LShift) shlD := od_int op_shl fun _ _ _ => .int _
theorem od_lt : OpD X Y (compareOp .Lt) ltD := od_int0 op_lt fun _ _ _ => .bl _
theorem od_le : OpD X Y (compareOp .LtE) leD := od_int0 op_le fun _ _ _ => .bl _
theorem od_gt : OpD X Y (compareOp .Gt) gtD := od_int0 op_gt fun _ _ _ => .bl _
theorem od_ge : OpD X Y (compareOp .GtE) geD := od_int0 op_ge fun _ _ _ => .bl _
/-- x * y -/
def repD {α : Type} (l : List α) (k : Int) : List α := (List.replicate k.toNat l).flatten
theorem Reps.rep {ds : List D} {vs : List V} (q : Reps Y G ds vs) : ∀ k : Nat, Reps Y G (List.replicate k ds).flatten (List.replicate k vs).flatten
  | 0 => .nil
  | k + 1 => by
    rw [List.replicate_succ, List.replicate_succ, List.flatten_cons, List.flatten_cons]
    exact q.append (q.rep k)
def mulD : O2 := fun _ d e P => match d, e with
  | .int i, .int j => CMul i j ∧ P (.int (i * j))
  | .str a, .int k => 0 ≤ k ∧ k < 2 ^ 62 ∧ a.length * k.toNat ≤ LINE ∧ P (.str ⟨(repD a.cps.toList k).toArray⟩)
  | .lst a, .int k => 0 ≤ k ∧ k < 2 ^ 62 ∧ a.length * k.toNat ≤ LINE ∧ P (.lst (repD a k))
  | _, _ => False
theorem foldl_reps {α : Type} (a : Array α) : ∀ (k : Nat) (acc : Array α), ((List.replicate k a).foldl (· ++ ·) acc) = acc ++ ((List.replicate k a.toList).flatten).toArray
  | 0, acc => by simp
  | k + 1, acc => by
    rw [List.replicate_succ, List.foldl_cons, foldl_reps a k, List.replicate_succ, List.flatten_cons, Array.append_assoc]
    congr 1
    rw [← List.append_toArray]
theorem tooLong_no {n : Nat} (h : n ≤ LINE) : Builtin.Str.tooLong n = false := by
  unfold Builtin.Str.tooLong
  rw [← line_eq] at h
  exact decide_eq_false (by omega)
theorem repD_len {α : Type} (l : List α) : ∀ k : Nat, ((List.replicate k l).flatten).length = l.length * k
  | 0 => by simp
  | k + 1 => by
    rw [List.replicate_succ, List.flatten_cons, List.length_append, repD_len l k, Nat.mul_succ]
    omega
theorem strMul_eq (a : Str) (k : Int) (t : Tok) (s : Shared) (Q : Value → Shared → Prop) (hk : 0 ≤ k) (hz : a.length * k.toNat ≤ LINE) (h : ∀ t' tk, Q (.str ⟨(repD a.cps.toList k).toArray⟩ t') { s with toks := tk }) :
    (if k < 1 then Made.str Str.empty else if (k == 1 || a.length == 0) = true then Made.val (.str a t) else Made.str ⟨(List.replicate k.toNat a.cps).foldl (· ++ ·) #[]⟩).post Q s := by
  split
  · have e : k = 0 := by omega
    subst e
    exact ⟨Nat.zero_le _, h s.toks (s.toks + 1)⟩
  · split
    · rename_i h1 h2
      have e : (⟨(repD a.cps.toList k).toArray⟩ : Str) = a := by
        simp only [Bool.or_eq_true, beq_iff_eq] at h2
        rcases h2 with h2 | h2
        · subst h2
          simp [repD]
        · have e2 : a.cps = #[] := Array.eq_empty_of_size_eq_zero h2
          obtain ⟨c⟩ := a
          simp only at e2
          subst e2
          simp [repD]
      have := h t s.toks
      rw [e] at this
      exact this
    · rw [foldl_reps]
      have e : (#[] ++ ((List.replicate k.toNat a.cps.toList).flatten).toArray) = (repD a.cps.toList k).toArray := by simp [repD]
      rw [e]
      refine ⟨?_, h s.toks (s.toks + 1)⟩
      show (repD a.cps.toList k).toArray.size ≤ sizeLine
      rw [List.size_toArray, line_eq]
      unfold repD
      rw [repD_len]
      exact hz
theorem op_mul_str : OpR X (binaryOp .Mult) (fun x y H Q => ∃ a k, x = .str a ∧ y = .int k ∧ 0 ≤ k ∧ k < 2 ^ 62 ∧ a.length * k.toNat ≤ LINE ∧ Q (.str ⟨(repD a.cps.toList k).toArray⟩) H) := by
  intro pins s σ H x y v u Q I rx ry ⟨a, k, e1, e2, h1, h2, h3, q⟩
  subst e1; subst e2
  obtain ⟨t, rfl⟩ := rx
  obtain ⟨t', rfl⟩ := ry
  refine P.mul_str ?_ (fun _ _ => ?_) (fun _ _ => tooLong_no h3) (strMul_eq a k t s _ h1 h3 fun t2 tk => ⟨.str _, H, I.tok _, ⟨_, rfl⟩, q⟩)
  · simp only [Bool.or_eq_false_iff, decide_eq_false_iff_not]
    omega
  · rename_i c1 c2
    have h4 : (a.length : Int) * k ≤ LINE := by
      have h5 : ((a.length * k.toNat : Nat) : Int) ≤ ((LINE : Nat) : Int) := Int.ofNat_le.mpr h3
      rw [Int.natCast_mul, Int.toNat_of_nonneg h1] at h5
      exact h5
    have h6 : (a.length : Int) ≤ (2 ^ 63 - 1) / k := by
      refine (Int.le_ediv_iff_mul_le (by omega)).mpr ?_
      have : ((LINE : Nat) : Int) ≤ 2 ^ 63 - 1 := by decide
      omega
    omega
theorem od_mul : OpD X Y (binaryOp .Mult) mulD := by
  intro pins s σ H x y v u Q I rx ry ⟨G, mu, c, d, e, P, r0, qd, qe, h, k⟩
  have e0 := line_eq
  cases d <;> cases e <;> first | exact False.elim h | skip
  · cases qd; cases qe
    exact op_mul pins s σ H _ _ v u Q I rx ry ⟨_, _, rfl, rfl, h.1, k.here r0 h.2 (.int _)⟩
  · cases qd; cases qe
    exact op_mul_str pins s σ H _ _ v u Q I rx ry ⟨_, _, rfl, rfl, h.1, h.2.1, h.2.2.1, k.here r0 h.2.2.2 (.str _)⟩
  · obtain ⟨a1, xs1, rfl, h1, q1⟩ := qd.lstI
    cases qe
    exact op_rep pins s σ H _ _ v u Q I rx ry ⟨_, _, _, rfl, rfl, r0.sub _ _ h1, by have := h.1; omega, by have := h.2.1; omega, by rw [← q1.length, e0]; exact h.2.2.1, k.lst r0 h.2.2.2 (q1.rep _)⟩
/-! ### == -/
/-- what == may be asked of -/
def CEq (d e : D) : Prop := (∃ n, n ≤ 64 ∧ d.ok n = true) ∧ ∃ n, n ≤ 64 ∧ e.ok n = true
def eqD : O2 := fun _ d e P => CEq d e ∧ P (.bl (eqvD d e))
def neD : O2 := fun _ d e P => CEq d e ∧ P (.bl (!eqvD d e))
theorem od_eq (hY : Y.K = X.K) (hu : X.A.units + 64 < cLine) : OpD X Y (compareOp .Eq) eqD := by
  intro pins s σ H x y v u Q I rx ry ⟨G, mu, c, d, e, P, r0, qd, qe, ⟨⟨⟨n, n1, n2⟩, m, m1, m2⟩, h⟩, k⟩
  exact op_eqD hu pins s σ H x y v u Q I rx ry ⟨d.py, e.py, hY ▸ qd.dp r0.sub n2, hY ▸ qe.dp r0.sub m2, D.shaped n2 n1, D.shaped m2 m1, k.here r0 h (.bl _)⟩
theorem od_ne (hY : Y.K = X.K) (hu : X.A.units + 64 < cLine) : OpD X Y (compareOp .NotEq) neD := by
  intro pins s σ H x y v u Q I rx ry ⟨G, mu, c, d, e, P, r0, qd, qe, ⟨⟨⟨n, n1, n2⟩, m, m1, m2⟩, h⟩, k⟩
  exact op_neD hu pins s σ H x y v u Q I rx ry ⟨d.py, e.py, hY ▸ qd.dp r0.sub n2, hY ▸ qe.dp r0.sub m2, D.shaped n2 n1, D.shaped m2 m1, k.here r0 h (.bl _)⟩
/-! ### is None -/
def D.isN : D → Bool
  | .non => true
  | _ => false
theorem Rep.isN {d : D} {v : V} (q : Rep Y G d v) : decide (v = .non) = d.isN := by
  cases q <;> rfl
def isND : O2 := fun _ d e P => e = .non ∧ P (.bl d.isN)
def notND : O2 := fun _ d e P => e = .non ∧ P (.bl (!d.isN))
theorem od_isN : OpD X Y (compareOp .Is) isND := by
  intro pins s σ H x y v u Q I rx ry ⟨G, mu, c, d, e, P, r0, qd, qe, ⟨e1, h⟩, k⟩
  subst e1
  cases qe
  exact op_isN pins s σ H _ _ v u Q I rx ry ⟨rfl, by rw [qd.isN]; exact k.here r0 h (.bl _)⟩
theorem od_notN : OpD X Y (compareOp .IsNot) notND := by
  intro pins s σ H x y v u Q I rx ry ⟨G, mu, c, d, e, P, r0, qd, qe, ⟨e1, h⟩, k⟩
  subst e1
  cases qe
  exact op_notN pins s σ H _ _ v u Q I rx ry ⟨rfl, by rw [qd.isN]; exact k.here r0 h (.bl _)⟩
/-! ### dicts that stay as they are -/
def look (es : List (Key × D)) (k : Key) : Option D := (es.find? fun e => decide (e.1 = k)).map (·.2)
theorem Repk.look {es : List (Key × D)} {vs : List (Key × V)} (q : Repk Y G es vs) (k : Key) : (∀ z, look es k = some z → ∃ v, valV vs k = some v ∧ Rep Y G z v) ∧ (look es k = none → valV vs k = none) := by
  induction es generalizing vs with
  | nil => cases q; exact ⟨fun z h => (by cases h), fun _ => rfl⟩
  | cons p es ih =>
    cases q with
    | cons k0 h r =>
      by_cases e0 : k0 = k
      · subst e0
        refine ⟨fun z hz => ?_, fun hz => ?_⟩
        · simp [DL.look, List.find?_cons] at hz
          subst hz
          exact ⟨_, valV_pos rfl, h⟩
        · simp [DL.look, List.find?_cons] at hz
      · refine ⟨fun z hz => ?_, fun hz => ?_⟩
        · rw [valV_neg e0]
          refine (ih r).1 z ?_
          simpa [DL.look, List.find?_cons, e0] using hz
        · rw [valV_neg e0]
          refine (ih r).2 ?_
          simpa [DL.look, List.find?_cons, e0] using hz
/-- a key as data -/
def D.key : D → Option Key
  | .int i => some (.inl i)
  | .str x => some (.inr x)
  | _ => none
theorem Rep.key {d : D} {v : V} {k : Key} (q : Rep Y G d v) (h : d.key = some k) : v = kV k := by
  cases q <;> first | cases h | skip
  · rfl
  · rfl
/-! ### in, not in -/
/-- x stands in y: a text in a text, a thing in a tuple or a list of plain things -/
def hasStr (x y : Str) : Bool := !(Builtin.Str.occurrences y x 0 y.length 1).isEmpty
def inD (f : Bool → Bool) : O2 := fun _ d e P => match e with
  | .tup es => CEq d (.tup es) ∧ P (.bl (f (es.any fun z => eqvD z d)))
  | .lst es => CEq d (.lst es) ∧ P (.bl (f (es.any fun z => eqvD z d)))
  | .str b => (match d with | .str a => P (.bl (f (hasStr a b))) | _ => False)
  | .dct es => ∃ k, d.key = some k ∧ P (.bl (f (look es k).isSome))
  | _ => False
theorem pys_any (d : D) : ∀ es : List D, ((D.pys es).any fun z => PyData.eqv z d.py) = es.any fun z => eqvD z d
  | [] => rfl
  | e :: es => by
    simp only [D.pys, List.any_cons, pys_any d es]
    rfl
theorem op_inT (hu : X.A.units + 65 < cLine) : OpR X (compareOp .In) (fun x y H Q => ∃ d ds, Dp X.K H x d ∧ Dp X.K H y (.tuple ds) ∧ SeqAt.shaped d = true ∧ SeqAt.shaped (.tuple ds) = true ∧ Q (.bl (ds.any fun z => PyData.eqv z d)) H) := by
  intro pins s σ H x y v u Q I rx ry ⟨d, ds, hd, he, sd, se, q⟩
  obtain ⟨as, r1⟩ := Dp.reads I d x v hd rx
  obtain ⟨bs, r2⟩ := Dp.reads I (.tuple ds) y u he ry
  exact SeqAt.in_tuple_reads r2 r1 (SeqAt.canLay_of_shaped se) (SeqAt.canLay_of_shaped sd) (PyProof.Rows.room_in_shaped sd hu) ⟨.bl _, H, I, rfl, q⟩
theorem op_notInT (hu : X.A.units + 65 < cLine) : OpR X (compareOp .NotIn) (fun x y H Q => ∃ d ds, Dp X.K H x d ∧ Dp X.K H y (.tuple ds) ∧ SeqAt.shaped d = true ∧ SeqAt.shaped (.tuple ds) = true ∧ Q (.bl (!ds.any fun z => PyData.eqv z d)) H) := by
  intro pins s σ H x y v u Q I rx ry ⟨d, ds, hd, he, sd, se, q⟩
  obtain ⟨as, r1⟩ := Dp.reads I d x v hd rx
  obtain ⟨bs, r2⟩ := Dp.reads I (.tuple ds) y u he ry
  exact SeqAt.notIn_tuple_reads r2 r1 (SeqAt.canLay_of_shaped se) (SeqAt.canLay_of_shaped sd) (PyProof.Rows.room_in_shaped sd hu) ⟨.bl _, H, I, rfl, q⟩
theorem inD_seq {d e : D} {f : Bool → Bool} {mu : Mu} {P : D → Prop} (h : inD f mu d e P) : (∃ a b, d = .str a ∧ e = .str b ∧ P (.bl (f (hasStr a b)))) ∨ (∃ es, e = .tup es ∧ CEq d (.tup es) ∧ P (.bl (f (es.any fun z => eqvD z d)))) ∨ (∃ es, e = .lst es ∧ CEq d (.lst es) ∧ P (.bl (f (es.any fun z => eqvD z d)))) ∨ (∃ es k, e = .dct es ∧ d.key = some k ∧ P (.bl (f (look es k).isSome))) := by
  unfold inD at h
  split at h
  · exact .inr (.inl ⟨_, rfl, h⟩)
  · exact .inr (.inr (.inl ⟨_, rfl, h⟩))
  · split at h
    · exact .inl ⟨_, _, rfl, rfl, h⟩
    · exact h.elim
  · obtain ⟨k, h1, h2⟩ := h
    exact .inr (.inr (.inr ⟨_, k, rfl, h1, h2⟩))
  · exact h.elim
theorem Repk.get {es : List (Key × D)} {vs : List (Key × V)} (q : Repk Y G es vs) (k : Key) : (valV vs k).isSome = (DL.look es k).isSome := by
  cases e : DL.look es k with
  | none => rw [(q.look k).2 e]; rfl
  | some z =>
    obtain ⟨v, h1, _⟩ := (q.look k).1 z e
    rw [h1]
    rfl
theorem od_in (hY : Y.K = X.K) (hu : X.A.units + 65 < cLine) : OpD X Y (compareOp .In) (inD id) := by
  intro pins s σ H x y v u Q I rx ry ⟨G, mu, c, d, e, P, r0, qd, qe, h, k⟩
  rcases inD_seq h with ⟨a, b, rfl, rfl, h⟩ | ⟨es, rfl, ⟨⟨n, n1, n2⟩, m, m1, m2⟩, h⟩ | ⟨es, rfl, ⟨⟨n, n1, n2⟩, m, m1, m2⟩, h⟩ | ⟨es, k0, rfl, hk, h⟩
  · cases qd; cases qe
    exact op_in_str pins s σ H _ _ v u Q I rx ry ⟨_, _, rfl, rfl, k.here r0 h (.bl _)⟩
  · exact op_inT hu pins s σ H _ _ v u Q I rx ry ⟨d.py, D.pys es, hY ▸ qd.dp r0.sub n2, hY ▸ qe.dp r0.sub m2, D.shaped n2 n1, D.shaped m2 m1, by rw [pys_any]; exact k.here r0 h (.bl _)⟩
  · exact op_inD hu pins s σ H _ _ v u Q I rx ry ⟨d.py, D.pys es, hY ▸ qd.dp r0.sub n2, hY ▸ qe.dp r0.sub m2, D.shaped n2 n1, D.shaped m2 m1, by rw [pys_any]; exact k.here r0 h (.bl _)⟩
  · obtain ⟨a1, xs1, rfl, h1, q1⟩ := qe.dctI
    obtain rfl : u = Value.ref a1 := ry
    have e1 := qd.key hk
    subst e1
    refine d_in (by omega) I (DGet.k (r0.sub _ _ h1)) rx fun s3 I3 => ⟨.bl _, H, I3, rfl, ?_⟩
    rw [q1.get k0]
    exact k.here r0 h (.bl _)
theorem od_notIn (hY : Y.K = X.K) (hu : X.A.units + 65 < cLine) : OpD X Y (compareOp .NotIn) (inD not) := by
  intro pins s σ H x y v u Q I rx ry ⟨G, mu, c, d, e, P, r0, qd, qe, h, k⟩
  rcases inD_seq h with ⟨a, b, rfl, rfl, h⟩ | ⟨es, rfl, ⟨⟨n, n1, n2⟩, m, m1, m2⟩, h⟩ | ⟨es, rfl, ⟨⟨n, n1, n2⟩, m, m1, m2⟩, h⟩ | ⟨es, k0, rfl, hk, h⟩
  · cases qd; cases qe
    exact op_notIn_str pins s σ H _ _ v u Q I rx ry ⟨_, _, rfl, rfl, k.here r0 h (.bl _)⟩
  · exact op_notInT hu pins s σ H _ _ v u Q I rx ry ⟨d.py, D.pys es, hY ▸ qd.dp r0.sub n2, hY ▸ qe.dp r0.sub m2, D.shaped n2 n1, D.shaped m2 m1, by rw [pys_any]; exact k.here r0 h (.bl _)⟩
  · exact op_notInD hu pins s σ H _ _ v u Q I rx ry ⟨d.py, D.pys es, hY ▸ qd.dp r0.sub n2, hY ▸ qe.dp r0.sub m2, D.shaped n2 n1, D.shaped m2 m1, by rw [pys_any]; exact k.here r0 h (.bl _)⟩
  · obtain ⟨a1, xs1, rfl, h1, q1⟩ := qe.dctI
    obtain rfl : u = Value.ref a1 := ry
    have e1 := qd.key hk
    subst e1
    refine d_notIn (by omega) I (DGet.k (r0.sub _ _ h1)) rx fun s3 I3 => ⟨.bl _, H, I3, rfl, ?_⟩
    rw [q1.get k0]
    exact k.here r0 h (.bl _)
/-! ### subscripts -/
def ixD : O2 := fun _ d e P => match d, e with
  | .str a, .int i => a.length ≤ LINE ∧ ∃ z, atI a.cps.toList i = some z ∧ P (.str ⟨#[z]⟩)
  | .tup a, .int i => ∃ z, atI a i = some z ∧ P z
  | .lst a, .int i => ∃ z, atI a i = some z ∧ P z
  | _, _ => False
theorem Reps.atI {ds : List D} {vs : List V} (q : Reps Y G ds vs) {i : Int} {z : D} (h : L2.atI ds i = some z) : ∃ v, L2.atI vs i = some v ∧ Rep Y G z v := by
  unfold L2.atI at h ⊢
  rw [q.length] at h
  cases e : ixN vs.length i with
  | none => rw [e] at h; cases h
  | some j =>
    rw [e] at h
    exact q.get (i := j) h
theorem ix_d (hY : Y.K = X.K) : IxR X (l2 Y ixD) := by
  intro value slice pins s σ H x y v u Q I rx ry ⟨G, mu, c, d, e, P, r0, qd, qe, h, k⟩ hs
  have e0 := line_eq
  cases d <;> cases e <;> first | exact False.elim h | skip
  · cases qd; cases qe
    obtain ⟨h1, z, h2, h3⟩ := h
    exact ix_str value slice pins s σ H _ _ v u Q I rx ry ⟨_, _, _, rfl, rfl, by rw [e0]; exact h1, h2, k.here r0 h3 (.str _)⟩ hs
  · obtain ⟨a1, xs1, rfl, h1, q1⟩ := qd.tupI
    cases qe
    obtain ⟨z, h2, h3⟩ := h
    obtain ⟨w, h4, q4⟩ := q1.atI h2
    exact ix_tup value slice pins s σ H _ _ v u Q I rx ry ⟨_, _, _, _, rfl, rfl, sqT_mono r0.sub (hY ▸ h1), h4, k.here r0 h3 q4⟩ hs
  · obtain ⟨a1, xs1, rfl, h1, q1⟩ := qd.lstI
    cases qe
    obtain ⟨z, h2, h3⟩ := h
    obtain ⟨w, h4, q4⟩ := q1.atI h2
    exact ix_list value slice pins s σ H _ _ v u Q I rx ry ⟨_, _, _, _, rfl, rfl, SqL.of (r0.sub _ _ h1), h4, k.here r0 h3 q4⟩ hs
theorem de_ix {W : WX} {a b : Expr} {ma mb : ME} {pos : Pos} (hY : Y.K = X.K) (ha : DE X Y W a ma) (hb : DE X Y W b mb) (hs : PlainIx b := by intro _ _; rfl) : DE X Y W (.Subscript a b pos) (mOp ixD ma mb) :=
  peImp (pe_ix (ix_d hY) ha hb hs) (mOp_ok fun _ _ _ _ h => h)
/-! slices -/
def cutD {α : Type} (xs : List α) (lo hi : Option Int) : List α := (xs.drop (HT.sIx xs.length 0 lo)).take (HT.sIx xs.length xs.length hi - HT.sIx xs.length 0 lo)
abbrev MO1 := S → (Option Int → S → Prop) → PXT → Prop
def TOof (Y : Yc) (W : WX) (m : MO1) : TO := fun σ H Q => ∃ G st P PX, R Y G st σ H ∧ m st P PX ∧ XPost Y W G st σ H PX ∧
  ∀ b st' G' H', P b st' → Same G G' → Frm Y G st.mu H G' st'.mu H' → R Y G' st' σ H' → Q b H'
abbrev DO (X : Cx) (Y : Yc) (W : WX) (e : Option Expr) (m : MO1) : Prop := PO X e (TOof Y W m)
theorem poImp {e : Option Expr} {t t' : TO} (h : PO X e t) (i : ∀ σ H Q, t' σ H Q → t σ H Q) : PO X e t' := ⟨fun pins s σ H Q I q => h.run pins s σ H Q I (i σ H Q q)⟩
def mONone : MO1 := fun st P _ => P none st
def mOSome (m : ME) : MO1 := fun st P PX => m st (fun d s1 => ∃ i, d = .int i ∧ P (some i) s1) PX
theorem do_none {W : WX} : DO X Y W none mONone := poImp po_none fun σ H Q ⟨G, st, P, PX, rr, hm, xp, k⟩ => k _ _ G H hm (Same.refl G) .refl rr
theorem do_some {W : WX} {e : Expr} {m : ME} (h : DE X Y W e m) : DO X Y W (some e) (mOSome m) :=
  poImp (po_some h) fun σ H Q ⟨G, st, P, PX, rr, hm, xp, k⟩ => ⟨G, st, fun d s1 => ∃ i, d = .int i ∧ P (some i) s1, PX, rr, hm, xp, fun d s1 v G1 H1 ⟨i, e1, hp⟩ g f r q => by
    subst e1
    cases q
    exact ⟨i, rfl, k _ _ G1 H1 hp g f r⟩⟩
def slD (d : D) (lo hi : Option Int) (P : D → Prop) : Prop := match d with
  | .str a => a.length ≤ LINE ∧ P (.str ⟨(cutD a.cps.toList lo hi).toArray⟩)
  | .tup a => P (.tup (cutD a lo hi))
  | .lst a => P (.lst (cutD a lo hi))
  | _ => False
def mSl (m : ME) (l h : MO1) : ME := fun st P PX => m st (fun d s1 => l s1 (fun lo s2 => h s2 (fun hi s3 => slD d lo hi fun r => P r s3) PX) PX) PX
theorem Reps.cut {ds : List D} {vs : List V} (q : Reps Y G ds vs) (lo hi : Option Int) : Reps Y G (cutD ds lo hi) (cutV vs lo hi) := by
  unfold cutD cutV
  rw [q.length]
  exact (q.drop _).take _
theorem cutV_all {vs : List V} {lo hi : Option Int} (h : HT.sIx vs.length 0 lo = 0 ∧ HT.sIx vs.length vs.length hi = vs.length) : cutV vs lo hi = vs := by
  unfold cutV
  rw [h.1, h.2]
  simp
def lSl (Y : Yc) : V → Option Int → Option Int → Hp → VK → Prop := fun x lo hi H Q => ∃ G mu c d P, R0 Y G mu c H ∧ Rep Y G d x ∧ slD d lo hi P ∧ Post Y G mu c H P Q
theorem sl_d (hY : Y.K = X.K) : SlR X (lSl Y) := by
  intro pins s σ H x v vl vu lo hi sl Q I rx hs pl pu ⟨G, mu, c, d, P, r0, qd, h, k⟩
  have e0 := line_eq
  cases d <;> first | exact False.elim h | skip
  · cases qd
    exact sl_str pins s σ H _ v vl vu lo hi sl Q I rx hs pl pu ⟨_, rfl, by rw [e0]; exact h.1, k.here r0 h.2 (.str _)⟩
  · obtain ⟨a1, xs1, rfl, h1, q1⟩ := qd.tupI
    refine sl_tupA pins s σ H _ v vl vu lo hi sl Q I rx hs pl pu ⟨_, _, rfl, sqT_mono r0.sub (hY ▸ h1), fun hw => ?_, fun _ => k.tup r0 h (q1.cut lo hi)⟩
    have e := q1.cut lo hi
    rw [cutV_all hw] at e
    exact k.here r0 h (.tup h1 e)
  · obtain ⟨a1, xs1, rfl, h1, q1⟩ := qd.lstI
    exact sl_list pins s σ H _ v vl vu lo hi sl Q I rx hs pl pu ⟨_, _, rfl, SqL.of (r0.sub _ _ h1), k.lst r0 h (q1.cut lo hi)⟩
theorem de_sl {W : WX} {e : Expr} {m : ME} {lo hi : Option Expr} {l h : MO1} {p2 pos : Pos} (hY : Y.K = X.K) (he : DE X Y W e m) (hl : DO X Y W lo l) (hh : DO X Y W hi h) : DE X Y W (.Subscript e (.Slice lo hi none p2) pos) (mSl m l h) :=
  peImp (pe_slice (sl_d hY) he hl hh) fun σ H Q ⟨G, st, P, PX, rr, hm, xp, k⟩ => ⟨G, st, _, PX, rr, hm, xp, fun d s1 v G1 H1 hm1 g1 f1 r1 q1 =>
    ⟨G1, s1, _, PX, r1, hm1, xp.on g1 f1, fun lo s2 G2 H2 hm2 g2 f2 r2 =>
      ⟨G2, s2, _, PX, r2, hm2, xp.on (g1.trans g2) (f1.trans f2), fun hi s3 G3 H3 hm3 g3 f3 r3 =>
        ⟨G3, s3.mu, s3.c, d, _, r3.h, (q1.mono g2).mono g3, hm3, fun z v4 G4 H4 hp g4 h4 r4 q4 =>
          k z s3 v4 G4 H4 hp (((g1.trans g2).trans g3).trans g4) (((f1.trans f2).trans f3).trans h4) ⟨r4, r3.s.mono g4⟩ q4⟩⟩⟩⟩
/-! ### built-in functions -/
def lenD : OL := fun _ ds P => match ds with
  | [.str a] => a.length ≤ LINE ∧ P (.int a.length)
  | [.tup a] => P (.int a.length)
  | [.lst a] => P (.int a.length)
  | _ => False
theorem Reps.one {d : D} {xs : List V} (q : Reps Y G [d] xs) : ∃ v, xs = [v] ∧ Rep Y G d v := by
  cases q with
  | cons h r => cases r; exact ⟨_, rfl, h⟩
theorem Reps.two {d e : D} {xs : List V} (q : Reps Y G [d, e] xs) : ∃ v w, xs = [v, w] ∧ Rep Y G d v ∧ Rep Y G e w := by
  cases q with
  | cons h r =>
    obtain ⟨w, rfl, h2⟩ := r.one
    exact ⟨_, _, rfl, h, h2⟩
theorem cd_len (hY : Y.K = X.K) : CallD X Y (.builtin "len") lenD := by
  intro pins s σ H xs us Q I r ⟨G, mu, c, ds, P, r0, q, h, k⟩
  unfold lenD at h
  split at h
  · obtain ⟨v, rfl, q1⟩ := q.one
    cases q1
    exact call_len_str pins s σ H _ us Q I r ⟨_, rfl, by rw [line_eq]; exact h.1, k.here r0 h.2 (.int _)⟩
  · obtain ⟨v, rfl, q1⟩ := q.one
    obtain ⟨a1, xs1, rfl, h1, q1⟩ := q1.tupI
    exact call_len_seq pins s σ H _ us Q I r ⟨_, _, rfl, .inr (sqT_mono r0.sub (hY ▸ h1)), by rw [← q1.length]; exact k.here r0 h (.int _)⟩
  · obtain ⟨v, rfl, q1⟩ := q.one
    obtain ⟨a1, xs1, rfl, h1, q1⟩ := q1.lstI
    exact call_len_seq pins s σ H _ us Q I r ⟨_, _, rfl, .inl (SqL.of (r0.sub _ _ h1)), by rw [← q1.length]; exact k.here r0 h (.int _)⟩
  · exact h.elim
def absD : OL := fun _ ds P => match ds with
  | [.int i] => P (.int (if i < 0 then -i else i))
  | _ => False
theorem cd_abs : CallD X Y (.builtin "abs") absD := by
  intro pins s σ H xs us Q I r ⟨G, mu, c, ds, P, r0, q, h, k⟩
  unfold absD at h
  split at h
  · obtain ⟨v, rfl, q1⟩ := q.one
    cases q1
    exact call_abs pins s σ H _ us Q I r ⟨_, rfl, k.here r0 h (.int _)⟩
  · exact h.elim
/-- int(x) of a number -/
def toIntD : OL := fun _ ds P => match ds with
  | [.int i] => P (.int i)
  | [.bl b] => P (.int (if b then 1 else 0))
  | _ => False
theorem cd_int : CallD X Y (.type "int") toIntD := by
  intro pins s σ H xs us Q I r ⟨G, mu, c, ds, P, r0, q, h, k⟩
  unfold toIntD at h
  split at h
  · obtain ⟨v, rfl, q1⟩ := q.one
    cases q1
    exact call_int1 pins s σ H _ us Q I r (.inl ⟨_, rfl, k.here r0 h (.int _)⟩)
  · obtain ⟨v, rfl, q1⟩ := q.one
    cases q1
    exact call_int1 pins s σ H _ us Q I r (.inr ⟨_, rfl, k.here r0 h (.int _)⟩)
  · exact h.elim
/-- the ints of a list -/
def intsOf : List D → Option (List Int)
  | [] => some []
  | .int i :: r => (intsOf r).map (i :: ·)
  | _ => none
theorem intsOf_reps : ∀ {ds : List D} {vs : List V} {ns : List Int}, intsOf ds = some ns → Reps Y G ds vs → vs = ns.map V.int
  | [], _, _, h, q => by
    cases h
    cases q
    rfl
  | d :: ds, _, ns, h, q => by
    cases q with
    | cons q1 q2 =>
      cases d <;> first | cases h | skip
      rename_i i
      cases e : intsOf ds with
      | none => simp [intsOf, e] at h
      | some ms =>
        simp [intsOf, e] at h
        subst h
        cases q1
        rw [intsOf_reps e q2, List.map_cons]
def maxD : OL := fun _ ds P => match ds with
  | [.int i, .int j] => P (.int (if j > i then j else i))
  | [.lst a] => ∃ ns, intsOf a = some ns ∧ 0 < ns.length ∧ ∀ m, m ∈ ns → (∀ y, y ∈ ns → y ≤ m) → P (.int m)
  | _ => False
theorem cd_max (hc : X.calm = true) : CallD X Y (.builtin "max") maxD := by
  intro pins s σ H xs us Q I r ⟨G, mu, c, ds, P, r0, q, h, k⟩
  unfold maxD at h
  split at h
  · obtain ⟨v, w, rfl, q1, q2⟩ := q.two
    cases q1; cases q2
    exact call_max2 hc pins s σ H _ us Q I r ⟨_, _, rfl, k.here r0 h (.int _)⟩
  · obtain ⟨v, rfl, q1⟩ := q.one
    obtain ⟨a1, xs1, rfl, h1, q1⟩ := q1.lstI
    obtain ⟨ns, h2, h3, h4⟩ := h
    have e := intsOf_reps h2 q1
    subst e
    exact cr_max hc pins s σ H _ us Q I r ⟨_, _, rfl, SqL.of (r0.sub _ _ h1), h3, fun m m1 m2 => k.here r0 (h4 m m1 m2) (.int _)⟩
  · exact h.elim
def minD : OL := fun _ ds P => match ds with
  | [.int i, .int j] => P (.int (if j < i then j else i))
  | [.lst a] => ∃ ns, intsOf a = some ns ∧ 0 < ns.length ∧ ∀ m, m ∈ ns → (∀ y, y ∈ ns → m ≤ y) → P (.int m)
  | _ => False
theorem cd_min (hc : X.calm = true) : CallD X Y (.builtin "min") minD := by
  intro pins s σ H xs us Q I r ⟨G, mu, c, ds, P, r0, q, h, k⟩
  unfold minD at h
  split at h
  · obtain ⟨v, w, rfl, q1, q2⟩ := q.two
    cases q1; cases q2
    exact call_min2 hc pins s σ H _ us Q I r ⟨_, _, rfl, k.here r0 h (.int _)⟩
  · obtain ⟨v, rfl, q1⟩ := q.one
    obtain ⟨a1, xs1, rfl, h1, q1⟩ := q1.lstI
    obtain ⟨ns, h2, h3, h4⟩ := h
    have e := intsOf_reps h2 q1
    subst e
    exact cr_min hc pins s σ H _ us Q I r ⟨_, _, rfl, SqL.of (r0.sub _ _ h1), h3, fun m m1 m2 => k.here r0 (h4 m m1 m2) (.int _)⟩
  · exact h.elim
/-- the truths of a list -/
def blsOf : List D → Option (List Bool)
  | [] => some []
  | .bl i :: r => (blsOf r).map (i :: ·)
  | _ => none
theorem blsOf_reps : ∀ {ds : List D} {vs : List V} {ns : List Bool}, blsOf ds = some ns → Reps Y G ds vs → vs = ns.map V.bl
  | [], _, _, h, q => by
    cases h
    cases q
    rfl
  | d :: ds, _, ns, h, q => by
    cases q with
    | cons q1 q2 =>
      cases d <;> first | cases h | skip
      rename_i i
      cases e : blsOf ds with
      | none => simp [blsOf, e] at h
      | some ms =>
        simp [blsOf, e] at h
        subst h
        cases q1
        rw [blsOf_reps e q2, List.map_cons]
def allD : OL := fun _ ds P => match ds with
  | [.lst a] => ∃ bs, blsOf a = some bs ∧ P (.bl (bs.all id))
  | _ => False
theorem cd_all (hc : X.calm = true) : CallD X Y (.builtin "all") allD := by
  intro pins s σ H xs us Q I r ⟨G, mu, c, ds, P, r0, q, h, k⟩
  unfold allD at h
  split at h
  · obtain ⟨v, rfl, q1⟩ := q.one
    obtain ⟨a1, xs1, rfl, h1, q1⟩ := q1.lstI
    obtain ⟨ns, h2, h3⟩ := h
    have e := blsOf_reps h2 q1
    subst e
    exact cr_all hc pins s σ H _ us Q I r ⟨_, _, rfl, SqL.of (r0.sub _ _ h1), k.here r0 h3 (.bl _)⟩
  · exact h.elim
def anyD : OL := fun _ ds P => match ds with
  | [.lst a] => ∃ bs, blsOf a = some bs ∧ P (.bl (bs.any id))
  | _ => False
theorem cd_any (hc : X.calm = true) : CallD X Y (.builtin "any") anyD := by
  intro pins s σ H xs us Q I r ⟨G, mu, c, ds, P, r0, q, h, k⟩
  unfold anyD at h
  split at h
  · obtain ⟨v, rfl, q1⟩ := q.one
    obtain ⟨a1, xs1, rfl, h1, q1⟩ := q1.lstI
    obtain ⟨ns, h2, h3⟩ := h
    have e := blsOf_reps h2 q1
    subst e
    exact cr_any hc pins s σ H _ us Q I r ⟨_, _, rfl, SqL.of (r0.sub _ _ h1), k.here r0 h3 (.bl _)⟩
  · exact h.elim
def sumD : OL := fun _ ds P => match ds with
  | [.lst a] => ∃ ns, intsOf a = some ns ∧ P (.int ns.sum)
  | _ => False
theorem cd_sum (hc : X.calm = true) : CallD X Y (.builtin "sum") sumD := by
  intro pins s σ H xs us Q I r ⟨G, mu, c, ds, P, r0, q, h, k⟩
  unfold sumD at h
  split at h
  · obtain ⟨v, rfl, q1⟩ := q.one
    obtain ⟨a1, xs1, rfl, h1, q1⟩ := q1.lstI
    obtain ⟨ns, h2, h3⟩ := h
    have e := intsOf_reps h2 q1
    subst e
    exact cr_sum hc pins s σ H _ us Q I r ⟨_, _, rfl, SqL.of (r0.sub _ _ h1), k.here r0 h3 (.int _)⟩
  · exact h.elim
def listD : OL := fun _ ds P => match ds with
  | [.lst a] => P (.lst a)
  | [.tup a] => P (.lst a)
  | _ => False
theorem cd_list (hY : Y.K = X.K) : CallD X Y (.type "list") listD := by
  intro pins s σ H xs us Q I r ⟨G, mu, c, ds, P, r0, q, h, k⟩
  unfold listD at h
  split at h
  · obtain ⟨v, rfl, q1⟩ := q.one
    obtain ⟨a1, xs1, rfl, h1, q1⟩ := q1.lstI
    exact call_list_of pins s σ H _ us Q I r ⟨_, _, rfl, .inl (SqL.of (r0.sub _ _ h1)), k.lst r0 h q1⟩
  · obtain ⟨v, rfl, q1⟩ := q.one
    obtain ⟨a1, xs1, rfl, h1, q1⟩ := q1.tupI
    exact call_list_of pins s σ H _ us Q I r ⟨_, _, rfl, .inr (sqT_mono r0.sub (hY ▸ h1)), k.lst r0 h q1⟩
  · exact h.elim
def tupleD : OL := fun _ ds P => match ds with
  | [.lst a] => P (.tup a)
  | [.tup a] => P (.tup a)
  | _ => False
theorem cd_tuple (hY : Y.K = X.K) : CallD X Y (.type "tuple") tupleD := by
  intro pins s σ H xs us Q I r ⟨G, mu, c, ds, P, r0, q, h, k⟩
  unfold tupleD at h
  split at h
  · obtain ⟨v, rfl, q1⟩ := q.one
    obtain ⟨a1, xs1, rfl, h1, q1⟩ := q1.lstI
    exact call_tuple_of pins s σ H _ us Q I r ⟨_, _, rfl, .inl ⟨SqL.of (r0.sub _ _ h1), k.tup r0 h q1⟩⟩
  · obtain ⟨v, rfl, q1⟩ := q.one
    obtain ⟨a1, xs1, rfl, h1, q1⟩ := q1.tupI
    exact call_tuple_of pins s σ H _ us Q I r ⟨_, _, rfl, .inr ⟨sqT_mono r0.sub (hY ▸ h1), k.here r0 h (.tup h1 q1)⟩⟩
  · exact h.elim
end
end DL
namespace DL
open PySem L2
section
variable {X : Cx} {Y : Yc} {W : WX} {G : Hp} {mu : Mu} {c : Nat} {H : Hp} {P : D → Prop} {Q : VK} {a b e : Expr} {ma mb mc me : ME} {pos : Pos} {es : List Expr} {mas : MA}
def dixD : O2 := fun _ d e P => match d with
  | .dct es => ∃ k z, e.key = some k ∧ look es k = some z ∧ P z
  | _ => False
theorem ix_dct (hu : X.A.units + 1 < cLine) : IxR X (l2 Y dixD) := by
  intro value slice pins s σ H x y v u Q I rx ry ⟨G, mu, c, d, e, P, r0, qd, qe, h, k⟩ hs
  cases d <;> first | exact False.elim h | skip
  obtain ⟨k1, z, h1, h2, h3⟩ := h
  obtain ⟨a1, xs1, rfl, hd, q1⟩ := qd.dctI
  have ey := qe.key h1
  subst ey
  obtain ⟨w, h4, q4⟩ := (q1.look k1).1 z h2
  obtain rfl : v = Value.ref a1 := rx
  have g : DGet H a1 (kV k1) (some w) := by rw [← h4]; exact DGet.k (r0.sub _ _ hd)
  exact PyProof.Rows.tail_any (dict_typeIs I g) PySem.F.slot_dict_getitem.lookup (d_getItem hu I g ry fun w' s3 I3 rw' => ⟨w, H, I3, rw', k.here r0 h3 q4⟩) hs
theorem IxR.imp {r r' : R2} (h : IxR X r) (i : ∀ x y H Q, r' x y H Q → r x y H Q) : IxR X r' := fun value slice pins s σ H x y v u Q I rx ry q hs => h value slice pins s σ H x y v u Q I rx ry (i _ _ _ _ q) hs
/-- x[i], whatever x is -/
def subD : O2 := fun mu d e P => match d with
  | .dct es => dixD mu (.dct es) e P
  | d => ixD mu d e P
theorem ix_any (hY : Y.K = X.K) (hu : X.A.units + 1 < cLine) : IxR X (l2 Y subD) := by
  refine IxR.imp (r := fun x y H Q => l2 Y dixD x y H Q ∨ l2 Y ixD x y H Q) ((ix_dct hu).or (ix_d hY)) fun x y H Q ⟨G, mu, c, d, e, P, r0, qd, qe, h, k⟩ => ?_
  cases d <;> first
    | exact .inl ⟨G, mu, c, _, e, P, r0, qd, qe, h, k⟩
    | exact .inr ⟨G, mu, c, _, e, P, r0, qd, qe, h, k⟩
theorem de_sub (hY : Y.K = X.K) (hu : X.A.units + 1 < cLine) (ha : DE X Y W a ma) (hb : DE X Y W b mb) (hs : PlainIx b := by intro _ _; rfl) : DE X Y W (.Subscript a b pos) (mOp subD ma mb) :=
  peImp (pe_ix (ix_any hY hu) ha hb hs) (mOp_ok fun _ _ _ _ h => h)
/-! a display -/
def putD (es : List (Key × D)) (k : Key) (v : D) : List (Key × D) := if (es.any fun e => decide (e.1 = k)) = true then es.map fun e => if e.1 = k then (e.1, v) else e else es ++ [(k, v)]
def mergeD (es more : List (Key × D)) : List (Key × D) := more.foldl (fun acc e => putD acc e.1 e.2) es
theorem Repk.any {es : List (Key × D)} {vs : List (Key × V)} (q : Repk Y G es vs) (k : Key) : (es.any fun e => decide (e.1 = k)) = (vs.any fun e => decide (e.1 = k)) := by
  induction es generalizing vs with
  | nil => cases q; rfl
  | cons p es ih =>
    cases q with
    | cons k0 h r => rw [List.any_cons, List.any_cons, ih r]
theorem Repk.map {es : List (Key × D)} {vs : List (Key × V)} (q : Repk Y G es vs) (k : Key) {d : D} {v : V} (h : Rep Y G d v) : Repk Y G (es.map fun e => if e.1 = k then (e.1, d) else e) (vs.map fun e => if e.1 = k then (e.1, v) else e) := by
  induction es generalizing vs with
  | nil => cases q; exact .nil
  | cons p es ih =>
    cases q with
    | cons k0 h0 r =>
      rw [List.map_cons, List.map_cons]
      by_cases e : k0 = k
      · rw [if_pos e, if_pos e]; exact .cons k0 h (ih r)
      · rw [if_neg e, if_neg e]; exact .cons k0 h0 (ih r)
theorem Repk.append {es es2 : List (Key × D)} {vs vs2 : List (Key × V)} (q : Repk Y G es vs) (q2 : Repk Y G es2 vs2) : Repk Y G (es ++ es2) (vs ++ vs2) := by
  induction es generalizing vs with
  | nil => cases q; exact q2
  | cons p es ih =>
    cases q with
    | cons k0 h0 r => exact .cons k0 h0 (ih r)
theorem Repk.put {es : List (Key × D)} {vs : List (Key × V)} (q : Repk Y G es vs) (k : Key) {d : D} {v : V} (h : Rep Y G d v) : Repk Y G (putD es k d) (putK vs k v) := by
  unfold putD putK
  rw [q.any k]
  split
  · exact q.map k h
  · exact q.append (.cons k h .nil)
theorem Repk.merge {es : List (Key × D)} {vs : List (Key × V)} {more : List (Key × D)} {more2 : List (Key × V)} (q : Repk Y G es vs) (q2 : Repk Y G more more2) : Repk Y G (mergeD es more) (mergeK vs more2) := by
  induction more generalizing es vs more2 with
  | nil => cases q2; exact q
  | cons p more ih =>
    cases q2 with
    | cons k0 h0 r => exact ih (es := putD es k0 _) (vs := putK vs k0 _) (q.put k0 h0) r
/-- an object that the walk does not speak of -/
theorem R0.add (h : R0 Y G mu c H) {q : Addr} (hq : H q = none) (o : HO) : R0 Y G mu c (upd H q o) := by
  refine ⟨fun b x e => ?_, fun a m e => ?_, ?_, h.ext.laid hq o⟩
  · rw [upd_ne (ne_of_none (h.sub b x e) hq)]; exact h.sub b x e
  · obtain ⟨h1, x, h2, h3⟩ := h.mus a m e
    exact ⟨h1, x, by rw [upd_ne (ne_of_none h2 hq)]; exact h2, h3⟩
  · obtain ⟨x, h1, h2, h3, h4⟩ := h.pen
    exact ⟨x, by rw [upd_ne (ne_of_none h1 hq)]; exact h1, h2, h3, h4⟩
/-- .. is taken over as it then is -/
theorem R0.take (h : R0 Y G mu c H) {q : Addr} (hG : G q = none) (hm : mu q = none) (hp : q ≠ Y.p) (ho : ∀ o, H q = some o → plainO o) (o : HO) (hpo : plainO o := by first | exact plain_lst | exact plain_tup | exact plain_dK) : R0 Y (upd G q o) mu c (upd H q o) := by
  have sG : Same G (upd G q o) := same_upd hG
  refine ⟨fun b x e => ?_, fun a m e => ?_, ?_, (h.ext.grow ho o hpo hG).turn ho fun b x hb e => by rw [upd_ne hb]; exact e⟩
  · by_cases hb : b = q
    · subst hb; rw [upd_same] at e ⊢; exact e
    · rw [upd_ne hb] at e ⊢; exact h.sub b x e
  · obtain ⟨h1, x, h2, h3⟩ := h.mus a m e
    have hn : a ≠ q := fun z => by subst z; rw [hm] at e; cases e
    exact ⟨by rw [upd_ne hn]; exact h1, x, by rw [upd_ne hn]; exact h2, h3.mono sG⟩
  · obtain ⟨x, h1, h2, h3, h4⟩ := h.pen
    exact ⟨x, by rw [upd_ne hp.symm]; exact h1, Y.mono _ _ _ _ sG h2, by rw [upd_ne hp.symm]; exact h3, h4⟩
/-- .. changes and stays untold -/
theorem R0.turn (h : R0 Y G mu c H) {q : Addr} (hG : G q = none) (hm : mu q = none) (hp : q ≠ Y.p) (ho : ∀ o, H q = some o → plainO o) (o : HO) : R0 Y G mu c (upd H q o) := by
  refine ⟨fun b x e => ?_, fun a m e => ?_, ?_, h.ext.turn ho fun b x hb e => by rw [upd_ne hb]; exact e⟩
  · have hb : b ≠ q := fun z => by subst z; rw [hG] at e; cases e
    rw [upd_ne hb]; exact h.sub b x e
  · obtain ⟨h1, x, h2, h3⟩ := h.mus a m e
    have hn : a ≠ q := fun z => by subst z; rw [hm] at e; cases e
    exact ⟨h1, x, by rw [upd_ne hn]; exact h2, h3⟩
  · obtain ⟨x, h1, h2, h3, h4⟩ := h.pen
    exact ⟨x, by rw [upd_ne hp.symm]; exact h1, h2, h3, h4⟩
theorem R0.fresh (h : R0 Y G mu c H) {q : Addr} (hq : H q = none) : G q = none ∧ mu q = none ∧ q ≠ Y.p := by
  refine ⟨h.sub.free hq, ?_, fun z => ?_⟩
  · cases e : mu q with
    | none => rfl
    | some m =>
      obtain ⟨_, x, h2, _⟩ := h.mus q m e
      rw [hq] at h2; cases h2
  · subst z
    obtain ⟨x, h1, _⟩ := h.pen
    rw [hq] at h1; cases h1
/-- the pairs of a display -/
abbrev MP := List (ME × ME)
def pairsGo : MP → S → (List (D × D) → S → Prop) → PXT → Prop
  | [], st, P, _ => P [] st
  | (mk, mv) :: r, st, P, PX => mk st (fun k s1 => mv s1 (fun v s2 => pairsGo r s2 (fun ps s3 => P ((k, v) :: ps) s3) PX) PX) PX
def keysOf : List (D × D) → Option (List (Key × D))
  | [] => some []
  | (k, v) :: r => k.key.bind fun k => (keysOf r).map ((k, v) :: ·)
def mDisp (ms : MP) : ME := fun st P PX => pairsGo ms st (fun ps s1 => ∃ es, keysOf ps = some es ∧ es.length ≤ 15 ∧ P (.dct (mergeD [] es)) s1) PX
inductive DPs (X : Cx) (Y : Yc) (W : WX) : List (Option Expr) → List Expr → MP → Prop
  | nil : DPs X Y W [] [] []
  | cons {k v : Expr} {ks : List (Option Expr)} {vs : List Expr} {mk mv : ME} {r : MP} (hk : DE X Y W k mk) (hv : DE X Y W v mv) (hr : DPs X Y W ks vs r) : DPs X Y W (some k :: ks) (v :: vs) ((mk, mv) :: r)
def trsOf (Y : Yc) (W : WX) (ms : MP) : List (TE × TE) := ms.map fun p => (TEof Y W p.1, TEof Y W p.2)
theorem DPs.pps {ks : List (Option Expr)} {vs : List Expr} {ms : MP} (h : DPs X Y W ks vs ms) : PPs X pos ks vs (trsOf Y W ms) := by
  induction h with
  | nil => exact pps_nil
  | cons hk hv _ ih => exact pps_cons hk hv ih
inductive RepP (Y : Yc) (G : Hp) : List (D × D) → List (V × V) → Prop
  | nil : RepP Y G [] []
  | cons {k v : D} {x y : V} {r : List (D × D)} {s : List (V × V)} (hk : Rep Y G k x) (hv : Rep Y G v y) (hr : RepP Y G r s) : RepP Y G ((k, v) :: r) ((x, y) :: s)
theorem RepP.keys : ∀ {ps : List (D × D)} {qs : List (V × V)} {es : List (Key × D)}, RepP Y G ps qs → keysOf ps = some es → ∃ kvs, qs = kvs.map (fun kv => (kV kv.1, kv.2)) ∧ Repk Y G es kvs := by
  intro ps qs es h
  induction h generalizing es with
  | nil => intro e; cases e; exact ⟨[], rfl, .nil⟩
  | @cons k v x y r s hk hv hr ih =>
    intro e
    cases e1 : k.key with
    | none => simp [keysOf, e1] at e
    | some k0 =>
      cases e2 : keysOf r with
      | none => simp [keysOf, e1, e2] at e
      | some es0 =>
        simp [keysOf, e1, e2] at e
        subst e
        obtain ⟨kvs, rfl, q⟩ := ih e2
        have e3 := hk.key e1
        subst e3
        exact ⟨(k0, y) :: kvs, rfl, .cons k0 hv q⟩
theorem pairs_ok {σ : St} : ∀ {ms : MP} {G : Hp} {st : S} {H : Hp} {P : List (D × D) → S → Prop} {PX : PXT} {Q : List (V × V) → Hp → Prop}, R Y G st σ H → pairsGo ms st P PX → XPost Y W G st σ H PX →
    (∀ ps st' qs G' H', P ps st' → Same G G' → Frm Y G st.mu H G' st'.mu H' → R Y G' st' σ H' → RepP Y G' ps qs → Q qs H') → tPairs (trsOf Y W ms) σ H Q
  | [], G, st, H, P, PX, Q, r, h, xp, k => k [] st [] G H h (Same.refl G) .refl r .nil
  | (mk, mv) :: ms, G, st, H, P, PX, Q, r, h, xp, k =>
    ⟨G, st, _, PX, r, h, xp, fun d s1 v G1 H1 h1 g1 f1 r1 q1 => ⟨G1, s1, _, PX, r1, h1, xp.on g1 f1, fun e s2 w G2 H2 h2 g2 f2 r2 q2 =>
      pairs_ok r2 h2 (xp.on (g1.trans g2) (f1.trans f2)) fun ps st' qs G' H' h3 g3 f3 r3 q3 =>
        k _ st' _ G' H' h3 ((g1.trans g2).trans g3) ((f1.trans f2).trans f3) r3 (.cons ((q1.mono g2).mono g3) (q2.mono g3) q3)⟩⟩
theorem de_disp {ks : List (Option Expr)} {vs : List Expr} {ms : MP} (h : DPs X Y W ks vs ms) (hall : ks.all (·.isSome) = true := by rfl) (hl : ks.length = vs.length := by rfl) (h0 : ks ≠ [] := by exact List.cons_ne_nil _ _) (h15 : ks.length ≤ 15 := by decide) : DE X Y W (.Dict ks vs pos) (mDisp ms) :=
  peImp (pe_disp h.pps hall hl h0 h15) fun σ H Q ⟨G, st, P, PX, rr, hm, xp, k⟩ p hp => by
    have r1 : R Y G st σ (upd H p (.dK [])) := ⟨rr.h.add hp _, rr.s⟩
    obtain ⟨n1, n2, n3⟩ := rr.h.fresh hp
    refine pairs_ok r1 hm (xp.on (Same.refl G) (.add hp)) fun ps st' qs G' H' ⟨es, he, hlen, hP⟩ g f r q => ?_
    obtain ⟨e1, e2, e3⟩ := f p _ upd_same n1 n2 ⟨n3, frm_dK⟩
    obtain ⟨kvs, rfl, qk⟩ := q.keys he
    have hlk : ∀ {es : List (Key × D)} {kvs : List (Key × V)}, Repk Y G' es kvs → kvs.length = es.length := by
      intro es
      induction es with
      | nil => intro kvs q; cases q; rfl
      | cons p es ih => intro kvs q; cases q with | cons k0 h0 r => rw [List.length_cons, List.length_cons, ih r]
    refine ⟨e1, kvs, rfl, by rw [hlk qk]; exact hlen, k _ st' _ _ _ hP (g.trans (same_upd e2)) (fun a o h1 h2 h3 h4 => ?_) ⟨r.h.take e2 e3 n3 (fun o z => by rw [e1] at z; cases z; exact plain_dK) _, r.s.mono (same_upd e2)⟩ (.dct upd_same ((Repk.merge .nil qk).mono (same_upd e2)))⟩
    have n := ne_of_none h1 hp
    obtain ⟨f1, f2, f3⟩ := f a o (by rw [upd_ne n]; exact h1) h2 h3 h4
    exact ⟨by rw [upd_ne n]; exact f1, by rw [upd_ne n]; exact f2, f3⟩
/-- {} -/
theorem de_dct0 : DE X Y W (.Dict [] [] pos) (mC (.dct [])) :=
  peImp pe_dnewK fun σ H Q ⟨G, st, P, PX, rr, hm, xp, k⟩ p hp => k _ _ _ _ _ hm (rr.h.new hp (.dK [])).2.1 (.new hp) (rr.new hp _) (.dct upd_same .nil)
/-! ### isinstance of built-in classes -/
def D.ty : D → Option String
  | .non => some "NoneType"
  | .bl _ => some "bool"
  | .int _ => some "int"
  | .str _ => some "str"
  | .tup _ => some "tuple"
  | .lst _ => some "list"
  | .dct _ => some "dict"
  | .pen => none
  | .ref _ => none
def D.isTy (T : String) (d : D) : Bool := match d.ty with
  | some t => t == T || (t == "bool" && T == "int")
  | none => false
theorem Rep.tyx {d : D} {v : V} {t : String} (q : Rep Y G d v) (h : d.ty = some t) (s : Same G H) : TyX Y.K H v (.type t) := by
  cases q <;> cases h
  · exact .base .non
  · exact .base (.bl _)
  · exact .base (.int _)
  · exact .base (.str _)
  · rename_i h1 _
    rcases h1 with (h1 | ⟨o, h1⟩) | ⟨o, its, n, hk, hc, _⟩
    · exact .base (.tup (s _ _ h1))
    · exact .fTuple (s _ _ h1)
    · exact .kTuple hk hc
  · rename_i h1 _
    exact .base (.lst (s _ _ h1))
  · rename_i h1 _
    exact .base (.dK (s _ _ h1))
/-- the built-in classes that isinstance is asked of -/
def kits (T : String) : Bool := ["NoneType", "bool", "int", "str", "tuple", "list", "dict"].all fun t => decide (kitB t T = some (t == T || (t == "bool" && T == "int")))
theorem kits_ok {T : String} (h : kits T = true) {d : D} {t : String} (hd : d.ty = some t) : kitB t T = some (d.isTy T) := by
  have h' := List.all_eq_true.mp h
  unfold D.isTy
  rw [hd]
  have hm : t ∈ ["NoneType", "bool", "int", "str", "tuple", "list", "dict"] := by cases d <;> cases hd <;> simp
  exact of_decide_eq_true (h' t hm)
theorem kits_str : kits "str" = true := by decide +kernel
theorem kits_tuple : kits "tuple" = true := by decide +kernel
theorem kits_list : kits "list" = true := by decide +kernel
theorem kits_dict : kits "dict" = true := by decide +kernel
theorem kits_int : kits "int" = true := by decide +kernel
theorem kits_bool : kits "bool" = true := by decide +kernel
theorem bb_str : bootBuiltins "str" = some (.type "str") := by decide +kernel
theorem bb_tuple : bootBuiltins "tuple" = some (.type "tuple") := by decide +kernel
theorem bb_list : bootBuiltins "list" = some (.type "list") := by decide +kernel
theorem bb_dict : bootBuiltins "dict" = some (.type "dict") := by decide +kernel
theorem bb_int : bootBuiltins "int" = some (.type "int") := by decide +kernel
theorem bb_bool : bootBuiltins "bool" = some (.type "bool") := by decide +kernel
theorem bb_isi : bootBuiltins "isinstance" = some (.builtin "isinstance") := by decide +kernel
theorem bb_abs : bootBuiltins "abs" = some (.builtin "abs") := by decide +kernel
theorem bb_max : bootBuiltins "max" = some (.builtin "max") := by decide +kernel
theorem bb_min : bootBuiltins "min" = some (.builtin "min") := by decide +kernel
theorem bb_all : bootBuiltins "all" = some (.builtin "all") := by decide +kernel
theorem bb_any : bootBuiltins "any" = some (.builtin "any") := by decide +kernel
theorem bb_sum : bootBuiltins "sum" = some (.builtin "sum") := by decide +kernel
def mIsi (T : String) (m : ME) : ME := fun st P PX => m st (fun d s1 => d.ty.isSome = true ∧ P (.bl (d.isTy T)) s1) PX
theorem de_isi {x : Str} {p p2 : Pos} {T : String} (hY : Y.K = X.K) (hg : Gl X "isinstance") (hm : X.mg "isinstance" = none) (he : DE X Y W e me) (hgT : Gl X x) (hmT : X.mg x = none) (hbT : bootBuiltins x = some (.type T)) (hk : kits T = true)
    (hn : x ≠ "__name__" := by decide) (hdb : (x == ("__debug__" : Str)) = false := by decide) (hb : bootBuiltins "isinstance" = some (.builtin "isinstance") := bb_isi)
    (h1 : starEach [e, .Name x p2] X.env = (false, eval e X.env) :: starEach [.Name x p2] X.env := by rfl) (h2 : starEach [.Name x p2] X.env = (false, eval (.Name x p2) X.env) :: starEach [] X.env := by rfl)
    (hpl : (backTo pos (starEach [.Name x p2] X.env)).any (·.1) = false := by rfl) : DE X Y W (.Call (.Name "isinstance" p) [e, .Name x p2] [] pos) (mIsi T me) :=
  peImp (pe_callB call_isi hg hm hb (pa_cons he (pa_cons (pe_bltn (v := .ty T) hgT hmT hbT rfl hn hdb) pa_nil h2) h1) (by decide) (by decide) h1 hpl) fun σ H Q ⟨G, st, P, PX, rr, hm, xp, k⟩ =>
    ⟨G, st, fun d s1 => d.ty.isSome = true ∧ P (.bl (d.isTy T)) s1, PX, rr, hm, xp, fun d s1 v G1 H1 ⟨h1, hp⟩ g f r q => by
      cases et : d.ty with
      | none => rw [et] at h1; cases h1
      | some t => exact ⟨v, .ty T, .type t, .type T, d.isTy T, rfl, .ty T, hY ▸ q.tyx et r.h.sub, kit_ty (kits_ok hk et), k _ s1 _ G1 H1 hp g f r (.bl _)⟩⟩
/-! ### methods of texts -/
def strsOf : List D → Option (List Str)
  | [] => some []
  | .str i :: r => (strsOf r).map (i :: ·)
  | _ => none
theorem strsOf_reps : ∀ {ds : List D} {vs : List V} {ns : List Str}, strsOf ds = some ns → Reps Y G ds vs → vs = ns.map V.str
  | [], _, _, h, q => by
    cases h
    cases q
    rfl
  | d :: ds, _, ns, h, q => by
    cases q with
    | cons q1 q2 =>
      cases d <;> first | cases h | skip
      rename_i i
      cases e : strsOf ds with
      | none => simp [strsOf, e] at h
      | some ms =>
        simp [strsOf, e] at h
        subst h
        cases q1
        rw [strsOf_reps e q2, List.map_cons]
def joinD : O2 := fun _ d e P => match d, e with
  | .str a, .lst b => ∃ ys, strsOf b = some ys ∧ (ys.map (·.length)).sum + ys.length * a.length ≤ LINE ∧ P (.str (Txt.join a ys))
  | .str a, .tup b => ∃ ys, strsOf b = some ys ∧ (ys.map (·.length)).sum + ys.length * a.length ≤ LINE ∧ P (.str (Txt.join a ys))
  | _, _ => False
/-- s.m(e), s a text -/
def mM1 (g : O2) (m n : ME) : ME := fun st P PX => m st (fun d s1 => (∃ z, d = .str z) ∧ n s1 (fun e s2 => g s2.mu d e fun r => P r s2) PX) PX
theorem mM1_ok {g : O2} {r : V → List V → Hp → VK → Prop} (hr : ∀ x y H Q, l2 Y g x y H Q → r x [y] H Q) : ∀ σ H Q, TEof Y W (mM1 g ma mb) σ H Q → tM1 r (TEof Y W ma) (TEof Y W mb) σ H Q := fun σ H Q ⟨G, st, P, PX, rr, hm, xp, k⟩ =>
  ⟨G, st, fun d s1 => (∃ z, d = .str z) ∧ mb s1 (fun e s2 => g s2.mu d e fun r => P r s2) PX, PX, rr, hm, xp, fun d s1 v G1 H1 ⟨⟨z, ez⟩, hm1⟩ g1 f1 r1 q1 => by
    subst ez
    cases q1
    exact ⟨⟨_, rfl⟩, G1, s1, _, PX, r1, hm1, xp.on g1 f1, fun e s2 w G2 H2 hm2 g2 f2 r2 q2 =>
      hr _ _ _ _ ⟨G2, s2.mu, s2.c, _, e, _, r2.h, .str z, q2, hm2, fun z v3 G3 H3 hp g3 h3 r3 q3 =>
        k z s2 v3 G3 H3 hp ((g1.trans g2).trans g3) ((f1.trans f2).trans h3) ⟨r3, r2.s.mono g3⟩ q3⟩⟩⟩
theorem de_join {apos : Pos} (hY : Y.K = X.K) (ho : DE X Y W a ma) (he : DE X Y W e me) (hs : starEach [e] X.env = [(false, eval e X.env)] := by rfl) (hbase : attributeBase a "join" X.env (eval a X.env) = eval a X.env := by rfl) (hline : (apos.endLine == pos.line) = true := by rfl) :
    DE X Y W (.Call (.Attribute a "join" apos) [e] [] pos) (mM1 joinD ma me) :=
  peImp (pe_join ho he hs hbase hline) (mM1_ok (g := joinD) fun x y H Q => fun ⟨G, mu, c, d, e, P, r0, qd, qe, h, k⟩ => by
    unfold joinD at h
    split at h
    · obtain ⟨ys, h1, h2, h3⟩ := h
      cases qd
      obtain ⟨a1, xs1, rfl, h4, q1⟩ := qe.lstI
      have e1 := strsOf_reps h1 q1
      subst e1
      exact ⟨_, _, ys, rfl, rfl, .inl (SqL.of (r0.sub _ _ h4)), h2, k.here r0 h3 (.str _)⟩
    · obtain ⟨ys, h1, h2, h3⟩ := h
      cases qd
      obtain ⟨a1, xs1, rfl, h4, q1⟩ := qe.tupI
      have e1 := strsOf_reps h1 q1
      subst e1
      exact ⟨_, _, ys, rfl, rfl, .inr (sqT_mono r0.sub (hY ▸ h4)), h2, k.here r0 h3 (.str _)⟩
    · exact h.elim)
def upperD : O1 := fun _ d P => match d with
  | .str a => a.length ≤ 5592405 ∧ P (.str (Txt.upper a))
  | _ => False
theorem de_upper {apos : Pos} (ho : DE X Y W a ma) (hbase : attributeBase a "upper" X.env (eval a X.env) = eval a X.env := by rfl) (hline : (apos.endLine == pos.line) = true := by rfl) :
    DE X Y W (.Call (.Attribute a "upper" apos) [] [] pos) (mUn upperD ma) :=
  peImp (pe_upper ho hbase hline) fun σ H Q ⟨G, st, P, PX, rr, hm, xp, k⟩ =>
    ⟨G, st, _, PX, rr, hm, xp, fun d s1 v G1 H1 hm1 g1 f1 r1 q1 => by
      cases d <;> first | exact False.elim hm1 | skip
      cases q1
      exact ⟨⟨_, rfl⟩, _, rfl, rfl, hm1.1, k _ s1 _ G1 H1 hm1.2 g1 f1 r1 (.str _)⟩⟩
/-! ### a chain of two comparisons -/
theorem dt_chain {op op' : CmpOp} {g g' : O2} {cc : Expr} (ho : OpD X Y (compareOp op) g) (ho' : OpD X Y (compareOp op') g') (ha : DE X Y W a ma) (hb : DE X Y W b mb) (hc : DE X Y W cc mc)
    (hm : lastMarks [op, op'] [b, cc] = false := by with_unfolding_all rfl) : DT X Y W (.Compare a [op, op'] [b, cc] pos) (mChain g g' ma mb mc) :=
  ptImp (pt_chain ho ho' ha hb hc hm) fun σ H Q ⟨G, st, P, PX, rr, h, xp, k⟩ =>
    ⟨G, st, _, PX, rr, h, xp, fun d s1 v G1 H1 h1 g1 f1 r1 q1 => ⟨G1, s1, _, PX, r1, h1, xp.on g1 f1, fun e s2 w G2 H2 h2 g2 f2 r2 q2 =>
      ⟨G2, s2.mu, s2.c, d, e, fun z => ∃ k, z = .bl k ∧ if k = true then mc s2 (fun w s3 => g' s3.mu e w fun z' => ∃ k', z' = .bl k' ∧ P k' s3) PX else P false s2, r2.h, q1.mono g2, q2, h2, fun z v3 G3 H3 ⟨kk, ez, hp⟩ g3 f3 r3 q3 => by
        subst ez
        cases q3
        refine ⟨kk, rfl, ?_⟩
        cases kk with
        | false => exact ⟨false, rfl, k false s2 G3 H3 hp ((g1.trans g2).trans g3) ((f1.trans f2).trans f3) ⟨r3, r2.s.mono g3⟩⟩
        | true =>
          refine ⟨G3, s2, fun w s3 => g' s3.mu e w fun z' => ∃ k', z' = .bl k' ∧ P k' s3, PX, ⟨r3, r2.s.mono g3⟩, hp, xp.on ((g1.trans g2).trans g3) ((f1.trans f2).trans f3), fun w4 s4 v4 G4 H4 h4 g4 f4 r4 q4 => ?_⟩
          refine ⟨G4, s4.mu, s4.c, e, w4, fun z' => ∃ k', z' = .bl k' ∧ P k' s4, r4.h, (q2.mono g3).mono g4, q4, h4, fun z5 v5 G5 H5 ⟨k5, e5, hp5⟩ g5 f5 r5 q5 => ?_⟩
          subst e5
          cases q5
          exact ⟨k5, rfl, k k5 s4 G5 H5 hp5 (((g1.trans g2).trans g3).trans (g4.trans g5)) (((f1.trans f2).trans f3).trans (f4.trans f5)) ⟨r5, r4.s.mono g5⟩⟩⟩⟩⟩
end
end DL
namespace DL
open PySem L2
/-- the iterator J yields the things ds, wherever G stands -/
structure Wk (Y : Yc) (G : Hp) (J : It) (ds : List D) : Prop where
  go : ∀ i H, i < ds.length → Same G H → J.go i H
  stop : ∀ H, Same G H → J.stop ds.length H
  yld : ∀ i H x H' G' mu c, i < ds.length → Same G G' → R0 Y G' mu c H → J.yld i H x H' → ∃ d G'', ds[i]? = some d ∧ Same G' G'' ∧ Frm Y G' mu H G'' mu H' ∧ R0 Y G'' mu c H' ∧ Rep Y G'' d x
theorem Wk.mono {Y : Yc} {G G' : Hp} {J : It} {ds : List D} (w : Wk Y G J ds) (s : Same G G') : Wk Y G' J ds :=
  ⟨fun i H h1 h2 => w.go i H h1 (s.trans h2), fun H h => w.stop H (s.trans h), fun i H x H' G1 mu c h1 h2 h3 h4 => w.yld i H x H' G1 mu c h1 (s.trans h2) h3 h4⟩
def TIof (Y : Yc) (W : WX) (m : MA) : TI := fun σ H Rr => ∃ G st P PX, R Y G st σ H ∧ m st P PX ∧ XPost Y W G st σ H PX ∧
  ∀ ds st' G' H' J, P ds st' → Same G G' → Frm Y G st.mu H G' st'.mu H' → R Y G' st' σ H' → Wk Y G' J ds → Rr J H'
abbrev DI (X : Cx) (Y : Yc) (W : WX) (tg e : Expr) (m : MA) : Prop := PI X tg e (TIof Y W m)
theorem piImp {X : Cx} {tg e : Expr} {t t' : TI} (h : PI X tg e t) (i : ∀ σ H Q, t' σ H Q → t σ H Q) : PI X tg e t' := ⟨fun pins s σ H Q I q => h.run pins s σ H Q I (i σ H Q q)⟩
section
variable {X : Cx} {Y : Yc} {W : WX} {G : Hp} {mu : Mu} {c : Nat} {H : Hp} {a b e tg : Expr} {ma mb mc me : ME} {pos : Pos} {es : List Expr} {mas mi : MA}
theorem wk_lst {a : Addr} {vs : List V} {ds : List D} (h : G a = some (.lst vs)) (q : Reps Y G ds vs) (hK : Y.K = X.K) : Wk Y G (Itl X.K a) ds where
  go := fun i H hi s => by
    obtain ⟨v, e, _⟩ := q.get (List.getElem?_eq_getElem hi)
    exact ⟨vs, v, SqL.of (s _ _ h), e⟩
  stop := fun H s => ⟨vs, SqL.of (s _ _ h), by rw [q.length]; exact Nat.le_refl _⟩
  yld := fun i H x H' G' mu c hi s r ⟨e1, e2⟩ => by
    subst e1
    obtain ⟨v, e, qv⟩ := q.get (List.getElem?_eq_getElem hi)
    have e3 := e2 vs (SqL.of (r.sub _ _ (s _ _ h)))
    rw [e] at e3
    cases e3
    exact ⟨_, G', List.getElem?_eq_getElem hi, Same.refl _, .refl, r, qv.mono s⟩
theorem wk_tup {a : Addr} {vs : List V} {ds : List D} (h : SqT Y.K G a vs) (q : Reps Y G ds vs) (hK : Y.K = X.K) : Wk Y G (Itt X.K a) ds where
  go := fun i H hi s => by
    obtain ⟨v, e, _⟩ := q.get (List.getElem?_eq_getElem hi)
    exact ⟨vs, v, sqT_mono s (hK ▸ h), e⟩
  stop := fun H s => ⟨vs, sqT_mono s (hK ▸ h), by rw [q.length]; exact Nat.le_refl _⟩
  yld := fun i H x H' G' mu c hi s r ⟨e1, e2⟩ => by
    subst e1
    obtain ⟨v, e, qv⟩ := q.get (List.getElem?_eq_getElem hi)
    have e3 := e2 vs (sqT_mono r.sub (sqT_mono s (hK ▸ h)))
    rw [e] at e3
    cases e3
    exact ⟨_, G', List.getElem?_eq_getElem hi, Same.refl _, .refl, r, qv.mono s⟩
/-- the signs of a text -/
def signs (z : Str) : List D := z.cps.toList.map fun c => D.str ⟨#[c]⟩
theorem wk_str {z : Str} : Wk Y G (Its z) (signs z) where
  go := fun i H hi s => by simpa [signs, Its] using hi
  stop := fun H s => by simp [signs, Its]
  yld := fun i H x H' G' mu c hi s r ⟨e1, k, e2, e3⟩ => by
    subst e1
    subst e3
    refine ⟨.str ⟨#[k]⟩, G', ?_, Same.refl _, .refl, r, .str _⟩
    unfold signs
    rw [List.getElem?_map]
    have : z.cps.toList[i]? = some k := by simpa using e2
    rw [this]
    rfl
/-- lo, lo + 1, .. -/
def rngD (lo : Int) (n : Nat) : List D := (List.range n).map fun i => D.int (lo + (i : Nat))
theorem wk_rng {lo : Int} {n : Nat} : Wk Y G (Itr lo n) (rngD lo n) where
  go := fun i H hi s => by simpa [rngD, Itr] using hi
  stop := fun H s => by simp [rngD, Itr]
  yld := fun i H x H' G' mu c hi s r ⟨e1, e2⟩ => by
    subst e1
    subst e2
    have hi' : i < n := by simpa [rngD] using hi
    refine ⟨.int (lo + (i : Nat)), G', ?_, Same.refl _, .refl, r, .int _⟩
    unfold rngD
    rw [List.getElem?_map, List.getElem?_range hi']
    rfl
theorem pi_any {te : TE} (he : PE X e te) : PI X tg e (fun σ H Rr => te σ H fun x H1 => (∃ a, x = .ref a ∧ (∃ xs, SqL X.K H1 a xs) ∧ Rr (Itl X.K a) H1) ∨ (∃ a, x = .ref a ∧ (∃ xs, SqT X.K H1 a xs) ∧ Rr (Itt X.K a) H1) ∨ (∃ z, x = .str z ∧ Rr (Its z) H1)) := by
  refine ⟨fun pins s σ H Rr I h => ?_⟩
  refine thn (he.run pins s σ H _ I h) fun v s1 ⟨x, H1, I1, r1, q1⟩ => ?_
  rcases q1 with ⟨a, ea, ⟨xs, hq⟩, q⟩ | ⟨a, ea, ⟨xs, hq⟩, q⟩ | ⟨z, ez, q⟩
  · subst ea
    cases r1
    obtain ⟨its, rv, pl, hz⟩ := I1.list hq
    exact wpAny_pyIter_list pl.isList (pi_one (tk := s1.toks) I1 _ (turn_list a _) ⟨_, Heap.get?_push_size _ rfl, rfl, rfl⟩ q)
  · subst ea
    cases r1
    obtain ⟨its, rv, pl, hz⟩ := I1.tuple hq
    exact wpAny_pyIter_tuple (show s1.heap.IsTuple a its.toArray from pl) (pi_one (tk := s1.toks) I1 _ (turn_tuple a _) ⟨_, Heap.get?_push_size _ rfl, rfl, rfl⟩ q)
  · subst ez
    obtain ⟨t, rfl⟩ := r1
    cases ha : z.cps.all (· < 128)
    · exact wpAny_pyIter_wide ha (pi_one (tk := s1.toks) I1 _ (turn_str _ z t "str_iterator" (.inr rfl)) ⟨_, Heap.get?_push_size _ rfl, rfl, rfl⟩ q)
    · exact wpAny_pyIter_ascii ha (pi_one (tk := s1.toks) I1 _ (turn_str _ z t "str_ascii_iterator" (.inl rfl)) ⟨_, Heap.get?_push_size _ rfl, rfl, rfl⟩ q)
/-- the things of a list, a tuple, a text -/
def itemsD (d : D) (P : List D → Prop) : Prop := match d with
  | .lst ds => P ds
  | .tup ds => P ds
  | .str z => P (signs z)
  | _ => False
def mItems (m : ME) : MA := fun st P PX => m st (fun d s1 => itemsD d fun ds => P ds s1) PX
theorem di_any (hY : Y.K = X.K) (he : DE X Y W e me) : DI X Y W tg e (mItems me) :=
  piImp (pi_any he) fun σ H Rr ⟨G, st, P, PX, rr, hm, xp, k⟩ => ⟨G, st, fun d s1 => itemsD d fun ds => P ds s1, PX, rr, hm, xp, fun d s1 v G1 H1 h1 g1 f1 r1 q1 => by
    cases d <;> first | exact False.elim h1 | skip
    · cases q1
      exact .inr (.inr ⟨_, rfl, k _ s1 G1 H1 _ h1 g1 f1 r1 wk_str⟩)
    · obtain ⟨a1, xs1, rfl, h2, q1⟩ := q1.tupI
      exact .inr (.inl ⟨_, rfl, ⟨_, sqT_mono r1.h.sub (hY ▸ h2)⟩, k _ s1 G1 H1 _ h1 g1 f1 r1 (wk_tup h2 q1 hY)⟩)
    · obtain ⟨a1, xs1, rfl, h2, q1⟩ := q1.lstI
      exact .inl ⟨_, rfl, ⟨_, SqL.of (r1.h.sub _ _ h2)⟩, k _ s1 G1 H1 _ h1 g1 f1 r1 (wk_lst h2 q1 hY)⟩⟩
def mRng1 (n : MA) : MA := fun st P PX => n st (fun ds s1 => ∃ j : Int, ds = [.int j] ∧ -(2 ^ 62) ≤ j ∧ j < 2 ^ 62 ∧ P (rngD 0 j.toNat) s1) PX
theorem di_rng1 {p : Pos} (hg : Gl X "range") (hm : X.mg "range" = none) (ha : DA X Y W [a] mas) (hs : starEach [a] X.env = [(false, eval a X.env)] := by rfl) : DI X Y W tg (.Call (.Name "range" p) [a] [] pos) (mRng1 mas) :=
  piImp (pi_range1 hg hm ha hs) fun σ H Rr ⟨G, st, P, PX, rr, hm, xp, k⟩ => ⟨G, st, fun ds s1 => ∃ j : Int, ds = [.int j] ∧ -(2 ^ 62) ≤ j ∧ j < 2 ^ 62 ∧ P (rngD 0 j.toNat) s1, PX, rr, hm, xp, fun ds s1 vs G1 H1 ⟨j, e1, l1, l2, h1⟩ g1 f1 r1 q1 => by
    subst e1
    obtain ⟨v, rfl, qv⟩ := q1.one
    cases qv
    exact ⟨j, rfl, l1, l2, k _ s1 G1 H1 _ h1 g1 f1 r1 wk_rng⟩⟩
def mRng2 (n : MA) : MA := fun st P PX => n st (fun ds s1 => ∃ i j : Int, ds = [.int i, .int j] ∧ (-(2 ^ 62) ≤ i ∧ i < 2 ^ 62 ∧ -(2 ^ 62) ≤ j ∧ j < 2 ^ 62) ∧ P (rngD i (j - i).toNat) s1) PX
theorem di_rng2 {p : Pos} (hg : Gl X "range") (hm : X.mg "range" = none) (ha : DA X Y W [a, b] mas) (hs : starEach [a, b] X.env = [(false, eval a X.env), (false, eval b X.env)] := by rfl) (hs2 : starEach [b] X.env = [(false, eval b X.env)] := by rfl) :
    DI X Y W tg (.Call (.Name "range" p) [a, b] [] pos) (mRng2 mas) :=
  piImp (pi_range2 hg hm ha hs hs2) fun σ H Rr ⟨G, st, P, PX, rr, hm, xp, k⟩ => ⟨G, st, fun ds s1 => ∃ i j : Int, ds = [.int i, .int j] ∧ (-(2 ^ 62) ≤ i ∧ i < 2 ^ 62 ∧ -(2 ^ 62) ≤ j ∧ j < 2 ^ 62) ∧ P (rngD i (j - i).toNat) s1, PX, rr, hm, xp, fun ds s1 vs G1 H1 ⟨i, j, e1, l1, h1⟩ g1 f1 r1 q1 => by
    subst e1
    obtain ⟨v, w, rfl, qv, qw⟩ := q1.two
    cases qv; cases qw
    exact ⟨i, j, rfl, l1, k _ s1 G1 H1 _ h1 g1 f1 r1 wk_rng⟩⟩
/-! ### for -/
def forGo (g : MG) (body : MS) (E : DEnds) (PX : PXT) : List D → S → Prop
  | [], st => E.nx st
  | d :: ds, st => g d st fun s2 => body s2 { nx := fun s => forGo g body E PX ds s, ct := fun s => forGo g body E PX ds s, bk := E.nx, rt := E.rt } PX
def mFor (mi : MA) (g : MG) (body : MS) : MS := fun st E PX => mi st (fun ds s1 => forGo g body E PX ds s1) PX
theorem drop_one {α : Type} : ∀ {l : List α} {i : Nat} {x : α}, l[i]? = some x → l.drop i = x :: l.drop (i + 1)
  | [], i, x, h => by simp at h
  | y :: l, 0, x, h => by simp at h; subst h; rfl
  | y :: l, i + 1, x, h => drop_one (l := l) (i := i) (by simpa using h)
theorem ds_for {iter : Expr} {body : List Stmt} {g : MG} {ms : MS} (hp : PassesOwn (model X.prog X.w) X.A X.env X.xe) (hc : X.calm = true) (hi : DI X Y W tg iter mi) (hg : DG X Y tg g) (hb : DSs X Y W body ms)
    (hs : ∀ x, foldedSetIterable iter X.env x = pure x := by intro _; rfl) : DS X Y W (.For tg iter body [] pos) (mFor mi g ms) :=
  psImp (ps_for hp hc hi hg hb hs) fun D σ H ⟨G, st, E, PX, rr, hm, xp, k⟩ => ⟨G, st, fun ds s1 => forGo g ms E PX ds s1, PX, rr, hm, xp, fun ds s1 G1 H1 J h1 g1 f1 r1 wk => by
    refine ⟨fun i m σ H => m = ds.length - i ∧ i ≤ ds.length ∧ ∃ G' st', Same G1 G' ∧ Frm Y G1 s1.mu H1 G' st'.mu H ∧ R Y G' st' σ H ∧ forGo g ms E PX (ds.drop i) st', ⟨ds.length, by simp, Nat.zero_le _, G1, s1, Same.refl _, .refl, r1, by rw [List.drop_zero]; exact h1⟩, ?_⟩
    rintro i m σ2 H2 ⟨rfl, hi, G2, s2, g2, f2, r2, h2⟩
    have gg := g1.trans g2
    have ff := f1.trans f2
    by_cases hlt : i < ds.length
    · obtain ⟨d0, hd0⟩ : ∃ d, ds[i]? = some d := ⟨_, List.getElem?_eq_getElem hlt⟩
      refine .inr ⟨wk.go i H2 hlt (g2.trans r2.h.sub), fun σ' H' => ∃ G' st', Same G1 G' ∧ Frm Y G1 s1.mu H1 G' st'.mu H' ∧ R Y G' st' σ' H' ∧ forGo g ms E PX (ds.drop (i + 1)) st', fun σ' H' hn => ⟨ds.length - (i + 1), by omega, rfl, hlt, hn⟩, fun x H3 hy => ?_⟩
      obtain ⟨d, G3, hd, g3, f3, r3, q3⟩ := wk.yld i H2 x H3 G2 s2.mu s2.c hlt g2 r2.h hy
      rw [drop_one hd] at h2
      refine ⟨G3, s2, d, _, ⟨r3, r2.s.mono g3⟩, q3, h2, fun s4 σ4 G4 H4 h4 g4 f4 r4 => ?_⟩
      have gg4 := (gg.trans g3).trans g4
      have ff4 := (ff.trans f3).trans f4
      refine ⟨G4, s4, _, PX, r4, h4, xp.on gg4 ff4, ⟨fun s5 σ5 G5 H5 h5 g5 f5 r5 => ?_, fun d5 s5 v5 σ5 G5 H5 h5 g5 f5 r5 q5 => ?_, fun s5 σ5 G5 H5 h5 g5 f5 r5 => ?_, fun s5 σ5 G5 H5 h5 g5 f5 r5 => ?_⟩⟩
      · exact ⟨G5, s5, ((g2.trans g3).trans g4).trans g5, ((f2.trans f3).trans f4).trans f5, r5, h5⟩
      · exact k.rt d5 s5 v5 σ5 G5 H5 h5 (gg4.trans g5) (ff4.trans f5) r5 q5
      · exact k.nx s5 σ5 G5 H5 h5 (gg4.trans g5) (ff4.trans f5) r5
      · exact ⟨G5, s5, ((g2.trans g3).trans g4).trans g5, ((f2.trans f3).trans f4).trans f5, r5, h5⟩
    · have e : i = ds.length := by omega
      subst e
      rw [List.drop_length] at h2
      exact .inl ⟨wk.stop H2 (g2.trans r2.h.sub), k.nx s2 σ2 G2 H2 h2 gg ff r2⟩⟩
/-! ### while -/
def mWhile (t : MT) (body : MS) : MS := fun st E PX => ∃ I : Nat → S → Prop, (∃ m, I m st) ∧ ∀ m st, I m st → t st (fun b s1 => if b = true then body s1 { nx := fun s => ∃ m', m' < m ∧ I m' s, ct := fun s => ∃ m', m' < m ∧ I m' s, bk := E.nx, rt := E.rt } PX else E.nx s1) PX
theorem ds_while {cd : Expr} {body : List Stmt} {t : MT} {ms : MS} (hp : PassesOwn (model X.prog X.w) X.A X.env X.xe) (hc : DT X Y W cd t) (hb : DSs X Y W body ms) : DS X Y W (.While cd body [] pos) (mWhile t ms) :=
  psImp (ps_while hp hc hb) fun D σ H ⟨G, st, E, PX, rr, ⟨I, ⟨m0, i0⟩, step⟩, xp, k⟩ => by
    refine ⟨fun m σ' H' => ∃ G' st', Same G G' ∧ Frm Y G st.mu H G' st'.mu H' ∧ R Y G' st' σ' H' ∧ I m st', ⟨m0, G, st, Same.refl _, .refl, rr, i0⟩, ?_⟩
    rintro m σ1 H1 ⟨G1, s1, g1, f1, r1, i1⟩
    refine ⟨G1, s1, fun b s1 => if b = true then ms s1 { nx := fun s => ∃ m', m' < m ∧ I m' s, ct := fun s => ∃ m', m' < m ∧ I m' s, bk := E.nx, rt := E.rt } PX else E.nx s1, PX, r1, step m s1 i1, xp.on g1 f1, fun b s2 G2 H2 h2 g2 f2 r2 => ?_⟩
    cases b with
    | false =>
      rw [if_neg Bool.false_ne_true] at h2 ⊢
      exact k.nx s2 σ1 G2 H2 h2 (g1.trans g2) (f1.trans f2) r2
    | true =>
      rw [if_pos rfl] at h2 ⊢
      refine ⟨fun σ' H' => ∃ m', m' < m ∧ ∃ G' st', Same G G' ∧ Frm Y G st.mu H G' st'.mu H' ∧ R Y G' st' σ' H' ∧ I m' st', fun σ' H' hn => hn, G2, s2, _, PX, r2, h2, xp.on (g1.trans g2) (f1.trans f2), ⟨fun s5 σ5 G5 H5 ⟨m5, l5, i5⟩ g5 f5 r5 => ?_, fun d5 s5 v5 σ5 G5 H5 h5 g5 f5 r5 q5 => ?_, fun s5 σ5 G5 H5 h5 g5 f5 r5 => ?_, fun s5 σ5 G5 H5 ⟨m5, l5, i5⟩ g5 f5 r5 => ?_⟩⟩
      · exact ⟨m5, l5, G5, s5, (g1.trans g2).trans g5, (f1.trans f2).trans f5, r5, i5⟩
      · exact k.rt d5 s5 v5 σ5 G5 H5 h5 ((g1.trans g2).trans g5) ((f1.trans f2).trans f5) r5 q5
      · exact k.nx s5 σ5 G5 H5 h5 ((g1.trans g2).trans g5) ((f1.trans f2).trans f5) r5
      · exact ⟨m5, l5, G5, s5, (g1.trans g2).trans g5, (f1.trans f2).trans f5, r5, i5⟩
/-! ### list comprehensions -/
/-- the slots of the comprehension's own names forgotten -/
def wipeD (r : List (Option D)) : List Nat → List (Option D)
  | [] => r
  | v :: vs => (wipeD r vs).set v none
theorem Sl.none {r : List (Option D)} {σ : St} (h : Sl Y G r σ) (i : Nat) : Sl Y G (r.set i none) (σ.set i none) := by
  refine ⟨by simp [h.1], fun j e he => ?_⟩
  by_cases hj : i = j
  · subst hj
    by_cases hl : i < r.length
    · rw [List.getElem?_set_self hl] at he
      cases he
    · rw [List.getElem?_eq_none (by simpa using hl)] at he
      cases he
  · rw [List.getElem?_set_ne hj] at he ⊢
    exact h.2 j e he
theorem Sl.wipe {r : List (Option D)} {σ : St} (h : Sl Y G r σ) : ∀ vs : List Nat, Sl Y G (wipeD r vs) (L2.wipe σ vs)
  | [] => h
  | v :: vs => (h.wipe vs).none v
theorem wipe_len (σ : St) : ∀ vs : List Nat, (L2.wipe σ vs).length = σ.length
  | [] => rfl
  | v :: vs => by unfold L2.wipe; rw [List.length_set]; exact wipe_len σ vs
theorem wipe_get {σ : St} {j : Nat} : ∀ {vs : List Nat}, j ∈ vs → j < σ.length → (L2.wipe σ vs)[j]? = some none
  | v :: vs, h, l => by
    unfold L2.wipe
    by_cases e : v = j
    · subst e
      rw [List.getElem?_set_self (by rw [wipe_len]; exact l)]
    · rw [List.getElem?_set_ne e]
      exact wipe_get (by rcases List.mem_cons.mp h with z | z; exact absurd z.symm e; exact z) l
theorem set_same {α : Type} : ∀ {l : List α} {i : Nat} {x : α}, l[i]? = some x → l.set i x = l
  | [], _, _, h => by simp at h
  | y :: l, 0, x, h => by simp at h; subst h; rfl
  | y :: l, i + 1, x, h => by rw [List.set_cons_succ, set_same (l := l) (by simpa using h)]
theorem wipe_set {σ : St} {j : Nat} {v : Option V} : ∀ {vs : List Nat}, j ∈ vs → L2.wipe (σ.set j v) vs = L2.wipe σ vs
  | w :: vs, h => by
    unfold L2.wipe
    by_cases hm : j ∈ vs
    · rw [wipe_set hm]
    · have e : j = w := by rcases List.mem_cons.mp h with z | z; exact z; exact absurd z hm
      subst e
      have : ∀ us : List Nat, j ∉ us → L2.wipe (σ.set j v) us = (L2.wipe σ us).set j v := by
        intro us
        induction us with
        | nil => intro _; rfl
        | cons u us ih =>
          intro hn
          unfold L2.wipe
          rw [ih (fun z => hn (List.mem_cons_of_mem _ z)), List.set_comm _ _ (fun z => hn (by rw [z]; exact List.mem_cons_self))]
      rw [this vs hm, List.set_set]
theorem wipe_wipe {σ : St} : ∀ (us vs : List Nat), (∀ u ∈ us, u ∈ vs) → L2.wipe (L2.wipe σ us) vs = L2.wipe σ vs
  | [], _, _ => rfl
  | u :: us, vs, h => by
    show L2.wipe ((L2.wipe σ us).set u none) vs = _
    rw [wipe_set (h u List.mem_cons_self), wipe_wipe us vs fun x hx => h x (List.mem_cons_of_mem _ hx)]
def lcGo (body : D → S → (Option D → S → Prop) → Prop) : List D → List D → S → (List D → S → Prop) → Prop
  | [], acc, st, P => P acc st
  | d :: ds, acc, st, P => body d st fun o s1 => match o with
    | some y => acc.length < LINE ∧ lcGo body ds (acc ++ [y]) s1 P
    | none => lcGo body ds acc s1 P
abbrev W0 : WX := fun _ _ _ _ => False
abbrev PX0 : PXT := fun _ _ => False
/-- one turn: the item stored by g, the test, the element -/
def lcBody (r0 : List (Option D)) (vs : List Nat) (g : MG) (t : MT) (m : ME) : D → S → (Option D → S → Prop) → Prop := fun d st K =>
  g d { st with r := wipeD r0 vs } fun s2 => t s2 (fun b s3 => if b = true then m s3 (fun y s4 => K (some y) { st with mu := s4.mu, c := s4.c }) PX0 else K none { st with mu := s3.mu, c := s3.c }) PX0
def mLc (mi : MA) (vs : List Nat) (g : MG) (t : MT) (m : ME) : ME := fun st P PX => mi st (fun ds s1 => lcGo (lcBody s1.r vs g t m) ds [] s1 (fun ys s2 => P (.lst ys) s2)) PX
/-- a target within a comprehension: it stores at the slots vs alone -/
def GW (Y : Yc) (vs : List Nat) (g' : TG) (g : MG) : Prop := ∀ G st σ H d v P Q, R Y G st σ H → Rep Y G d v → g d st P →
  (∀ st' σ' G' H', P st' → Same G G' → Frm Y G st.mu H G' st'.mu H' → R Y G' st' σ' H' → L2.wipe σ' vs = L2.wipe σ vs → Q σ' H') → g' v σ H Q
def GWs (Y : Yc) (vs : List Nat) (g' : TGs) (g : MGs) : Prop := ∀ G st σ H d v P Q, R Y G st σ H → Reps Y G d v → g d st P →
  (∀ st' σ' G' H', P st' → Same G G' → Frm Y G st.mu H G' st'.mu H' → R Y G' st' σ' H' → L2.wipe σ' vs = L2.wipe σ vs → Q σ' H') → g' v σ H Q
theorem gw_name {vs : List Nat} {i : Nat} (hi : i ∈ vs) : GW Y vs (gName i) (gN i) := fun G st σ H d v P Q r q h k => k _ _ G H h (Same.refl G) .refl (r.put i q) (wipe_set hi)
theorem gws_nil {vs : List Nat} : GWs Y vs gNil gsN := fun G st σ H d v P Q r q ⟨e, h⟩ k => by
  subst e
  cases q
  exact ⟨rfl, k _ _ G H h (Same.refl G) .refl r rfl⟩
theorem gws_cons {vs : List Nat} {g' : TG} {g : MG} {gs' : TGs} {gs : MGs} (h1 : GW Y vs g' g) (h2 : GWs Y vs gs' gs) : GWs Y vs (gCons g' gs') (gsC g gs) := fun G st σ H d v P Q r q ⟨d1, dr, e, h⟩ k => by
  subst e
  cases q with
  | cons q1 q2 =>
    exact ⟨_, _, rfl, h1 G st σ H _ _ _ _ r q1 h fun s1 σ1 G1 H1 h3 g1 f1 r1 e1 => h2 G1 s1 σ1 H1 _ _ _ _ r1 (q2.mono g1) h3 fun s2 σ2 G2 H2 h4 g2 f2 r2 e2 => k s2 σ2 G2 H2 h4 (g1.trans g2) (f1.trans f2) r2 (e2.trans e1)⟩
theorem gw_tup {vs : List Nat} {n : Nat} {gs' : TGs} {gs : MGs} (hY : Y.K = X.K) (h : GWs Y vs gs' gs) : GW Y vs (gTup X.K n gs') (gT n gs) := fun G st σ H d v P Q r q ⟨ds, e, hl, hg⟩ k => by
  subst e
  obtain ⟨a1, xs1, rfl, h1, q1⟩ := q.tupI
  exact ⟨_, _, rfl, sqT_mono r.h.sub (hY ▸ h1), by rw [← q1.length]; exact hl, h G st σ H _ _ _ _ r q1 hg k⟩
/-- the tests of a comprehension -/
abbrev DTs (X : Cx) (Y : Yc) (W : WX) (ifs : List Expr) (m : MT) : Prop := PTs X ifs (TTof Y W m)
def mYes : MT := fun st P _ => P true st
theorem dts_nil : DTs X Y W [] mYes := by
  have h : PTs X [] tYes := pts_nil
  exact ⟨fun pins s σ H Q I q => h.run pins s σ H Q I (let ⟨G, st, P, PX, rr, hm, xp, k⟩ := q; k true st G H hm (Same.refl G) .refl rr)⟩
theorem dts_one {t : MT} (h : DT X Y W e t) : DTs X Y W [e] t := pts_one h
/-- the core: what the reading of a comprehension asks -/
theorem lc_ok {vs : List Nat} {g' : TG} {g : MG} {t : MT} {m : ME} {mi : MA} (hgw : GW Y vs g' g) : ∀ σ H Q, TEof Y W (mLc mi vs g t m) σ H Q → tLc (TIof Y W mi) g' (TTof Y W0 t) (TEof Y W0 m) vs σ H Q := fun σ H Q ⟨G, st, P, PX, rr, hm, xp, k⟩ =>
  ⟨G, st, _, PX, rr, hm, xp, fun ds s1 G1 H1 J h1 g1 f1 r1 wk A hA => by
    obtain ⟨n1, n2, n3⟩ := r1.h.fresh hA
    refine ⟨fun i m0 H => m0 = ds.length - i ∧ i ≤ ds.length ∧ ∃ G' mu' c' acc ys, Same G1 G' ∧ Frm Y G1 s1.mu H1 G' mu' H ∧ R0 Y G' mu' c' H ∧ (G' A = none ∧ mu' A = none) ∧ H A = some (.lst ys) ∧ Reps Y G' acc ys ∧ lcGo (lcBody s1.r vs g t m) (ds.drop i) acc { s1 with mu := mu', c := c' } (fun ys s2 => P (.lst ys) s2),
      ⟨ds.length, by simp, Nat.zero_le _, G1, s1.mu, s1.c, [], [], Same.refl _, .add hA, r1.h.add hA _, ⟨n1, n2⟩, upd_same, .nil, by rw [List.drop_zero]; exact h1⟩, ?_⟩
    rintro i m0 H2 ⟨rfl, hi, G2, mu2, c2, acc, ys, g2, f2, r2, ⟨a1, a2⟩, hH2, q2, h2⟩
    have sl2 : Sl Y G2 s1.r σ := r1.s.mono g2
    by_cases hlt : i < ds.length
    · refine .inr ⟨wk.go i H2 hlt (g2.trans r2.sub), fun H' => ∃ G' mu' c' acc ys, Same G1 G' ∧ Frm Y G1 s1.mu H1 G' mu' H' ∧ R0 Y G' mu' c' H' ∧ (G' A = none ∧ mu' A = none) ∧ H' A = some (.lst ys) ∧ Reps Y G' acc ys ∧ lcGo (lcBody s1.r vs g t m) (ds.drop (i + 1)) acc { s1 with mu := mu', c := c' } (fun ys s2 => P (.lst ys) s2),
        fun H' hn => ⟨ds.length - (i + 1), by omega, rfl, hlt, hn⟩, fun x H3 hy => ?_⟩
      obtain ⟨d, G3, hd, g3, f3, r3, q3⟩ := wk.yld i H2 x H3 G2 mu2 c2 hlt g2 r2 hy
      rw [drop_one hd] at h2
      refine hgw G3 { r := wipeD s1.r vs, mu := mu2, c := c2 } (L2.wipe σ vs) H3 d x _ _ ⟨r3, (sl2.mono g3).wipe vs⟩ q3 h2 fun s4 σ4 G4 H4 h4 g4 f4 r4 ew => ?_
      refine ⟨by rw [ew, wipe_wipe vs vs fun _ h => h], G4, s4, fun b s3 => if b = true then m s3 (fun y s4 => acc.length < LINE ∧ lcGo (lcBody s1.r vs g t m) (ds.drop (i + 1)) (acc ++ [y]) { s1 with mu := s4.mu, c := s4.c } (fun ys s2 => P (.lst ys) s2)) PX0 else lcGo (lcBody s1.r vs g t m) (ds.drop (i + 1)) acc { s1 with mu := s3.mu, c := s3.c } (fun ys s2 => P (.lst ys) s2), PX0, r4, h4, fun _ _ _ _ _ _ _ z => z.elim, fun b s5 G5 H5 h5 g5 f5 r5 => ?_⟩
      have ff := (f3.trans f4).trans f5
      have gg := (g3.trans g4).trans g5
      obtain ⟨e5, b1, b2⟩ := ff A _ hH2 a1 a2 ⟨n3, frm_lst⟩
      cases b with
      | false =>
        show ∃ G' mu' c' acc ys, Same G1 G' ∧ Frm Y G1 s1.mu H1 G' mu' H5 ∧ R0 Y G' mu' c' H5 ∧ (G' A = none ∧ mu' A = none) ∧ H5 A = some (.lst ys) ∧ Reps Y G' acc ys ∧ lcGo (lcBody s1.r vs g t m) (ds.drop (i + 1)) acc { s1 with mu := mu', c := c' } (fun ys s2 => P (.lst ys) s2)
        exact ⟨G5, s5.mu, s5.c, acc, ys, g2.trans gg, f2.trans ff, r5.h, ⟨b1, b2⟩, e5, q2.mono gg, h5⟩
      | true =>
        show TEof Y W0 m σ4 H5 _
        refine ⟨G5, s5, _, PX0, r5, h5, fun _ _ _ _ _ _ _ z => z.elim, fun y s6 v G6 H6 ⟨l6, h6⟩ g6 f6 r6 q6 => ?_⟩
        obtain ⟨e6, c1, c2'⟩ := f6 A _ e5 b1 b2 ⟨n3, frm_lst⟩
        have q7 := q2.mono (gg.trans g6)
        refine ⟨ys, e6, by rw [← q7.length, line_eq]; exact l6, G6, s6.mu, s6.c, acc ++ [y], ys ++ [v], g2.trans (gg.trans g6), fun a o z1 z2 z3 z4 => ?_, r6.h.turn c1 c2' n3 (fun o z => by rw [e6] at z; cases z; exact plain_lst) _, ⟨c1, c2'⟩, upd_same, q7.append (.cons q6 .nil), h6⟩
        obtain ⟨w1, w2, w3⟩ := (f2.trans ff).trans f6 a o z1 z2 z3 z4
        exact ⟨by rw [upd_ne (ne_of_none z1 hA)]; exact w1, w2, w3⟩
    · have e : i = ds.length := by omega
      subst e
      rw [List.drop_length] at h2
      refine .inl ⟨wk.stop H2 (g2.trans r2.sub), ?_⟩
      have eu : upd H2 A (.lst ys) = H2 := by
        funext b
        unfold upd
        split
        · rename_i hb
          rw [hb, hH2]
        · rfl
      have r3 := r2.take a1 a2 n3 (fun o z => by rw [hH2] at z; cases z; exact plain_lst) (.lst ys)
      rw [eu] at r3
      refine k _ { s1 with mu := mu2, c := c2 } _ (upd G2 A (.lst ys)) H2 h2 ((g1.trans g2).trans (same_upd a1)) (f1.trans fun a o z1 z2 z3 z4 => ?_) ⟨r3, sl2.mono (same_upd a1)⟩ (.lst upd_same (q2.mono (same_upd a1)))
      obtain ⟨w1, w2, w3⟩ := f2 a o z1 z2 z3 z4
      exact ⟨w1, by rw [upd_ne (ne_of_none z1 hA)]; exact w2, w3⟩⟩
theorem de_lc {elt iter : Expr} {ifs : List Expr} {scope : Scope} {own : List (Str × Nat)} {g' : TG} {g : MG} {t : MT} {m : ME} (hc : X.calm = true) (hN : X.N.Nodup) (hi : DI X Y W tg iter mi) (ok : BlkOk X.N X.env.scope scope own)
    (hgw : GW Y (own.map (·.2)) g' g)
    (hg : ∀ (s : Shared) (H : Hp) (C : Addr) (cl : List (Str × Addr)) (fp : List Addr), PG (X.blk s H scope (compEnvC scope cl C X.env) fp) tg g')
    (ht : ∀ (s : Shared) (H : Hp) (C : Addr) (cl : List (Str × Addr)) (fp : List Addr), DTs (X.blk s H scope (compEnvC scope cl C X.env) fp) Y W0 ifs t)
    (he : ∀ (s : Shared) (H : Hp) (C : Addr) (cl : List (Str × Addr)) (fp : List Addr), DE (X.blk s H scope (compEnvC scope cl C X.env) fp) Y W0 elt m) (hs : ∀ x, foldedSetIterable iter X.env x = pure x := by intro _; rfl) :
    DE X Y W (.ListComp elt [⟨tg, iter, ifs, 0⟩] scope pos) (mLc mi (own.map (·.2)) g t m) :=
  peImp (pe_lc hc hN hi ok hg ht he hs) (lc_ok hgw)
theorem ds_setLc {i : Nat} {y : Str} {py spos : Pos} {elt iter : Expr} {ifs : List Expr} {scope : Scope} {own : List (Str × Nat)} {g' : TG} {g : MG} {t : MT} {m : ME} (hc : X.calm = true) (hN : X.N.Nodup) (hy : X.N[i]? = some y) (hyl : X.env.scope.names.lookup y = some .local)
    (hsw : swapsWith (.ListComp elt [⟨tg, iter, ifs, 0⟩] scope pos) (some (.Name y py)) spos.line X.env = pure true) (hi : DI X Y W tg iter mi) (ok : BlkOk X.N X.env.scope scope own)
    (hgw : GW Y (own.map (·.2)) g' g)
    (hg : ∀ (s : Shared) (H : Hp) (C : Addr) (cl : List (Str × Addr)) (fp : List Addr), PG (X.blk s H scope (compEnvC scope cl C X.env) fp) tg g')
    (ht : ∀ (s : Shared) (H : Hp) (C : Addr) (cl : List (Str × Addr)) (fp : List Addr), DTs (X.blk s H scope (compEnvC scope cl C X.env) fp) Y W0 ifs t)
    (he : ∀ (s : Shared) (H : Hp) (C : Addr) (cl : List (Str × Addr)) (fp : List Addr), DE (X.blk s H scope (compEnvC scope cl C X.env) fp) Y W0 elt m) (hs : ∀ x, foldedSetIterable iter X.env x = pure x := by intro _; rfl) :
    DS X Y W (.Assign [.Name y py] (.ListComp elt [⟨tg, iter, ifs, 0⟩] scope pos) spos) (mSet i (mLc mi (own.map (·.2)) g t m)) :=
  psImp (ps_setLc hc hN hy hyl hsw hi ok hg ht he hs) fun D σ H ⟨G, st, E, PX, rr, hm, xp, k⟩ => lc_ok hgw σ H _ ⟨G, st, _, PX, rr, hm, xp, fun d s1 v G1 H1 h1 g1 f1 r1 q1 => k.nx _ _ _ _ h1 g1 f1 (r1.put i q1)⟩
end
end DL
namespace DL
open PySem L2
theorem k_cb : ¬ ((Sum.inr "cells" : Key) = .inr "begun") := by decide +kernel
theorem k_cl : ¬ ((Sum.inr "cells" : Key) = .inr "left") := by decide +kernel
theorem k_bl : ¬ ((Sum.inr "begun" : Key) = .inr "left") := by decide +kernel
theorem k_bc : ¬ ((Sum.inr "begun" : Key) = .inr "cells") := by decide +kernel
theorem k_lc : ¬ ((Sum.inr "left" : Key) = .inr "cells") := by decide +kernel
theorem k_lb : ¬ ((Sum.inr "left" : Key) = .inr "begun") := by decide +kernel
section
variable {H : Hp} {p ca : Addr} {b l : Int}
theorem pen_left (h : H p = some (.dK (penKvs ca b l))) : DGet H p (.str "left") (some (.int l)) := by
  have e : valV (penKvs ca b l) (.inr "left" : Key) = some (.int l) := by unfold penKvs; rw [valV_neg k_cl, valV_neg k_bl, valV_pos rfl]
  have g := DGet.k (k := (.inr "left" : Key)) h
  rw [e] at g
  exact g
theorem pen_begun (h : H p = some (.dK (penKvs ca b l))) : DGet H p (.str "begun") (some (.int b)) := by
  have e : valV (penKvs ca b l) (.inr "begun" : Key) = some (.int b) := by unfold penKvs; rw [valV_neg k_cb, valV_pos rfl]
  have g := DGet.k (k := (.inr "begun" : Key)) h
  rw [e] at g
  exact g
theorem pen_cells (h : H p = some (.dK (penKvs ca b l))) : DGet H p (.str "cells") (some (.ref ca)) := by
  have e : valV (penKvs ca b l) (.inr "cells" : Key) = some (.ref ca) := by unfold penKvs; rw [valV_pos rfl]
  have g := DGet.k (k := (.inr "cells" : Key)) h
  rw [e] at g
  exact g
theorem pen_left_put (l' : Int) (h : H p = some (.dK (penKvs ca b l))) : DPut H p (.str "left") (.int l') (upd H p (.dK (penKvs ca b l'))) := by
  have e : putK (penKvs ca b l) (.inr "left" : Key) (.int l') = penKvs ca b l' := by
    unfold penKvs putK
    rw [if_pos (by simp), List.map_cons, List.map_cons, List.map_cons, List.map_nil, if_neg k_cl, if_neg k_bl, if_pos rfl]
  have g := DPut.k (k := (.inr "left" : Key)) (v := .int l') h (by show 3 < sizeLine; rw [sizeLine_eq]; decide)
  rw [e] at g
  exact g
theorem pen_begun_put (l' : Int) (h : H p = some (.dK (penKvs ca b l))) : DPut H p (.str "begun") (.int l') (upd H p (.dK (penKvs ca l' l))) := by
  have e : putK (penKvs ca b l) (.inr "begun" : Key) (.int l') = penKvs ca l' l := by
    unfold penKvs putK
    rw [if_pos (by simp), List.map_cons, List.map_cons, List.map_cons, List.map_nil, if_neg k_cb, if_pos rfl, if_neg k_lb]
  have g := DPut.k (k := (.inr "begun" : Key)) (v := .int l') h (by show 3 < sizeLine; rw [sizeLine_eq]; decide)
  rw [e] at g
  exact g
end
def LIM : Nat := 1152921504606846976
/-- a draw -/
def spDraw0 : Sp := fun vs H Q E => ∃ (p ca : Addr) (n b l : Int) (ns : List Int), vs = [.ref p, .int n] ∧ 0 < n ∧ n < 1073741824 ∧ H p = some (.dK (penKvs ca b l)) ∧ H ca = some (.lst (ns.map V.int)) ∧ ns.length ≤ 63 ∧ 0 ≤ b ∧ b < 2 ^ 60 ∧ 0 ≤ l ∧
  ∀ m b' l' H', 0 ≤ m → m < n → b ≤ b' → b' ≤ b + 1 → 0 ≤ l' → H' p = some (.dK (penKvs ca b' l')) → (∀ a o, H a = some o → a ≠ p → H' a = some o) → Q (.int m) H'
def sp__law_draw : DSp := fun ds mu c P PX => ∃ n : Int, ds = [.pen, .int n] ∧ 0 < n ∧ n < 1073741824 ∧ c < LIM ∧ ∀ m : Int, 0 ≤ m → m < n → P (.int m) mu (c + 1)
theorem draw_of {K : PySem.W.Frag} {mg : Str → Option Value} {T : List (Addr × Str)} {q : Qp} : ∀ vs H Q E, SpOf (Yp K mg T q) sp__law_draw vs H Q E → spDraw0 vs H Q E := by
  rintro vs H Q E ⟨G, mu, c, ds, P, PX, r0, qv, ⟨n, rfl, hn0, hn1, hc, h⟩, kq, _⟩
  obtain ⟨v, w, rfl, q1, q2⟩ := qv.two
  cases q1; cases q2
  obtain ⟨o, hp, ⟨ca, b, l, ns, rfl, hca, hns, hb0, hb1, hl⟩, hG, hm⟩ := r0.pen
  refine ⟨q.p, ca, n, b, l, ns, rfl, hn0, hn1, hp, r0.sub _ _ hca, hns, hb0, by have : LIM = 1152921504606846976 := rfl; omega, hl, fun m b' l' H' m0 m1 l1 l2 l3 hp' hk => ?_⟩
  refine kq (.int m) mu (c + 1) _ G H' (h m m0 m1) (Same.refl G) (fun a o h1 h2 h3 h4 => ⟨hk a o h1 h4.1, h2, h3⟩) ⟨fun a o e => ?_, fun a mo e => ?_, ⟨_, hp', ⟨ca, b', l', ns, rfl, hca, hns, by omega, by omega, l3⟩, hG, hm⟩, r0.ext.turn (q := q.p) (fun o z => by have z' := hp.symm.trans z; cases z'; exact plain_dK) fun a o hb e => hk a o e hb⟩ (.int m)
  · exact hk a o (r0.sub a o e) (fun z => by rw [z] at e; have z2 : G q.p = none := hG; rw [z2] at e; cases e)
  · obtain ⟨h1, x, h2, h3⟩ := r0.mus a mo e
    exact ⟨h1, x, hk a x h2 (fun z => by rw [z] at e; have z2 : mu q.p = none := hm; rw [z2] at e; cases e), h3⟩
/-- the source's beginning -/
def spBegin0 (K : PySem.W.Frag) : Sp := fun vs H Q E => ∃ (a : Addr) (ns : List Int), vs = [.ref a] ∧ SqL K H a (ns.map V.int) ∧ ns.length ≤ 63 ∧
  ∀ (p ca : Addr) H', H p = none → H ca = none → p ≠ ca → H' p = some (.dK (penKvs ca 0 0)) → H' ca = some (.lst (ns.map V.int)) → Same H H' → Q (.ref p) H'
/-- one of some things -/
def sp__law_pick : DSp := fun ds mu c P PX => ∃ d, ds = [.pen, d] ∧ c < LIM ∧ match d with
  | .lst a => 0 < a.length ∧ a.length < 1073741824 ∧ ∀ x ∈ a, P x mu (c + 1)
  | .tup a => 0 < a.length ∧ a.length < 1073741824 ∧ ∀ x ∈ a, P x mu (c + 1)
  | .str z => 0 < z.length ∧ z.length ≤ LINE ∧ ∀ k ∈ z.cps.toList, P (.str ⟨#[k]⟩) mu (c + 1)
  | _ => False
theorem dp_ints {K : PySem.W.Frag} {H : Hp} {a : Addr} {ns : List Int} (h : H a = some (.lst (ns.map V.int))) : Dp K H (.ref a) (.list (ns.map PyData.int)) := by
  refine .lst (SqL.of h) ?_
  clear h
  induction ns with
  | nil => exact .nil
  | cons n r ih => exact .cons (.int n) ih
theorem shaped_ints (ns : List Int) : SeqAt.shaped (.list (ns.map PyData.int)) = true := by
  have h1 : PyData.canLayAll0 (ns.map PyData.int) = true := by
    induction ns with
    | nil => rfl
    | cons n r ih => simp only [List.map_cons, PyData.canLayAll0, PyData.canLay0, ih]; rfl
  have h2 : PyData.depthAll (ns.map PyData.int) = 0 := by
    induction ns with
    | nil => rfl
    | cons n r ih => simp only [List.map_cons, PyData.canLayAll0, PyData.canLay0, PyData.depthAll, PyData.depth] at h1 ⊢; rw [ih (by simpa using h1)]; rfl
  simp [SeqAt.shaped, PyData.canLay0, PyData.depth, h1, h2]
theorem fmod_nn {a b : Int} (hb : 0 < b) : 0 ≤ a % b ∧ a % b < b := ⟨Int.emod_nonneg _ (by omega), Int.emod_lt_of_pos _ hb⟩
end DL
namespace DL
open PySem L2
theorem bF {b : Bool} (h : ¬ b = true) : b = false := by cases b; rfl; exact absurd rfl h
theorem bN {b : Bool} (h : (!b) = true) : b = false := by cases b; rfl; cases h
theorem bT {b : Bool} (h : ¬ (!b) = true) : b = true := by cases b; exact absurd rfl h; rfl
/-! ### comprehensions by what each turn gives -/
inductive All2 {α β : Type} (R : α → β → Prop) : List α → List β → Prop
  | nil : All2 R [] []
  | cons {a : α} {b : β} {as : List α} {bs : List β} : R a b → All2 R as bs → All2 R (a :: as) (b :: bs)
theorem All2.length {α β : Type} {R : α → β → Prop} {as : List α} {bs : List β} (h : All2 R as bs) : as.length = bs.length := by
  induction h with
  | nil => rfl
  | cons _ _ ih => rw [List.length_cons, List.length_cons, ih]
theorem lc_rel {body : D → S → (Option D → S → Prop) → Prop} (Rl : D → D → Prop) (k : Nat) {mu : Mu} {r : List (Option D)} (M : Nat) {P : List D → S → Prop} :
    ∀ (ds acc : List D) (c : Nat), (∀ d ∈ ds, ∀ c K, c + k ≤ M → (∀ y, Rl d y → K (some y) ⟨r, mu, c + k⟩) → body d ⟨r, mu, c⟩ K) → acc.length + ds.length ≤ LINE → c + k * ds.length ≤ M →
    (∀ ys, All2 Rl ds ys → P (acc ++ ys) ⟨r, mu, c + k * ds.length⟩) → lcGo body ds acc ⟨r, mu, c⟩ P
  | [], acc, c, _, _, _, hP => by
    have h := hP [] .nil
    rw [List.append_nil] at h
    exact h
  | d :: ds, acc, c, hb, hl, hM, hP => by
    have e1 : k * (d :: ds).length = k + k * ds.length := by rw [List.length_cons, Nat.mul_succ, Nat.add_comm]
    rw [e1] at hM
    rw [List.length_cons] at hl
    refine hb d List.mem_cons_self c _ (by omega) fun y hy => ⟨by omega, ?_⟩
    refine lc_rel Rl k M ds (acc ++ [y]) (c + k) (fun d' hd => hb d' (List.mem_cons_of_mem _ hd)) (by rw [List.length_append, List.length_singleton]; omega) (by omega) fun ys hys => ?_
    have h := hP (y :: ys) (.cons hy hys)
    rw [e1, ← Nat.add_assoc] at h
    rw [List.append_assoc]
    exact h
/-- each turn gives just one thing, no draw -/
theorem lc_fun {body : D → S → (Option D → S → Prop) → Prop} (f : D → D) {mu : Mu} {r : List (Option D)} {c : Nat} {P : List D → S → Prop} :
    ∀ (ds acc : List D), (∀ d ∈ ds, ∀ K, K (some (f d)) ⟨r, mu, c⟩ → body d ⟨r, mu, c⟩ K) → acc.length + ds.length ≤ LINE → P (acc ++ ds.map f) ⟨r, mu, c⟩ → lcGo body ds acc ⟨r, mu, c⟩ P
  | [], acc, _, _, hP => by rw [List.map_nil, List.append_nil] at hP; exact hP
  | d :: ds, acc, hb, hl, hP => by
    rw [List.length_cons] at hl
    refine hb d List.mem_cons_self _ ⟨by omega, ?_⟩
    refine lc_fun f ds (acc ++ [f d]) (fun d' hd => hb d' (List.mem_cons_of_mem _ hd)) (by rw [List.length_append, List.length_singleton]; omega) ?_
    rw [List.append_assoc]
    exact hP
theorem blsOf_map {α : Type} (f : α → Bool) : ∀ l : List α, blsOf (l.map fun x => D.bl (f x)) = some (l.map f)
  | [] => rfl
  | x :: l => by simp [blsOf, blsOf_map f l]
theorem strsOf_map {α : Type} (f : α → Str) : ∀ l : List α, strsOf (l.map fun x => D.str (f x)) = some (l.map f)
  | [] => rfl
  | x :: l => by simp [strsOf, strsOf_map f l]
/-! ### plain data -/
mutual
/-- plain data at most n deep, its texts short -/
def D.pl : D → Nat → Bool
  | .non, _ => true
  | .bl _, _ => true
  | .int _, _ => true
  | .str s, _ => PyData.strOk s && decide (s.length ≤ 1000)
  | .tup ds, n => decide (0 < n) && D.pls ds (n - 1)
  | .lst ds, n => decide (0 < n) && D.pls ds (n - 1)
  | .dct _, _ => false
  | .pen, _ => false
  | .ref _, _ => false
def D.pls : List D → Nat → Bool
  | [], _ => true
  | d :: ds, n => D.pl d n && D.pls ds n
end
mutual
theorem D.pl_ok : ∀ (d : D) (n : Nat), d.pl n = true → d.ok n = true
  | .non, _, _ => rfl
  | .bl _, _, _ => rfl
  | .int _, _, _ => rfl
  | .str s, _, h => (Bool.and_eq_true_iff.mp h).1
  | .tup ds, n, h => Bool.and_eq_true_iff.mpr ⟨(Bool.and_eq_true_iff.mp h).1, D.pls_ok ds _ (Bool.and_eq_true_iff.mp h).2⟩
  | .lst ds, n, h => Bool.and_eq_true_iff.mpr ⟨(Bool.and_eq_true_iff.mp h).1, D.pls_ok ds _ (Bool.and_eq_true_iff.mp h).2⟩
  | .dct _, _, h => by cases h
  | .pen, _, h => by cases h
  | .ref _, _, h => by cases h
theorem D.pls_ok : ∀ (d : List D) (n : Nat), D.pls d n = true → D.oks d n = true
  | [], _, _ => rfl
  | d :: ds, n, h => Bool.and_eq_true_iff.mpr ⟨D.pl_ok d n (Bool.and_eq_true_iff.mp h).1, D.pls_ok ds n (Bool.and_eq_true_iff.mp h).2⟩
end
mutual
theorem D.pl_mono : ∀ (d : D) (n m : Nat), n ≤ m → d.pl n = true → d.pl m = true
  | .non, _, _, _, _ => rfl
  | .bl _, _, _, _, _ => rfl
  | .int _, _, _, _, _ => rfl
  | .str s, _, _, _, h => h
  | .tup ds, n, m, l, h => by
    simp only [D.pl, Bool.and_eq_true, decide_eq_true_eq] at h ⊢
    exact ⟨by omega, D.pls_mono ds _ _ (by omega) h.2⟩
  | .lst ds, n, m, l, h => by
    simp only [D.pl, Bool.and_eq_true, decide_eq_true_eq] at h ⊢
    exact ⟨by omega, D.pls_mono ds _ _ (by omega) h.2⟩
  | .dct _, _, _, _, h => by cases h
  | .pen, _, _, _, h => by cases h
  | .ref _, _, _, _, h => by cases h
theorem D.pls_mono : ∀ (d : List D) (n m : Nat), n ≤ m → D.pls d n = true → D.pls d m = true
  | [], _, _, _, _ => rfl
  | d :: ds, n, m, l, h => by
    simp only [D.pls, Bool.and_eq_true] at h ⊢
    exact ⟨D.pl_mono d n m l h.1, D.pls_mono ds n m l h.2⟩
end
theorem D.pls_mem {ds : List D} {n : Nat} (h : D.pls ds n = true) : ∀ d ∈ ds, d.pl n = true := by
  induction ds with
  | nil => intro d hd; cases hd
  | cons x ds ih =>
    intro d hd
    have h' := Bool.and_eq_true_iff.mp h
    rcases List.mem_cons.mp hd with e | e
    · rw [e]; exact h'.1
    · exact ih h'.2 d e
theorem D.pls_of {ds : List D} {n : Nat} (h : ∀ d ∈ ds, d.pl n = true) : D.pls ds n = true := by
  induction ds with
  | nil => rfl
  | cons x ds ih => exact Bool.and_eq_true_iff.mpr ⟨h x List.mem_cons_self, ih fun d hd => h d (List.mem_cons_of_mem _ hd)⟩
theorem D.pl_ty {d : D} {n : Nat} (h : d.pl n = true) : d.ty.isSome = true := by
  cases d <;> first | rfl | cases h
theorem D.pl_tup {ds : List D} {n : Nat} (h : D.pls ds n = true) : (D.tup ds).pl (n + 1) = true := by
  simp only [D.pl, Bool.and_eq_true, decide_eq_true_eq]
  exact ⟨by omega, h⟩
theorem D.pl_lst {ds : List D} {n : Nat} (h : D.pls ds n = true) : (D.lst ds).pl (n + 1) = true := by
  simp only [D.pl, Bool.and_eq_true, decide_eq_true_eq]
  exact ⟨by omega, h⟩
theorem D.pl_tupI {ds : List D} {n : Nat} (h : (D.tup ds).pl n = true) : 0 < n ∧ D.pls ds (n - 1) = true := by
  simpa only [D.pl, Bool.and_eq_true, decide_eq_true_eq] using h
/-! ### == with a text -/
theorem eqv_str (x : Str) (d : D) : eqvD (.str x) d = true ↔ d = .str x := by
  unfold eqvD
  cases d <;> simp [D.py, PyData.eqv]
  exact eq_comm
theorem eqv_str2 (x y : Str) : eqvD (.str x) (.str y) = (x == y) := by
  unfold eqvD
  simp [D.py, PyData.eqv]
theorem eqv_int2 (x y : Int) : eqvD (.int x) (.int y) = (x == y) := by
  unfold eqvD
  simp [D.py, PyData.eqv]
theorem eqv_bl2 (x y : Bool) : eqvD (.bl x) (.bl y) = (x == y) := by
  unfold eqvD
  simp [D.py, PyData.eqv]
theorem ceq_of {d e : D} {n m : Nat} (h1 : d.ok n = true) (h2 : e.ok m = true) (l1 : n ≤ 64 := by decide) (l2 : m ≤ 64 := by decide) : CEq d e := ⟨⟨n, l1, h1⟩, m, l2, h2⟩
/-! ### names -/
def letters : List Nat := (Str.ofString "abcdefghijklmnopqrstuvwxyz").cps.toList
def alnum : List Nat := (Str.ofString "abcdefghijklmnopqrstuvwxyz0123456789").cps.toList
def isNameL (l : List Nat) : Bool := match l with
  | [] => false
  | k :: r => decide ((k :: r).length ≤ 12) && (decide (k ∈ letters) && (k :: r).all fun k => decide (k ∈ alnum))
def isNameD : D → Bool
  | .str s => isNameL s.cps.toList
  | _ => false
theorem letters_alnum : ∀ k ∈ letters, k ∈ alnum := by decide +kernel
theorem alnum_lt : ∀ k ∈ alnum, k < 128 := by decide +kernel
theorem hasStr_one (k : Nat) (z : Str) : hasStr ⟨#[k]⟩ z = decide (k ∈ z.cps.toList) := StrLaws.found_one z k
theorem isNameL_len {l : List Nat} (h : isNameL l = true) : 1 ≤ l.length ∧ l.length ≤ 12 := by
  cases l with
  | nil => cases h
  | cons k r =>
    simp only [isNameL, Bool.and_eq_true, decide_eq_true_eq] at h
    exact ⟨by simp, h.1⟩
theorem isNameL_all {l : List Nat} (h : isNameL l = true) : ∀ k ∈ l, k ∈ alnum := by
  cases l with
  | nil => cases h
  | cons k r =>
    simp only [isNameL, Bool.and_eq_true, decide_eq_true_eq] at h
    intro j hj
    exact of_decide_eq_true (List.all_eq_true.mp h.2.2 j hj)
theorem str_len (s : Str) : s.length = s.cps.toList.length := by
  show s.cps.size = _
  rw [Array.length_toList]
theorem name_ok {s : Str} (h : isNameL s.cps.toList = true) : PyData.strOk s = true ∧ s.length ≤ 12 := by
  refine ⟨?_, by rw [str_len]; exact (isNameL_len h).2⟩
  unfold PyData.strOk
  rw [Array.all_eq_true']
  intro x hx
  have := alnum_lt x (isNameL_all h x (by simpa using hx))
  simp only [decide_eq_true_eq]
  omega
/-! ### what a value is as a form -/
def nameFine (d : D) : Bool := d.ty.isSome && (match d with | .str s => decide (s.length ≤ LINE) | _ => true)
theorem nameFine_ty {d : D} (h : nameFine d = true) : d.ty.isSome = true := (Bool.and_eq_true_iff.mp h).1
theorem nameFine_len {d : D} (h : nameFine d = true) : ∀ s, d = .str s → s.length ≤ LINE := fun s e => by
  subst e
  exact of_decide_eq_true (Bool.and_eq_true_iff.mp h).2
theorem nameFine_pl {d : D} {n : Nat} (h : d.pl n = true) : nameFine d = true := by
  unfold nameFine
  rw [D.pl_ty h, Bool.true_and]
  cases d <;> first | rfl | skip
  have h2 := of_decide_eq_true (Bool.and_eq_true_iff.mp h).2
  have : (LINE : Nat) = 16777216 := rfl
  exact decide_eq_true (by omega)
def leafWs : List D := [.str "good", .str "counter"]
def halfWs : List D := [.str "both", .str "between", .str "offered", .str "chosen"]
def leafW (w : D) : Bool := leafWs.any fun z => eqvD z w
def halfW (w : D) : Bool := halfWs.any fun z => eqvD z w
theorem leafWs_ok : (D.tup leafWs).ok 1 = true := by decide +kernel
theorem halfWs_ok : (D.tup halfWs).ok 1 = true := by decide +kernel
theorem leafWs_okl : (D.lst leafWs).ok 1 = true := by decide +kernel
theorem halfWs_okl : (D.lst halfWs).ok 1 = true := by decide +kernel
/-- the depth of a value as a form of depth m at most -/
def depthIn : Nat → D → Option Nat
  | _, .tup [w, n] => if (leafW w && isNameD n) = true then some 0 else none
  | m + 1, .tup [w, a, b] => if halfW w = true then (depthIn m a).bind fun x => (depthIn m b).map fun y => max x y + 1 else none
  | _, _ => none
def fineD : Nat → D → Bool
  | _, .tup [w, n] => w.ok 64 && nameFine n
  | m + 1, .tup [w, a, b] => w.ok 64 && (fineD m a && fineD m b)
  | 0, .tup [w, _, _] => w.ok 64
  | _, d => d.ty.isSome
theorem fineD_ty : ∀ {m : Nat} {d : D}, fineD m d = true → d.ty.isSome = true
  | m, d, h => by
    unfold fineD at h
    split at h <;> first | rfl | exact h
theorem fineD_pl : ∀ (m n : Nat) (d : D), n ≤ 64 → d.pl n = true → fineD m d = true
  | m, n, d, hn, h => by
    unfold fineD
    split
    · rename_i w x
      obtain ⟨h0, h1⟩ := D.pl_tupI h
      have h2 := D.pls_mem h1
      exact Bool.and_eq_true_iff.mpr ⟨D.ok_mono _ _ _ (by omega) (D.pl_ok _ _ (h2 w (by simp))), nameFine_pl (h2 x (by simp))⟩
    · rename_i m' w a b
      obtain ⟨h0, h1⟩ := D.pl_tupI h
      have h2 := D.pls_mem h1
      exact Bool.and_eq_true_iff.mpr ⟨D.ok_mono _ _ _ (by omega) (D.pl_ok _ _ (h2 w (by simp))), Bool.and_eq_true_iff.mpr ⟨fineD_pl m' _ a (by omega) (h2 a (by simp)), fineD_pl m' _ b (by omega) (h2 b (by simp))⟩⟩
    · rename_i w a b
      obtain ⟨h0, h1⟩ := D.pl_tupI h
      exact D.ok_mono _ _ _ (by omega) (D.pl_ok _ _ (D.pls_mem h1 w (by simp)))
    · exact D.pl_ty h
def optD : Option Nat → D
  | none => .non
  | some k => .int k
theorem len_in (ds : List D) : ([D.int 2, D.int 3].any fun z => eqvD z (.int ds.length)) = (ds.length == 2 || ds.length == 3) := by
  have h : ∀ (k : Nat), eqvD (.int k) (.int ds.length) = (ds.length == k) := fun k => by
    rw [eqv_int2, Bool.eq_iff_iff]
    simp
    omega
  simp only [List.any_cons, List.any_nil, Bool.or_false]
  rw [show (2 : Int) = ((2 : Nat) : Int) from rfl, show (3 : Int) = ((3 : Nat) : Int) from rfl, h, h]
end DL
namespace L2
open PySem PySem.Spec PyProof.Rows HT
theorem places_back (n : Nat) : Builtin.Slice.slicePlaces ((n : Int) - 1) (-1) (-1) = n := by
  unfold Builtin.Slice.slicePlaces
  have h1 : ¬ ((-1 : Int) > 0) := by omega
  simp only [h1, if_false]
  have e : (-(-1) : Int) = 1 := rfl
  rw [e]
  simp only [Int.ediv_one]
  split <;> omega
theorem pick_back (xs : Array Value) : ((List.range xs.size).filterMap fun (k : Nat) => xs[(((xs.size : Int) - 1) + (k : Int) * (-1)).toNat]?).toArray = xs.toList.reverse.toArray := by
  have h := PySem.W.krv_all xs
  have e : (List.range xs.size).filterMap (fun (k : Nat) => xs[(((xs.size : Int) - 1) + (k : Int) * (-1)).toNat]?) = ((List.range xs.size).map fun k => xs.size - 1 - k).filterMap (xs[·]?) := by
    rw [List.filterMap_map]
    congr 1
    funext k
    show _ = xs[xs.size - 1 - k]?
    by_cases hk : k < xs.size
    · have : (((xs.size : Int) - 1) + (k : Int) * (-1)).toNat = xs.size - 1 - k := by omega
      rw [this]
    · have e1 : (((xs.size : Int) - 1) + (k : Int) * (-1)).toNat = 0 := by omega
      have e2 : xs.size - 1 - k = 0 := by omega
      rw [e1, e2]
  rw [e, PySem.W.krv_range, List.filterMap_reverse, h]
section
variable {prog : Program} {w : World} {A : Around} {E : Value → Shared → Prop} {s : Shared}
theorem sliceApplied_back {sl : Addr} {vl vu vs : Value} {n : Nat} {Q : Int × Int × Nat → Shared → Prop} (hs : s.heap.IsSliceOf sl vl vu vs) (pl : IsPart vl none) (pu : IsPart vu none) (ps : IsPart vs (some (-1)))
    (h : Q (((n : Int) - 1), -1, n) s) : wpAny (model prog w) A (Builtin.Slice.sliceApplied (.ref sl) (pure (n : Int))) Q E s := by
  obtain ⟨os, hos, hcs, hds⟩ := id hs
  unfold Builtin.Slice.sliceApplied Builtin.Slice.sliceFields
  refine wpAny_bind (wpAny_bind (wpAny_field hos hds (x := vl) rfl (wpAny_bind (wpAny_field hos hds (x := vu) rfl (wpAny_bind (wpAny_field hos hds (x := vs) rfl (wpAny_pure ?_)))))))
  refine wpAny_bind (slicePart_ ps ?_)
  show wpAny _ _ (if ((-1 : Int) == 0) = true then _ else _) _ _ s
  rw [if_neg (by decide)]
  refine wpAny_bind (slicePart_ pl (wpAny_bind (slicePart_ pu (wpAny_bind (wpAny_pure ?_)))))
  show wpAny _ _ (pure (((n : Int) - 1), (-1 : Int), Builtin.Slice.slicePlaces ((n : Int) - 1) (-1) (-1))) _ _ s
  rw [places_back]
  exact wpAny_pure h
theorem getItem_tuple_back {t sl : Addr} {items : Array Value} {vl vu vs : Value} {Q : Value → Shared → Prop} (ht : IsTup s.heap t items) (hs : s.heap.IsSliceOf sl vl vu vs) (pl : IsPart vl none) (pu : IsPart vu none) (ps : IsPart vs (some (-1)))
    (h : Q (.ref s.heap.objs.size) { s with heap := s.heap.push { cls := .type "tuple", data := .seq items.toList.reverse.toArray } })
    (hsz : items.size ≤ sizeLine) : wpAny (model prog w) A (getItem (.ref t) (.ref sl)) Q E s := by
  have htake : sizeOk (.seq items.toList.reverse.toArray) := by
    show items.toList.reverse.toArray.size ≤ sizeLine
    rw [List.size_toArray, List.length_reverse, Array.length_toList]
    exact hsz
  obtain ⟨os, hos, hcs, hds⟩ := id hs
  have hTs : s.TypeIs (.ref sl) "slice" := ⟨os, hos, hcs⟩
  unfold getItem
  try with_reducible refine wpAny_holding ?_
  first | refine wpAny_bind (wpAny_pure ?_) | skip
  refine wpAny_bind (wpAny_sequenceKey ht.typeIs (by decide) ?_)
  refine wpAny_bind (wpAny_callSpecial?_slot (name := Str.ofString "__getitem__") ht.typeIs PyProof.Rows.slot_tuple_getitem
    (wpAny_call_entry PyProof.Rows.slot_tuple_getitem ht.typeIs entry_tuple_getitem ?_ (args_tuple_getitem _ _)))
  show wpAny _ _ (Builtin.Tuple.tupleItemsOf (.ref t) >>= _) _ _ s
  refine wpAny_bind (tupleItemsOf_ ht ?_)
  refine wpAny_bind (wpAny_typeOf hTs ?_)
  rw [if_pos (by decide)]
  refine wpAny_bind (sliceApplied_back hs pl pu ps ?_)
  have hno : ¬ ((((items.size : Int) - 1) == 0 && (-1 : Int) == 1 && items.size == items.size) = true) := by
    intro q
    rw [Bool.and_eq_true, Bool.and_eq_true] at q
    exact absurd q.1.2 (by decide)
  show wpAny _ _ (if (((items.size : Int) - 1) == 0 && (-1 : Int) == 1 && items.size == items.size) = true then _ else _) _ _ s
  rw [if_neg hno, pick_back]
  first
    | exact wpAny_bind (m := Builtin.Tuple.tupleExact _) (wpAny_newObj_type (wpAny_pure ⟨_, rfl, wpAny_pure h⟩) htake)
    | exact wpAny_bind (m := Builtin.Tuple.tupleExact _) (wpAny_newObj_type (wpAny_bind (wpAny_pure (wpAny_pure ⟨_, rfl, wpAny_pure h⟩))) htake)
    | exact wpAny_bind (wpAny_bind (m := Builtin.Tuple.tupleExact _) (wpAny_newObj_type (wpAny_pure (wpAny_pure ⟨_, rfl, wpAny_pure h⟩)) htake))
    | exact wpAny_bind (wpAny_bind (m := Builtin.Tuple.tupleExact _) (wpAny_newObj_type (wpAny_pure ⟨_, rfl, wpAny_pure h⟩) htake))
end
section
variable {X : Cx}
def tRevA (K : PySem.W.Frag) (te : TE) : TE := fun σ H Q => te σ H fun x H1 => ∃ a xs, x = .ref a ∧ ((SqL K H1 a xs ∧ ∀ p, H1 p = none → Q (.ref p) (upd H1 p (.lst xs.reverse))) ∨ (SqT K H1 a xs ∧ ∀ p, H1 p = none → Q (.ref p) (upd H1 p (.tup xs.reverse))))
theorem pe_revA {e : Expr} {te : TE} {k : Nat} {p1 p2 p3 pos : Pos} (he : PE X e te) : PE X (.Subscript e (.Slice none none (some (.UnaryOp .USub (.Constant (.int 1) k p1) p2)) p3) pos) (tRevA X.K te) := by
  refine ⟨fun pins s σ H Q I h => ?_⟩
  refine Subscript_ (thn (he.run pins s σ H _ I h) fun v s1 ⟨x, H1, I1, r1, q1⟩ => ?_)
  obtain ⟨a, xs, ex, qq⟩ := q1
  subst ex
  cases r1
  have hst : PO X (some (.UnaryOp .USub (.Constant (.int 1) k p1) p2)) (tPart (tUn (rU fun i => .int (-i)) (tC (.int 1)))) := po_some (pe_un un_neg pe_int)
  refine wpAny_Slice (thn (po_none.run pins s1 σ H1 (fun o H2 => o = none ∧ H2 = H1) I1 ⟨rfl, rfl⟩) fun vl s2 ⟨l, H2, I2, pl, el, e2⟩ => ?_)
  subst el e2
  refine thn (po_none.run pins s2 σ H2 (fun o H3 => o = none ∧ H3 = H2) I2 ⟨rfl, rfl⟩) fun vu s3 ⟨u, H3, I3, pu, eu, e3⟩ => ?_
  subst eu e3
  refine thn (hst.run pins s3 σ H3 (fun o H4 => o = some (-1) ∧ H4 = H3) I3 ⟨1, rfl, -1, rfl, rfl, rfl⟩) fun vs s4 ⟨o, H4, I4, ps, eo, e4⟩ => ?_
  subst eo e4
  have I5 : Inv X pins σ H4 { s4 with heap := s4.heap.push { cls := .type "slice", data := .fields #[vl, vu, vs] } } := I4.kept (t' := s4.toks) fun b ob q => Heap.get?_push_of_some _ q
  rcases qq with ⟨hx, q⟩ | ⟨hx, q⟩
  · obtain ⟨its, r, ht, hz⟩ := I5.list hx
    have hlen := r.length
    show wpAny (model X.prog X.w) X.A (subscriptTail e (.Slice none none (some (.UnaryOp .USub (.Constant (.int 1) k p1) p2)) p3) (.ref a) (.ref s4.heap.objs.size)) (EP X pins σ Q) X.xe { s4 with heap := s4.heap.push { cls := .type "slice", data := .fields #[vl, vu, vs] } }
    refine tail_any (ops := [.ref a, .ref s4.heap.objs.size]) ht.isList.typeIs (PySem.slot_list_getitem.lookup) ?_ (by with_unfolding_all rfl)
    refine wpAny_getItem_list_slice ht.isList (Heap.IsSliceOf.new _ vl vu vs) pl pu ps (by decide) ?_ (by rw [List.size_toArray]; omega)
    rw [PySem.W.krv_pick]
    refine ⟨.ref _, _, I5.laid (t' := s4.toks) (o := .lst xs.reverse) (fun b ob q => Heap.get?_push_of_some _ q) (Nat.le_refl _) ?_, rfl, q _ (I5.hok.fresh (Nat.le_refl _))⟩
    exact ⟨by rw [List.length_reverse]; exact hz, _, 0, r.reverse, Heap.get?_push_size _ rfl⟩
  · obtain ⟨its, r, ht, hz⟩ := I5.tuple hx
    have hlen := r.length
    show wpAny (model X.prog X.w) X.A (subscriptTail e (.Slice none none (some (.UnaryOp .USub (.Constant (.int 1) k p1) p2)) p3) (.ref a) (.ref s4.heap.objs.size)) (EP X pins σ Q) X.xe { s4 with heap := s4.heap.push { cls := .type "slice", data := .fields #[vl, vu, vs] } }
    refine tail_any (ops := [.ref a, .ref s4.heap.objs.size]) ht.typeIs (PyProof.Rows.slot_tuple_getitem.lookup) ?_ (by with_unfolding_all rfl)
    refine getItem_tuple_back ht (Heap.IsSliceOf.new _ vl vu vs) pl pu ps ?_ (by rw [List.size_toArray]; omega)
    refine ⟨.ref _, _, I5.laid (t' := s4.toks) (o := .tup xs.reverse) (fun b ob q => Heap.get?_push_of_some _ q) (Nat.le_refl _) ?_, rfl, q _ (I5.hok.fresh (Nat.le_refl _))⟩
    exact ⟨by rw [List.length_reverse]; exact hz, _, r.reverse, IsTup.new _ _⟩
end
end L2
namespace DL
open PySem L2
section
variable {X : Cx} {Y : Yc} {W : WX}
def revD : O1 := fun _ d P => match d with
  | .tup a => P (.tup a.reverse)
  | .lst a => P (.lst a.reverse)
  | _ => False
theorem de_rev {e : Expr} {m : ME} {k : Nat} {p1 p2 p3 pos : Pos} (hY : Y.K = X.K) (he : DE X Y W e m) : DE X Y W (.Subscript e (.Slice none none (some (.UnaryOp .USub (.Constant (.int 1) k p1) p2)) p3) pos) (mUn revD m) :=
  peImp (pe_revA he) fun σ H Q ⟨G, st, P, PX, rr, hm, xp, k⟩ => ⟨G, st, _, PX, rr, hm, xp, fun d s1 v G1 H1 hm1 g1 f1 r1 q1 => by
    cases d <;> first | exact False.elim hm1 | skip
    · obtain ⟨a1, xs1, rfl, h1, q1⟩ := q1.tupI
      refine ⟨_, _, rfl, .inr ⟨sqT_mono r1.h.sub (hY ▸ h1), fun p hp => ?_⟩⟩
      exact k _ s1 _ _ _ hm1 (g1.trans (r1.h.new hp (.tup xs1.reverse)).2.1) (f1.trans (.new hp)) ⟨(r1.h.new hp _).1, r1.s.mono (r1.h.new hp (.tup xs1.reverse)).2.1⟩ (.tup (.inl (.inl upd_same)) ((q1.mono (r1.h.new hp _).2.1).reverse))
    · obtain ⟨a1, xs1, rfl, h1, q1⟩ := q1.lstI
      refine ⟨_, _, rfl, .inl ⟨SqL.of (r1.h.sub _ _ h1), fun p hp => ?_⟩⟩
      exact k _ s1 _ _ _ hm1 (g1.trans (r1.h.new hp (.lst xs1.reverse)).2.1) (f1.trans (.new hp)) ⟨(r1.h.new hp _).1, r1.s.mono (r1.h.new hp (.lst xs1.reverse)).2.1⟩ (.lst upd_same ((q1.mono (r1.h.new hp _).2.1).reverse))⟩
def negD : O1 := fun _ d P => match d with
  | .int i => P (.int (-i))
  | _ => False
theorem ud_neg : UnD X Y (unaryOp .USub) negD := by
  intro pins s σ H x v Q I rx ⟨G, mu, c, d, P, r0, qd, h, k⟩
  cases d <;> first | exact False.elim h | skip
  cases qd
  exact un_neg pins s σ H _ v Q I rx ⟨_, rfl, k.here r0 h (.int _)⟩
end
end DL
namespace DL
open PySem L2
/-! ### texts by their signs -/
theorem app_cps (a b : Str) : (a ++ b).cps.toList = a.cps.toList ++ b.cps.toList := by
  show (a.cps ++ b.cps).toList = _
  rw [Array.toList_append]
theorem app_len (a b : Str) : (a ++ b).length = a.length + b.length := by
  rw [str_len, str_len, str_len, app_cps, List.length_append]
theorem foldl_app (g : Array Nat) : ∀ (l : List Str) (acc : Array Nat), g.toList = [] → (l.foldl (fun a t => a ++ g ++ t.cps) acc).toList = acc.toList ++ (l.map fun s => s.cps.toList).flatten
  | [], acc, _ => by simp
  | x :: l, acc, h => by
    rw [List.foldl_cons, foldl_app g l _ h, Array.toList_append, Array.toList_append, h, List.map_cons, List.flatten_cons, List.append_nil, List.append_assoc]
theorem join_cps (l : List Str) : (Txt.join (Str.ofString "") l).cps.toList = (l.map fun s => s.cps.toList).flatten := by
  cases l with
  | nil => rfl
  | cons x l =>
    show (l.foldl (fun a t => a ++ (Str.ofString "").cps ++ t.cps) x.cps).toList = _
    rw [foldl_app (Str.ofString "").cps l _ rfl, List.map_cons, List.flatten_cons]
theorem join_ones (l : List Nat) : (Txt.join (Str.ofString "") (l.map fun k => (⟨#[k]⟩ : Str))).cps.toList = l := by
  rw [join_cps, List.map_map]
  induction l with
  | nil => rfl
  | cons k l ih => rw [List.map_cons, List.flatten_cons, ih]; rfl
/-- plain signs -/
def asc (l : List Nat) : Prop := ∀ k ∈ l, k < 128
theorem asc_app {a b : List Nat} (h : asc a) (g : asc b) : asc (a ++ b) := fun k hk => by
  rcases List.mem_append.mp hk with e | e
  · exact h k e
  · exact g k e
theorem asc_cut {l : List Nat} (h : asc l) (lo hi : Option Int) : asc (cutD l lo hi) := fun k hk => h k (List.mem_of_mem_drop (List.mem_of_mem_take hk))
theorem cut_len {α : Type} (l : List α) (lo hi : Option Int) : (cutD l lo hi).length ≤ l.length := by
  unfold cutD
  rw [List.length_take, List.length_drop]
  omega
theorem asc_name {l : List Nat} (h : isNameL l = true) : asc l := fun k hk => alnum_lt k (isNameL_all h k hk)
theorem pl_str {s : Str} {n : Nat} (h : asc s.cps.toList) (l : s.cps.toList.length ≤ 1000) : (D.str s).pl n = true := by
  refine Bool.and_eq_true_iff.mpr ⟨?_, decide_eq_true (by rw [str_len]; exact l)⟩
  unfold PyData.strOk
  rw [Array.all_eq_true']
  intro x hx
  have := h x (by simpa using hx)
  simp only [decide_eq_true_eq]
  omega
theorem ofL_cps (l : List Nat) : (⟨l.toArray⟩ : Str).cps.toList = l := by simp
theorem upper_one : ∀ k ∈ alnum, (Unicode.upperOf k).length = 1 ∧ ∀ j ∈ Unicode.upperOf k, j < 128 := by decide +kernel
theorem upper_cps (s : Str) : (Txt.upper s).cps.toList = (s.cps.toList.map fun c => Unicode.upperOf c).flatten := by
  show (placed s fun _ c => Unicode.upperOf c).toList = _
  unfold placed
  have e : (s.cps.mapIdx fun i c => (Unicode.upperOf c).toArray) = s.cps.map fun c => (Unicode.upperOf c).toArray := by
    apply Array.ext
    · simp
    · intro i h1 h2
      simp
  rw [e]
  rw [Array.toList_flatten]
  simp [Function.comp_def]
theorem upper_asc {s : Str} (h : ∀ k ∈ s.cps.toList, k ∈ alnum) : asc (Txt.upper s).cps.toList ∧ (Txt.upper s).cps.toList.length = s.cps.toList.length := by
  rw [upper_cps]
  generalize s.cps.toList = l at h
  induction l with
  | nil => exact ⟨fun k hk => (by simp at hk), rfl⟩
  | cons k l ih =>
    obtain ⟨h1, h2⟩ := ih fun j hj => h j (List.mem_cons_of_mem _ hj)
    obtain ⟨h3, h4⟩ := upper_one k (h k List.mem_cons_self)
    rw [List.map_cons, List.flatten_cons]
    exact ⟨asc_app h4 h1, by rw [List.length_append, h2, h3, List.length_cons, Nat.add_comm]⟩
/-- what the turns of a comprehension gave -/
theorem all2_ex {α β γ : Type} (f : α → β) (p : α → Prop) {ds : List γ} {ys : List β} (h : All2 (fun _ y => ∃ s, y = f s ∧ p s) ds ys) : ∃ ns : List α, ys = ns.map f ∧ ns.length = ds.length ∧ ∀ s ∈ ns, p s := by
  induction h with
  | nil => exact ⟨[], rfl, rfl, fun s hs => (by cases hs)⟩
  | cons h1 h9 ih =>
    obtain ⟨s, rfl, hs⟩ := h1
    obtain ⟨ns, rfl, h2, h3⟩ := ih
    refine ⟨s :: ns, rfl, by rw [List.length_cons, List.length_cons, h2], fun x hx => ?_⟩
    rcases List.mem_cons.mp hx with e | e
    · rw [e]; exact hs
    · exact h3 x e
theorem rngD_len (lo : Int) (n : Nat) : (rngD lo n).length = n := by simp [rngD]
/-- no name -/
theorem noName_us (l : List Nat) : isNameL (l ++ [95]) = false := by
  cases e : isNameL (l ++ [95]) with
  | false => rfl
  | true => exact absurd (isNameL_all e 95 (by simp)) (by decide +kernel)
theorem noName_long {l : List Nat} (h : 12 < l.length) : isNameL l = false := by
  cases e : isNameL l with
  | false => rfl
  | true => have := (isNameL_len e).2; omega
theorem shortL {α : Type} {l : List α} (n : Nat) (h : l.length = n) (g : n ≤ 1000 := by decide) : l.length ≤ sizeLine := by
  rw [h, sizeLine_eq]
  omega
/-! ### forms -/
inductive Fm where
  | leaf (w n : Str)
  | node (w : Str) (l r : Fm)
def Fm.toD : Fm → D
  | .leaf w n => .tup [.str w, .str n]
  | .node w l r => .tup [.str w, l.toD, r.toD]
def Fm.ok : Fm → Bool
  | .leaf w n => leafW (.str w) && isNameL n.cps.toList
  | .node w l r => halfW (.str w) && (l.ok && r.ok)
def Fm.depth : Fm → Nat
  | .leaf _ _ => 0
  | .node _ l r => max l.depth r.depth + 1
theorem leafW_or {d : D} (h : leafW d = true) : d = .str "good" ∨ d = .str "counter" := by
  simp only [leafW, leafWs, List.any_cons, List.any_nil, Bool.or_false, Bool.or_eq_true, eqv_str] at h
  exact h
theorem halfW_or {d : D} (h : halfW d = true) : d = .str "both" ∨ d = .str "between" ∨ d = .str "offered" ∨ d = .str "chosen" := by
  simp only [halfW, halfWs, List.any_cons, List.any_nil, Bool.or_false, Bool.or_eq_true, eqv_str] at h
  exact h
theorem word_pl {d : D} {n : Nat} (h : leafW d = true ∨ halfW d = true) : ∃ s, d = .str s ∧ asc s.cps.toList ∧ s.cps.toList.length ≤ 10 := by
  rcases h with h | h
  · rcases leafW_or h with e | e <;> exact ⟨_, e, by unfold asc; decide +kernel, by decide +kernel⟩
  · rcases halfW_or h with e | e | e | e <;> exact ⟨_, e, by unfold asc; decide +kernel, by decide +kernel⟩
theorem leafW_asc {s : Str} (h : leafW (.str s) = true) : asc s.cps.toList ∧ s.cps.toList.length ≤ 10 := by
  obtain ⟨t, e, h1⟩ := word_pl (n := 0) (.inl h)
  cases e
  exact h1
theorem halfW_asc {s : Str} (h : halfW (.str s) = true) : asc s.cps.toList ∧ s.cps.toList.length ≤ 10 := by
  obtain ⟨t, e, h1⟩ := word_pl (n := 0) (.inr h)
  cases e
  exact h1
theorem Fm.dep : ∀ (f : Fm) (m : Nat), f.ok = true → depthIn m f.toD = if f.depth ≤ m then some f.depth else none
  | .leaf w n, m, h => by
    have e : depthIn m (Fm.leaf w n).toD = if (leafW (.str w) && isNameD (.str n)) = true then some 0 else none := by cases m <;> rfl
    have h' : (leafW (.str w) && isNameD (.str n)) = true := h
    rw [e, if_pos h', if_pos (show (Fm.leaf w n).depth ≤ m from Nat.zero_le _)]
    rfl
  | .node w l r, 0, h => by
    rw [if_neg (show ¬ (Fm.node w l r).depth ≤ 0 by unfold Fm.depth; omega)]
    rfl
  | .node w l r, m + 1, h => by
    have h' := Bool.and_eq_true_iff.mp h
    have h2 := Bool.and_eq_true_iff.mp h'.2
    show (if halfW (.str w) = true then (depthIn m l.toD).bind fun x => (depthIn m r.toD).map fun y => max x y + 1 else none) = _
    rw [if_pos h'.1, Fm.dep l m h2.1, Fm.dep r m h2.2]
    show _ = if max l.depth r.depth + 1 ≤ m + 1 then some (max l.depth r.depth + 1) else none
    by_cases h3 : l.depth ≤ m
    · by_cases h4 : r.depth ≤ m
      · rw [if_pos h3, if_pos h4, if_pos (by omega)]; rfl
      · rw [if_pos h3, if_neg h4, if_neg (by omega)]; rfl
    · rw [if_neg h3, if_neg (show ¬ max l.depth r.depth + 1 ≤ m + 1 from fun z => h3 (Nat.le_trans (Nat.le_max_left _ _) (Nat.le_of_succ_le_succ z)))]; rfl
theorem Fm.fine : ∀ (f : Fm) (m : Nat), f.ok = true → fineD m f.toD = true
  | .leaf w n, m, h => by
    have h' := Bool.and_eq_true_iff.mp h
    have e : fineD m (Fm.leaf w n).toD = ((D.str w).ok 64 && nameFine (.str n)) := by cases m <;> rfl
    rw [e]
    have a := leafW_asc h'.1
    refine Bool.and_eq_true_iff.mpr ⟨D.pl_ok _ 64 (pl_str a.1 (by omega)), nameFine_pl (n := 0) (pl_str (asc_name h'.2) (by have := (isNameL_len h'.2).2; omega))⟩
  | .node w l r, 0, h => by
    have h' := Bool.and_eq_true_iff.mp h
    have a := halfW_asc h'.1
    exact D.pl_ok (.str w) 64 (pl_str a.1 (by omega))
  | .node w l r, m + 1, h => by
    have h' := Bool.and_eq_true_iff.mp h
    have h2 := Bool.and_eq_true_iff.mp h'.2
    have a := halfW_asc h'.1
    exact Bool.and_eq_true_iff.mpr ⟨D.pl_ok (.str w) 64 (pl_str a.1 (by omega)), Bool.and_eq_true_iff.mpr ⟨Fm.fine l m h2.1, Fm.fine r m h2.2⟩⟩
theorem Fm.plain : ∀ (f : Fm) (n : Nat), f.ok = true → f.depth < n → f.toD.pl n = true
  | .leaf w x, n + 1, h, hn => by
    have h' := Bool.and_eq_true_iff.mp h
    have a := leafW_asc h'.1
    exact D.pl_tup (D.pls_of fun d hd => by
      rcases List.mem_cons.mp hd with e | e
      · rw [e]; exact pl_str a.1 (by omega)
      · rcases List.mem_cons.mp e with e | e
        · rw [e]; exact pl_str (asc_name h'.2) (by have := (isNameL_len h'.2).2; omega)
        · cases e)
  | .node w l r, n + 1, h, hn => by
    have h' := Bool.and_eq_true_iff.mp h
    have h2 := Bool.and_eq_true_iff.mp h'.2
    have a := halfW_asc h'.1
    have hd : max l.depth r.depth + 1 < n + 1 := hn
    exact D.pl_tup (D.pls_of fun d hd => by
      rcases List.mem_cons.mp hd with e | e
      · rw [e]; exact pl_str a.1 (by omega)
      · rcases List.mem_cons.mp e with e | e
        · rw [e]; exact Fm.plain l n h2.1 (by omega)
        · rcases List.mem_cons.mp e with e | e
          · rw [e]; exact Fm.plain r n h2.2 (by omega)
          · cases e)
def isFormIn (m : Nat) (d : D) : Bool := (depthIn m d).isSome
theorem Fm.isForm (f : Fm) (m : Nat) (h : f.ok = true) : isFormIn m f.toD = decide (f.depth ≤ m) := by
  unfold isFormIn
  rw [Fm.dep f m h]
  by_cases e : f.depth ≤ m
  · rw [if_pos e, decide_eq_true e]; rfl
  · rw [if_neg e, decide_eq_false e]; rfl
/-! ### short plain texts, lists by what stands in them -/
def sA (n : Nat) (s : Str) : Prop := asc s.cps.toList ∧ s.cps.toList.length ≤ n
theorem sA_cut {n : Nat} {s : Str} (h : sA n s) (lo hi : Option Int) : sA n ⟨(cutD s.cps.toList lo hi).toArray⟩ := by
  unfold sA
  rw [ofL_cps]
  exact ⟨asc_cut h.1 lo hi, Nat.le_trans (cut_len _ _ _) h.2⟩
theorem sA_app {n m : Nat} {a b : Str} (h : sA n a) (g : sA m b) : sA (n + m) (a ++ b) := by
  unfold sA
  rw [app_cps, List.length_append]
  exact ⟨asc_app h.1 g.1, Nat.add_le_add h.2 g.2⟩
theorem sA_one {k : Nat} (h : k < 128) : sA 1 ⟨#[k]⟩ := ⟨fun j hj => by
  have : j = k := by simpa using hj
  omega, Nat.le_refl _⟩
theorem sA_name {s : Str} (h : isNameL s.cps.toList = true) : sA 12 s := ⟨asc_name h, (isNameL_len h).2⟩
theorem sA.len {n : Nat} {s : Str} (h : sA n s) : s.length ≤ n := by rw [str_len]; exact h.2
theorem sA.line {n : Nat} {s : Str} (h : sA n s) (g : n ≤ 1000 := by decide) : s.length ≤ LINE := by
  have := h.len
  have e : (LINE : Nat) = 16777216 := rfl
  omega
theorem sA.two {n m : Nat} {a b : Str} (h : sA n a) (g : sA m b) (l : n + m ≤ 1000 := by decide) : a.length + b.length ≤ LINE := by
  have := h.len
  have := g.len
  have e : (LINE : Nat) = 16777216 := rfl
  omega
theorem sA.pl {n : Nat} {s : Str} (h : sA n s) {m : Nat} (g : n ≤ 1000 := by decide) : (D.str s).pl m = true := pl_str h.1 (Nat.le_trans h.2 g)
theorem sA_upper {s : Str} (h : isNameL s.cps.toList = true) : sA 12 (Txt.upper s) := ⟨(upper_asc (isNameL_all h)).1, by rw [(upper_asc (isNameL_all h)).2]; exact (isNameL_len h).2⟩
theorem atI_mem {α : Type} {l : List α} {i : Int} (h0 : 0 ≤ i) (h1 : i < l.length) : ∃ z, z ∈ l ∧ atI l i = some z := by
  obtain ⟨j, rfl⟩ := Int.eq_ofNat_of_zero_le h0
  have hj : j < l.length := by omega
  exact ⟨_, List.getElem_mem hj, atI_nat (List.getElem?_eq_getElem hj)⟩
theorem two_le {α β : Type} {a : List α} {b : List β} (n m : Nat) (ha : a.length ≤ n) (hb : b.length ≤ m) (l : n + m ≤ 1000 := by decide) : a.length + b.length ≤ LINE := by
  have e : (LINE : Nat) = 16777216 := rfl
  omega
theorem cut_le {α : Type} {l : List α} {n : Nat} (h : l.length ≤ n) (lo hi : Option Int) : (cutD l lo hi).length ≤ n := Nat.le_trans (cut_len l lo hi) h
theorem app_le {α : Type} {a b : List α} {n m : Nat} (ha : a.length ≤ n) (hb : b.length ≤ m) : (a ++ b).length ≤ n + m := by rw [List.length_append]; omega
section
variable {α : Type} {p : α → Prop}
theorem al_nil : ∀ d ∈ ([] : List α), p d := fun d hd => by cases hd
theorem al_cons {x : α} {l : List α} (h : p x) (g : ∀ d ∈ l, p d) : ∀ d ∈ x :: l, p d := fun d hd => by
  rcases List.mem_cons.mp hd with e | e
  · rw [e]; exact h
  · exact g d e
theorem al_one {x : α} (h : p x) : ∀ d ∈ [x], p d := al_cons h al_nil
theorem al_app {a b : List α} (h : ∀ d ∈ a, p d) (g : ∀ d ∈ b, p d) : ∀ d ∈ a ++ b, p d := fun d hd => by
  rcases List.mem_append.mp hd with e | e
  · exact h d e
  · exact g d e
theorem al_cut {a : List α} (h : ∀ d ∈ a, p d) (lo hi : Option Int) : ∀ d ∈ cutD a lo hi, p d := fun d hd => h d (List.mem_of_mem_drop (List.mem_of_mem_take hd))
theorem al_rev {a : List α} (h : ∀ d ∈ a, p d) : ∀ d ∈ a.reverse, p d := fun d hd => h d (List.mem_reverse.mp hd)
end
theorem tupP {ys : List D} {m : Nat} (h : ∀ d ∈ ys, d.pl m = true) : (D.tup ys).pl (m + 1) = true := D.pl_tup (D.pls_of h)
theorem lstP {ys : List D} {m : Nat} (h : ∀ d ∈ ys, d.pl m = true) : (D.lst ys).pl (m + 1) = true := D.pl_lst (D.pls_of h)
/-- what is no name -/
def noN (d : D) : Prop := isNameD d = false ∧ d.ty.isSome = true ∧ ∀ s, d = .str s → s.length ≤ LINE
theorem noN_non : noN .non := ⟨rfl, rfl, fun s e => by cases e⟩
theorem noN_bl {b : Bool} : noN (.bl b) := ⟨rfl, rfl, fun s e => by cases e⟩
theorem noN_int {b : Int} : noN (.int b) := ⟨rfl, rfl, fun s e => by cases e⟩
theorem noN_tup {b : List D} : noN (.tup b) := ⟨rfl, rfl, fun s e => by cases e⟩
theorem noN_lst {b : List D} : noN (.lst b) := ⟨rfl, rfl, fun s e => by cases e⟩
theorem noN_dct {b : List (Key × D)} : noN (.dct b) := ⟨rfl, rfl, fun s e => by cases e⟩
theorem noN_str {s : Str} (h : isNameL s.cps.toList = false) (l : s.length ≤ LINE) : noN (.str s) := ⟨h, rfl, fun t e => by cases e; exact l⟩
theorem rep_len {α : Type} (l : List α) (k : Int) : (repD l k).length = k.toNat * l.length := by
  unfold repD
  rw [List.length_flatten, List.map_replicate, List.sum_replicate_nat]
theorem all_true {α : Type} (l : List α) : ((l.map fun _ => true).all id) = true := by
  rw [List.all_map, List.all_eq_true]
  intro x _
  rfl
end DL
namespace DL
open PySem L2
/-! ### the law itself: its source of draws, then the rest over data -/
/-- the promise of a law: a list of at most 63 numbers comes in, True goes out -/
def spLaw (K : PySem.W.Frag) (T : List (Addr × Str)) : Sp := fun vs H Q E => ∃ (a : Addr) (ns : List Int), vs = [.ref a] ∧ SqL K H a (ns.map V.int) ∧ ns.length ≤ 63 ∧ LamX.Tabs T H ∧ ∀ H', Q (.bl true) H'
theorem rest_pen {X : Cx} {K : PySem.W.Frag} {mg : Str → Option Value} {T : List (Addr × Str)} {W : WX} {body : List Stmt} {m : MS} (h : ∀ q, DSs X (Yp K mg T q) W body m) : PSs X body (fun D σ H => ∃ q, TSof (Yp K mg T q) W m D σ H) :=
  ⟨fun pins s σ H D I ⟨p, q⟩ => (h p).run pins s σ H D I q⟩
def onlyAt (ca : Addr) (o : HO) : Hp := fun b => if b = ca then some o else none
theorem slPen {K : PySem.W.Frag} {mg : Str → Option Value} {T : List (Addr × Str)} {p : Addr} {G : Hp} {x : Option V} (k : Nat) : Sl (Yp K mg T ⟨p, [], fun _ => none⟩) G (none :: some .pen :: List.replicate k none) (x :: some (.ref p) :: List.replicate k none) := by
  refine ⟨by simp, fun i d e => ?_⟩
  match i, e with
  | 0, e => cases e
  | 1, e => cases e; exact ⟨.ref p, rfl, .pen⟩
  | i + 2, e =>
    have := List.mem_of_getElem? (show (List.replicate k (none : Option D))[i]? = some (some d) from e)
    simp at this
def lawEnd : DEnds := { nx := fun _ => False, rt := fun d _ => d = .bl true }
theorem law_fin {K : PySem.W.Frag} {mg : Str → Option Value} {T : List (Addr × Str)} {W : WX} {p ca : Addr} {H : Hp} {m : MS} {ns : List Int} {D : Ends} {x : Option V} (k : Nat) (npc : p ≠ ca) (h1 : H p = some (.dK (penKvs ca 0 0))) (h2 : H ca = some (.lst (ns.map V.int))) (hl : ns.length ≤ 63) (hT : LamX.Tabs T H)
    (hm : m ⟨none :: some .pen :: List.replicate k none, fun _ => none, 0⟩ lawEnd PX0) (hD : ∀ H, D.rt (.bl true) H) : TSof (Yp K mg T ⟨p, [], fun _ => none⟩) W m D (x :: some (.ref p) :: List.replicate k none) H := by
  refine ⟨onlyAt ca (.lst (ns.map V.int)), ⟨none :: some .pen :: List.replicate k none, fun _ => none, 0⟩, lawEnd, PX0, ⟨⟨fun b o e => ?_, fun a mo e => (by cases e), ⟨_, h1, ⟨ca, 0, 0, ns, rfl, ?_, hl, Int.le_refl _, Int.le_refl _, Int.le_refl _⟩, ?_, rfl⟩, ⟨hT, fun q hq => ⟨?_, rfl⟩, fun p hp => (by cases hp), fun b o e => ?_, fun b o e => (by cases e)⟩⟩, slPen k⟩, hm, fun _ _ _ _ _ _ _ z => z.elim, ⟨fun _ _ _ _ z => z.elim, fun d st' v σ' G' H' z _ _ _ q => ?_, fun _ _ _ _ z => z.elim, fun _ _ _ _ z => z.elim⟩⟩
  · unfold onlyAt at e
    split at e
    · rename_i hb
      rw [hb, h2]
      exact e
    · cases e
  · unfold onlyAt
    rw [if_pos rfl]
  · show onlyAt ca (.lst (ns.map V.int)) p = none
    unfold onlyAt
    rw [if_neg npc]
  · show onlyAt ca (.lst (ns.map V.int)) q.1 = none
    unfold onlyAt
    rw [if_neg (fun z => by
      obtain ⟨ps, e1, _⟩ := hT q hq
      rw [z, h2] at e1
      cases e1)]
  · unfold onlyAt at e
    split at e
    · cases e
      exact plain_lst
    · cases e
  · have z' : d = .bl true := z
    subst z'
    cases q
    exact hD H'
/-- turns that all gave True -/
theorem all_rel {γ : Type} {ds : List γ} {ys : List D} (h : All2 (fun _ y => y = .bl true) ds ys) : ∃ bs, blsOf ys = some bs ∧ bs.all id = true := by
  induction h with
  | nil => exact ⟨[], rfl, rfl⟩
  | cons h1 _ ih =>
    obtain ⟨bs, e1, e2⟩ := ih
    refine ⟨true :: bs, ?_, ?_⟩
    · rw [h1]
      simp [blsOf, e1]
    · simp [e2]
/-! ### the end -/
/-- what a module's name holds, by the written part -/
theorem glob_int {K : PySem.W.Frag} {h : Heap} {mg : Str → Option Value} {x : Str} {i : Int} {t : Tok} (X : K.In h) (G : h.Ns mainGlobals mg) (e : PySem.W.nsIn K mainGlobals x = some (some (.int i t))) : GlobD K mg x (.int i) :=
  ⟨.int i, _, PySem.W.mg_of X G e, ⟨_, rfl⟩, fun _ _ _ => .int i⟩
theorem glob_str {K : PySem.W.Frag} {h : Heap} {mg : Str → Option Value} {x : Str} {i : Str} {t : Tok} (X : K.In h) (G : h.Ns mainGlobals mg) (e : PySem.W.nsIn K mainGlobals x = some (some (.str i t))) : GlobD K mg x (.str i) :=
  ⟨.str i, _, PySem.W.mg_of X G e, ⟨_, rfl⟩, fun _ _ _ => .str i⟩
theorem glob_strL {K : PySem.W.Frag} {mg : Str → Option Value} {x : Str} {i : Str} (e : ∃ t, mg x = some (.str i t)) : GlobD K mg x (.str i) :=
  let ⟨_, e⟩ := e
  ⟨.str i, _, e, ⟨_, rfl⟩, fun _ _ _ => .str i⟩
mutual
/-- a value that the written part holds, as data -/
inductive KD (K : PySem.W.Frag) : Value → D → V → Prop
  | non : KD K .none .non .non
  | bl (b : Bool) : KD K (.bool b) (.bl b) (.bl b)
  | int (i : Int) (t : Tok) : KD K (.int i t) (.int i) (.int i)
  | str (i : Str) (t : Tok) : KD K (.str i t) (.str i) (.str i)
  | tup {a : Addr} {od : Option Addr} {its : Array Value} {n : Nat} {sl : Array (Option Value)} {ds : List D} {vs : List V} : K.lookup a = some ⟨.type "tuple", od, .seq its n, sl⟩ → its.size ≤ sizeLine → KDs K its.toList ds vs → KD K (.ref a) (.tup ds) (.ref a)
inductive KDs (K : PySem.W.Frag) : List Value → List D → List V → Prop
  | nil : KDs K [] [] []
  | cons {u : Value} {d : D} {v : V} {us : List Value} {ds : List D} {vs : List V} : KD K u d v → KDs K us ds vs → KDs K (u :: us) (d :: ds) (v :: vs)
end
theorem KD.rel {K : PySem.W.Frag} {u : Value} {d : D} {v : V} (h : KD K u d v) : RelV v u := by
  cases h with
  | non => rfl
  | bl b => rfl
  | int i t => exact ⟨t, rfl⟩
  | str i t => exact ⟨t, rfl⟩
  | tup _ _ _ => rfl
theorem KDs.vals {K : PySem.W.Frag} : ∀ {us : List Value} {ds : List D} {vs : List V}, KDs K us ds vs → Vals vs us
  | _, _, _, .nil => .nil
  | _, _, _, .cons h r => .cons h.rel (KDs.vals r)
mutual
theorem KD.rep {Y : Yc} {G : Hp} : ∀ {u : Value} {d : D} {v : V}, KD Y.K u d v → Rep Y G d v
  | _, _, _, .non => .non
  | _, _, _, .bl b => .bl b
  | _, _, _, .int i t => .int i
  | _, _, _, .str i t => .str i
  | _, _, _, .tup h hz r => .tup (.inr ⟨_, _, _, h, rfl, rfl, hz, r.vals⟩) (KDs.reps r)
theorem KDs.reps {Y : Yc} {G : Hp} : ∀ {us : List Value} {ds : List D} {vs : List V}, KDs Y.K us ds vs → Reps Y G ds vs
  | _, _, _, .nil => .nil
  | _, _, _, .cons h r => .cons (KD.rep h) (KDs.reps r)
end
theorem glob_kd {K : PySem.W.Frag} {h : Heap} {mg : Str → Option Value} {x : Str} {u : Value} {d : D} {v : V} (X : K.In h) (G : h.Ns mainGlobals mg) (e : PySem.W.nsIn K mainGlobals x = some (some u)) (k : KD K u d v) : GlobD K mg x d :=
  ⟨v, u, PySem.W.mg_of X G e, k.rel, fun Y hY G => by subst hY; exact k.rep⟩
/-- a law's end; what the top's loose names hold is told too -/
theorem endX {l : PySem.W.OpenLaw} {n k : Nat} {q : Program} {loose : List Str} {XP : (Str → Option Value) → Heap → Prop} {YP : World → Heap → Prop} {d : DefRec} {K : Params → PySem.W.Frag} {x : Str} (hn : l.most = some n) (hz : n ≤ sizeLine) (h63 : n ≤ 63)
    (hdf : d.params.defaults = []) (hr : Room k callerA) (hY : ∀ (w : World) (h : Heap), YP w h → (K w.params).In h)
    (F : ∀ (w : World) (mg : Str → Option Value) (fa : Addr) (h : Heap), XP mg h → (K w.params).In h → h.Ns mainGlobals mg → mg d.name = some (.ref fa) → ∃ fd : FuncData,
      (∀ (s : Shared) (u : Value), BindsTo s fd ⟨[u], []⟩ [(x, u)]) ∧ ∀ base : Heap, (K w.params).In base → base.Ns mainGlobals mg → FnOk l.prog w (K w.params) mg base (L2.CX l.prog w) k fa fd [x] (spLaw (K w.params) [])) :
    PySem.W.WalkO q loose XP YP l.row.toRowW d [] (fun f vs => PySem.call f vs) :=
  Att.attach_call hn hdf fun w s0 s1 mg mb fa o pm cd doc a vs ns G Y ho hd hcd hmg hobj hints hlen hg =>
    have KX := hY w _ Y
    let ⟨fd, hb, hF⟩ := F w mg fa _ G.X KX G.T.g hmg
    law_call KX G.T.g G.T.b G.T.builtins G.T.nolimit hg hobj hints (Nat.le_trans hlen hz) hr hF hb (fun H hO hS => ⟨a, ns, rfl, hS, Nat.le_trans hlen h63, fun _ z => (by cases z), fun _ => rfl⟩) fun H e s' ⟨_, _, _, _, _, _, _, _, _, _, _, _, z⟩ => z
theorem loose_str {h : Heap} {mg : Str → Option Value} {x s : Str} (e : ∃ v, mg x = some v ∧ PySem.W.ReadsLit h v (.str s) []) : ∃ t, mg x = some (.str s t) := by
  obtain ⟨v, e1, r⟩ := e
  cases r
  exact ⟨_, e1⟩
end DL
namespace DL
open PySem PySem.W PySem.Calls PyProof.Rows PySem.HandSPX
/-! ### own errors: class E(B): def __init__(self, f): super().__init__(f); self.f = f -/
abbrev veB : List Value := [.type "ValueError", .type "Exception", .type "BaseException", .type "object"]
def erA (fld : Str) (p1 p2 : Pos) : Arguments := { posonlyargs := [], args := [{ arg := "self", annotation := none, pos := p1 }, { arg := fld, annotation := none, pos := p2 }], vararg := none, kwonlyargs := [], kw_defaults := [], kwarg := none, defaults := [] }
def erB (fld : Str) (q0 q1 q2 q3 q4 q5 q6 q7 q8 q9 : Pos) : List Stmt :=
  [.Expr (.Call (.Attribute (.Call (.Name "super" q0) [] [] q1) "__init__" q2) [.Name fld q3] [] q4) q5, .Assign [.Attribute (.Name "self" q6) fld q7] (.Name fld q8) q9]
def erS (fld : Str) : Scope := { kind := .function, names := [("self", .local), (fld, .local), ("__class__", .free), ("super", .globalImplicit)], isGenerator := false, isCoroutine := false, more := [] }
/-- the field's name is none of the others, its def takes it -/
structure FldOk (fld : Str) : Prop where
  n1 : (fld == ("self" : Str)) = false
  n2 : (fld == ("super" : Str)) = false
  n3 : (fld == ("__class__" : Str)) = false
  n4 : (fld == ("__debug__" : Str)) = false
  look : (erS fld).names.lookup fld = some .local
  self : (erS fld).names.lookup ("self" : Str) = some .local
  cls : (erS fld).names.lookup ("__class__" : Str) = some .free
  sup : (erS fld).names.lookup ("super" : Str) = some .globalImplicit
  bind : ∀ (qual : Str) (p1 p2 : Pos) (body : List Stmt) (doc pm : Value) (an : Option Addr) (cdv ct : Value) (cc : Addr) (a b : Value), bindArgs (ksFn "__init__" qual (erA fld p1 p2) body (erS fld) .none .none doc pm an cdv ct cc) ⟨[a, b], []⟩ = pure [(("self" : Str), a), (fld, b)]
/-- how the two rows of __init__ run (their places in the text settle it) -/
structure ErTxt (fld : Str) (q0 q1 q2 q3 q4 q5 q6 q7 q8 q9 : Pos) : Prop where
  meth : ∃ pl : Sem Bool, ∀ env : Env, eval (.Call (.Attribute (.Call (.Name "super" q0) [] [] q1) "__init__" q2) [.Name fld q3] [] q4) env = (do
      let ov ← attributeBase (.Call (.Name "super" q0) [] [] q1) "__init__" env (eval (.Call (.Name "super" q0) [] [] q1) env)
      standAt q2.atName
      let (f, first) ← holding [ov] (getMethod ov "__init__" pl)
      callWith q4 f first (backTo q4 (starEach [.Name fld q3] env)) [])
  sw1 : ∀ env : Env, swapsWith (.Call (.Attribute (.Call (.Name "super" q0) [] [] q1) "__init__" q2) [.Name fld q3] [] q4) none q5.line env = pure false
  sw2 : ∀ env : Env, swapsWith (.Name fld q8) (some (.Attribute (.Name "self" q6) fld q7)) q9.line env = pure false
structure OwnErr (prog : Program) (K : Frag) (mg : Str → Option Value) (x fld : Str) (C fI : Addr) : Prop where
  fo : FldOk fld
  gC : mg x = some (.ref C)
  cls : ∃ nm q N bs bm sn sub ab col dd k0 k1 k2 k3 k5, K.lookup C = some (excClassObj nm q C N bs bm true sn sub ab col dd k0 k1 k2 k3 k5 "ValueError.__new__") ∧ refsVE bm = true
  sa : findIn K (.ref C) "__setattr__" = some (some (.builtin "object.__setattr__"))
  ga : findIn K (.ref C) "__getattribute__" = some (some (.builtin "BaseException.__getattribute__"))
  gg : findIn K (.ref C) "__getattr__" = some none
  noN : findIn K (.ref C) fld = some none
  iC : findIn K (.ref C) "__init__" = some (some (.ref fI))
  tC : typeIn K (.ref fI) = some (.type "function")
  kC : keepIn K (.ref C) = true
  exC : subIn K (.ref C) (.type "BaseException") = some true
  tyC : typeIn K (.ref C) = some (.type "type")
  hdC : hasDictIn K C = true
  te : exmOne K (.ref C) (.ref C) = some true
  sup : nsIn K mainGlobals "super" = some none
  top : (prog.main.scope.names.lookup ("super" : Str)).isSome = false
  any : nsIn K cStatics "thirdparty.any" = some none
  ini : ks_superIn K C C "__init__" = some (some (.builtin "ValueError.__init__"))
  ve : subIn K (.ref C) (.type "ValueError") = some true
  xi : excInitIn K C veB "ValueError.__new__" = true
  sub : mroIn K C (.ref C) = some true
  fn : ∃ (oc : Value) (od : Option Addr) (qual : Str) (doc pm : Value) (an : Option Addr) (cda : Addr) (ct : Value) (cc : Addr) (osl : Array (Option Value)) (p1 p2 q0 q1 q2 q3 q4 q5 q6 q7 q8 q9 : Pos),
    K.lookup fI = some ⟨oc, od, .func (ksFn "__init__" qual (erA fld p1 p2) (erB fld q0 q1 q2 q3 q4 q5 q6 q7 q8 q9) (erS fld) .none .none doc pm an (.ref cda) ct cc), osl⟩ ∧ codeIn K (.ref cda) qual = true ∧ q3.line = q3.line ∧
    (∃ (ccl : Value) (cdd : Option Addr) (vs : Array Value) (ccs : Array (Option Value)) (file : Str) (tf : Tok), K.lookup cda = some ⟨ccl, cdd, .fields vs, ccs⟩ ∧ vs[2]? = some (.str file tf) ∧ ((prog.main.file : Str) == file) = true) ∧
    (∃ (cl : Value) (cld : Option Addr) (csl : Array (Option Value)), K.lookup cc = some ⟨cl, cld, .cell (some (.ref C)), csl⟩) ∧ ErTxt fld q0 q1 q2 q3 q4 q5 q6 q7 q8 q9
/-- what __init__ leaves of a fresh exception at x -/
structure ErEnd (h h' : Heap) (x C dx t1 : Addr) (fld : Str) (v : Value) : Prop where
  keep : ∀ b o, h.get? b = some o → h'.get? b = some o
  obj : h'.get? x = some { cls := .ref C, dict := some dx, data := .fields #[.ref t1, .none, .none, .none, .bool false, .none] }
  dbig : h.objs.size ≤ dx
  dne : dx ≠ x
  ns : h'.Ns1 dx (fun y => if y = fld then some v else none)
/-- a made one -/
structure ErMade (h h' : Heap) (e C d : Addr) (fld : Str) (v : Value) : Prop where
  keep : ∀ b o, h.get? b = some o → h'.get? b = some o
  new : h.objs.size ≤ e
  obj : ∃ oe vs, h'.get? e = some oe ∧ oe.cls = .ref C ∧ oe.dict = some d ∧ oe.data = .fields vs ∧ vs[1]? = some .none
  dbig : h.objs.size ≤ d
  dne : d ≠ e
  ns : h'.Ns1 d (fun y => if y = fld then some v else none)
section
variable {prog : Program} {w : World} {A : Around} {E : Value → Shared → Prop} {R : Result → Shared → Prop} {s : Shared} {K : Frag} {mg : Str → Option Value} {C fI : Addr} {xn fld : Str}
/-- super() in __init__ -/
theorem er_super {h₀ : Heap} {L : Addr} {m mb : Str → Option Value} {news : List (Addr × Obj)} {body : List Stmt} {q : Str} {p0 p1 : Pos} {whole : Sem Value} {fd : FuncData} {ar : Arg} {vs : Array Value} {file : Str} {tf : Tok} {oc ccl cl : Value} {od cdd cld : Option Addr} {osl ccs csl : Array (Option Value)} {cdD : ClassData} {f cc cda x : Addr} {ox : Obj} {odx : Option Obj} {Q : Value → Shared → Prop}
    (fo : FldOk fld) (F : Fr h₀ L s.heap m) (X₀ : K.In h₀) (N : News h₀ L s.heap news) (Gm : h₀.Ns mainGlobals mg) (Gb : h₀.Ns builtinsNs mb) (hmb : mb "super" = some (.type "super"))
    (hf : K.lookup f = some ⟨oc, od, .func fd, osl⟩) (hp : (fd.params.posonlyargs ++ fd.params.args).head? = some ar) (har : ar.arg = "self") (hv : m "self" = some (.ref x)) (I : InstAt s.heap x ox C odx)
    (hcode : K.lookup cda = some ⟨ccl, cdd, .fields vs, ccs⟩) (hvs : vs[2]? = some (.str file tf)) (hfile : ((prog.main.file : Str) == file) = true)
    (hcell : K.lookup cc = some ⟨cl, cld, .cell (some (.ref C)), csl⟩) (hD : clsIn K C = some cdD) (hsub : mroIn K C (.ref C) = some true) (hsuper : nsIn K mainGlobals "super" = some none)
    (htop : (prog.main.scope.names.lookup ("super" : Str)).isSome = false)
    (h : ∀ so h', Fr h₀ L h' m → News h₀ L h' ((so, ks_superObj C x C) :: news) → (∀ p ∈ news, p.1 < so) → Q (.ref so) { s with heap := h' }) :
    PySem.wpAt (model prog w) A (.func body (ksEnv q (erS fld) L f (.ref cda) cc)) (attributeBase (.Call (.Name "super" p0) [] [] p1) "__init__" (ksEnv q (erS fld) L f (.ref cda) cc) whole) Q E s := by
  have X : K.In s.heap := X₀.keeps F.keep
  obtain ⟨hh, g, d, t, os⟩ := s
  obtain ⟨oD, hD1, hD2⟩ : ∃ oD, hh.get? C = some oD ∧ oD.data = .cls cdD := by
    unfold clsIn at hD
    split at hD
    · rename_i e1 e2 e3 e4 ho
      cases hD
      exact ⟨_, X _ _ ho, rfl⟩
    · cases hD
  refine ks_wpAt_super_base (env := ksEnv q (erS fld) L f (.ref cda) cc) fo.sup fo.cls (by decide) rfl (X _ _ hf) rfl hp rfl (X _ _ hcode) rfl hvs hfile htop ?_
  refine ks_loadName_global rfl fo.sup (loadGlobal_builtin (env := ksEnv q (erS fld) L f (.ref cda) cc) (Gm.keeps F.keep) (mg_none_of X₀ Gm hsuper) (Gb.keeps F.keep) hmb ⟨rfl, ?_⟩)
  refine wpAny_loadName_free rfl fo.cls rfl ⟨_, X _ _ hcell, rfl⟩ ?_
  rw [har]
  refine wpAny_loadName_local rfl fo.self F.ns hv ?_
  refine ks_wpAny_isType_cls hD1 hD2 ⟨rfl, ?_⟩
  refine ks_wpAny_call_super hD1 hD2 I.at_ I.cls (fun c e => ?_) (looks_mroIn X hsub) (fun h' e k => ?_)
  · have hno := I.no
    unfold notCls at hno
    rw [e] at hno
    exact Bool.noConfusion hno
  · obtain ⟨F', N', l'⟩ := ks_newsPush (s := ⟨hh, g, d, t, os⟩) F N rfl e k
    exact h _ _ F' N' l'
theorem er_le {h₀ h : Heap} (k : ∀ b o, h₀.get? b = some o → h.get? b = some o) : True := trivial
/-- __init__(e, v) of a fresh exception e -/
theorem er_init (T : OwnErr prog K mg xn fld C fI) {h₀ : Heap} {mb : Str → Option Value} {x t0 : Addr} {v : Value} (X₀ : K.In h₀) (Gm : h₀.Ns mainGlobals mg) (Gb : h₀.Ns builtinsNs mb) (hmb : mb "super" = some (.type "super")) (k0 : ∀ b o, h₀.get? b = some o → s.heap.get? b = some o) (hsz : h₀.objs.size ≤ s.heap.objs.size)
    (hlim : s.heap.NoLimit) (hx : s.heap.get? x = some (excO C t0)) (hnx : h₀.get? x = none) (hroom : A.depth < recursionLimit)
    (hq : ∀ h' tk dx t1, ErEnd h₀ h' x C dx t1 fld v → R (.ok (.ret .none)) { s with heap := h', toks := tk }) :
    codeAny (model prog w) A (.call (.ref fI) ⟨[.ref x, v], []⟩) R s := by
  obtain ⟨oc, od, qual, doc, pm, an, cda, ct, cc, osl, p1, p2, q0, q1, q2, q3, q4, q5, q6, q7, q8, q9, ho, hcd, _, ⟨ccl, cdd, vs, ccs, file, tf, hcode, hvs, hfile⟩, ⟨cl, cld, csl, hcell⟩, ⟨⟨pl, hmeth⟩, hsw1, hsw2⟩⟩ := T.fn
  obtain ⟨nm, q, N, bs, bm, sn, sub, ab, col, dd, k1, k2, k3, k4, k5, hC, hbm⟩ := T.cls
  have hcl : clsIn K C = some { name := nm, bases := bs, mro := .ref C :: bm, ns := N, qualname := q, hasDict := true, slotNames := sn, subclasses := sub, abstract := ab, collection := col, hasDel := false } := by unfold clsIn; rw [hC] <;> rfl
  have Xs : K.In s.heap := X₀.keeps k0
  have fo := T.fo
  have hle : ¬ (fld : Str) = "self" := fun z => by have := fo.n1; rw [z] at this; exact absurd this (by decide)
  have hle2 : (("self" : Str) == fld) = false := by
    cases e : (("self" : Str) == fld) with
    | false => rfl
    | true => exact absurd (eq_of_beq e).symm hle
  refine ks_codeAny_call_defAt (binds := [(("self" : Str), .ref x), (fld, v)]) (body := erB fld q0 q1 q2 q3 q4 q5 q6 q7 q8 q9) hroom (Xs _ _ ho) rfl hlim (codeRec_of Xs hcd) rfl (BindsTo.of_eq (fo.bind _ _ _ _ _ _ _ _ _ _ _ _)) (fun y hy => ?_) (fun y hy => ?_) (fun h1 hns hk => ?_) rfl rfl rfl
  · simp only [erS, List.mem_cons, List.not_mem_nil, or_false] at hy
    rcases hy with rfl | rfl | rfl | rfl <;> intro z <;> cases z
  · simp only [List.mem_cons, List.not_mem_nil, or_false] at hy
    rcases hy with rfl | rfl
    · exact fo.self
    · exact fo.look
  have mS : (List.reverse [(("self" : Str), Value.ref x), (fld, v)]).lookup ("self" : Str) = some (.ref x) := by
    show List.lookup ("self" : Str) [(fld, v), (("self" : Str), Value.ref x)] = _
    simp only [List.lookup, hle2, beq_self_eq_true]
  have mV : (List.reverse [(("self" : Str), Value.ref x), (fld, v)]).lookup fld = some v := by
    show List.lookup fld [(fld, v), (("self" : Str), Value.ref x)] = _
    simp only [List.lookup, beq_self_eq_true]
  have hxL : x ≠ s.heap.objs.size := Nat.ne_of_lt (Heap.lt_size hx)
  have F : Fr h₀ s.heap.objs.size h1 (fun y => (List.reverse [(("self" : Str), Value.ref x), (fld, v)]).lookup y) := ⟨hns, fun b o e => hk b o (k0 b o e), hsz⟩
  have N1 : News h₀ s.heap.objs.size h1 [(x, excO C t0)] := fun p hp => by
    rcases List.mem_cons.mp hp with e | e
    · rw [e]
      exact ⟨hk _ _ hx, hxL, hnx⟩
    · cases e
  refine ks_wpAt_execs_cons (ks_wpAt_Expr_any (ks_wpAt_MethodCall (er_super (odx := none) fo F X₀ N1 Gm Gb hmb ho rfl rfl mS ⟨hk _ _ hx, rfl, rfl, trivial⟩ hcode hvs hfile hcell hcl T.sub T.sup T.top fun so h2 F2 N2 l2 => ?_) (hmeth _)) (by rfl) (hsw1 _))
  refine kxs_method kxs_ValueError F2 X₀ N2 List.mem_cons_self (InstAt.of_exc0 (t := t0) (c2 := .none) N2 (List.mem_cons_of_mem _ List.mem_cons_self)) T.any T.ini T.ve (by decide) fun so2 h3 F3 N3 l3 => ?_
  refine kxs_callWith1 N3 List.mem_cons_self ?_ (by rfl) (by rfl)
  refine spliced_cons ?_
  refine wpAny_Name (wpAny_loadName_local rfl fo.look F3.ns mV ?_) fo.n4
  refine spliced_nil ⟨kxs_at N3 List.mem_cons_self, ?_⟩
  refine kxs_call (t := t0) (dv := none) (c2 := .none) F3 X₀ N3 PySem.F.excBase_ValueError T.xi List.mem_cons_self (.tail (fun z => ?_) (.tail (fun z => ?_) (.head (fun p hp => by cases hp)))) (by show 1 ≤ sizeLine; rw [sizeLine_eq]; decide) fun t1 h4 F4 N4 l4 => ?_
  · exact Nat.ne_of_gt (l3 (x, excO C t0) (by simp)) z
  · exact Nat.ne_of_gt (l2 (x, excO C t0) (by simp)) z
  have hx4 : h4.get? x = some (excO C t1) := (N4 (x, excObj C t1 none .none) (by simp)).1
  refine ks_wpAt_execs_cons (wpAt_of_wpAny ?_)
  refine plainObj_wpAny_Assign_Attribute ?_ (hsw2 _)
  refine wpAny_Name (wpAny_loadName_local rfl fo.look F4.ns mV ?_) fo.n4
  refine wpAny_Name (wpAny_loadName_local rfl fo.self F4.ns mS ?_)
  refine set_plain (X₀.keeps F4.keep) (ox := excO C t1) (od := none) ⟨hx4, rfl, rfl, trivial⟩ T.sa ?_
  refine exc_osa (X₀.keeps F4.keep) hx4 hcl (show refsVE (.ref C :: bm) = true from hbm) rfl T.noN (fun h5 tk5 dx k5 dn dne hx5 hn5 => ?_)
  refine wpAt_of_wpAny (wpAny_execs_nil (hq h5 tk5 dx t1 ⟨fun b o e => k5 b o (fun z => by rw [z, hnx] at e; cases e) (F4.keep b o e), hx5, ?_, dne, hn5⟩))
  exact Nat.le_trans (Nat.le_trans F4.above (Nat.le_of_lt F4.ns.lt)) dn
/-- the class called -/
theorem er_made (T : OwnErr prog K mg xn fld C fI) {mb : Str → Option Value} {v : Value} (X : K.In s.heap) (Gm : s.heap.Ns mainGlobals mg) (Gb : s.heap.Ns builtinsNs mb) (hmb : mb "super" = some (.type "super")) (hlim : s.heap.NoLimit) (hroom : A.depth + 1 < recursionLimit)
    (hq : ∀ h' tk e d, ErMade s.heap h' e C d fld v → R (.ok (.ret (.ref e))) { s with heap := h', toks := tk }) :
    codeAny (model prog w) A (.call (.ref C) ⟨[v], []⟩) R s := by
  obtain ⟨nm, q, N, bs, bm, sn, sub, ab, col, dd, k0, k1, k2, k3, k5, hC, hbm⟩ := T.cls
  obtain ⟨hp, g, dr, tk, os⟩ := s
  have k : ∀ b o, hp.get? b = some o → ((hp.push (kdv_tup [v])).push (excO C hp.objs.size)).get? b = some o := fun b o e => Heap.get?_push_of_some _ (Heap.get?_push_of_some _ e)
  have hget : ((hp.push (kdv_tup [v])).push (excO C hp.objs.size)).get? (hp.objs.size + 1) = some (excO C hp.objs.size) := by heap_get
  have hnone : hp.get? (hp.objs.size + 1) = none := by
    cases e : hp.get? (hp.objs.size + 1) with
    | none => rfl
    | some o => exact absurd (Nat.lt_of_succ_lt (Heap.lt_size e)) (Nat.lt_irrefl _)
  have hs2 : hp.objs.size ≤ ((hp.push (kdv_tup [v])).push (excO C hp.objs.size)).objs.size := by
    rw [Heap.size_push, Heap.size_push]
    omega
  refine call_own PySem.F.excBase_ValueError (fun Y => refsVE_contains Y bm hbm) (X _ _ hC) (looks_findIn X T.iC) (fun self => bind_fn X self T.tC) (by show 1 ≤ sizeLine; rw [sizeLine_eq]; decide) ?_
  refine er_init (s := ⟨(hp.push (kdv_tup [v])).push (excO C hp.objs.size), g, dr, tk, os⟩) T X Gm Gb hmb k hs2 (hlim.keeps k) hget hnone hroom fun h' tk' dx t1 ⟨k', hx, dn, dne, hns⟩ => ?_
  exact ⟨rfl, hq h' tk' (hp.objs.size + 1) dx ⟨k', Nat.le_succ _, ⟨_, _, hx, rfl, rfl, rfl, rfl⟩, dn, dne, hns⟩⟩
end
end DL
namespace DL
open PySem L2 PySem.Spec PyProof.Rows
theorem er_rel {v : V} {v' : Value} {fld : Str} (r : RelV v v') (f : Str) : RelO (List.lookup f [(fld, v)]) (if f = fld then some v' else none) := by
  by_cases hw : f = fld
  · subst hw
    rw [if_pos rfl, show List.lookup f [(f, v)] = some v by simp [List.lookup]]
    exact r
  · rw [if_neg hw]
    have qw : (f == fld) = false := by simpa using hw
    rw [show List.lookup f [(fld, v)] = none by simp [List.lookup, qw]]
    trivial
section
variable {X : Cx} {C fI : Addr} {xn fld : Str}
/-- E(e) -/
def tMkE (C : Addr) (fld : Str) (ta : TA) : L2.St → Hp → XK → Prop := fun σ H Q => ta σ H fun vs H1 => ∃ v, vs = [v] ∧ ∀ d, H1 d = none → Q (.ref C) (some d) (upd H1 d (.xd [(fld, v)]))
theorem pmk_e {a : Expr} {ta : TA} {p pos : Pos} {k : Nat} (T : OwnErr X.prog X.K X.mg xn fld C fI) (hr : Room k X.A) (ha : PA X [a] ta) (hg : Gl X xn) (hdb : (xn == ("__debug__" : Str)) = false)
    (he : starEach (a :: []) X.env = (false, eval a X.env) :: starEach [] X.env := by rfl) (hpl : (backTo pos (starEach [] X.env)).any (·.1) = false := by rfl) :
    PMk X (.Call (.Name xn p) [a] [] pos) (tMkE C fld ta) := by
  intro pins s σ H Q I h
  refine wpAny_Call_Name_kw (ld_glob I hg T.gC ?_ hdb)
  refine PySem.W.callWith_K (h₀ := X.base) I.ok.mod.kin T.kC (thn (ha.run pos pins s σ H _ I h) fun us s1 hh => ?_) he hpl
  obtain ⟨vs, H1, I1, r1, v, ev, q1⟩ := hh
  subst ev
  refine ⟨I1.kIn, ?_⟩
  cases r1 with
  | cons rv rn =>
    rename_i v' us'
    cases rn
    show wpAny _ _ (call (.ref C) [v']) _ _ _
    have hlim := I1.nolimit
    obtain ⟨mb, hb1, hb2⟩ := I1.mod.blt
    have Gm := I1.mod.glob.keeps I1.bk
    have Gb := hb1.keeps I1.bk
    have hsup : mb "super" = some (.type "super") := (hb2 "super" (by decide)).trans (by decide +kernel)
    obtain ⟨hp, g, dr, tk, os⟩ := s1
    refine wpAny_call (er_made T I1.kIn Gm Gb hsup hlim (by have := hr.dp; omega) fun h' tk' e d M => ?_)
    show MkP X pins σ Q (.ref e) ⟨h', g, dr, tk', os⟩
    obtain ⟨oe, fv, hoe, hc, hd, hdat, h1⟩ := M.obj
    have hns := M.ns
    obtain ⟨G', g1, g2⟩ := restrict h' fun b => decide (b ≠ e)
    have gk : ∀ b, b ≠ e → G'.get? b = h'.get? b := fun b hb => g1 b (decide_eq_true hb)
    have ge : G'.get? e = none := g2 e (by simp)
    have old : ∀ b o, hp.get? b = some o → G'.get? b = some o := fun b o q => (gk b (Nat.ne_of_lt (Nat.lt_of_lt_of_le (Heap.lt_size q) M.new))).trans (M.keep b o q)
    have ob : ObjOk X.prog X.w (upd H1 d (.xd [(fld, v)])) G' d (.xd [(fld, v)]) :=
      ⟨_, hns.at (fun o q => (gk d M.dne).trans q), fun f => er_rel rv f⟩
    have J : Inv X pins σ (upd H1 d (.xd [(fld, v)])) ⟨G', g, dr, tk', os⟩ := I1.laid (t' := tk') old M.dbig ob
    refine ⟨e, oe, fv, ⟨G', g, dr, tk', os⟩, _, .ref C, some d, rfl, J, fun b o q => ?_, ge, hoe, ⟨hc, hd⟩, hdat, h1, ?_, rfl, I1.bare, raises_own T.exC T.tyC, q1 d (I1.hok.fresh M.dbig)⟩
    · by_cases hb : b = e
      · have q' : G'.get? b = some o := q
        rw [hb, ge] at q'; cases q'
      · exact (gk b hb).symm.trans q
    · rw [upd_ne (Ne.symm M.dne)]
      exact I1.hok.fresh M.new
def tRaiseE (C : Addr) (fld : Str) (W : WX) (ta : TA) : TS := fun _ σ H => tMkE C fld ta σ H fun cls d H' => W cls d σ H'
theorem ps_raiseE {a : Expr} {ta : TA} {W : WX} {p pos pos2 : Pos} {k : Nat} (hc : X.calm = true) (T : OwnErr X.prog X.K X.mg xn fld C fI) (hr : Room k X.A) (tk : Takes X W) (ha : PA X [a] ta) (hg : Gl X xn) (hdb : (xn == ("__debug__" : Str)) = false)
    (he : starEach (a :: []) X.env = (false, eval a X.env) :: starEach [] X.env := by rfl) (hpl : (backTo pos (starEach [] X.env)).any (·.1) = false := by rfl) :
    PS X (.Raise (some (.Call (.Name xn p) [a] [] pos)) none pos2) (tRaiseE C fld W ta) := ps_raise hc tk (pmk_e T hr ha hg hdb he hpl)
/-- e.f, e the exception that the suite holds (at a; its class cls, its dict d) -/
def tByE (C : Addr) (fld : Str) (a : Addr) (cls : Value) (d : Option Addr) (te : TE) : TE := fun σ H Q => te σ H fun x H1 => x = .ref a ∧ cls = .ref C ∧ ∃ (dd : Addr) (v : V), d = some dd ∧ H1 dd = some (.xd [(fld, v)]) ∧ Q v H1
theorem pe_byE {a : Addr} {oe : Obj} {cls : Value} {d : Option Addr} {pn : List (Addr × Obj)} {e : Expr} {te : TE} {pos : Pos} (T : OwnErr X.prog X.K X.mg xn fld C fI) (hz : Zc cls d oe) (hf : ∃ vs, oe.data = .fields vs) (he : PE (X.suite a ((a, oe) :: pn)) e te)
    (hb : attributeBase e fld X.env (eval e X.env) = eval e X.env := by rfl) :
    PE (X.suite a ((a, oe) :: pn)) (.Attribute e fld pos) (tByE C fld a cls d te) := by
  refine ⟨fun pins s σ H Q I h => ?_⟩
  refine attr_of hb (thn (he.run pins s σ H _ I h) fun u s1 hh => ?_)
  obtain ⟨x, H1, I1, rx, ex, ec, dd, v, ed, ea, q⟩ := hh
  subst ex
  obtain rfl : u = Value.ref a := rx
  subst ec
  subst ed
  obtain ⟨ha, _⟩ := I1.pin (a, oe) (List.mem_append_left _ List.mem_cons_self)
  obtain ⟨vs, hd⟩ := hf
  have hx : ObjOk X.prog X.w H1 s1.heap dd (.xd [(fld, v)]) := I1.hok dd _ ea
  obtain ⟨mA, hns, hr⟩ := hx
  obtain ⟨od, ho, hl⟩ := lookIn_ns hns
  have l : List.lookup fld [(fld, v)] = some v := by simp [List.lookup]
  obtain ⟨u, hu, ru⟩ := RelO.some_of (v := v) (o := mA fld) (by rw [← l]; exact hr fld)
  have J : PySem.W.InstAt s1.heap a oe C (some od) := ⟨ha, hz.1, by unfold PySem.W.notCls; rw [hd] <;> rfl, by rw [hz.2]; exact ho⟩
  exact HandSPX.exc_get I1.kIn J T.ga T.gg T.exC (PySem.W.findObj_own T.hdC T.noN rfl (by rw [hl, hu])) (handed_of ru) ⟨v, H1, I1.tok _, ru, q⟩
end
end DL
namespace DL
open PySem L2
section
variable {X : Cx} {Y : Yc} {W : WX} {e : Expr} {es : List Expr} {me : ME} {pos p : Pos} {C fI : Addr} {xn fld : Str}
/-! ### raise E(e) -/
def mRaise (cn fld : Str) (m : ME) : MS := fun st _ PX => m st (fun d s1 => PX ⟨cn, [(fld, d)]⟩ s1) PX
theorem ds_raise {pos2 : Pos} {k : Nat} (hc : X.calm = true) (T : OwnErr X.prog X.K X.mg xn fld C fI) (hmg : Y.mg = X.mg) (hr : Room k X.A) (tk : Takes X W) (he : DE X Y W e me) (hg : Gl X xn) (hdb : (xn == ("__debug__" : Str)) = false := by decide)
    (hse : starEach (e :: []) X.env = (false, eval e X.env) :: starEach [] X.env := by rfl) (hpl : (backTo pos (starEach [] X.env)).any (·.1) = false := by rfl) : DS X Y W (.Raise (some (.Call (.Name xn p) [e] [] pos)) none pos2) (mRaise xn fld me) :=
  psImp (ps_raiseE hc T hr tk (pa_cons he pa_nil hse) hg hdb hse hpl) fun D σ H ⟨G, st, E, PX, rr, hm, xp, k⟩ => ⟨G, st, _, PX, rr, hm, xp, fun d s1 v G1 H1 h1 g1 f1 r1 q1 => ⟨v, rfl, fun dd hdd => by
    obtain ⟨n1, n2, n3⟩ := r1.h.fresh hdd
    exact xp ⟨xn, [(fld, d)]⟩ s1 _ _ σ G1 _ h1 g1 (f1.trans (.add hdd)) ⟨r1.h.add hdd _, r1.s⟩ ⟨⟨C, by rw [hmg]; exact T.gC, rfl⟩, .inr ⟨dd, _, rfl, upd_same, .cons fld q1 .nil, n1, n2, n3⟩⟩⟩⟩
/-! ### try: body, except E as x: suite -/
def muSet (mu : Mu) (a : Addr) (m : Option MO) : Mu := fun b => if b = a then m else mu b
theorem muSet_ne {mu : Mu} {a b : Addr} {m : Option MO} (h : b ≠ a) : muSet mu a m b = mu b := if_neg h
theorem muSet_same {mu : Mu} {a : Addr} {m : Option MO} : muSet mu a m a = m := if_pos rfl
theorem muSet_undo {mu : Mu} {dd : Addr} {m : Option MO} (h : mu dd = none) : muSet (muSet mu dd m) dd none = mu := by
  funext b
  by_cases hb : b = dd
  · rw [hb, muSet_same, h]
  · rw [muSet_ne hb, muSet_ne hb]
/-- the state as the suite finds it: x names the exception at a, its dict stands at dd -/
def S.caught (st : S) (i : Nat) (a dd : Addr) (fs : List (Str × D)) : S := { st with r := st.r.set i (some (.ref a)), mu := muSet st.mu dd (some (.xd fs)) }
/-- .. and as it is left -/
def S.left (st : S) (i : Nat) (dd : Addr) : S := { st with r := st.r.set i none, mu := muSet st.mu dd none }
def mTryAs (i : Nat) (cn : Str) (body : MS) (suite : Addr → Addr → MS) : MS := fun st E PX => body st E fun x s1 => x.cls = cn ∧ x.fs ≠ [] ∧ ∀ a dd, s1.mu dd = none → suite a dd (s1.caught i a dd x.fs) { nx := fun s => E.nx (s.left i dd), rt := fun d s => E.rt d { s with mu := muSet s.mu dd none }, bk := fun s => E.bk (s.left i dd), ct := fun s => E.ct (s.left i dd) } PX0
theorem R0.hold {G : Hp} {mu : Mu} {c : Nat} {H : Hp} (h : R0 Y G mu c H) {dd : Addr} {fs : List (Str × D)} {vs : List (Str × V)} (hd : H dd = some (.xd vs)) (q : RepF Y G fs vs) (hG : G dd = none) (hp : dd ≠ Y.p) : R0 Y G (muSet mu dd (some (.xd fs))) c H := by
  obtain ⟨a, b⟩ := h.ext.off (q := dd) (fun o z => by rw [hd] at z; cases z; exact plain_xd)
  refine ⟨h.sub, fun x m e => ?_, ?_, ⟨h.ext.tab, fun p hp => ⟨(h.ext.tabO p hp).1, by rw [muSet_ne (a p hp)]; exact (h.ext.tabO p hp).2⟩, fun p hp => ⟨(h.ext.raw p hp).1, (h.ext.raw p hp).2.1, by rw [muSet_ne (b p hp)]; exact (h.ext.raw p hp).2.2⟩, h.ext.pl, h.ext.lo⟩⟩
  · by_cases hx : x = dd
    · subst hx
      rw [muSet_same] at e
      cases e
      exact ⟨hG, _, hd, .xd q⟩
    · rw [muSet_ne hx] at e
      exact h.mus x m e
  · obtain ⟨o, h1, h2, h3, h4⟩ := h.pen
    exact ⟨o, h1, h2, h3, by rw [muSet_ne (Ne.symm hp)]; exact h4⟩
theorem R0.drop {G : Hp} {mu : Mu} {c : Nat} {H : Hp} (h : R0 Y G mu c H) (dd : Addr) : R0 Y G (muSet mu dd none) c H := by
  have n : ∀ a, mu a = none → muSet mu dd none a = none := fun a e => by
    by_cases hx : a = dd
    · rw [hx]; exact muSet_same
    · rw [muSet_ne hx]; exact e
  refine ⟨h.sub, fun x m e => ?_, ?_, ⟨h.ext.tab, fun p hp => ⟨(h.ext.tabO p hp).1, n _ (h.ext.tabO p hp).2⟩, fun p hp => ⟨(h.ext.raw p hp).1, (h.ext.raw p hp).2.1, n _ (h.ext.raw p hp).2.2⟩, h.ext.pl, h.ext.lo⟩⟩
  · by_cases hx : x = dd
    · rw [hx, muSet_same] at e; cases e
    · rw [muSet_ne hx] at e
      exact h.mus x m e
  · obtain ⟨o, h1, h2, h3, h4⟩ := h.pen
    exact ⟨o, h1, h2, h3, n _ h4⟩
theorem frm_through {G G1 G2 : Hp} {mu mu1 mu2 : Mu} {H H1 H2 : Hp} {dd : Addr} {m : Option MO} {vs : List (Str × V)} (f : Frm Y G mu H G1 mu1 H1) (hd : H1 dd = some (.xd vs)) (g : Frm Y G1 (muSet mu1 dd m) H1 G2 mu2 H2) : Frm Y G mu H G2 (muSet mu2 dd none) H2 := fun a o h1 h2 h3 h4 => by
  obtain ⟨e1, e2, e3⟩ := f a o h1 h2 h3 h4
  have n : a ≠ dd := fun z => by
    rw [z, hd] at e1
    cases e1
    exact h4.2.2 _ rfl
  obtain ⟨k1, k2, k3⟩ := g a o e1 e2 (by rw [muSet_ne n]; exact e3) h4
  exact ⟨k1, k2, by rw [muSet_ne n]; exact k3⟩
theorem ds_tryAs {n : Str} {i : Nat} {body suite : List Stmt} {b0 : Stmt} {np pos' : Pos} {mb : MS} {ms : Addr → Addr → MS} (hs : X.stack = X.env :: X.outer) (hf : X.env.frame = some X.env.locals) (T : OwnErr X.prog X.K X.mg xn fld C fI) (hmg : Y.mg = X.mg)
    (hN : X.N.Nodup) (hi : X.N[i]? = some n) (hln : X.env.kindOf n = some .local) (hg : Gl X xn)
    (hb : ∀ (W : WX) (pn : List (Addr × Obj)) (xe : Value → Shared → Prop), Takes (X.tr pn xe) W → PassesOwn (model X.prog X.w) X.A X.env xe → DSs (X.tr pn xe) Y W body mb)
    (hsu : ∀ (a : Addr) (oe : Obj) (dd : Addr) (pn : List (Addr × Obj)), Zc (.ref C) (some dd) oe → (∃ vs, oe.data = .fields vs) → DSs (X.suite a ((a, oe) :: pn)) Y W0 (b0 :: suite) (ms a dd)) (hdb : (xn == ("__debug__" : Str)) = false := by decide) :
    DS X Y W (.Try body [.ExceptHandler (some (.Name xn np)) (some n) (b0 :: suite) pos'] [] [] pos) (mTryAs i xn mb ms) := by
  refine psImp (ps_try_as (c := .ref C) (tb := fun W => TSof Y W mb) (ts := fun a cls d D σ H => ∃ dd, d = some dd ∧ cls = .ref C ∧ TSof Y W0 (ms a dd) D σ H) (Wout := fun _ _ _ _ => False) hs hf hN hi hln ⟨hg, hdb, .inl T.gC⟩ takes0 hb (fun a oe cls d pn hz hd => ?_)) fun D σ H ⟨G, st, E, PX, rr, hm, xp, k⟩ => ?_
  · refine ⟨fun pins s σ H D I ⟨dd, e1, e2, q⟩ => ?_⟩
    subst e1
    subst e2
    exact (hsu a oe dd pn hz hd).run pins s σ H D I q
  · refine ⟨G, st, E, _, rr, hm, fun x st' cls d σ' G' H' ⟨ecn, hne, hx⟩ g1 f1 r1 ⟨⟨C', e1, e2⟩, h3⟩ => ?_, k⟩
    subst e2
    have eC : C' = C := by
      rw [hmg, ecn, T.gC] at e1
      cases e1
      rfl
    subst eC
    refine ⟨true, T.te, fun _ a na => ?_, fun z => by cases z⟩
    rcases h3 with ⟨e4, e5⟩ | ⟨dd, vs, e4, e5, e6, e7, e8, e9⟩
    · exact absurd e4 hne
    · refine ⟨dd, e4, rfl, G', st'.caught i a dd x.fs, _, PX0, ⟨r1.h.hold e5 e6 e7 e9, r1.s.set i (.ref a)⟩, hx a dd e8, fun _ _ _ _ _ _ _ z => z.elim, ⟨fun s5 σ5 G5 H5 h5 g5 f5 r5 => ?_, fun d5 s5 v5 σ5 G5 H5 h5 g5 f5 r5 q5 => ?_, fun s5 σ5 G5 H5 h5 g5 f5 r5 => ?_, fun s5 σ5 G5 H5 h5 g5 f5 r5 => ?_⟩⟩
      · exact k.nx _ _ G5 H5 h5 (g1.trans g5) (frm_through f1 e5 f5) ⟨r5.h.drop dd, r5.s.none i⟩
      · exact k.rt _ _ v5 σ5 G5 H5 h5 (g1.trans g5) (frm_through f1 e5 f5) ⟨r5.h.drop dd, r5.s⟩ q5
      · exact k.bk _ _ G5 H5 h5 (g1.trans g5) (frm_through f1 e5 f5) ⟨r5.h.drop dd, r5.s.none i⟩
      · exact k.ct _ _ G5 H5 h5 (g1.trans g5) (frm_through f1 e5 f5) ⟨r5.h.drop dd, r5.s.none i⟩
/-- x.f, x the exception that the suite holds -/
def mBy (fld : Str) (dd : Addr) (m : ME) (a : Addr) : ME := fun st P PX => m st (fun d s1 => d = .ref a ∧ ∃ v, s1.mu dd = some (.xd [(fld, v)]) ∧ P v s1) PX
theorem de_by {a dd : Addr} {oe : Obj} {pn : List (Addr × Obj)} (T : OwnErr X.prog X.K X.mg xn fld C fI) (hz : Zc (.ref C) (some dd) oe) (hf : ∃ vs, oe.data = .fields vs) (he : DE (X.suite a ((a, oe) :: pn)) Y W e me) (hb : attributeBase e fld X.env (eval e X.env) = eval e X.env := by rfl) :
    DE (X.suite a ((a, oe) :: pn)) Y W (.Attribute e fld pos) (mBy fld dd me a) :=
  peImp (pe_byE T hz hf he hb) fun σ H Q ⟨G, st, P, PX, rr, hm, xp, k⟩ => ⟨G, st, _, PX, rr, hm, xp, fun d s1 v G1 H1 ⟨ed, w, hw, hp⟩ g1 f1 r1 q1 => by
    subst ed
    cases q1
    obtain ⟨_, o, ho, rm⟩ := r1.h.mus dd _ hw
    cases rm with
    | xd q =>
      cases q with
      | cons kk qw qn =>
        cases qn
        exact ⟨rfl, rfl, dd, _, rfl, ho, k w s1 _ G1 H1 hp g1 f1 r1 qw⟩⟩
end
end DL
namespace DL
open PySem L2 LamX PySem.Spec PyProof.Rows
/-! ### a lambda without parameters, handed to a def that calls it -/
abbrev Beh := Mu → Nat → (D → Mu → Nat → Prop) → (Ex → Mu → Nat → Prop) → Prop
abbrev LSp := Beh → Mu → Nat → (D → Mu → Nat → Prop) → (Ex → Mu → Nat → Prop) → Prop
def mAct (i : Nat) (f : Addr) (B : Beh) : ME := fun st P PX => st.r[i]? = some (some (.ref f)) ∧ B st.mu st.c (fun d mu c => P d { st with mu := mu, c := c }) (fun x mu c => PX x { st with mu := mu, c := c })
/-- what a call does may be told with less -/
def BMono (B : Beh) : Prop := ∀ mu c (P P' : D → Mu → Nat → Prop) (PX PX' : Ex → Mu → Nat → Prop), B mu c P PX → (∀ d mu c, P d mu c → P' d mu c) → (∀ x mu c, PX x mu c → PX' x mu c) → B mu c P' PX'
def mClo (m : ME) : ME := fun st P PX => ∃ (P0 : D → S → Prop) (PX0 : PXT), m st P0 PX0 ∧ (∀ d s, P0 d s → P d s) ∧ ∀ x s, PX0 x s → PX x s
theorem de_clo {X : Cx} {Y : Yc} {W : WX} {e : Expr} {m : ME} (h : DE X Y W e m) : DE X Y W e (mClo m) :=
  peImp h fun σ H Q ⟨G, st, P, PX, rr, ⟨P0, PX0, hm, h1, h2⟩, xp, k⟩ => ⟨G, st, P0, PX0, rr, hm, fun x st' cls d σ' G' H' z => xp x st' cls d σ' G' H' (h2 _ _ z), fun d st' v G' H' z => k d st' v G' H' (h1 _ _ z)⟩
def mLam (lsp : LSp) (m : ME) : ME := fun st P PX => lsp (fun mu c P1 PX1 => mClo m { st with mu := mu, c := c } (fun d s => P1 d s.mu s.c) (fun x s => PX1 x s.mu s.c)) st.mu st.c (fun d mu c => P d { st with mu := mu, c := c }) (fun x mu c => PX x { st with mu := mu, c := c })
/-! the same things where fewer code objects are known -/
section
variable {Y Y' : Yc} {G : Hp}
mutual
theorem Rep.conv (hK : Y.K = Y'.K) (hp : Y.p = Y'.p) : ∀ {d : D} {v : V}, Rep Y G d v → Rep Y' G d v
  | _, _, .non => .non
  | _, _, .bl b => .bl b
  | _, _, .int i => .int i
  | _, _, .str x => .str x
  | _, _, .pen => by rw [hp]; exact .pen
  | _, _, .ref a => .ref a
  | _, _, .tup h r => .tup (hK ▸ h) (Reps.conv hK hp r)
  | _, _, .lst h r => .lst h (Reps.conv hK hp r)
  | _, _, .dct h r => .dct h (Repk.conv hK hp r)
theorem Reps.conv (hK : Y.K = Y'.K) (hp : Y.p = Y'.p) : ∀ {d : List D} {v : List V}, Reps Y G d v → Reps Y' G d v
  | _, _, .nil => .nil
  | _, _, .cons h r => .cons (Rep.conv hK hp h) (Reps.conv hK hp r)
theorem Repk.conv (hK : Y.K = Y'.K) (hp : Y.p = Y'.p) : ∀ {d : List (Key × D)} {v : List (Key × V)}, Repk Y G d v → Repk Y' G d v
  | _, _, .nil => .nil
  | _, _, .cons k h r => .cons k (Rep.conv hK hp h) (Repk.conv hK hp r)
end
theorem RepF.conv (hK : Y.K = Y'.K) (hp : Y.p = Y'.p) {d : List (Str × D)} {v : List (Str × V)} (h : RepF Y G d v) : RepF Y' G d v := by
  induction h with
  | nil => exact .nil
  | cons k h _ ih => exact .cons k (h.conv hK hp) ih
theorem RM.conv (hK : Y.K = Y'.K) (hp : Y.p = Y'.p) (hm : Y.mg = Y'.mg) {m : MO} {o : HO} (h : RM Y G m o) : RM Y' G m o := by
  cases h with
  | lst h => exact .lst (h.conv hK hp)
  | dct h => exact .dct (h.conv hK hp)
  | ins e h => exact .ins (by rw [← hm]; exact e) (h.conv hK hp)
  | xd h => exact .xd (h.conv hK hp)
theorem Sl.conv (hK : Y.K = Y'.K) (hp : Y.p = Y'.p) {r : List (Option D)} {σ : L2.St} (h : Sl Y G r σ) : Sl Y' G r σ := ⟨h.1, fun i d e => let ⟨v, e1, q⟩ := h.2 i d e; ⟨v, e1, q.conv hK hp⟩⟩
end
section
variable {K : PySem.W.Frag} {mg : Str → Option Value} {T : List (Addr × Str)} {q : Qp} {G : Hp} {mu : Mu} {c : Nat} {H : Hp}
def Qp.add (q : Qp) (a : Addr) (n : Str) (G1 : Hp) : Qp := { q with raw := (a, n) :: q.raw, G0 := G1 }
theorem R0.less {a : Addr} {n : Str} {G1 : Hp} (h : R0 (Yp K mg T (q.add a n G1)) G mu c H) (lo : Same q.G0 G1) : R0 (Yp K mg T q) G mu c H :=
  ⟨h.sub, fun x m e => let ⟨h1, o, h2, h3⟩ := h.mus x m e; ⟨h1, o, h2, RM.conv (Y := Yp K mg T (q.add a n G1)) (Y' := Yp K mg T q) rfl rfl rfl h3⟩, h.pen, ⟨h.ext.tab, h.ext.tabO, fun p hp => h.ext.raw p (List.mem_cons_of_mem _ hp), h.ext.pl, lo.trans h.ext.lo⟩⟩
theorem R0.moreRaw {a : Addr} {n : Str} {G1 : Hp} (h : R0 (Yp K mg T q) G mu c H) (e : H a = some (CodeO a n)) (h1 : G a = none) (h2 : mu a = none) (lo : Same G1 G) : R0 (Yp K mg T (q.add a n G1)) G mu c H :=
  ⟨h.sub, fun x m e => let ⟨h1, o, h2, h3⟩ := h.mus x m e; ⟨h1, o, h2, RM.conv (Y := Yp K mg T q) (Y' := Yp K mg T (q.add a n G1)) rfl rfl rfl h3⟩, h.pen, ⟨h.ext.tab, h.ext.tabO, fun p hp => by
    rcases List.mem_cons.mp hp with z | z
    · rw [z]; exact ⟨e, h1, h2⟩
    · exact h.ext.raw p z, h.ext.pl, lo⟩⟩
theorem RepX.conv {Y Y' : Yc} {x : Ex} {cls : Value} {d : Option Addr} (hK : Y.K = Y'.K) (hp : Y.p = Y'.p) (hm : Y.mg = Y'.mg) (h : RepX Y G mu H x cls d) : RepX Y' G mu H x cls d := by
  obtain ⟨⟨C, e1, e2⟩, h⟩ := h
  refine ⟨⟨C, by rw [← hm]; exact e1, e2⟩, ?_⟩
  rcases h with h | ⟨dd, vs, h1, h2, h3, h4, h5, h6⟩
  · exact .inl h
  · exact .inr ⟨dd, vs, h1, h2, h3.conv hK hp, h4, h5, by rw [← hp]; exact h6⟩
theorem RepX.up {a : Addr} {n : Str} {G1 : Hp} {x : Ex} {cls : Value} {d : Option Addr} (h : RepX (Yp K mg T q) G mu H x cls d) : RepX (Yp K mg T (q.add a n G1)) G mu H x cls d := RepX.conv (Y := Yp K mg T q) (Y' := Yp K mg T (q.add a n G1)) rfl rfl rfl h
theorem RepX.dn {a : Addr} {n : Str} {G1 : Hp} {x : Ex} {cls : Value} {d : Option Addr} (h : RepX (Yp K mg T (q.add a n G1)) G mu H x cls d) : RepX (Yp K mg T q) G mu H x cls d := RepX.conv (Y' := Yp K mg T q) (Y := Yp K mg T (q.add a n G1)) rfl rfl rfl h
theorem Rep.up {a : Addr} {n : Str} {G1 : Hp} {d : D} {v : V} (h : Rep (Yp K mg T q) G d v) : Rep (Yp K mg T (q.add a n G1)) G d v := Rep.conv (Y := Yp K mg T q) (Y' := Yp K mg T (q.add a n G1)) rfl rfl h
theorem Rep.dn {a : Addr} {n : Str} {G1 : Hp} {d : D} {v : V} (h : Rep (Yp K mg T (q.add a n G1)) G d v) : Rep (Yp K mg T q) G d v := Rep.conv (Y' := Yp K mg T q) (Y := Yp K mg T (q.add a n G1)) rfl rfl h
theorem code_no {a : Addr} {n : Str} {o : HO} (h : o = CodeO a n) : (∀ ps, o ≠ .tbl ps) ∧ (∀ vs, o ≠ .xd vs) ∧ (∀ vs, o ≠ .lst vs) ∧ (∀ vs, o ≠ .dK vs) ∧ ∀ C d fs, o ≠ .ins C d fs := by
  subst h
  unfold CodeO
  exact ⟨fun _ z => (by cases z), fun _ z => (by cases z), fun _ z => (by cases z), fun _ z => (by cases z), fun _ _ _ z => (by cases z)⟩
theorem R0.codeOff {a : Addr} {n : Str} (h : R0 (Yp K mg T q) G mu c H) (e : H a = some (CodeO a n)) : G a = none ∧ mu a = none ∧ a ≠ q.p := by
  obtain ⟨c1, c2, c3, c4, c5⟩ := code_no (rfl : CodeO a n = CodeO a n)
  refine ⟨?_, ?_, fun z => ?_⟩
  · cases g : G a with
    | none => rfl
    | some o =>
      have e2 := h.sub a o g
      rw [e] at e2
      cases e2
      exact absurd rfl ((h.ext.pl a _ g).2 a n)
  · cases g : mu a with
    | none => rfl
    | some m =>
      obtain ⟨_, o, h2, h3⟩ := h.mus a m g
      rw [e] at h2
      have e3 : CodeO a n = o := Option.some.inj h2
      cases h3 with
      | lst _ => exact absurd e3 (c3 _)
      | dct _ => exact absurd e3 (c4 _)
      | ins _ _ => exact absurd e3 (c5 _ _ _)
      | xd _ => exact absurd e3 (c2 _)
  · obtain ⟨o, h1, ⟨ca, b, l, ns, h2, _⟩, _⟩ := h.pen
    have h1' : H q.p = some o := h1
    rw [← z, e, h2] at h1'
    exact c4 _ (Option.some.inj h1')
/-- the tables may have grown -/
theorem R0.extN {H1 : Hp} (h : R0 (Yp K mg T q) G mu c H) (e : ExtN H H1) (t : Tabs T H1) : R0 (Yp K mg T q) G mu c H1 := by
  refine ⟨fun a o g => e a o (h.sub a o g) (h.ext.pl a o g).1, fun x m g => ?_, ?_, ⟨t, h.ext.tabO, fun p hp => ⟨e _ _ (h.ext.raw p hp).1 (code_no rfl).1, (h.ext.raw p hp).2⟩, h.ext.pl, h.ext.lo⟩⟩
  · obtain ⟨h1, o, h2, h3⟩ := h.mus x m g
    refine ⟨h1, o, e _ _ h2 ?_, h3⟩
    cases h3 <;> exact fun _ z => by cases z
  · obtain ⟨o, h1, h2, h3⟩ := h.pen
    refine ⟨o, e _ _ h1 ?_, h2, h3⟩
    obtain ⟨ca, b, l, ns, h2, _⟩ := h2
    rw [h2]
    exact fun _ z => by cases z
theorem Frm.extN {H1 : Hp} (e : ExtN H H1) : Frm (Yp K mg T q) G mu H G mu H1 := fun a o h1 h2 h3 h4 => ⟨e a o h1 h4.2.1, h2, h3⟩
end
/-- x(), in the def that got the lambda -/
theorem pe_actA {X : Cx} {pins : List (Addr × Obj)} {σ : L2.St} {H : Hp} {s : Shared} {CXg : CXT} {Eg : XK} {Ng : List Str} {qg : Str} {sg : Scope} {g f c' : Addr} {cdg pm ctv : Value} {params : Arguments} {body : Expr} {scope : Scope} {k i : Nat} {a : Str} {pn : List (Addr × Obj)} {xe : Value → Shared → Prop} {W : WX} {tb : XK → TE} {p1 p2 : Pos}
    (I : Inv X pins σ H s) (L : LamS X.env.scope scope) (hf : s.heap.get? f = some (PySem.W.kla_obj "<lambda>" (X.env.qual ++ "<lambda>") params body scope (cloFrom X.env.cells scope.names []) pm c' ctv)) (hfn : H f = none) (hfr : f ∉ frs X.stack)
    (hbind : bindArgs (PySem.W.kla_fn "<lambda>" (X.env.qual ++ "<lambda>") params body scope (cloFrom X.env.cells scope.names []) pm (.ref c') ctv) ⟨[], []⟩ = pure [])
    (tk : Takes ((cxOf CXg X.prog X.w X.K X.mg X.base Ng qg sg g cdg X.A X.stack s H Eg).tr pn xe) W) (hr : Room (k + 1) (X.A.deeper (envOfC qg sg s.heap.objs.size g cdg)))
    (hbody : ∀ (A : Around) (outer : List Env) (s : Shared) (H : Hp) (E : XK), Room k (A.deeper (lamEnv X scope s.heap.objs.size f c')) → PE (lamCx X A outer s H E scope f c') body (tb E))
    (hN : Ng[i]? = some a) (hv : Vis sg a) (hd : (a == ("__debug__" : Str)) = false := by decide) (hcd : (a == ("__classdict__" : Str)) = false := by decide) :
    PE ((cxOf CXg X.prog X.w X.K X.mg X.base Ng qg sg g cdg X.A X.stack s H Eg).tr pn xe) (.Call (.Name a p1) [] [] p2)
      (fun σZ HZ Q => σZ[i]? = some (some (.ref f)) ∧ HZ c' = some (CodeO c' (X.env.qual ++ "<lambda>")) ∧ tb (WE W σZ) σ HZ Q) := by
  refine ⟨fun pinsZ sZ σZ HZ Q IZ ⟨hs, hc, ht⟩ => ?_⟩
  refine wpAny_Call_Name_kw (thn ((pe_var (pos := p1) (i := i) hN hv hd hcd).run pinsZ sZ σZ HZ (fun v H1 => v = .ref f ∧ H1 = HZ) IZ ⟨.ref f, hs, rfl, rfl⟩) fun u s1 ⟨v, H1, I1, r1, ev, eH⟩ => ?_)
  subst ev
  rw [eH] at I1
  obtain rfl : u = Value.ref f := r1
  have of1 : s1.heap.get? f = some (PySem.W.kla_obj "<lambda>" (X.env.qual ++ "<lambda>") params body scope (cloFrom X.env.cells scope.names []) pm c' ctv) := I1.base.keep f _ hf hfn hfr (fun z => nomatch (show f ∈ ([] : List Addr) from z))
  refine PySem.W.callWith_F0 ⟨_, _, _, _, of1⟩ ?_
  have un : Un (frs X.stack) [] H HZ s.heap s1.heap := I1.base
  obtain ⟨⟨oc, vs, t, hoc, hdc, hvc⟩, _, _⟩ := I1.hok c' _ hc
  have rc : codeAny (model X.prog X.w) (X.A.deeper (envOfC qg sg s.heap.objs.size g cdg)) (.call (.ref f) ⟨[], []⟩) (CR (L2.CX X.prog X.w) (envOfC qg sg s.heap.objs.size g cdg :: X.stack) X.prog X.w HZ s1 Q (WE W σZ)) s1 := by
    refine PySem.W.kla_callFunE hr.depth of1 rfl L.co L.gen rfl ⟨c', oc, vs, t, rfl, hoc, hdc, hvc⟩ ?_
    rw [hbind]
    refine wpAny_pure (wpAny_newFunctionEnv (fun y hy => (L.own y hy).2) (fun y hy => absurd hy (by simp)) (fun h₁ hns hsb => ⟨I1.nolimit.fresh _ hsb, ?_⟩) L.kind)
    show codeAny _ _ (.expr body (lamEnv X scope s1.heap.objs.size f c')) _ _
    have kp : ∀ b o, s1.heap.get? b = some o → h₁.get? b = some o := fun b o e => hsb.extBut b o (Nat.ne_of_lt (Heap.lt_size e)) (Heap.get?_push_of_some _ e)
    have J : Inv (lamCx X (X.A.deeper (envOfC qg sg s.heap.objs.size g cdg)) (envOfC qg sg s.heap.objs.size g cdg :: X.stack) s1 HZ (WE W σZ) scope f c') [] σ HZ { s1 with heap := h₁, toks := s1.toks + ([] : List (Str × Value)).length } :=
      lam_start2 I L I1.env0 hr.hd un hns kp
    refine PySem.W.kla_codeExpr (wpAny_mono ((hbody _ _ s1 HZ _ (hr.deeper _)).run [] _ _ HZ Q J ht) (fun v s' ⟨w', H', J', rv, q⟩ => ?_) fun e s' hq => hq)
    exact ⟨w', H', J'.os, J'.bare, J'.base, J'.hok, rv, q⟩
  have hx := passAt tk σZ
  refine wpAny_call (codeAny_mono rc fun r s' hq => ?_)
  cases r with
  | error e => exact hx pinsZ HZ s1 e s' I1 hq
  | ok fl =>
    cases fl with
    | ret u => exact I1.after hq
    | next => exact False.elim hq
    | brk => exact False.elim hq
    | cont => exact False.elim hq
/-- a def g with the parameter a that calls what it gets: its body over data, whatever the call does; what that means -/
structure LamFn (P : Program) (w : World) (K : PySem.W.Frag) (mg : Str → Option Value) (T : List (Addr × Str)) (base : Heap) (k : Nat) (x a : Str) (lsp : LSp) : Prop where
  ex : ∃ (g : Addr) (pg : Arguments) (bg : List Stmt) (sg : Scope) (doc pm cdv ct oc kV : Value) (an od : Option Addr) (osl : Array (Option Value)) (Ng : List Str) (mb : ME → MS), mg x = some (.ref g) ∧ PySem.W.keepIn K (.ref g) = true ∧
    K.lookup g = some ⟨oc, od, .func (PySem.W.fnOf x x pg bg sg .none kV doc pm an cdv ct), osl⟩ ∧ PySem.W.codeIn K cdv x = true ∧ L2.Binds K (PySem.W.fnOf x x pg bg sg .none kV doc pm an cdv ct) [a] [] ∧ FnScope Ng [a] sg ∧ Ng[0]? = some a ∧ Vis sg a ∧ (a == ("__debug__" : Str)) = false ∧ (a == ("__classdict__" : Str)) = false ∧
    (∀ (Z : Cx) (q : Qp) (W : WX) (act : ME), (∃ A outer s H E, Z = cxOf (L2.CX P w) P w K mg base Ng x sg g cdv A outer s H E) → Takes Z W → Room k Z.A → PassesOwn (model Z.prog Z.w) Z.A Z.env Z.xe →
      (∀ (W' : WX) (pn : List (Addr × Obj)) (xe : Value → Shared → Prop) (p1 p2 : Pos), Takes (Z.tr pn xe) W' → DE (Z.tr pn xe) (Yp K mg T q) W' (.Call (.Name a p1) [] [] p2) act) → DSs Z (Yp K mg T q) W bg (mb act)) ∧
    ∀ (f : Addr) (B : Beh) (_ : BMono B) (mu : Mu) (c : Nat) (P1 : D → Mu → Nat → Prop) (PX : Ex → Mu → Nat → Prop), lsp B mu c P1 PX → mb (mAct 0 f B) (S0 Ng [a] [.ref f] mu c) (EF P1) (XF PX)
section
variable {X : Cx} {T : List (Addr × Str)} {q : Qp} {W : WX} {lsp : LSp} {x a : Str} {c P : Addr} {k : Nat} {params : Arguments} {body : Expr} {scope : Scope} {mb : ME} {p lpos pos : Pos}
/-- x(lambda: body) -/
theorem de_lam (F : LamFn X.prog X.w X.K X.mg T X.base (k + 1) x a lsp) (tk : Takes X W) (hg : Gl X x) (TB : TabB X.base X.mg c P) (hcode : X.env.code = .ref c) (hmT : (P, X.env.qual ++ "<lambda>") ∈ T) (hu : ∀ p ∈ T, p.1 = P → p.2 = X.env.qual ++ "<lambda>")
    (hr : Room (k + 2) X.A) (L : LamS X.env.scope scope) (hdef : defaultsOf params X.env = ([], []))
    (hbind : ∀ (q : Str) (cl : List (Str × Addr)) (pm cv ctv : Value), bindArgs (PySem.W.kla_fn "<lambda>" q params body scope cl pm cv ctv) ⟨[], []⟩ = pure [])
    (hbody : ∀ (A : Around) (outer : List Env) (s : Shared) (H : Hp) (E : XK) (f c' : Addr), Room k (A.deeper (lamEnv X scope s.heap.objs.size f c')) → Takes (lamCx X A outer s H E scope f c') (fun cls d _ H => E cls d H) →
      DE (lamCx X A outer s H E scope f c') (Yp X.K X.mg T q) (fun cls d _ H => E cls d H) body mb)
    (hdb : (x == ("__debug__" : Str)) = false := by decide) : DE X (Yp X.K X.mg T q) W (.Call (.Name x p) [.Lambda params body scope lpos] [] pos) (mLam lsp mb) := by
  obtain ⟨g, pg, bg, sg, doc, pm, cdv, ct, oc, kV, an, od, osl, Ng, mf, hm, hk, lk, hcg, hb, Sg, hNg, hva, hd, hcd, hder, hrd⟩ := F.ex
  refine ⟨fun pins s σ H Q I ⟨G, st, P1, PX, rr, hmb, xp, kq⟩ => ?_⟩
  refine wpAny_Call_Name_kw (ld_glob I hg hm ?_ hdb)
  refine PySem.W.callWith_K (h₀ := X.base) I.ok.mod.kin hk ?_ (by rfl) (by rfl)
  show wpAny _ _ (spliced ((false, eval (.Lambda params body scope lpos) X.env) :: backTo pos (starEach [] X.env))) _ _ s
  refine Calls.spliced_cons (lam_make2 I TB hcode hmT hu rr.h.ext.tab hdef (L.has I.ok) fun f c' pm' ctv H1 s' I1 eN T1 hf hfn hfr hco => ?_)
  refine Calls.spliced_nil ⟨I1.kIn, ?_⟩
  have r1 := rr.h.extN eN T1
  obtain ⟨n1, n2, n3⟩ := r1.codeOff hco
  have r2 := r1.moreRaw (G1 := G) hco n1 n2 (Same.refl G)
  have lo0 : Same q.G0 G := rr.h.ext.lo
  have frC : frmO (CodeO c' (X.env.qual ++ "<lambda>")) := ⟨(code_no rfl).1, (code_no rfl).2.1⟩
  have rc : codeAny (model X.prog X.w) X.A (.call (.ref g) ⟨[.ref f], []⟩) (CR (L2.CX X.prog X.w) X.stack X.prog X.w H1 s' Q (WE W σ)) s' := by
    refine run_ofS (N := Ng) (ps := [a]) (us := [.ref f]) (vs := [.ref f]) lk hcg Sg hr I1.env0 (hb s' [.ref f] I1.kIn rfl) (.cons rfl .nil) rfl fun hr' => ?_
    let B : Beh := fun mu c P1 PX1 => mClo mb { st with mu := mu, c := c } (fun d s => P1 d s.mu s.c) (fun x s => PX1 x s.mu s.c)
    have hBM : BMono B := fun mu c P P' PX PX' ⟨P0, PX0, h0, h1, h2⟩ k1 k2 => ⟨P0, PX0, h0, fun d s z => k1 _ _ _ (h1 d s z), fun x s z => k2 _ _ _ (h2 x s z)⟩
    let Z := cxOf (L2.CX X.prog X.w) X.prog X.w X.K X.mg X.base Ng x sg g cdv X.A X.stack s' H1 (WE W σ)
    have hZ := hder Z (q.add c' (X.env.qual ++ "<lambda>") G) (fun cls d _ H => WE W σ cls d H) (mAct 0 f B) ⟨_, _, _, _, _, rfl⟩ (takes_of rfl rfl rfl rfl) hr' (passes_of rfl) fun W' pn xe p1 p2 tk' => by
      refine peImp (pe_actA (i := 0) (tb := fun E => TEof (Yp X.K X.mg T q) (fun cls d _ H => E cls d H) (mClo mb)) I1 L hf hfn hfr (hbind _ _ _ _ _) tk' hr' (fun A outer s H E hr2 => de_clo (hbody A outer s H E f c' hr2 (takes_of rfl rfl rfl rfl))) hNg hva hd hcd) fun σZ HZ QZ ⟨GZ, sZ, PZ, PXZ, rZ, ⟨hr0, hB⟩, xpZ, kZ⟩ => ?_
      obtain ⟨v0, e0, q0⟩ := rZ.s.2 0 _ hr0
      obtain ⟨hc1, hc2, hc3⟩ := rZ.h.ext.raw (c', X.env.qual ++ "<lambda>") List.mem_cons_self
      have lo1 : Same G GZ := rZ.h.ext.lo
      cases q0
      refine ⟨e0, hc1, GZ, { st with mu := sZ.mu, c := sZ.c }, _, _, ⟨rZ.h.less lo0, rr.s.mono lo1⟩, hB, fun x s5 cls d σ5 G5 H5 hx g5 f5 r5 rx => ?_, fun d s5 v G5 H5 hd g5 f5 r5 q5 => ?_⟩
      · obtain ⟨k1, k2, k3⟩ := f5 c' _ hc1 hc2 hc3 ⟨n3, frC⟩
        exact xpZ x { sZ with mu := s5.mu, c := s5.c } cls d σZ G5 H5 hx g5 f5 ⟨r5.h.moreRaw k1 k2 k3 (lo1.trans g5), rZ.s.mono g5⟩ rx.up
      · obtain ⟨k1, k2, k3⟩ := f5 c' _ hc1 hc2 hc3 ⟨n3, frC⟩
        exact kZ d { sZ with mu := s5.mu, c := s5.c } v G5 H5 hd g5 f5 ⟨r5.h.moreRaw k1 k2 k3 (lo1.trans g5), rZ.s.mono g5⟩ q5.up
    refine ⟨_, hZ, G, S0 Ng [a] [.ref f] st.mu st.c, _, _, ⟨r2, ?_⟩, hrd f B hBM st.mu st.c _ _ hmb, fun x s5 cls d σ5 G5 H5 ⟨c5, l5, hx⟩ g5 f5 r5 rx => ?_, ⟨fun s5 σ5 G5 H5 ⟨c5, l5, hP⟩ g5 f5 r5 => ?_, fun d s5 v σ5 G5 H5 ⟨c5, l5, hP⟩ g5 f5 r5 q5 => ?_, fun _ _ _ _ z => z.elim, fun _ _ _ _ z => z.elim⟩⟩
    · show Sl _ G _ (L2.start Ng [.ref f])
      exact Sl.start (.cons (.ref f) .nil) _
    · exact xp x { st with mu := s5.mu, c := c5 } cls d σ G5 H5 hx g5 ((Frm.extN eN).trans f5) ⟨(r5.h.less lo0).more l5, rr.s.mono g5⟩ rx.dn
    · exact kq .non { st with mu := s5.mu, c := c5 } .non G5 H5 hP g5 ((Frm.extN eN).trans f5) ⟨(r5.h.less lo0).more l5, rr.s.mono g5⟩ .non
    · exact kq d { st with mu := s5.mu, c := c5 } v G5 H5 hP g5 ((Frm.extN eN).trans f5) ⟨(r5.h.less lo0).more l5, rr.s.mono g5⟩ q5.dn
  have hx := passAt tk σ
  refine wpAny_call (codeAny_mono rc fun r s2 hq => ?_)
  cases r with
  | error e => exact hx pins H1 s' e s2 I1 hq
  | ok fl =>
    cases fl with
    | ret u => exact I1.after hq
    | next => exact False.elim hq
    | brk => exact False.elim hq
    | cont => exact False.elim hq
end
/-! ### a def whose code object is known (it makes lambdas) -/
section
variable {P : Program} {w : World} {K : PySem.W.Frag} {mg : Str → Option Value} {T : List (Addr × Str)} {base : Heap}
theorem okXc {x qual : Str} {st : Stmt} {f c : Addr} {fd : FuncData} {N ps : List Str} {k : Nat} {sp : Sp} (F : Fun K x qual st f fd) (hc : fd.code = .ref c) (S : FnScope N ps (defScope st)) (len : ∀ vs H Q E, sp vs H Q E → vs.length = ps.length)
    (hbody : ∀ (A : Around) (outer : List Env) (s : Shared) (H : Hp) (vs : List V) (Q : VK) (E : XK), Room k (A.deeper (envOfC qual (defScope st) s.heap.objs.size f (.ref c))) → sp vs H Q E →
      ∃ t, PSs (cxOf (L2.CX P w) P w K mg base N qual (defScope st) f (.ref c) A outer s H E) (defBody st) t ∧ t { nx := fun _ H' => Q .non H', rt := Q } (L2.start N vs) H) : FnOk P w K mg base (L2.CX P w) (k + 1) f fd ps sp := by
  obtain ⟨oc, od, kV, doc, pm, an, cdv, ct, osl, e, lk, hcd⟩ := F.ex
  subst e
  have e2 : cdv = .ref c := hc
  subst e2
  exact fn_of lk hcd S len fun A outer s H vs Q E hr hsp => hbody A outer s H vs Q E hr hsp
theorem fnDc {x : Str} {st : Stmt} {f c : Addr} {fd : FuncData} {N ps : List Str} {k : Nat} {sp : DSp} (F : Fun K x x st f fd) (hc : fd.code = .ref c) (hmg : mg x = some (.ref f)) (b : Binds K fd ps []) (Sc : FnScope N ps (defScope st))
    (len : ∀ ds mu c P PX, sp ds mu c P PX → ds.length = ps.length)
    (hbody : ∀ (X : Cx) (q : Qp) (W : WX), (∃ A outer s H E, X = cxOf (L2.CX P w) P w K mg base N x (defScope st) f (.ref c) A outer s H E) → Takes X W → Room k X.A → PassesOwn (model X.prog X.w) X.A X.env X.xe →
      ∃ m, DSs X (Yp K mg T q) W (defBody st) m ∧ ∀ ds mu c P PX, sp ds mu c P PX → m (S0 N ps ds mu c) (EF P) (XF PX)) :
    FnD P w K mg T base (k + 1) x ps sp := by
  refine ⟨f, fd, hmg, F.kp, b, fun q => ?_⟩
  refine okXc F hc Sc (fun vs H Q E ⟨G, mu, c, ds, P, PX, r0, qv, h, _⟩ => ?_) fun A outer s H vs Q E hr ⟨G, mu, c, ds, P, PX, r0, qv, h, kq, kx⟩ => ?_
  · rw [← qv.length]
    exact len _ _ _ _ _ h
  · obtain ⟨m, hm, hs⟩ := hbody (cxOf (L2.CX _ w) _ w K mg base N x (defScope st) f _ A outer s H E) q (fun cls d _ H => E cls d H) ⟨A, outer, s, H, E, rfl⟩ (takes_of rfl rfl rfl rfl) hr (passes_of rfl)
    have e1 : N.length - vs.length = N.length - ps.length := by rw [← qv.length, len _ _ _ _ _ h]
    refine ⟨_, hm, G, _, _, _, ⟨r0, ?_⟩, hs ds mu c _ _ h, ?_, ?_⟩
    · show Sl (Yp K mg T q) G _ (L2.start N vs)
      unfold L2.start
      rw [e1]
      exact Sl.start qv _
    · exact fun ex st' cls d σ' G' H' ⟨c', l, h1⟩ h2 h3 h4 h5 => kx ex _ _ cls d G' H' h1 h2 h3 (h4.h.more l) h5
    · exact ⟨fun st' σ' G' H' ⟨c', l, h1⟩ h2 h3 h4 => kq _ _ _ _ G' H' h1 h2 h3 (h4.h.more l) .non, fun d st' v σ' G' H' ⟨c', l, h1⟩ h2 h3 h4 h5 => kq _ _ _ _ G' H' h1 h2 h3 (h4.h.more l) h5, fun _ _ _ _ h => h.elim, fun _ _ _ _ h => h.elim⟩
/-- a def that calls what it gets -/
theorem lamFn {x a : Str} {st : Stmt} {f : Addr} {fd : FuncData} {N : List Str} {k : Nat} {lsp : LSp} (F : Fun K x x st f fd) (hmg : mg x = some (.ref f)) (b : Binds K fd [a] []) (Sc : FnScope N [a] (defScope st)) (h0 : N[0]? = some a) (hv : Vis (defScope st) a) (hd : (a == ("__debug__" : Str)) = false) (hcd : (a == ("__classdict__" : Str)) = false) (mb : ME → MS)
    (hbody : ∀ (X : Cx) (q : Qp) (W : WX) (act : ME), (∃ cdv A outer s H E, X = cxOf (L2.CX P w) P w K mg base N x (defScope st) f cdv A outer s H E) → Takes X W → Room k X.A → PassesOwn (model X.prog X.w) X.A X.env X.xe →
      (∀ (W' : WX) (pn : List (Addr × Obj)) (xe : Value → Shared → Prop) (p1 p2 : Pos), Takes (X.tr pn xe) W' → DE (X.tr pn xe) (Yp K mg T q) W' (.Call (.Name a p1) [] [] p2) act) → DSs X (Yp K mg T q) W (defBody st) (mb act))
    (rd : ∀ (f : Addr) (B : Beh) (_ : BMono B) (mu : Mu) (c : Nat) (P1 : D → Mu → Nat → Prop) (PX : Ex → Mu → Nat → Prop), lsp B mu c P1 PX → mb (mAct 0 f B) (S0 N [a] [.ref f] mu c) (EF P1) (XF PX)) : LamFn P w K mg T base k x a lsp := by
  obtain ⟨oc, od, kV, doc, pm, an, cdv, ct, osl, e, lk, hcd'⟩ := F.ex
  subst e
  exact ⟨f, _, _, _, doc, pm, cdv, ct, oc, kV, an, od, osl, N, mb, hmg, F.kp, lk, hcd', b, Sc, h0, hv, hd, hcd, fun Z q W act ⟨A, outer, s, H, E, eZ⟩ tk hr hp ha => hbody Z q W act ⟨cdv, A, outer, s, H, E, eZ⟩ tk hr hp ha, rd⟩
end
end DL
namespace DL
open PySem L2
section
variable {X : Cx} {Y : Yc} {W : WX} {a e : Expr} {ma me : ME} {pos : Pos}
/-! ### T.index(x), T a module's tuple of texts -/
def GlobT (K : PySem.W.Frag) (mg : Str → Option Value) (x : Str) (ys : List Str) : Prop := ∃ (p : Addr) (its : Array Value) (n : Nat) (sl : Array (Option Value)), mg x = some (.ref p) ∧ K.lookup p = some ⟨.type "tuple", none, .seq its n, sl⟩ ∧ its.size ≤ sizeLine ∧ Vals (ys.map V.str) its.toList
def indexG (ys : List Str) : O1 := fun _ e P => match e with
  | .str z => ∃ j : Nat, ys[j]? = some z ∧ (∀ m, m < j → ys[m]? ≠ some z) ∧ P (.int (j : Nat))
  | _ => False
theorem de_indexG {x : Str} {ys : List Str} {apos p : Pos} (hx : GlobT X.K X.mg x ys) (hg : Gl X x) (he : DE X Y W e me) (hd : (x == ("__debug__" : Str)) = false := by decide) (hs : starEach [e] X.env = (false, eval e X.env) :: starEach [] X.env := by rfl) (hbase : attributeBase (.Name x p) "index" X.env (eval (.Name x p) X.env) = eval (.Name x p) X.env := by rfl)
    (hfew : ((backTo pos (starEach [e] X.env)).all (fun x => !x.1) && (backToKw pos (keywordEach [] X.env)).all (fun x => x.1.isSome) && decide ([e].length + ([] : List Keyword).length + (if ([] : List Keyword).isEmpty then 0 else 1) < 30)) = true := by rfl)
    (hline : (apos.endLine == pos.line) = true := by rfl) (hplain : (backTo pos (starEach [] X.env)).any (·.1) = false := by rfl) : DE X Y W (.Call (.Attribute (.Name x p) "index" apos) [e] [] pos) (mUn (indexG ys) me) := by
  obtain ⟨q, its, n, sl, h1, h2, h3, h4⟩ := hx
  refine peImp (pe_bm PySem.F.plainAttrs_tuple PySem.F.slot_tuple_index PySem.F.type_tuple_index mt_tup_index (pe_glob (v := .ref q) hg h1 rfl hd) (pa_cons he pa_nil hs) hbase hfew hline hs hplain) fun σ H Q ⟨G, st, P, PX, rr, hm, xp, k⟩ => ?_
  refine ⟨.inr (.inl ⟨rfl, _, h2, rfl, rfl⟩), G, st, _, PX, rr, hm, xp, fun e s2 w G2 H2 hm2 g2 f2 r2 q2 => ?_⟩
  cases e <;> first | exact False.elim hm2 | skip
  obtain ⟨j, e2, e3, hp⟩ := hm2
  cases q2
  exact ⟨q, ys, _, j, rfl, rfl, .inr ⟨_, its, n, h2, rfl, rfl, h3, h4⟩, e2, e3, k _ s2 _ G2 H2 hp g2 f2 r2 (.int _)⟩
/-! ### sorted(texts) -/
def sortedD : OL := fun _ ds P => match ds with
  | [.lst a] => ∃ xs : List Str, strsOf a = some xs ∧ xs.length < 64 ∧ ∀ ys : List Str, ys.Perm xs → PyProof.Rows.sortedS ys = true → P (.lst (ys.map D.str))
  | _ => False
theorem reps_strs {G : Hp} : ∀ ys : List Str, Reps Y G (ys.map D.str) (ys.map V.str)
  | [] => .nil
  | y :: ys => .cons (.str y) (reps_strs ys)
theorem cd_sorted : CallD X Y (.builtin "sorted") sortedD := by
  intro pins s σ H xs us Q I r ⟨G, mu, c, ds, P, r0, q, h, k⟩
  unfold sortedD at h
  split at h
  · obtain ⟨v, rfl, q1⟩ := q.one
    obtain ⟨a1, xs1, rfl, h1, q1⟩ := q1.lstI
    obtain ⟨ns, h2, h3, h4⟩ := h
    have e := strsOf_reps h2 q1
    subst e
    exact cr_sortedS pins s σ H _ us Q I r ⟨_, ns, rfl, SqL.of (r0.sub _ _ h1), h3, fun ys p h5 h6 hp => k.lst r0 (h4 ys h5 h6) (reps_strs ys) p hp⟩
  · exact h.elim
theorem bb_sorted : bootBuiltins "sorted" = some (.builtin "sorted") := by decide +kernel
end
end DL
namespace DL
open PySem L2 LamX PySem.Spec PyProof.Rows
/-! ### closures handed on through several defs -/
theorem unComp {fr fs2 : List Addr} {H0 H1 H2 : Hp} {h0 h1 h2 : Heap} (a : Un fr [] H0 H1 h0 h1) (b : Un fs2 [] H1 H2 h1 h2) (hf : ∀ x ∈ fs2, x ∈ fr ∨ h0.get? x = none) : Un fr [] H0 H2 h0 h2 where
  keep := fun x o e n hx hn => b.keep x o (a.keep x o e n hx hn) (a.free x o e n hn) (fun z => by
    rcases hf x z with k | k
    · exact hx k
    · rw [e] at k; cases k) hn
  slot := fun x o e n hx hn => by
    obtain ⟨sl, e1⟩ := a.slot x o e n hx hn
    obtain ⟨sl2, e2⟩ := b.any e1 (a.free x o e n hn) hn
    exact ⟨sl2, e2⟩
  free := fun x o e n hn => by
    obtain ⟨sl, e1⟩ := a.any e n hn
    exact b.free x _ e1 (a.free x o e n hn) hn
  there := fun x o e hn => by
    obtain ⟨o1, e1⟩ := a.there x o e hn
    exact b.there x o1 e1 hn
  tups := fun x xs e => b.tups x xs (a.tups x xs e)
  frzs := fun x o u e => b.frzs x o u (a.frzs x o u e)
  tbls := fun x ps e => by
    obtain ⟨m1, e1⟩ := a.tbls x ps e
    obtain ⟨m2, e2⟩ := b.tbls x _ e1
    exact ⟨m1 ++ m2, by rw [e2, Array.append_assoc]⟩
/-- the closure at f behaves as B, wherever it is called after (H0, h0) while the frames fr stand -/
def CloOk (P : Program) (w : World) (K : PySem.W.Frag) (mg : Str → Option Value) (T : List (Addr × Str)) (base : Heap) (fr : List Addr) (h0 : Heap) (H0 : Hp) (q : Qp) (f : Addr) (k : Nat) (B : Beh) : Prop :=
  ∀ (A : Around) (outer : List Env) (s1 : Shared) (HZ : Hp) (G1 : Hp) (mu1 : Mu) (c1 : Nat) (P1 : D → Mu → Nat → Prop) (PX1 : Ex → Mu → Nat → Prop) (Q : VK) (E : XK), Room (k + 1) A → Env0 P w K mg base A outer s1 HZ → Un fr [] H0 HZ h0 s1.heap → R0 (Yp K mg T q) G1 mu1 c1 HZ → B mu1 c1 P1 PX1 →
    (∀ d mu' c' v G' H', P1 d mu' c' → Same G1 G' → Frm (Yp K mg T q) G1 mu1 HZ G' mu' H' → R0 (Yp K mg T q) G' mu' c' H' → Rep (Yp K mg T q) G' d v → Q v H') →
    (∀ x mu' c' cls d G' H', PX1 x mu' c' → Same G1 G' → Frm (Yp K mg T q) G1 mu1 HZ G' mu' H' → R0 (Yp K mg T q) G' mu' c' H' → RepX (Yp K mg T q) G' mu' H' x cls d → E cls d H') →
    PySem.W.FnAt f s1.heap ∧ codeAny (model P w) A (.call (.ref f) ⟨[], []⟩) (CR (L2.CX P w) outer P w HZ s1 Q E) s1
def behOf (st : S) (m : ME) : Beh := fun mu c P1 PX1 => mClo m { st with mu := mu, c := c } (fun d s => P1 d s.mu s.c) (fun x s => PX1 x s.mu s.c)
theorem behOf_mono (st : S) (m : ME) : BMono (behOf st m) := fun mu c P P' PX PX' ⟨P0, PX0, h0, h1, h2⟩ k1 k2 => ⟨P0, PX0, h0, fun d s z => k1 _ _ _ (h1 d s z), fun x s z => k2 _ _ _ (h2 x s z)⟩
theorem clo_of_lam {X : Cx} {pins : List (Addr × Obj)} {σ : L2.St} {H : Hp} {s : Shared} {T : List (Addr × Str)} {q : Qp} {G : Hp} {st : S} {f c' : Addr} {pm ctv : Value} {params : Arguments} {body : Expr} {scope : Scope} {k : Nat} {mb : ME}
    (I : Inv X pins σ H s) (L : LamS X.env.scope scope) (hf : s.heap.get? f = some (PySem.W.kla_obj "<lambda>" (X.env.qual ++ "<lambda>") params body scope (cloFrom X.env.cells scope.names []) pm c' ctv)) (hfn : H f = none) (hfr : f ∉ frs X.stack)
    (hbind : bindArgs (PySem.W.kla_fn "<lambda>" (X.env.qual ++ "<lambda>") params body scope (cloFrom X.env.cells scope.names []) pm (.ref c') ctv) ⟨[], []⟩ = pure [])
    (hbody : ∀ (A : Around) (outer : List Env) (s : Shared) (H : Hp) (E : XK), Room k (A.deeper (lamEnv X scope s.heap.objs.size f c')) → DE (lamCx X A outer s H E scope f c') (Yp X.K X.mg T q) (fun cls d _ H => E cls d H) body mb)
    (rr : R (Yp X.K X.mg T q) G st σ H) (n3 : c' ≠ q.p) : CloOk X.prog X.w X.K X.mg T X.base (frs X.stack) s.heap H (q.add c' (X.env.qual ++ "<lambda>") G) f k (behOf st mb) := by
  intro A outer s1 HZ G1 mu1 c1 P1 PX1 Q E hr e0 un r1 hB kq kx
  have lo0 : Same q.G0 G := rr.h.ext.lo
  have lo1 : Same G G1 := r1.ext.lo
  obtain ⟨hc1, hc2, hc3⟩ := r1.ext.raw (c', X.env.qual ++ "<lambda>") List.mem_cons_self
  have frC : frmO (CodeO c' (X.env.qual ++ "<lambda>")) := ⟨(code_no rfl).1, (code_no rfl).2.1⟩
  have of1 : s1.heap.get? f = some (PySem.W.kla_obj "<lambda>" (X.env.qual ++ "<lambda>") params body scope (cloFrom X.env.cells scope.names []) pm c' ctv) := un.keep f _ hf hfn hfr (fun z => nomatch (show f ∈ ([] : List Addr) from z))
  refine ⟨⟨_, _, _, _, of1⟩, ?_⟩
  obtain ⟨⟨oc, vs, t, hoc, hdc, hvc⟩, _, _⟩ := e0.hok c' _ hc1
  refine PySem.W.kla_callFunE hr.depth of1 rfl L.co L.gen rfl ⟨c', oc, vs, t, rfl, hoc, hdc, hvc⟩ ?_
  rw [hbind]
  have lim : s1.heap.NoLimit := e0.mod.nolimit.keeps fun b o e => (e0.bs b o e).1
  refine wpAny_pure (wpAny_newFunctionEnv (fun y hy => (L.own y hy).2) (fun y hy => absurd hy (by simp)) (fun h₁ hns hsb => ⟨lim.fresh _ hsb, ?_⟩) L.kind)
  show codeAny _ _ (.expr body (lamEnv X scope s1.heap.objs.size f c')) _ _
  have kp : ∀ b o, s1.heap.get? b = some o → h₁.get? b = some o := fun b o e => hsb.extBut b o (Nat.ne_of_lt (Heap.lt_size e)) (Heap.get?_push_of_some _ e)
  have J : Inv (lamCx X A outer s1 HZ E scope f c') [] σ HZ { s1 with heap := h₁, toks := s1.toks + ([] : List (Str × Value)).length } := lam_start2 I L e0 hr.hd un hns kp
  have ht : TEof (Yp X.K X.mg T q) (fun cls d _ H => E cls d H) (mClo mb) σ HZ Q := by
    refine ⟨G1, { st with mu := mu1, c := c1 }, _, _, ⟨r1.less lo0, rr.s.mono lo1⟩, hB, fun x s5 cls d σ5 G5 H5 hx g5 f5 r5 rx => ?_, fun d s5 v G5 H5 hd g5 f5 r5 q5 => ?_⟩
    · obtain ⟨k1, k2, k3⟩ := f5 c' _ hc1 hc2 hc3 ⟨n3, frC⟩
      exact kx x s5.mu s5.c cls d G5 H5 hx g5 f5 (r5.h.moreRaw k1 k2 k3 (lo1.trans g5)) rx.up
    · obtain ⟨k1, k2, k3⟩ := f5 c' _ hc1 hc2 hc3 ⟨n3, frC⟩
      exact kq d s5.mu s5.c v G5 H5 hd g5 f5 (r5.h.moreRaw k1 k2 k3 (lo1.trans g5)) q5.up
  refine PySem.W.kla_codeExpr (wpAny_mono (((de_clo (hbody _ _ s1 HZ E (hr.deeper _)))).run [] _ _ HZ Q J ht) (fun v s' ⟨w', H', J', rv, q⟩ => ?_) fun e s' hq => hq)
  exact ⟨w', H', J'.os, J'.bare, J'.base, J'.hok, rv, q⟩
/-- .. as the context Z finds it at its entry -/
def CloAt (Z : Cx) (T : List (Addr × Str)) (q : Qp) (f : Addr) (k : Nat) (B : Beh) : Prop :=
  ∃ (fr : List Addr) (h0 : Heap) (H0 : Hp), CloOk Z.prog Z.w Z.K Z.mg T Z.base fr h0 H0 q f k B ∧ Un fr [] H0 Z.H_0 h0 Z.s_0.heap ∧ (∀ x ∈ frs Z.outer, x ∈ fr ∨ h0.get? x = none) ∧ Z.ex = []
/-- x(), x the parameter that holds the closure -/
theorem de_act {Z : Cx} {T : List (Addr × Str)} {q : Qp} {f : Addr} {k i : Nat} {B : Beh} {W : WX} {a : Str} {p1 p2 : Pos} (h : CloAt Z T q f k B) (tk : Takes Z W) (hr : Room (k + 1) Z.A) (hN : Z.N[i]? = some a) (hv : Vis Z.env.scope a) (hd : (a == ("__debug__" : Str)) = false := by decide) (hcd : (a == ("__classdict__" : Str)) = false := by decide) :
    DE Z (Yp Z.K Z.mg T q) W (.Call (.Name a p1) [] [] p2) (mAct i f B) := by
  obtain ⟨fr, h0, H0, hc, hu, hf, hex⟩ := h
  refine ⟨fun pins s σ H Q I ⟨G, st, P1, PX1, rr, ⟨hr0, hB⟩, xp, kq⟩ => ?_⟩
  obtain ⟨v0, e0, q0⟩ := rr.s.2 i _ hr0
  cases q0
  refine wpAny_Call_Name_kw (thn ((pe_var (pos := p1) (i := i) hN hv hd hcd).run pins s σ H (fun v H1 => v = .ref f ∧ H1 = H) I ⟨.ref f, e0, rfl, rfl⟩) fun u s1 ⟨v, H1, I1, r1, ev, eH⟩ => ?_)
  subst ev
  rw [eH] at I1
  obtain rfl : u = Value.ref f := r1
  have ub : Un Z.fs [] Z.H_0 H Z.s_0.heap s1.heap := by
    have := I1.base
    rw [hex] at this
    exact this
  obtain ⟨h1, rc⟩ := hc Z.A Z.stack s1 H G st.mu st.c _ _ Q (WE W σ) hr I1.env0 (unComp hu ub hf) rr.h hB (fun d mu' c' v G' H' hP g f5 r5 q5 => kq d { st with mu := mu', c := c' } v G' H' hP g f5 ⟨r5, rr.s.mono g⟩ q5)
    (fun x mu' c' cls d G' H' hP g f5 r5 rx => xp x { st with mu := mu', c := c' } cls d σ G' H' hP g f5 ⟨r5, rr.s.mono g⟩ rx)
  refine PySem.W.callWith_F0 h1 ?_
  refine wpAny_call (codeAny_mono rc fun r s' hq => ?_)
  cases r with
  | error e => exact passAt tk σ pins H s1 e s' I1 hq
  | ok fl =>
    cases fl with
    | ret u => exact I1.after hq
    | next => exact False.elim hq
    | brk => exact False.elim hq
    | cont => exact False.elim hq
/-- the promise of a def whose first parameter is a closure -/
abbrev CSp := Beh → DSp
structure CFn (P : Program) (w : World) (K : PySem.W.Frag) (mg : Str → Option Value) (T : List (Addr × Str)) (base : Heap) (j : Nat) (x : Str) (csp : CSp) : Prop where
  ex : ∃ (g : Addr) (pg : Arguments) (bg : List Stmt) (sg : Scope) (doc pm cdv ct oc kV : Value) (an od : Option Addr) (osl : Array (Option Value)) (Ng ps : List Str) (a : Str) (mb : Addr → Beh → MS), mg x = some (.ref g) ∧ PySem.W.keepIn K (.ref g) = true ∧
    K.lookup g = some ⟨oc, od, .func (PySem.W.fnOf x x pg bg sg .none kV doc pm an cdv ct), osl⟩ ∧ PySem.W.codeIn K cdv x = true ∧ L2.Binds K (PySem.W.fnOf x x pg bg sg .none kV doc pm an cdv ct) (a :: ps) [] ∧ FnScope Ng (a :: ps) sg ∧
    (∀ (Z : Cx) (q : Qp) (W : WX) (f : Addr) (kB : Nat) (B : Beh), BMono B → (∃ A outer s H E, Z = cxOf (L2.CX P w) P w K mg base Ng x sg g cdv A outer s H E) → CloAt Z T q f kB B → Takes Z W → Room (kB + j) Z.A → PassesOwn (model Z.prog Z.w) Z.A Z.env Z.xe → DSs Z (Yp K mg T q) W bg (mb f B)) ∧
    ∀ (f : Addr) (B : Beh) (_ : BMono B) (ds : List D) (mu : Mu) (c : Nat) (P1 : D → Mu → Nat → Prop) (PX : Ex → Mu → Nat → Prop), csp B ds mu c P1 PX → ds.length = ps.length ∧ mb f B (S0 Ng (a :: ps) (.ref f :: ds) mu c) (EF P1) (XF PX)
def mLamC (csp : CSp) (m : ME) (n : MA) : ME := fun st P PX => n st (fun ds s1 => csp (behOf s1 m) ds s1.mu s1.c (fun d mu c => P d { s1 with mu := mu, c := c }) (fun x mu c => PX x { s1 with mu := mu, c := c })) PX
def mPassC (csp : CSp) (i : Nat) (f : Addr) (B : Beh) (n : MA) : ME := fun st P PX => st.r[i]? = some (some (.ref f)) ∧ n st (fun ds s1 => csp B ds s1.mu s1.c (fun d mu c => P d { s1 with mu := mu, c := c }) (fun x mu c => PX x { s1 with mu := mu, c := c })) PX
section
variable {X : Cx} {T : List (Addr × Str)} {q : Qp} {W : WX} {csp : CSp} {x : Str} {c P : Addr} {k j : Nat} {params : Arguments} {body : Expr} {rest : List Expr} {scope : Scope} {mb : ME} {mn : MA} {p lpos pos : Pos}
/-- x(lambda: body, ..) -/
theorem de_lamC (F : CFn X.prog X.w X.K X.mg T X.base j x csp) (tk : Takes X W) (hg : Gl X x) (hst : X.stack = X.env :: X.outer) (hfl : X.env.frame = some X.env.locals) (TB : TabB X.base X.mg c P) (hcode : X.env.code = .ref c) (hmT : (P, X.env.qual ++ "<lambda>") ∈ T) (hu : ∀ p ∈ T, p.1 = P → p.2 = X.env.qual ++ "<lambda>")
    (hr : Room (k + j + 1) X.A) (L : LamS X.env.scope scope) (hdef : defaultsOf params X.env = ([], []))
    (hbind : ∀ (q : Str) (cl : List (Str × Addr)) (pm cv ctv : Value), bindArgs (PySem.W.kla_fn "<lambda>" q params body scope cl pm cv ctv) ⟨[], []⟩ = pure [])
    (hbody : ∀ (A : Around) (outer : List Env) (s : Shared) (H : Hp) (E : XK) (f c' : Addr), Room k (A.deeper (lamEnv X scope s.heap.objs.size f c')) → Takes (lamCx X A outer s H E scope f c') (fun cls d _ H => E cls d H) →
      DE (lamCx X A outer s H E scope f c') (Yp X.K X.mg T q) (fun cls d _ H => E cls d H) body mb)
    (ha : DA X (Yp X.K X.mg T q) W rest mn) (hpl : (backTo pos (starEach rest X.env)).any (·.1) = false := by rfl)
    (hdb : (x == ("__debug__" : Str)) = false := by decide) : DE X (Yp X.K X.mg T q) W (.Call (.Name x p) (.Lambda params body scope lpos :: rest) [] pos) (mLamC csp mb mn) := by
  obtain ⟨g, pg, bg, sg, doc, pm, cdv, ct, oc, kV, an, od, osl, Ng, ps, a, mf, hm, hk, lk, hcg, hb, Sg, hder, hrd⟩ := F.ex
  refine ⟨fun pins s σ H Q I ⟨G, st, P1, PX, rr, hmn, xp, kq⟩ => ?_⟩
  refine wpAny_Call_Name_kw (ld_glob I hg hm ?_ hdb)
  refine PySem.W.callWith_K (h₀ := X.base) I.ok.mod.kin hk ?_ (by rfl) hpl
  show wpAny _ _ (spliced ((false, eval (.Lambda params body scope lpos) X.env) :: backTo pos (starEach rest X.env))) _ _ s
  refine Calls.spliced_cons (lam_make2 I TB hcode hmT hu rr.h.ext.tab hdef (L.has I.ok) fun f c' pm' ctv H1 s' I1 eN T1 hf hfn hfr hco => ?_)
  have r1 := rr.h.extN eN T1
  obtain ⟨n1, n2, n3⟩ := r1.codeOff hco
  have frC : frmO (CodeO c' (X.env.qual ++ "<lambda>")) := ⟨(code_no rfl).1, (code_no rfl).2.1⟩
  have hfr' : f ≠ X.env.locals ∧ f ∉ X.fs := by
    rw [hst] at hfr
    unfold frs at hfr
    rw [List.filterMap_cons, hfl] at hfr
    exact ⟨fun z => hfr (by rw [z]; exact List.mem_cons_self), fun z => hfr (List.mem_cons_of_mem _ z)⟩
  have I1p : Inv X (pins ++ [(f, PySem.W.kla_obj "<lambda>" (X.env.qual ++ "<lambda>") params body scope (cloFrom X.env.cells scope.names []) pm' c' ctv)]) σ H1 s' := I1.pins_of fun pp hp => by
    rcases List.mem_append.mp hp with hp | hp
    · exact I1.pin pp (List.mem_append_right _ hp)
    · rcases List.mem_cons.mp hp with e | e
      · rw [e]
        exact ⟨hf, hfn, hfr'.1, hfr'.2, fun v z => by cases z⟩
      · cases e
  have xp1 : XPost (Yp X.K X.mg T q) W G st σ H1 PX := fun y s5 cls d σ5 G5 H5 h5 g5 f5 r5 rx => xp y s5 cls d σ5 G5 H5 h5 g5 ((Frm.extN eN).trans f5) r5 rx
  refine thn (ha.run pos _ s' σ H1 (fun vs H2 => ∃ ds s2 G2, csp (behOf s2 mb) ds s2.mu s2.c (fun d mu c => P1 d { s2 with mu := mu, c := c }) (fun x mu c => PX x { s2 with mu := mu, c := c }) ∧ Same G G2 ∧ Frm (Yp X.K X.mg T q) G st.mu H1 G2 s2.mu H2 ∧ R (Yp X.K X.mg T q) G2 s2 σ H2 ∧ Reps (Yp X.K X.mg T q) G2 ds vs) I1p
    ⟨G, st, _, PX, ⟨r1, rr.s⟩, hmn, xp1, fun ds s2 vs G2 H2 h2 g2 f2 r2 q2 => ⟨ds, s2, G2, h2, g2, f2, r2, q2⟩⟩) fun us s2 ⟨vs, H2, I2p, rv, ds, st2, G2, hcs, g2, f2, r2, q2⟩ => ?_
  have I2 : Inv X pins σ H2 s2 := I2p.unpinned
  obtain ⟨hf2, hfn2, _⟩ := I2p.pin (f, _) (List.mem_append_right _ (List.mem_append_right _ List.mem_cons_self))
  obtain ⟨hco2, m1, m2⟩ := f2 c' _ hco n1 n2 ⟨n3, frC⟩
  have r3 := r2.h.moreRaw (G1 := G2) hco2 m1 m2 (Same.refl G2)
  have lo2 : Same q.G0 G2 := r2.h.ext.lo
  refine ⟨I2.kIn, ?_⟩
  have hck := hrd f (behOf st2 mb) (behOf_mono _ _) ds st2.mu st2.c _ _ hcs
  have rc : codeAny (model X.prog X.w) X.A (.call (.ref g) ⟨.ref f :: us, []⟩) (CR (L2.CX X.prog X.w) X.stack X.prog X.w H2 s2 Q (WE W σ)) s2 := by
    have hlen : us.length = ps.length := by rw [← rv.length, ← q2.length]; exact hck.1
    have hb2 := hb s2 (.ref f :: us) I2.kIn (by rw [List.append_nil, List.length_cons, List.length_cons, hlen])
    rw [List.append_nil] at hb2
    refine run_ofS (N := Ng) (ps := a :: ps) (us := .ref f :: us) (vs := .ref f :: vs) lk hcg Sg hr I2.env0 hb2 (.cons rfl rv) (by rw [List.length_cons, List.length_cons, rv.length, hlen]) fun hr' => ?_
    have hZ := hder (cxOf (L2.CX X.prog X.w) X.prog X.w X.K X.mg X.base Ng x sg g cdv X.A X.stack s2 H2 (WE W σ)) (q.add c' (X.env.qual ++ "<lambda>") G2) (fun cls d _ H => WE W σ cls d H) f k (behOf st2 mb) (behOf_mono _ _) ⟨_, _, _, _, _, rfl⟩
      ⟨frs X.stack, s2.heap, H2, clo_of_lam I2 L hf2 hfn2 hfr (hbind _ _ _ _ _) (fun A outer s H E hr2 => hbody A outer s H E f c' hr2 (takes_of rfl rfl rfl rfl)) r2 n3, Un.refl, fun y hy => .inl hy, rfl⟩ (takes_of rfl rfl rfl rfl) hr' (passes_of rfl)
    refine ⟨_, hZ, G2, S0 Ng (a :: ps) (.ref f :: ds) st2.mu st2.c, _, _, ⟨r3, ?_⟩, hck.2, fun y s5 cls d σ5 G5 H5 ⟨c5, l5, hx⟩ g5 f5 r5 rx => ?_, ⟨fun s5 σ5 G5 H5 ⟨c5, l5, hP⟩ g5 f5 r5 => ?_, fun d s5 v σ5 G5 H5 ⟨c5, l5, hP⟩ g5 f5 r5 q5 => ?_, fun _ _ _ _ z => z.elim, fun _ _ _ _ z => z.elim⟩⟩
    · have e1 : Ng.length - (V.ref f :: vs).length = Ng.length - (a :: ps).length := by rw [List.length_cons, List.length_cons, rv.length, hlen]
      show Sl _ G2 _ (L2.start Ng (.ref f :: vs))
      unfold L2.start
      rw [e1]
      exact Sl.start (.cons (.ref f) (Reps.conv (Y := Yp X.K X.mg T q) (Y' := Yp X.K X.mg T (q.add c' (X.env.qual ++ "<lambda>") G2)) rfl rfl q2)) _
    · exact xp y { st2 with mu := s5.mu, c := c5 } cls d σ G5 H5 hx (g2.trans g5) (((Frm.extN eN).trans f2).trans f5) ⟨(r5.h.less lo2).more l5, r2.s.mono g5⟩ rx.dn
    · exact kq .non { st2 with mu := s5.mu, c := c5 } .non G5 H5 hP (g2.trans g5) (((Frm.extN eN).trans f2).trans f5) ⟨(r5.h.less lo2).more l5, r2.s.mono g5⟩ .non
    · exact kq d { st2 with mu := s5.mu, c := c5 } v G5 H5 hP (g2.trans g5) (((Frm.extN eN).trans f2).trans f5) ⟨(r5.h.less lo2).more l5, r2.s.mono g5⟩ q5.dn
  refine wpAny_call (codeAny_mono rc fun r s3 hq => ?_)
  cases r with
  | error e => exact passAt tk σ pins H2 s2 e s3 I2 hq
  | ok fl =>
    cases fl with
    | ret u => exact I2.after hq
    | next => exact False.elim hq
    | brk => exact False.elim hq
    | cont => exact False.elim hq
/-- x(v, ..), v the parameter that holds a closure -/
theorem de_passC {f : Addr} {kB i : Nat} {B : Beh} {v : Str} {pv : Pos} (F : CFn X.prog X.w X.K X.mg T X.base j x csp) (hB : BMono B) (tk : Takes X W) (hg : Gl X x) (hst : X.stack = X.env :: X.outer) (hfl : X.env.frame = some X.env.locals) (hloc : X.env.locals = X.s_0.heap.objs.size) (hclo : CloAt X T q f kB B)
    (hr : Room (kB + j + 1) X.A) (hN : X.N[i]? = some v) (hvis : Vis X.env.scope v) (ha : DA X (Yp X.K X.mg T q) W rest mn) (hse : starEach (.Name v pv :: rest) X.env = (false, eval (.Name v pv) X.env) :: starEach rest X.env := by rfl) (hpl : (backTo pos (starEach rest X.env)).any (·.1) = false := by rfl)
    (hdb : (x == ("__debug__" : Str)) = false := by decide) (hd : (v == ("__debug__" : Str)) = false := by decide) (hcd : (v == ("__classdict__" : Str)) = false := by decide) : DE X (Yp X.K X.mg T q) W (.Call (.Name x p) (.Name v pv :: rest) [] pos) (mPassC csp i f B mn) := by
  obtain ⟨g, pg, bg, sg, doc, pm, cdv, ct, oc, kV, an, od, osl, Ng, ps, a, mf, hm, hk, lk, hcg, hb, Sg, hder, hrd⟩ := F.ex
  obtain ⟨fr, h0, H0, hcok, hun, hfrs, hex⟩ := hclo
  refine ⟨fun pins s σ H Q I ⟨G, st, P1, PX, rr, ⟨hr0, hmn⟩, xp, kq⟩ => ?_⟩
  obtain ⟨v0, e0, q0⟩ := rr.s.2 i _ hr0
  cases q0
  refine wpAny_Call_Name_kw (ld_glob I hg hm ?_ hdb)
  have hpv : PE X (.Name v pv) (tVar i) := pe_var (i := i) hN hvis hd hcd
  refine PySem.W.callWith_K (h₀ := X.base) I.ok.mod.kin hk (thn ((pa_cons hpv ha hse).run pos pins s σ H (fun us H2 => ∃ vs ds s2 G2, us = .ref f :: vs ∧ csp B ds s2.mu s2.c (fun d mu c => P1 d { s2 with mu := mu, c := c }) (fun x mu c => PX x { s2 with mu := mu, c := c }) ∧ Same G G2 ∧ Frm (Yp X.K X.mg T q) G st.mu H G2 s2.mu H2 ∧ R (Yp X.K X.mg T q) G2 s2 σ H2 ∧ Reps (Yp X.K X.mg T q) G2 ds vs) I
    ⟨.ref f, e0, G, st, _, PX, rr, hmn, xp, fun ds s2 vs G2 H2 h2 g2 f2 r2 q2 => ⟨vs, ds, s2, G2, rfl, h2, g2, f2, r2, q2⟩⟩) fun us s2 ⟨vs1, H2, I2, rv1, vs, ds, st2, G2, evs, hcs, g2, f2, r2, q2⟩ => ?_) hse hpl
  subst evs
  refine ⟨I2.kIn, ?_⟩
  have hck := hrd f B hB ds st2.mu st2.c _ _ hcs
  have ub : Un X.fs [] X.H_0 H2 X.s_0.heap s2.heap := by
    have := I2.base
    rw [hex] at this
    exact this
  have rc : codeAny (model X.prog X.w) X.A (.call (.ref g) ⟨us, []⟩) (CR (L2.CX X.prog X.w) X.stack X.prog X.w H2 s2 Q (WE W σ)) s2 := by
    have hlen : us.length = (a :: ps).length := by rw [← rv1.length, List.length_cons, ← q2.length, hck.1, List.length_cons]
    have hb2 := hb s2 us I2.kIn (by rw [List.append_nil]; exact hlen)
    rw [List.append_nil] at hb2
    refine run_ofS (N := Ng) (ps := a :: ps) (us := us) (vs := .ref f :: vs) lk hcg Sg hr I2.env0 hb2 rv1 (by rw [rv1.length]; exact hlen) fun hr' => ?_
    have hZ := hder (cxOf (L2.CX X.prog X.w) X.prog X.w X.K X.mg X.base Ng x sg g cdv X.A X.stack s2 H2 (WE W σ)) q (fun cls d _ H => WE W σ cls d H) f kB B hB ⟨_, _, _, _, _, rfl⟩
      ⟨fr, h0, H0, hcok, unComp hun ub hfrs, fun y hy => by
        have hy' : y ∈ frs X.stack := hy
        rw [hst] at hy'
        unfold frs at hy'
        rw [List.filterMap_cons, hfl] at hy'
        rcases List.mem_cons.mp hy' with e | e
        · refine .inr ?_
          cases z : h0.get? y with
          | none => rfl
          | some o =>
            obtain ⟨o', e'⟩ := hun.there y o z (by simp)
            rw [e, hloc] at e'
            exact absurd (Heap.lt_size e') (Nat.lt_irrefl _)
        · exact hfrs y e, rfl⟩ (takes_of rfl rfl rfl rfl) hr' (passes_of rfl)
    refine ⟨_, hZ, G2, S0 Ng (a :: ps) (.ref f :: ds) st2.mu st2.c, _, _, ⟨r2.h, ?_⟩, hck.2, fun y s5 cls d σ5 G5 H5 ⟨c5, l5, hx⟩ g5 f5 r5 rx => ?_, ⟨fun s5 σ5 G5 H5 ⟨c5, l5, hP⟩ g5 f5 r5 => ?_, fun d s5 v σ5 G5 H5 ⟨c5, l5, hP⟩ g5 f5 r5 q5 => ?_, fun _ _ _ _ z => z.elim, fun _ _ _ _ z => z.elim⟩⟩
    · have e1 : Ng.length - (V.ref f :: vs).length = Ng.length - (a :: ps).length := by rw [List.length_cons, List.length_cons, ← q2.length, hck.1]
      show Sl _ G2 _ (L2.start Ng (.ref f :: vs))
      unfold L2.start
      rw [e1]
      exact Sl.start (.cons (.ref f) q2) _
    · exact xp y { st2 with mu := s5.mu, c := c5 } cls d σ G5 H5 hx (g2.trans g5) (f2.trans f5) ⟨r5.h.more l5, r2.s.mono g5⟩ rx
    · exact kq .non { st2 with mu := s5.mu, c := c5 } .non G5 H5 hP (g2.trans g5) (f2.trans f5) ⟨r5.h.more l5, r2.s.mono g5⟩ .non
    · exact kq d { st2 with mu := s5.mu, c := c5 } v G5 H5 hP (g2.trans g5) (f2.trans f5) ⟨r5.h.more l5, r2.s.mono g5⟩ q5
  refine wpAny_call (codeAny_mono rc fun r s3 hq => ?_)
  cases r with
  | error e => exact passAt tk σ pins H2 s2 e s3 I2 hq
  | ok fl =>
    cases fl with
    | ret u => exact I2.after hq
    | next => exact False.elim hq
    | brk => exact False.elim hq
    | cont => exact False.elim hq
end
section
variable {P : Program} {w : World} {K : PySem.W.Frag} {mg : Str → Option Value} {T : List (Addr × Str)} {base : Heap}
/-- a def whose first parameter is a closure -/
theorem cFn {x a : Str} {st : Stmt} {f : Addr} {fd : FuncData} {N ps : List Str} {j : Nat} {csp : CSp} (F : Fun K x x st f fd) (hmg : mg x = some (.ref f)) (b : Binds K fd (a :: ps) []) (Sc : FnScope N (a :: ps) (defScope st)) (mb : Addr → Beh → MS)
    (hbody : ∀ (X : Cx) (q : Qp) (W : WX) (g : Addr) (kB : Nat) (B : Beh), BMono B → (∃ cdv A outer s H E, X = cxOf (L2.CX P w) P w K mg base N x (defScope st) f cdv A outer s H E) → CloAt X T q g kB B → Takes X W → Room (kB + j) X.A → PassesOwn (model X.prog X.w) X.A X.env X.xe → DSs X (Yp K mg T q) W (defBody st) (mb g B))
    (rd : ∀ (g : Addr) (B : Beh) (_ : BMono B) (ds : List D) (mu : Mu) (c : Nat) (P1 : D → Mu → Nat → Prop) (PX : Ex → Mu → Nat → Prop), csp B ds mu c P1 PX → ds.length = ps.length ∧ mb g B (S0 N (a :: ps) (.ref g :: ds) mu c) (EF P1) (XF PX)) : CFn P w K mg T base j x csp := by
  obtain ⟨oc, od, kV, doc, pm, an, cdv, ct, osl, e, lk, hcd'⟩ := F.ex
  subst e
  exact ⟨f, _, _, _, doc, pm, cdv, ct, oc, kV, an, od, osl, N, ps, a, mb, hmg, F.kp, lk, hcd', b, Sc, fun Z q W g kB B hB ⟨A, outer, s, H, E, eZ⟩ hc tk hr hp => hbody Z q W g kB B hB ⟨cdv, A, outer, s, H, E, eZ⟩ hc tk hr hp, rd⟩
end
end DL
namespace L2
open PySem PySem.Spec PyProof.Rows
/-! ### try with several clauses, some with a name -/
structure ExCl where
  c : Value
  i : Option Nat
  ts : Addr → Value → Option Addr → TS
/-- one clause's suite entered with the exception at a -/
def ExCl.go (cl : ExCl) (D : Ends) (a : Addr) (cls : Value) (d : Option Addr) (σ : St) (H : Hp) : Prop := match cl.i with
  | some i => cl.ts a cls d { nx := fun σ' H' => D.nx (σ'.set i none) H', rt := D.rt, bk := fun σ' H' => D.bk (σ'.set i none) H', ct := fun σ' H' => D.ct (σ'.set i none) H' } (σ.set i (some (.ref a))) H
  | none => cl.ts a cls d D σ H
def wCls (K : PySem.W.Frag) (Wout : WX) (D : Ends) : List ExCl → WX
  | [] => Wout
  | cl :: r => fun cls d σ H => ∃ b, PySem.W.exmOne K cls cl.c = some b ∧ (b = true → ∀ a, H a = none → cl.go D a cls d σ H) ∧ (b = false → wCls K Wout D r cls d σ H)
inductive ClsOk (X : Cx) : List ExceptHandler → List ExCl → Prop
  | nil : ClsOk X [] []
  | plain {x : Str} {c : Value} {ts : Addr → Value → Option Addr → TS} {b0 : Stmt} {suite : List Stmt} {np pos' : Pos} {hds : List ExceptHandler} {l : List ExCl} (hc : Names X x c)
      (hsu : ∀ (a : Addr) (oe : Obj) (cls : Value) (d : Option Addr) (pn : List (Addr × Obj)), Zc cls d oe → (∃ vs, oe.data = .fields vs) → PSs (X.suite a ((a, oe) :: pn)) (b0 :: suite) (ts a cls d)) (r : ClsOk X hds l) :
      ClsOk X (.ExceptHandler (some (.Name x np)) none (b0 :: suite) pos' :: hds) (⟨c, none, ts⟩ :: l)
  | named {x n : Str} {c : Value} {i : Nat} {ts : Addr → Value → Option Addr → TS} {b0 : Stmt} {suite : List Stmt} {np pos' : Pos} {hds : List ExceptHandler} {l : List ExCl} (hi : X.N[i]? = some n) (hln : X.env.kindOf n = some .local) (hc : Names X x c)
      (hsu : ∀ (a : Addr) (oe : Obj) (cls : Value) (d : Option Addr) (pn : List (Addr × Obj)), Zc cls d oe → (∃ vs, oe.data = .fields vs) → PSs (X.suite a ((a, oe) :: pn)) (b0 :: suite) (ts a cls d)) (r : ClsOk X hds l) :
      ClsOk X (.ExceptHandler (some (.Name x np)) (some n) (b0 :: suite) pos' :: hds) (⟨c, some i, ts⟩ :: l)
section
variable {X : Cx} {body : List Stmt} {h0 : ExceptHandler} {hds : List ExceptHandler} {l : List ExCl} {pos : Pos} {tb : WX → TS} {Wout : WX}
theorem ps_try_cls (hs : X.stack = X.env :: X.outer) (hf : X.env.frame = some X.env.locals) (hN : X.N.Nodup) (tk : Takes X Wout)
    (hb : ∀ (W : WX) (pn : List (Addr × Obj)) (xe : Value → Shared → Prop), Takes (X.tr pn xe) W → PassesOwn (model X.prog X.w) X.A X.env xe → PSs (X.tr pn xe) body (tb W))
    (hh : ClsOk X (h0 :: hds) l) : PS X (.Try body (h0 :: hds) [] [] pos) (fun D σ H => tb (wCls X.K Wout D l) D σ H) := by
  refine ⟨fun pins s σ H D I h => ?_⟩
  have ok := I.ok
  have hfr : X.A.frames = some (X.env :: X.outer) := by rw [ok.frames, hs]
  refine wpAny_Try_except ?_
  refine wpAny_mono ((hb (wCls X.K Wout D l) (X.pn ++ pins) (fun e s₁ => wpAny (model X.prog X.w) X.A (noteFrame e X.env) (fun _ s₂ => wpAny (model X.prog X.w) X.A (setFlight e none) (fun _ s₃ =>
    wpAny (model X.prog X.w) X.A (handleBy e X.env (h0 :: hds)) (SP X pins D) X.xe s₃) X.xe s₂) X.xe s₁) (fun u s' xx => ?_) PassesOwn.looking).run [] s σ H D (I.toTry _) h) (fun f s1 hsp => ?_) (fun e s1 he => he)
  · obtain ⟨a, B, sI, pins', σ', H', cls, d, rfl, J', nb, up, sky, na, os, ag, w⟩ := xx
    have J : Inv X pins σ' H' sI := J'.ofTry ok
    have sky' : Sky B (X.env :: X.outer) a (Zc cls d) X.env.locals s'.heap := by rw [← hs]; exact sky
    show wpAny (model X.prog X.w) X.A (noteFrame (.ref a) X.env) _ _ _
    refine Sky.land Zc.steady hfr hf sky' fun h3 fl3 up3 => ?_
    have J3 : Inv X pins σ' H' { s' with heap := h3 } := J.landed nb fl3.1 (up.trans up3) os ag
    obtain ⟨oe3, vs3, he3, hz3, hd3⟩ := fl3.there
    have nfr : a ∉ frs (X.env :: X.outer) := fun hm => by
      obtain ⟨_, o', e', hnf⟩ := fl3.2.2.1.mem hm
      rw [he3] at e'; cases e'
      exact hnf _ hd3
    have nL : a ≠ X.env.locals := fun z => nfr (List.mem_filterMap.mpr ⟨X.env, List.mem_cons_self, by rw [hf, z]⟩)
    have nF : a ∉ X.fs := fun hm => by
      obtain ⟨e, he, q⟩ := List.mem_filterMap.mp hm
      exact nfr (List.mem_filterMap.mpr ⟨e, List.mem_cons_of_mem _ he, q⟩)
    have S3 := J3.suite he3 hd3 na nL nF
    have LT : PySem.W.Looks (model X.prog X.w) h3 (typeOf (.ref a)) cls := fun A Q E s k q => wpAny_typeOf_ref (k _ _ he3) (by rw [hz3.1]; exact q)
    have test : ∀ {x : Str} {np : Pos} {c : Value} {Q : Value → Shared → Prop} {E : Value → Shared → Prop}, Names X x c → Q c { s' with heap := h3 } → wpAny (model X.prog X.w) (X.A.mark (some (.ref a))) (eval (.Name x np) X.env) Q E { s' with heap := h3 } := fun {x np c Q E} hc q => by
      obtain ⟨hg, hdbg, hm | ⟨hm, hv, hnn⟩⟩ := hc
      · exact ld_glob (X := X.suite a ((a, oe3) :: (X.pn ++ pins))) S3 hg hm q hdbg
      · exact ld_blt (X := X.suite a ((a, oe3) :: (X.pn ++ pins))) S3 hg hm hv q hnn hdbg
    have go : ∀ {hds' : List ExceptHandler} {l' : List ExCl}, ClsOk X hds' l' → wCls X.K Wout D l' cls d σ' H' →
        wpAny (model X.prog X.w) X.A (handleBy (.ref a) X.env hds') (SP X pins D) X.xe { s' with heap := h3 } := by
      intro hds' l' hk
      induction hk with
      | nil =>
        intro w
        refine wpAny_handleBy_nil ?_
        obtain ⟨k1, k2, k3, oe, vs, T, oT, ts', he, hz, hd, h1, hr⟩ := id fl3
        unfold PySem.passOn
        refine wpAny_bind (wpAny_field he hd h1 ?_)
        rw [if_neg (show ¬ ((Value.ref T == Value.none) = true) from by simp)]
        have fin : wpAny (model X.prog X.w) X.A (setFlight (.ref a) X.env.frame) (fun _ s4 => wpAny (model X.prog X.w) X.A (throw (.ref a) : Sem Flow) (SP X pins D) X.xe s4) X.xe { s' with heap := h3 } := by
          rw [hf]
          refine HandSPX.setFlight_upZ fl3 fun h4 hh4 up4 => wpAny_throw (tk _ _ ?_)
          exact ⟨a, B, sI, pins, σ', H', cls, d, rfl, J, nb, (up.trans up3).trans up4, .inr (.inr (by rw [hs]; exact hh4)), na, os, ag, w⟩
        first
          | exact wpAny_bind (wpAny_pure (wpAny_bind fin))
          | exact wpAny_bind fin
      | @plain x c ts b0 suite np pos' hds2 l2 hc hsu r ih =>
        intro ⟨b, hb1, hyes, hno⟩
        refine wpAny_handleBy_cons (codeAny_handlers_test ?_) (by intro q; cases q)
        have LM := PySem.W.exm_one (M := model X.prog X.w) (J3.kIn) LT hb1
        refine test hc (LM.here ?_)
        cases b with
        | true =>
          refine codeAny_handlers_suite ?_
          refine HandSPX.lands_againZ fl3 fun h4 fl4 up4 => ?_
          have J4 : Inv X pins σ' H' { s' with heap := h4 } := J.landed nb fl4.1 ((up.trans up3).trans up4) os ag
          obtain ⟨oe4, vs4, he4, hz4, hd4⟩ := fl4.there
          have S4 := J4.suite he4 hd4 na nL nF
          refine wpAny_mono ((hsu a oe4 cls d (X.pn ++ pins) hz4 ⟨_, hd4⟩).run [] _ _ H' _ S4 (hyes rfl a na)) (fun f s6 hsp => ?_) (fun _ _ z => False.elim z)
          cases f with
          | next => obtain ⟨σ6, H6, S6, q6⟩ := hsp; exact ⟨_, _, S6.unsuite ok, q6⟩
          | brk => obtain ⟨σ6, H6, S6, q6⟩ := hsp; exact ⟨_, _, S6.unsuite ok, q6⟩
          | cont => obtain ⟨σ6, H6, S6, q6⟩ := hsp; exact ⟨_, _, S6.unsuite ok, q6⟩
          | ret u => obtain ⟨v6, σ6, H6, S6, r6, q6⟩ := hsp; exact ⟨_, _, _, S6.unsuite ok, r6, q6⟩
        | false =>
          show wpAny _ X.A (handleBy (.ref a) X.env hds2) _ _ _
          exact ih (hno rfl)
      | @named x n c i ts b0 suite np pos' hds2 l2 hi hln hc hsu r ih =>
        intro ⟨b, hb1, hyes, hno⟩
        have hloc : Loc X.env.scope n := .inl hln
        refine wpAny_handleBy_cons (codeAny_handlers_test ?_) (by intro q; cases q)
        have LM := PySem.W.exm_one (M := model X.prog X.w) (J3.kIn) LT hb1
        refine test hc (LM.here ?_)
        cases b with
        | true =>
          refine codeAny_handlers_suite_as ?_
          refine HandSPX.lands_againZ fl3 fun h4 fl4 up4 => ?_
          have J4 : Inv X pins σ' H' { s' with heap := h4 } := J.landed nb fl4.1 ((up.trans up3).trans up4) os ag
          obtain ⟨oe4, vs4, he4, hz4, hd4⟩ := fl4.there
          have S4 := J4.suite he4 hd4 na nL nF
          refine store_ok (X := X.suite a ((a, oe4) :: (X.pn ++ pins))) (v := .ref a) S4 hN hi hloc rfl (fun s5 S5 => ?_) (.inr hln)
          refine wpAny_mono ((hsu a oe4 cls d (X.pn ++ pins) hz4 ⟨_, hd4⟩).run [] s5 _ H' _ S5 (hyes rfl a na)) (fun f s6 hsp => ?_) (fun _ _ z => False.elim z)
          have end_ : ∀ {σ6 : St} {H6 : Hp} {Q : Shared → Prop}, Inv (X.suite a ((a, oe4) :: (X.pn ++ pins))) [] σ6 H6 s6 → (∀ s7, Inv X pins (σ6.set i none) H6 s7 → Q s7) →
              wpAny (model X.prog X.w) X.A (do bindName X.env n .none; unbindBehindTheSuite X.env n pos') (fun _ s7 => Q s7) X.xe s6 := fun {σ6 H6 Q} S6 hq => gone_ok (S6.unsuite ok) hN hi hln hq
          cases f with
          | next => obtain ⟨σ6, H6, S6, q6⟩ := hsp; exact end_ S6 fun s7 J7 => ⟨_, _, J7, q6⟩
          | brk => obtain ⟨σ6, H6, S6, q6⟩ := hsp; exact end_ S6 fun s7 J7 => ⟨_, _, J7, q6⟩
          | cont => obtain ⟨σ6, H6, S6, q6⟩ := hsp; exact end_ S6 fun s7 J7 => ⟨_, _, J7, q6⟩
          | ret u => obtain ⟨v6, σ6, H6, S6, r6, q6⟩ := hsp; exact end_ S6 fun s7 J7 => ⟨_, _, _, J7, r6, q6⟩
        | false =>
          show wpAny _ X.A (handleBy (.ref a) X.env hds2) _ _ _
          exact ih (hno rfl)
    exact go hh w
  · cases f with
    | next => obtain ⟨σ', H', J', q⟩ := hsp; exact wpAny_execs_nil ⟨σ', H', J'.ofTry ok, q⟩
    | brk => obtain ⟨σ', H', J', q⟩ := hsp; exact ⟨σ', H', J'.ofTry ok, q⟩
    | cont => obtain ⟨σ', H', J', q⟩ := hsp; exact ⟨σ', H', J'.ofTry ok, q⟩
    | ret u => obtain ⟨v, σ', H', J', r, q⟩ := hsp; exact ⟨v, σ', H', J'.ofTry ok, r, q⟩
end
end L2
namespace DL
open PySem L2
/-! ### try with several clauses, over data -/
structure DCl where
  cn : Str
  i : Option Nat
  suite : Addr → Addr → MS
def DCl.go (cl : DCl) (E : DEnds) (x : Ex) (s1 : S) : Prop := match cl.i with
  | some i => x.fs ≠ [] ∧ ∀ a dd, s1.mu dd = none → cl.suite a dd (s1.caught i a dd x.fs) { nx := fun s => E.nx (s.left i dd), rt := fun d s => E.rt d { s with mu := muSet s.mu dd none }, bk := fun s => E.bk (s.left i dd), ct := fun s => E.ct (s.left i dd) } PX0
  | none => ∀ a dd, cl.suite a dd s1 E PX0
def mGo : List DCl → DEnds → Ex → S → Prop
  | [], _, _, _ => False
  | cl :: r, E, x, s1 => if x.cls = cl.cn then cl.go E x s1 else mGo r E x s1
def mTryM (body : MS) (l : List DCl) : MS := fun st E PX => body st E fun x s1 => mGo l E x s1
theorem mGo_mem : ∀ {l : List DCl} {E : DEnds} {x : Ex} {s : S}, mGo l E x s → ∃ cl ∈ l, x.cls = cl.cn
  | cl :: r, E, x, s, h => by
    unfold mGo at h
    by_cases e : x.cls = cl.cn
    · exact ⟨cl, List.mem_cons_self, e⟩
    · rw [if_neg e] at h
      obtain ⟨c2, h1, h2⟩ := mGo_mem h
      exact ⟨c2, List.mem_cons_of_mem _ h1, h2⟩
theorem mGo_hit {cl : DCl} {r : List DCl} {E : DEnds} {x : Ex} {s : S} (e : x.cls = cl.cn) (h : cl.go E x s) : mGo (cl :: r) E x s := by
  unfold mGo
  rw [if_pos e]
  exact h
theorem mGo_skip {cl : DCl} {r : List DCl} {E : DEnds} {x : Ex} {s : S} (e : ¬ x.cls = cl.cn) (h : mGo r E x s) : mGo (cl :: r) E x s := by
  unfold mGo
  rw [if_neg e]
  exact h
/-- an error of the class B is none of the class A -/
def Miss (K : PySem.W.Frag) (mg : Str → Option Value) (B A : Str) : Prop := ∀ CB CA : Addr, mg B = some (.ref CB) → mg A = some (.ref CA) → PySem.W.exmOne K (.ref CB) (.ref CA) = some false
inductive DCls (X : Cx) (Y : Yc) : List ExceptHandler → List DCl → Prop
  | nil : DCls X Y [] []
  | named {xn n : Str} {C : Addr} {i : Nat} {ms : Addr → Addr → MS} {b0 : Stmt} {suite : List Stmt} {np pos' : Pos} {hds : List ExceptHandler} {l : List DCl} (gC : X.mg xn = some (.ref C)) (te : PySem.W.exmOne X.K (.ref C) (.ref C) = some true) (hi : X.N[i]? = some n) (hln : X.env.kindOf n = some .local) (hg : Gl X xn) (hdb : (xn == ("__debug__" : Str)) = false)
      (hsu : ∀ (a : Addr) (oe : Obj) (dd : Addr) (pn : List (Addr × Obj)), Zc (.ref C) (some dd) oe → (∃ vs, oe.data = .fields vs) → DSs (X.suite a ((a, oe) :: pn)) Y W0 (b0 :: suite) (ms a dd)) (miss : ∀ cl ∈ l, Miss X.K X.mg cl.cn xn) (r : DCls X Y hds l) :
      DCls X Y (.ExceptHandler (some (.Name xn np)) (some n) (b0 :: suite) pos' :: hds) (⟨xn, some i, ms⟩ :: l)
  | plain {xn : Str} {C : Addr} {ms : Addr → Addr → MS} {b0 : Stmt} {suite : List Stmt} {np pos' : Pos} {hds : List ExceptHandler} {l : List DCl} (gC : X.mg xn = some (.ref C)) (te : PySem.W.exmOne X.K (.ref C) (.ref C) = some true) (hg : Gl X xn) (hdb : (xn == ("__debug__" : Str)) = false)
      (hsu : ∀ (a : Addr) (oe : Obj) (pn : List (Addr × Obj)), (∃ vs, oe.data = .fields vs) → DSs (X.suite a ((a, oe) :: pn)) Y W0 (b0 :: suite) (ms a a)) (miss : ∀ cl ∈ l, Miss X.K X.mg cl.cn xn) (r : DCls X Y hds l) :
      DCls X Y (.ExceptHandler (some (.Name xn np)) none (b0 :: suite) pos' :: hds) (⟨xn, none, ms⟩ :: l)
def Fit (X : Cx) (Y : Yc) (l : List DCl) (l' : List ExCl) : Prop := ∀ (D : Ends) (E : DEnds) (G : Hp) (st : S) (H : Hp) (x : Ex) (st' : S) (cls : Value) (d : Option Addr) (σ' : St) (G' H' : Hp), EndsOk Y G st H E D → mGo l E x st' → Same G G' → Frm Y G st.mu H G' st'.mu H' → R Y G' st' σ' H' → RepX Y G' st'.mu H' x cls d → wCls X.K (fun _ _ _ _ => False) D l' cls d σ' H'
section
variable {X : Cx} {Y : Yc} {W : WX} {pos : Pos}
theorem DCls.fit (hmg : Y.mg = X.mg) {hds : List ExceptHandler} {l : List DCl} (h : DCls X Y hds l) : ∃ l', ClsOk X hds l' ∧ Fit X Y l l' := by
  induction h with
  | nil => exact ⟨[], .nil, fun _ _ _ _ _ _ _ _ _ _ _ _ _ z => z.elim⟩
  | @named xn n C i ms b0 suite np pos' hds l gC te hi hln hg hdb hsu miss r ih =>
    obtain ⟨l', ok, fit⟩ := ih
    refine ⟨⟨.ref C, some i, fun a cls d D σ H => ∃ dd, d = some dd ∧ cls = .ref C ∧ TSof Y W0 (ms a dd) D σ H⟩ :: l', .named hi hln ⟨hg, hdb, .inl gC⟩ (fun a oe cls d pn hz hd => ⟨fun pins s σ H D I ⟨dd, e1, e2, q⟩ => ?_⟩) ok, fun D E G st H x st' cls d σ' G' H' k hgo g1 f1 r1 rx => ?_⟩
    · subst e1
      subst e2
      exact (hsu a oe dd pn hz hd).run pins s σ H D I q
    · have rx' := rx
      obtain ⟨⟨C', e1, e2⟩, h3⟩ := rx
      subst e2
      rw [hmg] at e1
      by_cases ec : x.cls = xn
      · have eC : C' = C := by
          rw [ec, gC] at e1
          cases e1
          rfl
        subst eC
        have hgo' : DCl.go ⟨xn, some i, ms⟩ E x st' := by
          unfold mGo at hgo
          rw [if_pos ec] at hgo
          exact hgo
        obtain ⟨hne, hx⟩ := hgo'
        refine ⟨true, te, fun _ a na => ?_, fun z => by cases z⟩
        rcases h3 with ⟨e4, e5⟩ | ⟨dd, vs, e4, e5, e6, e7, e8, e9⟩
        · exact absurd e4 hne
        · refine ⟨dd, e4, rfl, G', st'.caught i a dd x.fs, _, PX0, ⟨r1.h.hold e5 e6 e7 e9, r1.s.set i (.ref a)⟩, hx a dd e8, fun _ _ _ _ _ _ _ z => z.elim, ⟨fun s5 σ5 G5 H5 h5 g5 f5 r5 => ?_, fun d5 s5 v5 σ5 G5 H5 h5 g5 f5 r5 q5 => ?_, fun s5 σ5 G5 H5 h5 g5 f5 r5 => ?_, fun s5 σ5 G5 H5 h5 g5 f5 r5 => ?_⟩⟩
          · exact k.nx _ _ G5 H5 h5 (g1.trans g5) (frm_through f1 e5 f5) ⟨r5.h.drop dd, r5.s.none i⟩
          · exact k.rt _ _ v5 σ5 G5 H5 h5 (g1.trans g5) (frm_through f1 e5 f5) ⟨r5.h.drop dd, r5.s⟩ q5
          · exact k.bk _ _ G5 H5 h5 (g1.trans g5) (frm_through f1 e5 f5) ⟨r5.h.drop dd, r5.s.none i⟩
          · exact k.ct _ _ G5 H5 h5 (g1.trans g5) (frm_through f1 e5 f5) ⟨r5.h.drop dd, r5.s.none i⟩
      · have hgo' : mGo l E x st' := by
          unfold mGo at hgo
          rw [if_neg ec] at hgo
          exact hgo
        obtain ⟨c2, m1, m2⟩ := mGo_mem hgo'
        exact ⟨false, miss c2 m1 C' C (by rw [← m2]; exact e1) gC, fun z => (by cases z), fun _ => fit D E G st H x st' _ d σ' G' H' k hgo' g1 f1 r1 rx'⟩
  | @plain xn C ms b0 suite np pos' hds l gC te hg hdb hsu miss r ih =>
    obtain ⟨l', ok, fit⟩ := ih
    refine ⟨⟨.ref C, none, fun a cls d D σ H => TSof Y W0 (ms a a) D σ H⟩ :: l', .plain ⟨hg, hdb, .inl gC⟩ (fun a oe cls d pn hz hd => ⟨fun pins s σ H D I q => (hsu a oe pn hd).run pins s σ H D I q⟩) ok, fun D E G st H x st' cls d σ' G' H' k hgo g1 f1 r1 rx => ?_⟩
    have rx' := rx
    obtain ⟨⟨C', e1, e2⟩, h3⟩ := rx
    subst e2
    rw [hmg] at e1
    by_cases ec : x.cls = xn
    · have eC : C' = C := by
        rw [ec, gC] at e1
        cases e1
        rfl
      subst eC
      have hgo' : DCl.go ⟨xn, none, ms⟩ E x st' := by
        unfold mGo at hgo
        rw [if_pos ec] at hgo
        exact hgo
      exact ⟨true, te, fun _ a na => ⟨G', st', E, PX0, r1, hgo' a a, fun _ _ _ _ _ _ _ z => z.elim, k.on g1 f1⟩, fun z => by cases z⟩
    · have hgo' : mGo l E x st' := by
        unfold mGo at hgo
        rw [if_neg ec] at hgo
        exact hgo
      obtain ⟨c2, m1, m2⟩ := mGo_mem hgo'
      exact ⟨false, miss c2 m1 C' C (by rw [← m2]; exact e1) gC, fun z => (by cases z), fun _ => fit D E G st H x st' _ d σ' G' H' k hgo' g1 f1 r1 rx'⟩
theorem ds_tryM {body : List Stmt} {h0 : ExceptHandler} {hds : List ExceptHandler} {l : List DCl} {mb : MS} (hs : X.stack = X.env :: X.outer) (hf : X.env.frame = some X.env.locals) (hmg : Y.mg = X.mg) (hN : X.N.Nodup)
    (hb : ∀ (W : WX) (pn : List (Addr × Obj)) (xe : Value → Shared → Prop), Takes (X.tr pn xe) W → PassesOwn (model X.prog X.w) X.A X.env xe → DSs (X.tr pn xe) Y W body mb) (hc : DCls X Y (h0 :: hds) l) :
    DS X Y W (.Try body (h0 :: hds) [] [] pos) (mTryM mb l) := by
  obtain ⟨l', ok, fit⟩ := hc.fit hmg
  refine psImp (ps_try_cls (l := l') (tb := fun W => TSof Y W mb) (Wout := fun _ _ _ _ => False) hs hf hN takes0 hb ok) fun D σ H ⟨G, st, E, PX, rr, hm, xp, k⟩ => ?_
  exact ⟨G, st, E, _, rr, hm, fun x st' cls d σ' G' H' hgo g1 f1 r1 rx => fit D E G st H x st' cls d σ' G' H' k hgo g1 f1 r1 rx, k⟩
end
end DL
namespace DL
open PySem L2 RZ
/-! ### enumerate, zip -/
section
variable {X : Cx} {Y : Yc} {W : WX} {G : Hp} {mu : Mu} {c : Nat} {H : Hp} {a b e tg : Expr} {pos : Pos} {mas : MA}
theorem yld_pair {G' : Hp} {H H' : Hp} {T : Addr} {d1 d2 : D} {v1 v2 : V} (r : R0 Y G' mu c H) (hT : H T = none) (eH : H' = upd H T (.tup [v1, v2])) (q1 : Rep Y G' d1 v1) (q2 : Rep Y G' d2 v2) :
    ∃ G'', Same G' G'' ∧ Frm Y G' mu H G'' mu H' ∧ R0 Y G'' mu c H' ∧ Rep Y G'' (.tup [d1, d2]) (.ref T) := by
  subst eH
  obtain ⟨n1, n2, n3⟩ := r.new hT (.tup [v1, v2])
  exact ⟨_, n2, .new hT, n1, .tup (.inl (.inl upd_same)) (.cons (q1.mono n2) (.cons (q2.mono n2) .nil))⟩
def enumD (ds : List D) : List D := (List.range ds.length).map fun i => .tup [.int (i : Nat), ds.getD i .non]
theorem enumD_get {ds : List D} {i : Nat} {d : D} (h : ds[i]? = some d) : (enumD ds)[i]? = some (.tup [.int (i : Nat), d]) := by
  have hi : i < ds.length := (List.getElem?_eq_some_iff.mp h).1
  unfold enumD
  rw [List.getElem?_map, List.getElem?_range hi]
  simp [h]
theorem enumD_len (ds : List D) : (enumD ds).length = ds.length := by simp [enumD]
theorem wk_enum {a : Addr} {vs : List V} {ds : List D} (h : G a = some (.lst vs)) (q : Reps Y G ds vs) : Wk Y G (Ite X.K a) (enumD ds) where
  go := fun i H hi s => by
    rw [enumD_len] at hi
    obtain ⟨v, e, _⟩ := q.get (List.getElem?_eq_getElem hi)
    exact ⟨vs, v, SqL.of (s _ _ h), e⟩
  stop := fun H s => ⟨vs, SqL.of (s _ _ h), by rw [enumD_len, q.length]; exact Nat.le_refl _⟩
  yld := fun i H x H' G' mu c hi s r ⟨T, y, e1, e2, e3, e4⟩ => by
    rw [enumD_len] at hi
    subst e1
    obtain ⟨v, e, qv⟩ := q.get (List.getElem?_eq_getElem hi)
    have e5 := e4 vs (SqL.of (r.sub _ _ (s _ _ h)))
    rw [e] at e5
    cases e5
    obtain ⟨G'', g1, f1, r1, q1⟩ := yld_pair r e2 e3 (.int (i : Nat)) (qv.mono s)
    exact ⟨_, G'', enumD_get (List.getElem?_eq_getElem hi), g1, f1, r1, q1⟩
def mEnum (n : MA) : MA := fun st P PX => n st (fun ds s1 => ∃ xs, ds = [.lst xs] ∧ P (enumD xs) s1) PX
theorem di_enum {p tpos : Pos} {elts : List Expr} {kk : Nat} (hg : Gl X "enumerate") (hm : X.mg "enumerate" = none) (ha : DA X Y W [a] mas) (hs : starEach [a] X.env = [(false, eval a X.env)] := by rfl) : DI X Y W (.Tuple elts kk tpos) (.Call (.Name "enumerate" p) [a] [] pos) (mEnum mas) :=
  piImp (pi_enum hg hm ha hs) fun σ H Rr ⟨G, st, P, PX, rr, hm, xp, k⟩ => ⟨G, st, _, PX, rr, hm, xp, fun ds s1 vs G1 H1 ⟨xs, e1, h1⟩ g1 f1 r1 q1 => by
    subst e1
    obtain ⟨v, rfl, qv⟩ := q1.one
    obtain ⟨a1, xs1, rfl, h2, q2⟩ := qv.lstI
    exact ⟨a1, xs1, rfl, SqL.of (r1.h.sub _ _ h2), k _ s1 G1 H1 _ h1 g1 f1 r1 (wk_enum h2 q2)⟩⟩
def zipD (xs ys : List D) : List D := (List.range (min xs.length ys.length)).map fun i => .tup [xs.getD i .non, ys.getD i .non]
theorem zipD_len (xs ys : List D) : (zipD xs ys).length = min xs.length ys.length := by simp [zipD]
theorem zipD_get {xs ys : List D} {i : Nat} {d e : D} (h : xs[i]? = some d) (g : ys[i]? = some e) : (zipD xs ys)[i]? = some (.tup [d, e]) := by
  have hi : i < xs.length := (List.getElem?_eq_some_iff.mp h).1
  have hj : i < ys.length := (List.getElem?_eq_some_iff.mp g).1
  unfold zipD
  rw [List.getElem?_map, List.getElem?_range (by omega)]
  simp [h, g]
theorem wk_zip {a b : Addr} {vs us : List V} {xs ys : List D} (h : G a = some (.lst vs)) (g : G b = some (.lst us)) (q : Reps Y G xs vs) (p : Reps Y G ys us) : Wk Y G (Itz X.K a b) (zipD xs ys) where
  go := fun i H hi s => by
    rw [zipD_len] at hi
    obtain ⟨v, e, _⟩ := q.get (List.getElem?_eq_getElem (show i < xs.length by omega))
    obtain ⟨u, e2, _⟩ := p.get (List.getElem?_eq_getElem (show i < ys.length by omega))
    exact ⟨vs, us, v, u, SqL.of (s _ _ h), SqL.of (s _ _ g), e, e2⟩
  stop := fun H s => ⟨vs, us, SqL.of (s _ _ h), SqL.of (s _ _ g), by rw [zipD_len, q.length, p.length]; omega⟩
  yld := fun i H x H' G' mu c hi s r ⟨T, y, z, e1, e2, e3, e4, e5⟩ => by
    rw [zipD_len] at hi
    subst e1
    obtain ⟨v, e, qv⟩ := q.get (List.getElem?_eq_getElem (show i < xs.length by omega))
    obtain ⟨u, e', qu⟩ := p.get (List.getElem?_eq_getElem (show i < ys.length by omega))
    have e6 := e4 vs (SqL.of (r.sub _ _ (s _ _ h)))
    have e7 := e5 us (SqL.of (r.sub _ _ (s _ _ g)))
    rw [e] at e6
    rw [e'] at e7
    cases e6
    cases e7
    obtain ⟨G'', g1, f1, r1, q1⟩ := yld_pair r e2 e3 (qv.mono s) (qu.mono s)
    exact ⟨_, G'', zipD_get (List.getElem?_eq_getElem (by omega)) (List.getElem?_eq_getElem (by omega)), g1, f1, r1, q1⟩
theorem wk_zipT {a b : Addr} {vs us : List V} {xs ys : List D} (hK : Y.K = X.K) (h : SqT Y.K G a vs) (g : SqT Y.K G b us) (q : Reps Y G xs vs) (p : Reps Y G ys us) : Wk Y G (ItzT X.K a b) (zipD xs ys) where
  go := fun i H hi s => by
    rw [zipD_len] at hi
    obtain ⟨v, e, _⟩ := q.get (List.getElem?_eq_getElem (show i < xs.length by omega))
    obtain ⟨u, e2, _⟩ := p.get (List.getElem?_eq_getElem (show i < ys.length by omega))
    exact ⟨vs, us, v, u, sqT_mono s (hK ▸ h), sqT_mono s (hK ▸ g), e, e2⟩
  stop := fun H s => ⟨vs, us, sqT_mono s (hK ▸ h), sqT_mono s (hK ▸ g), by rw [zipD_len, q.length, p.length]; omega⟩
  yld := fun i H x H' G' mu c hi s r ⟨T, y, z, e1, e2, e3, e4, e5⟩ => by
    rw [zipD_len] at hi
    subst e1
    obtain ⟨v, e, qv⟩ := q.get (List.getElem?_eq_getElem (show i < xs.length by omega))
    obtain ⟨u, e', qu⟩ := p.get (List.getElem?_eq_getElem (show i < ys.length by omega))
    have e6 := e4 vs (sqT_mono r.sub (sqT_mono s (hK ▸ h)))
    have e7 := e5 us (sqT_mono r.sub (sqT_mono s (hK ▸ g)))
    rw [e] at e6
    rw [e'] at e7
    cases e6
    cases e7
    obtain ⟨G'', g1, f1, r1, q1⟩ := yld_pair r e2 e3 (qv.mono s) (qu.mono s)
    exact ⟨_, G'', zipD_get (List.getElem?_eq_getElem (by omega)) (List.getElem?_eq_getElem (by omega)), g1, f1, r1, q1⟩
def mZip (n : MA) : MA := fun st P PX => n st (fun ds s1 => ∃ xs ys, (ds = [.lst xs, .lst ys] ∨ ds = [.tup xs, .tup ys]) ∧ P (zipD xs ys) s1) PX
theorem di_zip {p tpos : Pos} {elts : List Expr} {kk : Nat} (hY : Y.K = X.K) (hg : Gl X "zip") (hm : X.mg "zip" = none) (ha : DA X Y W [a, b] mas) (hs : starEach [a, b] X.env = (false, eval a X.env) :: starEach [b] X.env := by rfl) (hpl : (backTo pos (starEach [b] X.env)).any (·.1) = false := by rfl) :
    DI X Y W (.Tuple elts kk tpos) (.Call (.Name "zip" p) [a, b] [] pos) (mZip mas) :=
  piImp (pi_zipA hg hm ha hs hpl) fun σ H Rr ⟨G, st, P, PX, rr, hm, xp, k⟩ => ⟨G, st, _, PX, rr, hm, xp, fun ds s1 vs G1 H1 ⟨xs, ys, e1, h1⟩ g1 f1 r1 q1 => by
    rcases e1 with e1 | e1
    · subst e1
      obtain ⟨v, u, rfl, qv, qu⟩ := q1.two
      obtain ⟨a1, xs1, rfl, h2, q2⟩ := qv.lstI
      obtain ⟨b1, ys1, rfl, h3, q3⟩ := qu.lstI
      exact ⟨a1, b1, xs1, ys1, rfl, .inl ⟨SqL.of (r1.h.sub _ _ h2), SqL.of (r1.h.sub _ _ h3), k _ s1 G1 H1 _ h1 g1 f1 r1 (wk_zip h2 h3 q2 q3)⟩⟩
    · subst e1
      obtain ⟨v, u, rfl, qv, qu⟩ := q1.two
      obtain ⟨a1, xs1, rfl, h2, q2⟩ := qv.tupI
      obtain ⟨b1, ys1, rfl, h3, q3⟩ := qu.tupI
      exact ⟨a1, b1, xs1, ys1, rfl, .inr ⟨sqT_mono r1.h.sub (hY ▸ h2), sqT_mono r1.h.sub (hY ▸ h3), k _ s1 G1 H1 _ h1 g1 f1 r1 (wk_zipT hY h2 h3 q2 q3)⟩⟩⟩
/-! ### isinstance of one of two built-in classes -/
def mIsi2 (T1 T2 : String) (m : ME) : ME := fun st P PX => m st (fun d s1 => d.ty.isSome = true ∧ P (.bl (d.isTy T1 || d.isTy T2)) s1) PX
theorem de_isi2 {x y : Str} {p p1 p2 tp : Pos} {kk : Nat} {T1 T2 : String} {me : ME} (hY : Y.K = X.K) (hg : Gl X "isinstance") (hm : X.mg "isinstance" = none) (he : DE X Y W e me) (hg1 : Gl X x) (hm1 : X.mg x = none) (hb1 : bootBuiltins x = some (.type T1)) (hk1 : kits T1 = true) (hg2 : Gl X y) (hm2 : X.mg y = none) (hb2 : bootBuiltins y = some (.type T2)) (hk2 : kits T2 = true)
    (n1 : x ≠ "__name__" := by decide) (n2 : y ≠ "__name__" := by decide) (d1 : (x == ("__debug__" : Str)) = false := by decide) (d2 : (y == ("__debug__" : Str)) = false := by decide)
    (h1 : starEach [e, .Tuple [.Name x p1, .Name y p2] kk tp] X.env = (false, eval e X.env) :: starEach [.Tuple [.Name x p1, .Name y p2] kk tp] X.env := by rfl) (h2 : starEach [.Tuple [.Name x p1, .Name y p2] kk tp] X.env = (false, eval (.Tuple [.Name x p1, .Name y p2] kk tp) X.env) :: starEach [] X.env := by rfl)
    (h3 : starEach [.Name x p1, .Name y p2] X.env = (false, eval (.Name x p1) X.env) :: starEach [.Name y p2] X.env := by rfl) (h4 : starEach [.Name y p2] X.env = (false, eval (.Name y p2) X.env) :: starEach [] X.env := by rfl)
    (hpl : (backTo pos (starEach [.Tuple [.Name x p1, .Name y p2] kk tp] X.env)).any (·.1) = false := by rfl) : DE X Y W (.Call (.Name "isinstance" p) [e, .Tuple [.Name x p1, .Name y p2] kk tp] [] pos) (mIsi2 T1 T2 me) :=
  peImp (pe_callB call_isiT hg hm bb_isi (pa_cons he (pa_cons (pe_tup (pa_cons (pe_bltn (v := .ty T1) hg1 hm1 hb1 rfl n1 d1) (pa_cons (pe_bltn (v := .ty T2) hg2 hm2 hb2 rfl n2 d2) pa_nil h4) h3)) pa_nil h2) h1) (by decide) (by decide) h1 hpl) fun σ H Q ⟨G, st, P, PX, rr, hm, xp, k⟩ =>
    ⟨G, st, _, PX, rr, hm, xp, fun d s1 v G1 H1 ⟨hty, hp⟩ g f r q => ⟨shortL 2 rfl, fun T hT => by
      cases et : d.ty with
      | none => rw [et] at hty; cases hty
      | some t =>
        have r' : R Y G1 s1 σ (upd H1 T (.tup [.ty T1, .ty T2])) := ⟨r.h.add hT _, r.s⟩
        refine ⟨v, T, [.ty T1, .ty T2], .type t, [.type T1, .type T2], d.isTy T1 || d.isTy T2, rfl, upd_same, .cons (.ty T1) (.cons (.ty T2) .nil), hY ▸ q.tyx et r'.h.sub, ?_, k _ s1 _ G1 _ hp g (f.trans (.add hT)) r' (.bl _)⟩
        refine kitAny_cons (kit_ty (kits_ok hk1 et)) (fun e1 => kitAny_cons (kit_ty (kits_ok hk2 et)) (fun e2 => ?_) (fun e2 => ?_)) (fun e1 => ?_)
        · rw [e1, e2]; exact kitAny_nil
        · rw [e1, e2]; rfl
        · rw [e1]; rfl⟩⟩
end
end DL
namespace DL
open PySem L2
/-! ### instances -/
theorem RM.plain {Y : Yc} {G : Hp} {m : MO} {o : HO} (h : RM Y G m o) : plainO o := by
  cases h with
  | lst _ => exact plain_lst
  | dct _ => exact plain_dK
  | ins _ _ => exact plain_ins
  | xd _ => exact plain_xd
theorem RepF.look {Y : Yc} {G : Hp} {fs : List (Str × D)} {vs : List (Str × V)} (h : RepF Y G fs vs) (f : Str) : (∀ d, fs.lookup f = some d → ∃ v, vs.lookup f = some v ∧ Rep Y G d v) ∧ (fs.lookup f = none → vs.lookup f = none) := by
  induction h with
  | nil => exact ⟨fun d e => (by cases e), fun _ => rfl⟩
  | cons k q _ ih =>
    by_cases hk : f = k
    · subst hk
      refine ⟨fun d e => ?_, fun e => ?_⟩
      · simp only [List.lookup, beq_self_eq_true] at e ⊢
        cases e
        exact ⟨_, rfl, q⟩
      · simp [List.lookup] at e
    · have hb : (f == k) = false := by simpa using hk
      simp only [List.lookup, hb]
      exact ih
theorem RepF.length {Y : Yc} {G : Hp} {fs : List (Str × D)} {vs : List (Str × V)} (h : RepF Y G fs vs) : fs.length = vs.length := by
  induction h with
  | nil => rfl
  | cons _ _ _ ih => rw [List.length_cons, List.length_cons, ih]
section
variable {X : Cx} {Y : Yc} {W : WX} {G : Hp} {mu : Mu} {c : Nat} {H : Hp} {o value : Expr} {mo mv : ME} {pos pos' : Pos} {cn f : Str} {C : Addr}
/-- an object that may change is changed -/
theorem R0.set {a : Addr} {m m' : MO} {o' : HO} (h : R0 Y G mu c H) (hm : mu a = some m) (q : RM Y G m' o') : R0 Y G (muSet mu a (some m')) c (upd H a o') := by
  obtain ⟨hG, o, ho, rm⟩ := h.mus a m hm
  have hpl : ∀ o1, H a = some o1 → plainO o1 := fun o1 e => by rw [ho] at e; cases e; exact rm.plain
  obtain ⟨n1, n2⟩ := h.ext.off hpl
  have ext' := h.ext.turn (H' := upd H a o') hpl fun b x hb e => by rw [upd_ne hb]; exact e
  refine ⟨fun b x e => ?_, fun b mb e => ?_, ?_, ⟨ext'.tab, fun p hp => ⟨(ext'.tabO p hp).1, by rw [muSet_ne (n1 p hp)]; exact (ext'.tabO p hp).2⟩, fun p hp => ⟨(ext'.raw p hp).1, (ext'.raw p hp).2.1, by rw [muSet_ne (n2 p hp)]; exact (ext'.raw p hp).2.2⟩, ext'.pl, ext'.lo⟩⟩
  · have hb : b ≠ a := fun z => by rw [z, hG] at e; cases e
    rw [upd_ne hb]
    exact h.sub b x e
  · by_cases hb : b = a
    · subst hb
      rw [muSet_same] at e
      cases e
      exact ⟨hG, o', upd_same, q⟩
    · rw [muSet_ne hb] at e
      obtain ⟨g1, x, g2, g3⟩ := h.mus b mb e
      exact ⟨g1, x, by rw [upd_ne hb]; exact g2, g3⟩
  · obtain ⟨x, h1, h2, h3, h4⟩ := h.pen
    have hp : Y.p ≠ a := fun z => by rw [z, hm] at h4; cases h4
    exact ⟨x, by rw [upd_ne hp]; exact h1, h2, h3, by rw [muSet_ne hp]; exact h4⟩
theorem Frm.set {a : Addr} {m m' : MO} {o' : HO} (hm : mu a = some m) : Frm Y G mu H G (muSet mu a (some m')) (upd H a o') := fun b x h1 h2 h3 _ => by
  have hb : b ≠ a := fun z => by rw [z, hm] at h3; cases h3
  exact ⟨by rw [upd_ne hb]; exact h1, h2, by rw [muSet_ne hb]; exact h3⟩
/-- o.f -/
def mFld (cn f : Str) (m : ME) : ME := fun st P PX => m st (fun d s1 => ∃ a fs v, d = .ref a ∧ s1.mu a = some (.ins cn fs) ∧ fs.lookup f = some v ∧ P v s1) PX
theorem de_fld (hY : Y.mg = X.mg) (gC : X.mg cn = some (.ref C)) (cl : Cls X.K C) (na : NoAttr X.K C f) (ho : DE X Y W o mo) (hb : attributeBase o f X.env (eval o X.env) = eval o X.env := by rfl) : DE X Y W (.Attribute o f pos) (mFld cn f mo) :=
  peImp (pe_fld ho hb) fun σ H Q ⟨G, st, P, PX, rr, hm, xp, k⟩ => ⟨G, st, _, PX, rr, hm, xp, fun d s1 v G1 H1 ⟨a, fs, w, ed, hmu, hl, hp⟩ g1 f1 r1 q1 => by
    subst ed
    cases q1
    obtain ⟨_, ob, hob, rm⟩ := r1.h.mus a _ hmu
    cases rm with
    | @ins _ C' dx _ vs e q =>
      have eC : C' = C := by rw [hY, gC] at e; cases e; rfl
      subst eC
      obtain ⟨u, hu, qu⟩ := (q.look f).1 w hl
      exact ⟨a, C', dx, vs, u, rfl, hob, cl, na, hu, k w s1 u G1 H1 hp g1 f1 r1 qu⟩⟩
/-- o.f = value (the value first) -/
def putFD (f : Str) (v : D) : List (Str × D) → List (Str × D)
  | [] => [(f, v)]
  | (g, x) :: r => if g = f then (g, v) :: r else (g, x) :: putFD f v r
theorem RepF.put {fs : List (Str × D)} {vs : List (Str × V)} (h : RepF Y G fs vs) (f : Str) {d : D} {v : V} (q : Rep Y G d v) : RepF Y G (putFD f d fs) (putF f v vs) := by
  induction h with
  | nil => exact .cons f q .nil
  | @cons k d0 v0 ds vs q0 r ih =>
    unfold putFD putF
    by_cases hk : k = f
    · rw [if_pos hk, if_pos hk]
      exact .cons k q r
    · rw [if_neg hk, if_neg hk]
      exact .cons k q0 ih
def mPutF (cn f : Str) (mo mv : ME) : MS := fun st E PX => mv st (fun d s1 => mo s1 (fun e s2 => ∃ a fs, e = .ref a ∧ s2.mu a = some (.ins cn fs) ∧ fs.length < 1000 ∧ E.nx { s2 with mu := muSet s2.mu a (some (.ins cn (putFD f d fs))) }) PX) PX
theorem ds_fld (hY : Y.mg = X.mg) (gC : X.mg cn = some (.ref C)) (cl : Cls X.K C) (na : NoAttr X.K C f) (ho : DE X Y W o mo) (hv : DE X Y W value mv) (hs : swapsWith value (some (.Attribute o f pos')) pos.line X.env = pure false := by rfl) : DS X Y W (.Assign [.Attribute o f pos'] value pos) (mPutF cn f mo mv) :=
  psImp (ps_fld ho hv hs) fun D σ H ⟨G, st, E, PX, rr, hm, xp, k⟩ => ⟨G, st, _, PX, rr, hm, xp, fun d s1 v G1 H1 h1 g1 f1 r1 q1 => ⟨G1, s1, _, PX, r1, h1, xp.on g1 f1, fun e s2 u G2 H2 ⟨a, fs, ee, hmu, hl, hn⟩ g2 f2 r2 q2 => by
    subst ee
    cases q2
    obtain ⟨_, ob, hob, rm⟩ := r2.h.mus a _ hmu
    cases rm with
    | @ins _ C' dx _ vs e q =>
      have eC : C' = C := by rw [hY, gC] at e; cases e; rfl
      subst eC
      refine ⟨a, C', dx, vs, rfl, hob, cl, na, by rw [← q.length]; exact hl, ?_⟩
      exact k.nx _ _ G2 _ hn (g1.trans g2) ((f1.trans f2).trans (.set hmu)) ⟨r2.h.set hmu (.ins e (q.put f (q1.mono g2))), r2.s⟩⟩⟩
end
end DL
namespace DL
open PySem L2
/-! ### methods, instances -/
/-- the def at f keeps the promise sp -/
structure FnF (P : Program) (w : World) (K : PySem.W.Frag) (mg : Str → Option Value) (T : List (Addr × Str)) (base : Heap) (k : Nat) (f : Addr) (ps : List Str) (sp : DSp) : Prop where
  ex : ∃ fd : FuncData, Binds K fd ps [] ∧ ∀ (q : Qp), FnOk P w K mg base (L2.CX P w) k f fd ps (SpOf (Yp K mg T q) sp)
theorem FnF.mono {P : Program} {w : World} {K : PySem.W.Frag} {mg : Str → Option Value} {T : List (Addr × Str)} {base : Heap} {j k : Nat} {f : Addr} {ps : List Str} {sp : DSp} (F : FnF P w K mg T base j f ps sp) (h : j ≤ k) : FnF P w K mg T base k f ps sp :=
  let ⟨fd, h3, h4⟩ := F.ex
  ⟨fd, h3, fun q => (h4 q).mono h⟩
section
variable {P : Program} {w : World} {K : PySem.W.Frag} {mg : Str → Option Value} {T : List (Addr × Str)} {base : Heap}
/-- THE RULE for a method over data -/
theorem fnF {x qual : Str} {st : Stmt} {f : Addr} {fd : FuncData} {N ps : List Str} {k : Nat} {sp : DSp} (F : Fun K x qual st f fd) (b : Binds K fd ps []) (Sc : FnScope N ps (defScope st))
    (len : ∀ ds mu c P PX, sp ds mu c P PX → ds.length = ps.length)
    (hbody : ∀ (X : Cx) (q : Qp) (W : WX), (∃ cdv A outer s H E, X = cxOf (L2.CX P w) P w K mg base N qual (defScope st) f cdv A outer s H E) → Takes X W → Room k X.A → PassesOwn (model X.prog X.w) X.A X.env X.xe →
      ∃ m, DSs X (Yp K mg T q) W (defBody st) m ∧ ∀ ds mu c P PX, sp ds mu c P PX → m (S0 N ps ds mu c) (EF P) (XF PX)) :
    FnF P w K mg T base (k + 1) f ps sp := by
  refine ⟨fd, b, fun q => ?_⟩
  refine F.okX Sc (fun vs H Q E ⟨G, mu, c, ds, P, PX, r0, qv, h, _⟩ => ?_) fun cdv A outer s H vs Q E hr ⟨G, mu, c, ds, P, PX, r0, qv, h, kq, kx⟩ => ?_
  · rw [← qv.length]
    exact len _ _ _ _ _ h
  · obtain ⟨m, hm, hs⟩ := hbody (cxOf (L2.CX _ w) _ w K mg base N qual (defScope st) f cdv A outer s H E) q (fun cls d _ H => E cls d H) ⟨cdv, A, outer, s, H, E, rfl⟩ (takes_of rfl rfl rfl rfl) hr (passes_of rfl)
    have e1 : N.length - vs.length = N.length - ps.length := by rw [← qv.length, len _ _ _ _ _ h]
    refine ⟨_, hm, G, _, _, _, ⟨r0, ?_⟩, hs ds mu c _ _ h, ?_, ?_⟩
    · show Sl (Yp K mg T q) G _ (L2.start N vs)
      unfold L2.start
      rw [e1]
      exact Sl.start qv _
    · exact fun ex st' cls d σ' G' H' ⟨c', l, h1⟩ h2 h3 h4 h5 => kx ex _ _ cls d G' H' h1 h2 h3 (h4.h.more l) h5
    · exact ⟨fun st' σ' G' H' ⟨c', l, h1⟩ h2 h3 h4 => kq _ _ _ _ G' H' h1 h2 h3 (h4.h.more l) .non, fun d st' v σ' G' H' ⟨c', l, h1⟩ h2 h3 h4 h5 => kq _ _ _ _ G' H' h1 h2 h3 (h4.h.more l) h5, fun _ _ _ _ h => h.elim, fun _ _ _ _ h => h.elim⟩
theorem FnF.none {x qual : Str} {st : Stmt} {f : Addr} {fd : FuncData} {N ps : List Str} {k : Nat} {sp : DSp} (F : Fun K x qual st f fd) (b : Binds K fd ps []) (Sc : FnScope N ps (defScope st)) (h0 : ∀ ds mu c P PX, ¬ sp ds mu c P PX) : FnF P w K mg T base (k + 1) f ps sp :=
  fnF F b Sc (fun ds mu c P PX h => (h0 ds mu c P PX h).elim) fun X q W _ _ _ _ => ⟨_, dss_never, fun ds mu c P PX h => (h0 ds mu c P PX h).elim⟩
end
section
variable {X : Cx} {CX : CXT} {k : Nat} {f C : Addr} {fd : FuncData} {ps : List Str} {sp : Sp} {E : St → XK} {x m : Str} {p pos apos : Pos} {e o : Expr} {es : List Expr} {ta : TE} {t : TA}
def tMethD (C : Addr) (m : Str) (sp : Sp) (E : St → XK) (ta : TE) (t : TA) : TE := fun σ H Q => ta σ H fun x H1 => ∃ a dx fs, x = .ref a ∧ H1 a = some (.ins C dx fs) ∧ fs.lookup m = none ∧
  t σ H1 fun vs H2 => sp (x :: (vs ++ [])) H2 Q (E σ)
theorem pe_methD {pl : Sem Bool} (he : PE X o ta) (c : Cls X.K C) (hm : Meth X.K C m f) (F : FnOk X.prog X.w X.K X.mg X.base CX k f fd ps sp) (hr : Room k X.A) (hb : Binds X.K fd ps []) (hx : ∀ σ, PassesAt CX X σ (E σ)) (ha : PA X (e :: es) t)
    (hst : starEach (e :: es) X.env = (false, eval e X.env) :: starEach es X.env := by rfl) (hpl : (backTo pos (starEach es X.env)).any (·.1) = false := by rfl)
    (ht : eval (.Call (.Attribute o m apos) (e :: es) [] pos) X.env = (do
      let ov ← eval o X.env
      standAt apos.atName
      let (f, first) ← holding [ov] (getMethod ov m pl)
      callWith pos f first (backTo pos (starEach (e :: es) X.env)) (backToKw pos (keywordEach [] X.env))) := by rfl) :
    PE X (.Call (.Attribute o m apos) (e :: es) [] pos) (tMethD C m sp E ta t) := by
  refine ⟨fun pins s σ H Q I h => ?_⟩
  refine PySem.W.methodCall_KW (pl := pl) (thn (he.run pins s σ H _ I h) fun u s1 ⟨x, H1, I1, rx, a, dx, fs, ex, ea, l, q⟩ => ?_) ht
  subst ex
  obtain rfl : u = Value.ref a := rx
  refine getmeth_ok I1 ea c hm l ?_
  refine PySem.W.callWith_K (first := [.ref a]) (h₀ := X.base) I.ok.mod.kin hm.kp (thn (ha.run pos pins s1 σ H1 _ I1 q) fun us s2 ⟨vs, H2, I2, r, q2⟩ => ⟨I2.kIn, ?_⟩) hst hpl
  exact run_fnSD (us := .ref a :: us) (vs := .ref a :: vs) F hr hb .nil (hx σ) I2 (.cons rfl r) q2
theorem pe_methD0 {pl : Sem Bool} (he : PE X o ta) (c : Cls X.K C) (hm : Meth X.K C m f) (F : FnOk X.prog X.w X.K X.mg X.base CX k f fd ps sp) (hr : Room k X.A) (hb : Binds X.K fd ps []) (hx : ∀ σ, PassesAt CX X σ (E σ))
    (ht : eval (.Call (.Attribute o m apos) [] [] pos) X.env = (do
      let ov ← eval o X.env
      standAt apos.atName
      let (f, first) ← holding [ov] (getMethod ov m pl)
      callWith pos f first (backTo pos (starEach [] X.env)) (backToKw pos (keywordEach [] X.env))) := by rfl) :
    PE X (.Call (.Attribute o m apos) [] [] pos) (tMethD C m sp E ta tNil) := by
  refine ⟨fun pins s σ H Q I h => ?_⟩
  refine PySem.W.methodCall_KW (pl := pl) (thn (he.run pins s σ H _ I h) fun u s1 ⟨x, H1, I1, rx, a, dx, fs, ex, ea, l, q⟩ => ?_) ht
  subst ex
  obtain rfl : u = Value.ref a := rx
  refine getmeth_ok I1 ea c hm l ?_
  exact PySem.W.callWith_K0 (first := [.ref a]) I1.kIn hm.kp (run_fnSD (us := [.ref a]) (vs := [.ref a]) F hr hb .nil (hx σ) I1 (.cons rfl .nil) q)
def tMakeSD (C : Addr) (sp : Sp) (E : St → XK) (t : TA) : TE := fun σ H Q => t σ H fun vs H1 => ∀ x dx, H1 x = none → H1 dx = none → dx ≠ x →
  sp (.ref x :: (vs ++ [])) (upd (upd H1 dx (.own x)) x (.ins C dx [])) (fun v H2 => v = .non ∧ Q (.ref x) H2) (E σ)
theorem run_makeSD {pins : List (Addr × Obj)} {σ : St} {H : Hp} {s : Shared} {Q : VK} {us : List Value} {vs dvs : List V} {ds : List Value} (M : Mk X.K C f) (F : FnOk X.prog X.w X.K X.mg X.base CX k f fd ps sp) (hr : Room (k + 1) X.A) (hb : Binds X.K fd ps ds) (hd : Vals dvs ds)
    (hx : PassesAt CX X σ (E σ)) (I : Inv X pins σ H s) (r : Vals vs us)
    (h : ∀ x dx, H x = none → H dx = none → dx ≠ x → sp (.ref x :: (vs ++ dvs)) (upd (upd H dx (.own x)) x (.ins C dx [])) (fun v H2 => v = .non ∧ Q (.ref x) H2) (E σ)) :
    wpAny (model X.prog X.w) X.A (call (.ref C) us) (EP X pins σ Q) X.xe s := by
  have hq := h (s.heap.objs.size + 1) s.heap.objs.size (I.hok.fresh (Nat.le_succ _)) (I.hok.fresh (Nat.le_refl _)) (Nat.ne_of_lt (Nat.lt_succ_self _))
  have I2 := Inv.made (C := C) I
  have r2 : Vals (V.ref (s.heap.objs.size + 1) :: (vs ++ dvs)) (Value.ref (s.heap.objs.size + 1) :: (us ++ ds)) := .cons rfl (r.append hd)
  have hl : (Value.ref (s.heap.objs.size + 1) :: us ++ ds).length = ps.length := by
    have e := r2.length
    rw [F.len _ _ _ _ hq] at e
    exact e.symm
  refine wpAny_call (make_map (f := f) I.kIn M.makes M.init (beq_iff_eq.mp M.fn) (codeAny_mono (F.run _ X.stack _ _ ⟨Value.ref (s.heap.objs.size + 1) :: us, []⟩ (Value.ref (s.heap.objs.size + 1) :: (us ++ ds)) _ _ (E σ) (hr.make C us [])
    (I2.env0.make C us []) (hb _ (Value.ref (s.heap.objs.size + 1) :: us) I2.kIn hl) r2 hq) fun r s' hq' => ?_))
  cases r with
  | error e => exact hx pins _ _ e s' I2 hq'
  | ok fl =>
    cases fl with
    | ret u =>
      obtain ⟨v, H', I3, rv, ev, q3⟩ := I2.after hq'
      subst ev
      exact ⟨rv, ⟨V.ref (s.heap.objs.size + 1), H', I3, rfl, q3⟩⟩
    | next => exact False.elim hq'
    | brk => exact False.elim hq'
    | cont => exact False.elim hq'
theorem pe_makeSD (M : Mk X.K C f) (F : FnOk X.prog X.w X.K X.mg X.base CX k f fd ps sp) (hr : Room (k + 1) X.A) (hg : Gl X x) (hm : X.mg x = some (.ref C)) (hb : Binds X.K fd ps []) (hx : ∀ σ, PassesAt CX X σ (E σ))
    (ha : PA X (e :: es) t) (hdb : (x == ("__debug__" : Str)) = false := by decide) (he : starEach (e :: es) X.env = (false, eval e X.env) :: starEach es X.env := by rfl) (hpl : (backTo pos (starEach es X.env)).any (·.1) = false := by rfl) :
    PE X (.Call (.Name x p) (e :: es) [] pos) (tMakeSD C sp E t) := by
  refine ⟨fun pins s σ H Q I h => ?_⟩
  refine wpAny_Call_Name_kw (ld_glob I hg hm ?_ hdb)
  refine PySem.W.callWith_K (h₀ := X.base) I.ok.mod.kin M.kp (thn (ha.run pos pins s σ H _ I h) fun us s1 ⟨vs, H1, I1, r, q⟩ => ⟨I1.kIn, ?_⟩) he hpl
  exact run_makeSD (dvs := []) (ds := []) M F hr hb .nil (hx σ) I1 r q
end
section
variable {Y : Yc} {G : Hp} {mu : Mu} {c : Nat} {H : Hp}
/-- a fresh object is told as one that may change -/
theorem R0.told (h : R0 Y G mu c H) {a : Addr} {m : MO} {o : HO} (ha : H a = some o) (q : RM Y G m o) (hG : G a = none) (hp : a ≠ Y.p) : R0 Y G (muSet mu a (some m)) c H := by
  obtain ⟨n1, n2⟩ := h.ext.off (q := a) (fun o1 z => by rw [ha] at z; cases z; exact q.plain)
  refine ⟨h.sub, fun x mx e => ?_, ?_, ⟨h.ext.tab, fun p hp => ⟨(h.ext.tabO p hp).1, by rw [muSet_ne (n1 p hp)]; exact (h.ext.tabO p hp).2⟩, fun p hp => ⟨(h.ext.raw p hp).1, (h.ext.raw p hp).2.1, by rw [muSet_ne (n2 p hp)]; exact (h.ext.raw p hp).2.2⟩, h.ext.pl, h.ext.lo⟩⟩
  · by_cases hx : x = a
    · subst hx
      rw [muSet_same] at e
      cases e
      exact ⟨hG, _, ha, q⟩
    · rw [muSet_ne hx] at e
      exact h.mus x mx e
  · obtain ⟨o1, h1, h2, h3, h4⟩ := h.pen
    exact ⟨o1, h1, h2, h3, by rw [muSet_ne (Ne.symm hp)]; exact h4⟩
theorem R0.made (h : R0 Y G mu c H) {x dx C : Addr} {cn : Str} (hx : H x = none) (hd : H dx = none) (n : dx ≠ x) (e : Y.mg cn = some (.ref C)) :
    mu x = none ∧ R0 Y G (muSet mu x (some (.ins cn []))) c (upd (upd H dx (.own x)) x (.ins C dx [])) ∧ Frm Y G mu H G (muSet mu x (some (.ins cn []))) (upd (upd H dx (.own x)) x (.ins C dx [])) := by
  obtain ⟨f1, f2, f3⟩ := h.fresh hx
  have h1 := h.add hd (.own x)
  have hx1 : upd H dx (.own x) x = none := by rw [upd_ne (Ne.symm n)]; exact hx
  have h2 := h1.add hx1 (.ins C dx [])
  refine ⟨f2, h2.told upd_same (.ins e .nil) f1 f3, fun b o e1 e2 e3 _ => ?_⟩
  have nx : b ≠ x := ne_of_none e1 hx
  have nd : b ≠ dx := ne_of_none e1 hd
  exact ⟨by rw [upd_ne nx, upd_ne nd]; exact e1, e2, by rw [muSet_ne nx]; exact e3⟩
end
section
variable {X : Cx} {W : WX} {q : Qp} {T : List (Addr × Str)} {o e : Expr} {es : List Expr} {mo : ME} {mas : MA} {pos p apos : Pos} {cn m x : Str} {C f : Addr} {k : Nat} {ps : List Str} {sp : DSp}
/-- o.m(..), o an instance of cn -/
def mMeth (cn m : Str) (sp : DSp) (mo : ME) (n : MA) : ME := fun st P PX => mo st (fun d s1 => ∃ a fs, d = .ref a ∧ s1.mu a = some (.ins cn fs) ∧ fs.lookup m = none ∧
  n s1 (fun ds s2 => sp (.ref a :: ds) s2.mu s2.c (fun d mu' c' => P d { s2 with mu := mu', c := c' }) (fun x mu' c' => PX x { s2 with mu := mu', c := c' })) PX) PX
def mMeth0 (cn m : Str) (sp : DSp) (mo : ME) : ME := fun st P PX => mo st (fun d s1 => ∃ a fs, d = .ref a ∧ s1.mu a = some (.ins cn fs) ∧ fs.lookup m = none ∧
  sp [.ref a] s1.mu s1.c (fun d mu' c' => P d { s1 with mu := mu', c := c' }) (fun x mu' c' => PX x { s1 with mu := mu', c := c' })) PX
theorem de_meth {pl : Sem Bool} (gC : X.mg cn = some (.ref C)) (cl : Cls X.K C) (hm : Meth X.K C m f) (F : FnF X.prog X.w X.K X.mg T X.base k f ps sp) (tk : Takes X W) (hr : Room k X.A) (ho : DE X (Yp X.K X.mg T q) W o mo) (ha : DA X (Yp X.K X.mg T q) W (e :: es) mas)
    (hst : starEach (e :: es) X.env = (false, eval e X.env) :: starEach es X.env := by rfl) (hpl : (backTo pos (starEach es X.env)).any (·.1) = false := by rfl)
    (ht : eval (.Call (.Attribute o m apos) (e :: es) [] pos) X.env = (do
      let ov ← eval o X.env
      standAt apos.atName
      let (f, first) ← holding [ov] (getMethod ov m pl)
      callWith pos f first (backTo pos (starEach (e :: es) X.env)) (backToKw pos (keywordEach [] X.env))) := by rfl) : DE X (Yp X.K X.mg T q) W (.Call (.Attribute o m apos) (e :: es) [] pos) (mMeth cn m sp mo mas) := by
  obtain ⟨fd, h3, h4⟩ := F.ex
  refine peImp (pe_methD (E := WE W) (pl := pl) ho cl hm (h4 q) hr h3 (fun σ => passAt tk σ) ha hst hpl ht) fun σ H Q ⟨G, st, P, PX, rr, hm, xp, k⟩ => ?_
  refine ⟨G, st, _, PX, rr, hm, xp, fun d s1 v G1 H1 ⟨a, fs, ed, hmu, hl, hn⟩ g1 f1 r1 q1 => ?_⟩
  subst ed
  cases q1
  obtain ⟨_, ob, hob, rm⟩ := r1.h.mus a _ hmu
  cases rm with
  | @ins _ C' dx _ vs e q =>
    have eC : C' = C := by
      have e' : X.mg cn = some (.ref C') := e
      rw [gC] at e'; cases e'; rfl
    subst eC
    refine ⟨a, dx, vs, rfl, hob, (q.look m).2 hl, ?_⟩
    refine ⟨G1, s1, _, PX, r1, hn, xp.on g1 f1, fun ds s2 vs2 G2 H2 hp2 g2 f2 r2 q2 => ?_⟩
    refine ⟨G2, s2.mu, s2.c, .ref a :: ds, _, _, r2.h, .cons (.ref a) (by rw [List.append_nil]; exact q2), hp2, fun d mu' c' v G' H' hp g f r q => ?_, fun ex mu' c' cls d G' H' hp g f r q => ?_⟩
    · exact k d _ v G' H' hp ((g1.trans g2).trans g) ((f1.trans f2).trans f) ⟨r, r2.s.mono g⟩ q
    · exact xp ex _ cls d σ G' H' hp ((g1.trans g2).trans g) ((f1.trans f2).trans f) ⟨r, r2.s.mono g⟩ q
theorem de_meth0 {pl : Sem Bool} (gC : X.mg cn = some (.ref C)) (cl : Cls X.K C) (hm : Meth X.K C m f) (F : FnF X.prog X.w X.K X.mg T X.base k f ps sp) (tk : Takes X W) (hr : Room k X.A) (ho : DE X (Yp X.K X.mg T q) W o mo)
    (ht : eval (.Call (.Attribute o m apos) [] [] pos) X.env = (do
      let ov ← eval o X.env
      standAt apos.atName
      let (f, first) ← holding [ov] (getMethod ov m pl)
      callWith pos f first (backTo pos (starEach [] X.env)) (backToKw pos (keywordEach [] X.env))) := by rfl) : DE X (Yp X.K X.mg T q) W (.Call (.Attribute o m apos) [] [] pos) (mMeth0 cn m sp mo) := by
  obtain ⟨fd, h3, h4⟩ := F.ex
  refine peImp (pe_methD0 (E := WE W) (pl := pl) ho cl hm (h4 q) hr h3 (fun σ => passAt tk σ) ht) fun σ H Q ⟨G, st, P, PX, rr, hm, xp, k⟩ => ?_
  refine ⟨G, st, _, PX, rr, hm, xp, fun d s1 v G1 H1 ⟨a, fs, ed, hmu, hl, hn⟩ g1 f1 r1 q1 => ?_⟩
  subst ed
  cases q1
  obtain ⟨_, ob, hob, rm⟩ := r1.h.mus a _ hmu
  cases rm with
  | @ins _ C' dx _ vs e q =>
    have eC : C' = C := by
      have e' : X.mg cn = some (.ref C') := e
      rw [gC] at e'; cases e'; rfl
    subst eC
    refine ⟨a, dx, vs, rfl, hob, (q.look m).2 hl, ?_⟩
    show SpOf _ sp [.ref a] H1 Q (WE W σ)
    refine ⟨G1, s1.mu, s1.c, [.ref a], _, _, r1.h, .cons (.ref a) .nil, hn, fun d mu' c' v G' H' hp g f r q => ?_, fun ex mu' c' cls d G' H' hp g f r q => ?_⟩
    · exact k d _ v G' H' hp (g1.trans g) (f1.trans f) ⟨r, r1.s.mono g⟩ q
    · exact xp ex _ cls d σ G' H' hp (g1.trans g) (f1.trans f) ⟨r, r1.s.mono g⟩ q
/-- C(..): a new instance, then its __init__ -/
def mMake (cn : Str) (sp : DSp) (n : MA) : ME := fun st P PX => n st (fun ds s1 => ∀ x, s1.mu x = none → sp (.ref x :: ds) (muSet s1.mu x (some (.ins cn []))) s1.c
  (fun d mu' c' => d = .non ∧ P (.ref x) { s1 with mu := mu', c := c' }) (fun ex mu' c' => PX ex { s1 with mu := mu', c := c' })) PX
theorem de_make (gC : X.mg x = some (.ref C)) (M : Mk X.K C f) (F : FnF X.prog X.w X.K X.mg T X.base k f ps sp) (tk : Takes X W) (hr : Room (k + 1) X.A) (hg : Gl X x) (ha : DA X (Yp X.K X.mg T q) W (e :: es) mas) (hdb : (x == ("__debug__" : Str)) = false := by decide)
    (he : starEach (e :: es) X.env = (false, eval e X.env) :: starEach es X.env := by rfl) (hpl : (backTo pos (starEach es X.env)).any (·.1) = false := by rfl) : DE X (Yp X.K X.mg T q) W (.Call (.Name x p) (e :: es) [] pos) (mMake x sp mas) := by
  obtain ⟨fd, h3, h4⟩ := F.ex
  refine peImp (pe_makeSD (E := WE W) M (h4 q) hr hg gC h3 (fun σ => passAt tk σ) ha hdb he hpl) fun σ H Q ⟨G, st, P, PX, rr, hm, xp, k⟩ => ?_
  refine ⟨G, st, _, PX, rr, hm, xp, fun ds s1 vs G1 H1 hm1 g1 f1 r1 q1 z dz hz hd n => ?_⟩
  obtain ⟨n1, r2, f2⟩ := r1.h.made (cn := x) hz hd n gC
  refine ⟨G1, _, s1.c, .ref z :: ds, _, _, r2, .cons (.ref z) (by rw [List.append_nil]; exact q1), hm1 z n1, fun d mu' c' v G' H' ⟨ed, hp⟩ g f r q => ?_, fun ex mu' c' cls d G' H' hp g f r q => ?_⟩
  · subst ed
    cases q
    exact ⟨rfl, k _ _ _ G' H' hp (g1.trans g) ((f1.trans f2).trans f) ⟨r, r1.s.mono g⟩ (.ref z)⟩
  · exact xp ex _ cls d σ G' H' hp (g1.trans g) ((f1.trans f2).trans f) ⟨r, r1.s.mono g⟩ q
end
end DL
namespace DL
open PySem L2
/-! ### lists that change -/
section
variable {Y : Yc} {G : Hp} {mu : Mu} {c : Nat} {H : Hp}
theorem R0.madeL (h : R0 Y G mu c H) {a : Addr} {ds : List D} {vs : List V} (ha : H a = none) (q : Reps Y G ds vs) :
    mu a = none ∧ R0 Y G (muSet mu a (some (.lst ds))) c (upd H a (.lst vs)) ∧ Frm Y G mu H G (muSet mu a (some (.lst ds))) (upd H a (.lst vs)) := by
  obtain ⟨f1, f2, f3⟩ := h.fresh ha
  refine ⟨f2, (h.add ha (.lst vs)).told upd_same (.lst q) f1 f3, fun b o e1 e2 e3 _ => ?_⟩
  have na : b ≠ a := ne_of_none e1 ha
  exact ⟨by rw [upd_ne na]; exact e1, e2, by rw [muSet_ne na]; exact e3⟩
/-- a list that changed is frozen as it is -/
theorem R0.freeze (h : R0 Y G mu c H) {a : Addr} {ds : List D} (hm : mu a = some (.lst ds)) :
    ∃ vs, H a = some (.lst vs) ∧ Reps Y G ds vs ∧ Same G (upd G a (.lst vs)) ∧ R0 Y (upd G a (.lst vs)) (muSet mu a none) c H ∧ Frm Y G mu H (upd G a (.lst vs)) (muSet mu a none) H := by
  obtain ⟨hG, o, ho, rm⟩ := h.mus a _ hm
  cases rm with
  | @lst _ vs q =>
    have sG : Same G (upd G a (.lst vs)) := same_upd hG
    have hpl : ∀ o1, H a = some o1 → plainO o1 := fun o1 e => by rw [ho] at e; cases e; exact plain_lst
    obtain ⟨n1, n2⟩ := h.ext.off hpl
    have e2 := h.ext.grow hpl (.lst vs) plain_lst hG
    refine ⟨vs, ho, q, sG, ⟨fun b x e => ?_, fun b m e => ?_, ?_, ⟨e2.tab, fun p hp => ⟨(e2.tabO p hp).1, by rw [muSet_ne (n1 p hp)]; exact (e2.tabO p hp).2⟩, fun p hp => ⟨(e2.raw p hp).1, (e2.raw p hp).2.1, by rw [muSet_ne (n2 p hp)]; exact (e2.raw p hp).2.2⟩, e2.pl, e2.lo⟩⟩, fun b x e1 e2 e3 _ => ?_⟩
    · by_cases hb : b = a
      · subst hb; rw [upd_same] at e; cases e; exact ho
      · rw [upd_ne hb] at e; exact h.sub b x e
    · by_cases hb : b = a
      · rw [hb, muSet_same] at e; cases e
      · rw [muSet_ne hb] at e
        obtain ⟨g1, x, g2, g3⟩ := h.mus b m e
        exact ⟨by rw [upd_ne hb]; exact g1, x, g2, g3.mono sG⟩
    · obtain ⟨x, h1, h2, h3, h4⟩ := h.pen
      have hp : Y.p ≠ a := fun z => by rw [z, hm] at h4; cases h4
      exact ⟨x, h1, Y.mono _ _ _ _ sG h2, by rw [upd_ne hp]; exact h3, by rw [muSet_ne hp]; exact h4⟩
    · have hb : b ≠ a := fun z => by rw [z, hm] at e3; cases e3
      exact ⟨e1, by rw [upd_ne hb]; exact e2, by rw [muSet_ne hb]; exact e3⟩
end
section
variable {X : Cx} {Y : Yc} {W : WX} {e o : Expr} {es : List Expr} {me mo : ME} {mas : MA} {pos apos : Pos}
/-- [..], a list that will change -/
def mNewL (n : MA) : ME := fun st P PX => n st (fun ds s1 => ds.length ≤ sizeLine ∧ ∀ a, s1.mu a = none → P (.ref a) { s1 with mu := muSet s1.mu a (some (.lst ds)) }) PX
theorem de_newL (h : DA X Y W es mas) : DE X Y W (.List es pos) (mNewL mas) :=
  peImp (pe_lst h) fun σ H Q ⟨G, st, P, PX, rr, hm, xp, k⟩ => ⟨G, st, _, PX, rr, hm, xp, fun ds s1 vs G1 H1 hm1 g1 f1 r1 q1 =>
    ⟨by rw [← q1.length]; exact hm1.1, fun q hq => by
      obtain ⟨n, r2, f2⟩ := r1.h.madeL hq q1
      exact k _ _ _ G1 _ (hm1.2 q n) g1 (f1.trans f2) ⟨r2, r1.s⟩ (.ref q)⟩⟩
/-- xs.append(e), xs a list that changes -/
def mApp (mo me : ME) : ME := fun st P PX => mo st (fun x s1 => ∃ a ds0, x = .ref a ∧ s1.mu a = some (.lst ds0) ∧ me s1 (fun d s2 => ∃ ds, s2.mu a = some (.lst ds) ∧ ds.length < sizeLine ∧ P .non { s2 with mu := muSet s2.mu a (some (.lst (ds ++ [d]))) }) PX) PX
theorem Reps.snoc {G : Hp} {ds : List D} {vs : List V} (h : Reps Y G ds vs) {d : D} {v : V} (q : Rep Y G d v) : Reps Y G (ds ++ [d]) (vs ++ [v]) := by
  induction ds generalizing vs with
  | nil => cases h; exact .cons q .nil
  | cons d0 ds ih => cases h with | cons h1 h2 => exact .cons h1 (ih h2)
theorem de_app (ho : DE X Y W o mo) (he : DE X Y W e me) (hs : starEach [e] X.env = (false, eval e X.env) :: starEach [] X.env := by rfl) (hbase : attributeBase o "append" X.env (eval o X.env) = eval o X.env := by rfl)
    (hfew : ((backTo pos (starEach [e] X.env)).all (fun x => !x.1) && (backToKw pos (keywordEach [] X.env)).all (fun x => x.1.isSome) && decide ([e].length + ([] : List Keyword).length + (if ([] : List Keyword).isEmpty then 0 else 1) < 30)) = true := by rfl)
    (hline : (apos.endLine == pos.line) = true := by rfl) (hplain : (backTo pos (starEach [] X.env)).any (·.1) = false := by rfl) : DE X Y W (.Call (.Attribute o "append" apos) [e] [] pos) (mApp mo me) := by
  refine peImp (pe_bm PySem.F.plainAttrs_list PySem.F.slot_list_append PySem.F.type_list_append mt_append ho (pa_cons he pa_nil hs) hbase hfew hline hs hplain) fun σ H Q ⟨G, st, P, PX, rr, hm, xp, k⟩ => ?_
  refine ⟨G, st, _, PX, rr, hm, xp, fun x s1 v G1 H1 ⟨a, ds0, ex, hmu, hn⟩ g1 f1 r1 q1 => ?_⟩
  subst ex
  cases q1
  obtain ⟨_, ob, hob, rm⟩ := r1.h.mus a _ hmu
  cases rm with
  | @lst _ vs0 q0 =>
    refine ⟨.inl ⟨rfl, _, SqL.of hob⟩, G1, s1, _, PX, r1, hn, xp.on g1 f1, fun d s2 w G2 H2 ⟨ds, hmu2, hl, hp⟩ g2 f2 r2 q2 => ?_⟩
    obtain ⟨_, ob2, hob2, rm2⟩ := r2.h.mus a _ hmu2
    cases rm2 with
    | @lst _ vs q3 =>
      exact ⟨a, vs, w, rfl, rfl, hob2, by rw [← q3.length]; exact hl, k _ _ _ G2 _ hp (g1.trans g2) ((f1.trans f2).trans (.set hmu2)) ⟨r2.h.set hmu2 (.lst (q3.snoc q2)), r2.s⟩ .non⟩
/-- an expression that gives a list that changes, taken as it is from here on -/
def mFrz (m : ME) : ME := fun st P PX => m st (fun x s1 => ∃ a ds, x = .ref a ∧ s1.mu a = some (.lst ds) ∧ P (.lst ds) { s1 with mu := muSet s1.mu a none }) PX
theorem de_frz (h : DE X Y W e me) : DE X Y W e (mFrz me) :=
  peImp h fun σ H Q ⟨G, st, P, PX, rr, hm, xp, k⟩ => ⟨G, st, _, PX, rr, hm, xp, fun x s1 v G1 H1 ⟨a, ds, ex, hmu, hp⟩ g1 f1 r1 q1 => by
    subst ex
    cases q1
    obtain ⟨vs, ha, q, sG, r2, f2⟩ := r1.h.freeze hmu
    exact k _ _ _ _ H1 hp (g1.trans sG) (f1.trans f2) ⟨r2, r1.s.mono sG⟩ (.lst upd_same (q.mono sG))⟩
/-- xs.pop(), xs a list that changes -/
def mPop (mo : ME) : ME := fun st P PX => mo st (fun x s1 => ∃ a ds d, x = .ref a ∧ s1.mu a = some (.lst ds) ∧ ds[ds.length - 1]? = some d ∧ P d { s1 with mu := muSet s1.mu a (some (.lst ds.dropLast)) }) PX
theorem de_pop (ho : DE X Y W o mo) (hbase : attributeBase o "pop" X.env (eval o X.env) = eval o X.env := by rfl) (hline : (apos.endLine == pos.line) = true := by rfl) : DE X Y W (.Call (.Attribute o "pop" apos) [] [] pos) (mPop mo) := by
  refine peImp (pe_bm0 PySem.F.plainAttrs_list PySem.F.slot_list_pop PySem.F.type_list_pop mt_pop ho hbase hline) fun σ H Q ⟨G, st, P, PX, rr, hm, xp, k⟩ => ?_
  refine ⟨G, st, _, PX, rr, hm, xp, fun x s1 v G1 H1 ⟨a, ds, d, ex, hmu, hd, hp⟩ g1 f1 r1 q1 => ?_⟩
  subst ex
  cases q1
  obtain ⟨_, ob, hob, rm⟩ := r1.h.mus a _ hmu
  cases rm with
  | @lst _ vs q =>
    obtain ⟨u, hu, qu⟩ := q.get hd
    refine ⟨.inl ⟨rfl, _, SqL.of hob⟩, a, vs, u, rfl, rfl, hob, by rw [← q.length]; exact hu, ?_⟩
    have q2 : Reps Y G1 ds.dropLast vs.dropLast := by
      rw [List.dropLast_eq_take, List.dropLast_eq_take, ← q.length]
      exact q.take _
    exact k d _ _ G1 _ hp g1 (f1.trans (.set hmu)) ⟨r1.h.set hmu (.lst q2), r1.s⟩ qu
/-- xs.extend(e), xs a list that changes, e a frozen list -/
def mExt (mo me : ME) : ME := fun st P PX => mo st (fun x s1 => ∃ a ds0, x = .ref a ∧ s1.mu a = some (.lst ds0) ∧ me s1 (fun d s2 => ∃ ds es, d = .lst es ∧ s2.mu a = some (.lst ds) ∧ ds.length + es.length ≤ sizeLine ∧ P .non { s2 with mu := muSet s2.mu a (some (.lst (ds ++ es))) }) PX) PX
theorem de_ext (ho : DE X Y W o mo) (he : DE X Y W e me) (hs : starEach [e] X.env = (false, eval e X.env) :: starEach [] X.env := by rfl) (hbase : attributeBase o "extend" X.env (eval o X.env) = eval o X.env := by rfl)
    (hfew : ((backTo pos (starEach [e] X.env)).all (fun x => !x.1) && (backToKw pos (keywordEach [] X.env)).all (fun x => x.1.isSome) && decide ([e].length + ([] : List Keyword).length + (if ([] : List Keyword).isEmpty then 0 else 1) < 30)) = true := by rfl)
    (hline : (apos.endLine == pos.line) = true := by rfl) (hplain : (backTo pos (starEach [] X.env)).any (·.1) = false := by rfl) : DE X Y W (.Call (.Attribute o "extend" apos) [e] [] pos) (mExt mo me) := by
  refine peImp (pe_bm PySem.F.plainAttrs_list PySem.F.slot_list_extend PySem.F.type_list_extend mt_extend ho (pa_cons he pa_nil hs) hbase hfew hline hs hplain) fun σ H Q ⟨G, st, P, PX, rr, hm, xp, k⟩ => ?_
  refine ⟨G, st, _, PX, rr, hm, xp, fun x s1 v G1 H1 ⟨a, ds0, ex, hmu, hn⟩ g1 f1 r1 q1 => ?_⟩
  subst ex
  cases q1
  obtain ⟨_, ob, hob, rm⟩ := r1.h.mus a _ hmu
  cases rm with
  | @lst _ vs0 q0 =>
    refine ⟨.inl ⟨rfl, _, SqL.of hob⟩, G1, s1, _, PX, r1, hn, xp.on g1 f1, fun d s2 w G2 H2 ⟨ds, es, ed, hmu2, hl, hp⟩ g2 f2 r2 q2 => ?_⟩
    subst ed
    obtain ⟨b, us, rfl, hb, qb⟩ := q2.lstI
    obtain ⟨_, ob2, hob2, rm2⟩ := r2.h.mus a _ hmu2
    cases rm2 with
    | @lst _ vs q3 =>
      exact ⟨a, b, vs, us, rfl, rfl, hob2, r2.h.sub _ _ hb, by rw [← q3.length, ← qb.length]; exact hl, k _ _ _ G2 _ hp (g1.trans g2) ((f1.trans f2).trans (.set hmu2)) ⟨r2.h.set hmu2 (.lst (q3.append qb)), r2.s⟩ .non⟩
/-- xs[i], xs a list that changes -/
def ixM : O2 := fun mu d e P => match d, e with
  | .ref a, .int i => ∃ ds z, mu a = some (.lst ds) ∧ atI ds i = some z ∧ P z
  | _, _ => False
theorem ix_m : IxR X (l2 Y ixM) := by
  intro value slice pins s σ H x y v u Q I rx ry ⟨G, mu, c, d, e, P, r0, qd, qe, h, k⟩ hs
  cases d <;> cases e <;> first | exact False.elim h | skip
  cases qd; cases qe
  obtain ⟨ds, z, hmu, h2, h3⟩ := h
  obtain ⟨_, ob, hob, rm⟩ := r0.mus _ _ hmu
  cases rm with
  | @lst _ vs q1 =>
    obtain ⟨w, h4, q4⟩ := q1.atI h2
    exact ix_list value slice pins s σ H _ _ v u Q I rx ry ⟨_, _, _, _, rfl, rfl, SqL.of hob, h4, k.here r0 h3 q4⟩ hs
theorem de_ixM {a b : Expr} {ma mb : ME} {pos : Pos} (ha : DE X Y W a ma) (hb : DE X Y W b mb) (hs : PlainIx b := by intro _ _; rfl) : DE X Y W (.Subscript a b pos) (mOp ixM ma mb) :=
  peImp (pe_ix ix_m ha hb hs) (mOp_ok fun _ _ _ _ h => h)
def lenM : OL := fun mu ds P => match ds with
  | [.ref a] => ∃ es, mu a = some (.lst es) ∧ P (.int (es.length : Nat))
  | _ => False
theorem cd_lenM : CallD X Y (.builtin "len") lenM := by
  intro pins s σ H xs us Q I r ⟨G, mu, c, ds, P, r0, q, h, k⟩
  unfold lenM at h
  split at h
  · obtain ⟨v, rfl, q1⟩ := q.one
    cases q1
    obtain ⟨es, hmu, hp⟩ := h
    obtain ⟨_, ob, hob, rm⟩ := r0.mus _ _ hmu
    cases rm with
    | @lst _ vs q1 =>
      exact call_len_seq pins s σ H _ us Q I r ⟨_, _, rfl, .inl (SqL.of hob), by rw [← q1.length]; exact k.here r0 hp (.int _)⟩
  · exact h.elim
/-- the truth of a value -/
def truD (mu : Mu) : D → Bool → Prop
  | .non, k => k = false
  | .bl b, k => k = b
  | .int i, k => k = (i != 0)
  | .str y, k => y.length ≤ LINE ∧ k = ((y.length : Int) != 0)
  | .tup ds, k => k = !ds.isEmpty
  | .lst ds, k => k = !ds.isEmpty
  | .ref a, k => ∃ ds, mu a = some (.lst ds) ∧ k = !ds.isEmpty
  | _, _ => False
theorem Reps.empty {G : Hp} {ds : List D} {vs : List V} (h : Reps Y G ds vs) : ds.isEmpty = vs.isEmpty := by
  cases h <;> rfl
def mTru (m : ME) : MT := fun st P PX => m st (fun d s1 => ∃ k, truD s1.mu d k ∧ P k s1) PX
theorem dt_tru {m : ME} (hY : Y.K = X.K) (h : DE X Y W e m) (he : ∀ whole, isTrue e X.env whole = (do let v ← whole; standAt e.pos; holding [v] (truthy v)) := by intro _; rfl) : DT X Y W e (mTru m) :=
  ptImp (pt_truth h he) fun σ H Q ⟨G, st, P, PX, rr, hm, xp, k⟩ => ⟨G, st, _, PX, rr, hm, xp, fun d s1 v G1 H1 ⟨b, ht, hp⟩ g1 f1 r1 q1 => by
    refine ⟨b, ?_, k b s1 G1 H1 hp g1 f1 r1⟩
    cases d <;> try exact False.elim ht
    · cases q1; exact ht
    · cases q1; exact ht
    · cases q1; exact ht
    · cases q1; exact ⟨by rw [line_eq]; exact ht.1, ht.2⟩
    · obtain ⟨a1, xs1, rfl, h1, q2⟩ := q1.tupI
      exact .inr (.inl ⟨xs1, sqT_mono r1.h.sub (hY ▸ h1), by rw [← q2.empty]; exact ht⟩)
    · obtain ⟨a1, xs1, rfl, h1, q2⟩ := q1.lstI
      exact .inl ⟨xs1, SqL.of (r1.h.sub _ _ h1), by rw [← q2.empty]; exact ht⟩
    · cases q1
      obtain ⟨ds, hmu, ek⟩ := ht
      obtain ⟨_, ob, hob, rm⟩ := r1.h.mus _ _ hmu
      cases rm with
      | @lst _ vs q2 => exact .inl ⟨vs, SqL.of hob, by rw [← q2.empty]; exact ek⟩⟩
/-- a, b, c = x, y, z -/
def mPar3 (i j l : Nat) (n : MA) : MS := fun st E PX => n st (fun ds s1 => ∃ d e g, ds = [d, e, g] ∧ E.nx (((s1.put i d).put j e).put l g)) PX
theorem ds_par3 {i j l : Nat} {x y z : Str} {a b c : Expr} {px py pz pt : Pos} {kt k2 : Nat} {pt2 : Pos} (hc : X.calm = true) (hN : X.N.Nodup) (hi : X.N[i]? = some x) (hj : X.N[j]? = some y) (hl : X.N[l]? = some z) (hij : i ≠ j) (hil : i ≠ l) (hjl : j ≠ l)
    (hx : X.env.scope.names.lookup x = some .local) (hy : X.env.scope.names.lookup y = some .local) (hz : X.env.scope.names.lookup z = some .local) (ha : DA X Y W [a, b, c] mas)
    (hw : swappedStores [.Tuple [.Name x px, .Name y py, .Name z pz] kt pt] (.Tuple [a, b, c] k2 pt2) X.env = pure (some [x, y, z]) := by rfl)
    (hs : swapsWithSole [.Tuple [.Name x px, .Name y py, .Name z pz] kt pt] (.Tuple [a, b, c] k2 pt2) pos.line X.env = pure false := by rfl) :
    DS X Y W (.Assign [.Tuple [.Name x px, .Name y py, .Name z pz] kt pt] (.Tuple [a, b, c] k2 pt2) pos) (mPar3 i j l mas) :=
  psImp (ps_par3 hc hN hi hj hl hij hil hjl hx hy hz ha hw hs) fun D σ H ⟨G, st, E, PX, rr, hm, xp, k⟩ => ⟨G, st, _, PX, rr, hm, xp, fun ds s1 vs G1 H1 ⟨d, e, g, e1, h⟩ gg f r q => by
    subst e1
    cases q with
    | cons q1 q2 =>
      cases q2 with
      | cons q2 q3 =>
        cases q3 with
        | cons q3 q4 =>
          cases q4
          exact ⟨_, _, _, rfl, k.nx _ _ _ _ h gg f (((r.put i q1).put j q2).put l q3)⟩⟩
end
end DL
namespace DL
open PySem L2
/-! ### the end, with the tables of the defs that make lambdas -/
theorem tabs_nil {H : Hp} {P : Addr} {q : Str} (h : H P = some (.tbl #[])) : LamX.TabS H P q := by
  refine ⟨#[], h, trivial, fun pos cv e => ?_⟩
  cases e
theorem tabs_all {H : Hp} : ∀ (cs : List (Addr × Addr)) (T : List (Addr × Str)), T.map (·.1) = cs.map (·.2) → (∀ p ∈ cs, H p.2 = some (.tbl #[])) → LamX.Tabs T H := by
  intro cs T e h p hp
  have : p.1 ∈ cs.map (·.2) := by rw [← e]; exact List.mem_map.mpr ⟨p, hp, rfl⟩
  obtain ⟨q, hq, e2⟩ := List.mem_map.mp this
  have := h q hq
  rw [e2] at this
  exact tabs_nil this
theorem endXT {l : PySem.W.OpenLaw} {n k : Nat} {q : Program} {loose : List Str} {XP : (Str → Option Value) → Heap → Prop} {YP : World → Heap → Prop} {d : DefRec} {K : Params → PySem.W.Frag} {x : Str} (Ls : List Str) (hn : l.most = some n) (hz : n ≤ sizeLine) (h63 : n ≤ 63)
    (hdf : d.params.defaults = []) (hr : Room k callerA) (hrec : (Ls.all fun x => (PyProof.Rows.recsOf q).any fun e => e.name == x) = true) (hY : ∀ (w : World) (h : Heap), YP w h → (K w.params).In h)
    (F : ∀ (w : World) (mg : Str → Option Value) (fa : Addr) (h : Heap), XP mg h → (K w.params).In h → h.Ns mainGlobals mg → mg d.name = some (.ref fa) → (∀ x ∈ Ls, ∀ a, mg x = some (.ref a) → LamX.OwnTab (K w.params) a h) → LamX.LawAtS l w (K w.params) (L2.CX l.prog w) k n x mg fa h) :
    PySem.W.WalkO q loose XP YP l.row.toRowW d [] (fun f vs => PySem.call f vs) := by
  refine Att.attach_callB hn hdf fun w s₀ s₁ mg mb fa o pm cd doc a vs ns G Y ho hd hcd hmg hobj hints hlen hbits hg => ?_
  have KX := hY w _ Y
  have own : ∀ x ∈ Ls, ∀ a, mg x = some (.ref a) → LamX.OwnTab (K w.params) a s₁.heap := fun x hx fx hfx c P o1 fd1 e dd vs1 sl k1 k2 k3 k4 k5 => by
    obtain ⟨dL, hm, hn1⟩ := List.any_eq_true.mp (List.all_eq_true.mp hrec x hx)
    have hn2 : dL.name = x := beq_iff_eq.mp hn1
    obtain ⟨a', o', fd', c', P', h1, h2, h3, h4, h5, h6⟩ := G.T.tab dL hm
    rw [hn2, hfx] at h1
    cases h1
    have g1 := KX _ _ k1
    rw [g1] at h2
    cases h2
    rw [k2] at h3
    cases h3
    rw [k3] at h4
    cases h4
    obtain ⟨⟨oc, vc, e1, _, e3, e4⟩, hP⟩ := h6
    have g2 := KX _ _ k4
    rw [g2] at e1
    cases e1
    cases e3
    rw [k5] at e4
    cases e4
    exact hP
  obtain ⟨fd, cs, sp, hT, nT, C, hb, hsp, hF⟩ := F w mg fa _ G.X KX G.T.g hmg own
  exact LamX.law_callTs KX G.T.g G.T.b G.T.builtins G.T.nolimit hg hT nT C G.T.bmain hobj hints (Nat.le_trans hlen hz) hr hF hb (fun H hH hS => hsp H a ns hlen hbits hH hS) fun H e s' ⟨_, _, _, _, _, _, _, _, _, _, _, _, z⟩ => z
/-- a def's table, by what the written part says of it -/
theorem own_at {K : PySem.W.Frag} {h : Heap} {f c P : Addr} {oc e : Value} {od dd : Option Addr} {fd : FuncData} {vs : Array Value} {osl sl : Array (Option Value)} (O : LamX.OwnTab K f h) (l : K.lookup f = some ⟨oc, od, .func fd, osl⟩) (hc : fd.code = .ref c) (lc : K.lookup c = some ⟨e, dd, .fields vs, sl⟩) (hp : vs[11]? = some (.ref P)) :
    h.get? P = some { cls := .none, data := .fields #[] } := O c P _ _ e dd vs sl l rfl hc lc hp
end DL
namespace DL
open PySem L2
/-! ### targets o.f; lists taken apart -/
section
variable {X : Cx} {Y : Yc} {W : WX} {o : Expr} {es : List Expr} {ta : TE} {mo : ME} {cn f : Str} {C : Addr} {pos : Pos}
def gFldT (K : PySem.W.Frag) (ta : TE) (f : Str) : TG := fun v σ H Q => ta σ H fun x H2 => ∃ a C dx fs, x = .ref a ∧ H2 a = some (.ins C dx fs) ∧ Cls K C ∧ NoAttr K C f ∧ fs.length < 1000 ∧ Q σ (upd H2 a (.ins C dx (putF f v fs)))
theorem pg_fld (ha : PE X o ta) : PG X (.Attribute o f pos) (gFldT X.K ta f) := by
  refine ⟨fun pins s σ H v u Q I r h => ?_⟩
  refine PySem.W.kas_attr (thn (ha.run pins s σ H _ I h) fun ov s2 ⟨x, H2, I2, rx, a, C, dx, fs, ex, ea, c, n, l, q2⟩ => ?_)
  subst ex
  obtain rfl : ov = Value.ref a := rx
  exact setattr_ok I2 ea c n l r fun s3 I3 => ⟨σ, _, I3, q2⟩
def gF (cn f : Str) (mo : ME) : MG := fun d st P => mo st (fun e s2 => ∃ a fs, e = .ref a ∧ s2.mu a = some (.ins cn fs) ∧ fs.length < 1000 ∧ P { s2 with mu := muSet s2.mu a (some (.ins cn (putFD f d fs))) }) PX0
/-- the facts of a class: it is plain, its fields are no names of the class -/
structure ClsD (K : PySem.W.Frag) (mg : Str → Option Value) (cn : Str) (fl : List Str) : Prop where
  ex : ∃ C, mg cn = some (.ref C) ∧ Cls K C ∧ ∀ f ∈ fl, NoAttr K C f
theorem dg_fld {fl : List Str} (hY : Y.mg = X.mg) (c : ClsD X.K X.mg cn fl) (hf : f ∈ fl) (ho : DE X Y W0 o mo) : DG X Y (.Attribute o f pos) (gF cn f mo) := by
  obtain ⟨C, gC, cl, hna⟩ := c.ex
  have na := hna f hf
  refine pgImp (pg_fld ho) fun v σ H Q ⟨G, st, d, P, r, q, h, k⟩ => ⟨G, st, _, PX0, r, h, fun _ _ _ _ _ _ _ z => z.elim, fun e s2 u G2 H2 ⟨a, fs, ee, hmu, hl, hn⟩ g2 f2 r2 q2 => ?_⟩
  subst ee
  cases q2
  obtain ⟨_, ob, hob, rm⟩ := r2.h.mus a _ hmu
  cases rm with
  | @ins _ C' dx _ vs e q' =>
    have eC : C' = C := by rw [hY, gC] at e; cases e; rfl
    subst eC
    refine ⟨a, C', dx, vs, rfl, hob, cl, na, by rw [← q'.length]; exact hl, ?_⟩
    exact k _ _ G2 _ hn g2 (f2.trans (.set hmu)) ⟨r2.h.set hmu (.ins e (q'.put f (q.mono g2))), r2.s⟩
theorem de_fldN {fl : List Str} (hY : Y.mg = X.mg) (c : ClsD X.K X.mg cn fl) (hf : f ∈ fl) (ho : DE X Y W o mo) (hb : attributeBase o f X.env (eval o X.env) = eval o X.env := by rfl) : DE X Y W (.Attribute o f pos) (mFld cn f mo) :=
  let ⟨_, gC, cl, na⟩ := c.ex
  de_fld hY gC cl (na f hf) ho hb
theorem ds_fldN {fl : List Str} {value : Expr} {mv : ME} {pos' : Pos} (hY : Y.mg = X.mg) (c : ClsD X.K X.mg cn fl) (hf : f ∈ fl) (ho : DE X Y W o mo) (hv : DE X Y W value mv) (hs : swapsWith value (some (.Attribute o f pos')) pos.line X.env = pure false := by rfl) : DS X Y W (.Assign [.Attribute o f pos'] value pos) (mPutF cn f mo mv) :=
  let ⟨_, gC, cl, na⟩ := c.ex
  ds_fld hY gC cl (na f hf) ho hv hs
theorem pg_or {e : Expr} {t t' : TG} (h : PG X e t) (h' : PG X e t') : PG X e (fun v σ H Q => t v σ H Q ∨ t' v σ H Q) :=
  ⟨fun pins s σ H v u Q I r q => q.elim (h.run pins s σ H v u Q I r) (h'.run pins s σ H v u Q I r)⟩
/-- a tuple or a list, taken apart -/
def gU (n : Nat) (gs : MGs) : MG := fun d st P => ∃ ds, (d = .tup ds ∨ d = .lst ds) ∧ ds.length = n ∧ gs ds st P
theorem dg_un {k : Nat} {gs : MGs} {n : Nat} (hY : Y.K = X.K) (hc : X.calm = true) (h : DGs X Y es gs) (hn : (assignEach es X.env).length = n := by rfl) (hst : (assignEach es X.env).findIdx? (·.1) = none := by rfl) : DG X Y (.Tuple es k pos) (gU n gs) :=
  pgImp (pg_or (pg_tup hc h hn hst) (pg_lst hc h hn hst)) fun v σ H Q ⟨G, st, d, P, r, q, ⟨ds, e, hl, h⟩, k⟩ => by
    rcases e with e | e
    · subst e
      cases q with
      | tup q1 q2 => exact .inl ⟨_, _, rfl, sqT_mono r.h.sub (hY ▸ q1), by rw [← q2.length]; exact hl, G, st, ds, P, r, q2, h, k⟩
    · subst e
      cases q with
      | lst q1 q2 => exact .inr ⟨_, _, rfl, SqL.of (r.h.sub _ _ q1), by rw [← q2.length]; exact hl, G, st, ds, P, r, q2, h, k⟩
end
/-! ### methods, made instances, by the class's name -/
structure FnM (P : Program) (w : World) (K : PySem.W.Frag) (mg : Str → Option Value) (T : List (Addr × Str)) (base : Heap) (k : Nat) (cn m : Str) (ps : List Str) (sp : DSp) : Prop where
  ex : ∃ C f, mg cn = some (.ref C) ∧ Cls K C ∧ Meth K C m f ∧ FnF P w K mg T base k f ps sp
structure FnI (P : Program) (w : World) (K : PySem.W.Frag) (mg : Str → Option Value) (T : List (Addr × Str)) (base : Heap) (k : Nat) (cn : Str) (ps : List Str) (sp : DSp) : Prop where
  ex : ∃ C f, mg cn = some (.ref C) ∧ Mk K C f ∧ FnF P w K mg T base k f ps sp
section
variable {X : Cx} {W : WX} {q : Qp} {T : List (Addr × Str)} {o e : Expr} {es : List Expr} {mo : ME} {mas : MA} {pos p apos : Pos} {cn m x : Str} {k j : Nat} {ps : List Str} {sp : DSp}
theorem de_methN {pl : Sem Bool} (F : FnM X.prog X.w X.K X.mg T X.base j cn m ps sp) (tk : Takes X W) (hr : Room j X.A) (ho : DE X (Yp X.K X.mg T q) W o mo) (ha : DA X (Yp X.K X.mg T q) W (e :: es) mas)
    (hst : starEach (e :: es) X.env = (false, eval e X.env) :: starEach es X.env := by rfl) (hpl : (backTo pos (starEach es X.env)).any (·.1) = false := by rfl)
    (ht : eval (.Call (.Attribute o m apos) (e :: es) [] pos) X.env = (do
      let ov ← eval o X.env
      standAt apos.atName
      let (f, first) ← holding [ov] (getMethod ov m pl)
      callWith pos f first (backTo pos (starEach (e :: es) X.env)) (backToKw pos (keywordEach [] X.env))) := by rfl) : DE X (Yp X.K X.mg T q) W (.Call (.Attribute o m apos) (e :: es) [] pos) (mMeth cn m sp mo mas) :=
  let ⟨_, _, gC, cl, hm, G⟩ := F.ex
  de_meth gC cl hm G tk hr ho ha hst hpl ht
theorem de_methN0 {pl : Sem Bool} (F : FnM X.prog X.w X.K X.mg T X.base j cn m ps sp) (tk : Takes X W) (hr : Room j X.A) (ho : DE X (Yp X.K X.mg T q) W o mo)
    (ht : eval (.Call (.Attribute o m apos) [] [] pos) X.env = (do
      let ov ← eval o X.env
      standAt apos.atName
      let (f, first) ← holding [ov] (getMethod ov m pl)
      callWith pos f first (backTo pos (starEach [] X.env)) (backToKw pos (keywordEach [] X.env))) := by rfl) : DE X (Yp X.K X.mg T q) W (.Call (.Attribute o m apos) [] [] pos) (mMeth0 cn m sp mo) :=
  let ⟨_, _, gC, cl, hm, G⟩ := F.ex
  de_meth0 gC cl hm G tk hr ho ht
theorem de_makeN (F : FnI X.prog X.w X.K X.mg T X.base j x ps sp) (tk : Takes X W) (hr : Room (j + 1) X.A) (hg : Gl X x) (ha : DA X (Yp X.K X.mg T q) W (e :: es) mas) (hdb : (x == ("__debug__" : Str)) = false := by decide)
    (he : starEach (e :: es) X.env = (false, eval e X.env) :: starEach es X.env := by rfl) (hpl : (backTo pos (starEach es X.env)).any (·.1) = false := by rfl) : DE X (Yp X.K X.mg T q) W (.Call (.Name x p) (e :: es) [] pos) (mMake x sp mas) :=
  let ⟨_, _, gC, M, G⟩ := F.ex
  de_make gC M G tk hr hg ha hdb he hpl
end
/-! ### a block's end told as less -/
/-- what comes behind a statement, by a word of one's own -/
def mCut (m : MS) : MS := fun st E PX => ∃ I : S → Prop, m st { E with nx := I } PX ∧ ∀ s, I s → E.nx s
theorem ds_cut {X : Cx} {Y : Yc} {W : WX} {st : Stmt} {m : MS} (h : DS X Y W st m) : DS X Y W st (mCut m) :=
  psImp h fun D σ H ⟨G, st, E, PX, rr, ⟨I, hm, hi⟩, xp, k⟩ => ⟨G, st, { E with nx := I }, PX, rr, hm, xp, ⟨fun s σ G H z => k.nx _ _ _ _ (hi _ z), k.rt, k.bk, k.ct⟩⟩
/-! ### a def's end may forget objects that change -/
def Less (mu' mu : Mu) : Prop := ∀ a m, mu' a = some m → mu a = some m
theorem Less.refl (mu : Mu) : Less mu mu := fun _ _ h => h
theorem Less.trans {a b c : Mu} (h : Less a b) (g : Less b c) : Less a c := fun x m e => g x m (h x m e)
theorem Less.none {a b : Mu} (h : Less a b) {x : Addr} (e : b x = Option.none) : a x = Option.none := by
  cases z : a x with
  | none => rfl
  | some m => rw [h x m z] at e; cases e
theorem Less.set {mu : Mu} {a : Addr} {m : Option MO} (h : mu a = Option.none) : Less mu (muSet mu a m) := fun x y e => by
  unfold muSet
  by_cases hx : x = a
  · subst hx; rw [h] at e; cases e
  · rw [if_neg hx]; exact e
theorem Less.over {mu mu' : Mu} {a : Addr} {m : Option MO} (l : Less mu mu') (h : mu a = Option.none) : Less mu (muSet mu' a m) := fun x y e => by
  unfold muSet
  by_cases hx : x = a
  · subst hx; rw [h] at e; cases e
  · rw [if_neg hx]; exact l x y e
section
variable {Y : Yc} {G G' : Hp} {mu mu' mu1 : Mu} {c : Nat} {H H' : Hp}
theorem R0.lessMu (h : R0 Y G mu c H) (l : Less mu' mu) : R0 Y G mu' c H :=
  ⟨h.sub, fun a m e => h.mus a m (l a m e), let ⟨o, h1, h2, h3, h4⟩ := h.pen; ⟨o, h1, h2, h3, l.none h4⟩, ⟨h.ext.tab, fun p hp => ⟨(h.ext.tabO p hp).1, l.none (h.ext.tabO p hp).2⟩, fun p hp => ⟨(h.ext.raw p hp).1, (h.ext.raw p hp).2.1, l.none (h.ext.raw p hp).2.2⟩, h.ext.pl, h.ext.lo⟩⟩
theorem Frm.lessMu (f : Frm Y G mu H G' mu1 H') (l : Less mu' mu1) : Frm Y G mu H G' mu' H' := fun a o h1 h2 h3 h4 =>
  let ⟨e1, e2, e3⟩ := f a o h1 h2 h3 h4
  ⟨e1, e2, l.none e3⟩
theorem RepX.lessMu {x : Ex} {cls : Value} {d : Option Addr} (h : RepX Y G mu H x cls d) (l : Less mu' mu) : RepX Y G mu' H x cls d := by
  obtain ⟨h0, h⟩ := h
  refine ⟨h0, ?_⟩
  rcases h with h | ⟨dd, vs, h1, h2, h3, h4, h5, h6⟩
  · exact .inl h
  · exact .inr ⟨dd, vs, h1, h2, h3, h4, l.none h5, h6⟩
end
def fg {α : Type} (P : α → Mu → Nat → Prop) : α → Mu → Nat → Prop := fun d mu c => ∃ mu', Less mu' mu ∧ P d mu' c
def spG (sp : DSp) : DSp := fun ds mu c P1 PX1 => ∃ P PX, sp ds mu c P PX ∧ P1 = fg P ∧ PX1 = fg PX
theorem spG_of {K : PySem.W.Frag} {mg : Str → Option Value} {T : List (Addr × Str)} {q : Qp} {sp : DSp} {vs : List V} {H : Hp} {Q : VK} {E : XK} (h : SpOf (Yp K mg T q) sp vs H Q E) : SpOf (Yp K mg T q) (spG sp) vs H Q E := by
  obtain ⟨G, mu, c, ds, P, PX, r0, qv, h, kq, kx⟩ := h
  exact ⟨G, mu, c, ds, fg P, fg PX, r0, qv, ⟨P, PX, h, rfl, rfl⟩, fun d mu1 c1 v G' H' ⟨mu', l, hp⟩ g f r q => kq d mu' c1 v G' H' hp g (f.lessMu l) (r.lessMu l) q, fun x mu1 c1 cls d G' H' ⟨mu', l, hp⟩ g f r q => kx x mu' c1 cls d G' H' hp g (f.lessMu l) (r.lessMu l) (q.lessMu l)⟩
theorem FnD.forget {P : Program} {w : World} {K : PySem.W.Frag} {mg : Str → Option Value} {T : List (Addr × Str)} {base : Heap} {k : Nat} {x : Str} {ps : List Str} {sp : DSp} (F : FnD P w K mg T base k x ps (spG sp)) : FnD P w K mg T base k x ps sp :=
  let ⟨f, fd, h1, h2, h3, h4⟩ := F.ex
  ⟨f, fd, h1, h2, h3, fun q => (h4 q).imp fun _ _ _ _ h => spG_of h⟩
theorem FnF.forget {P : Program} {w : World} {K : PySem.W.Frag} {mg : Str → Option Value} {T : List (Addr × Str)} {base : Heap} {k : Nat} {f : Addr} {ps : List Str} {sp : DSp} (F : FnF P w K mg T base k f ps (spG sp)) : FnF P w K mg T base k f ps sp :=
  let ⟨fd, h3, h4⟩ := F.ex
  ⟨fd, h3, fun q => (h4 q).imp fun _ _ _ _ h => spG_of h⟩
/-! ### loops by a word -/
theorem for_ind {g : MG} {body : MS} {E : DEnds} {PX : PXT} (I : List D → S → Prop) : ∀ (ds : List D) (st : S), I ds st → (∀ s, I [] s → E.nx s) →
    (∀ d r s, I (d :: r) s → ∀ K : S → Prop, (∀ s, I r s → K s) → g d s fun s1 => body s1 { nx := K, rt := E.rt, bk := E.nx, ct := K } PX) → forGo g body E PX ds st
  | [], st, h, h0, _ => h0 st h
  | d :: ds, st, h, h0, h1 => h1 d ds st h (fun s => forGo g body E PX ds s) fun s hs => for_ind I ds s hs h0 h1
theorem muSet_set {mu : Mu} {a : Addr} {x y : Option MO} : muSet (muSet mu a x) a y = muSet mu a y := by
  funext b
  unfold muSet
  by_cases h : b = a
  · rw [if_pos h, if_pos h]
  · rw [if_neg h, if_neg h, if_neg h]
end DL
namespace DL
open PySem PySem.W PySem.Calls PyProof.Rows PySem.HandSPX L2
/-! ### facts for the end -/
theorem noat {K : Frag} {C : Addr} {f : Str} (h : findIn K (.ref C) f = some none) : NoAttr K C f := h
theorem exm_self {K : Frag} {S : Addr} (h1 : subIn K (.ref S) (.type "BaseException") = some true) (h2 : isClsIn K S = true) (h3 : typeIn K (.ref S) = some (.type "type")) (h4 : subIn K (.ref S) (.ref S) = some true) :
    exmOne K (.ref S) (.ref S) = some true := by
  have e1 : (subIn K (.ref S) (.type "BaseException") == some true) = true := by rw [h1] <;> rfl
  have e2 : ((clsIn K S).isSome && typeIn K (.ref S) == some (.type "type")) = true := by
    have h2' : (clsIn K S).isSome = true := h2
    rw [h2', h3] <;> rfl
  show (if (subIn K (.ref S) (.type "BaseException") == some true) = true then (if ((clsIn K S).isSome && typeIn K (.ref S) == some (.type "type")) = true then subIn K (.ref S) (.ref S) else none) else none) = some true
  rw [if_pos e1, if_pos e2]
  exact h4
theorem exm_other {K : Frag} {A B : Addr} (h1 : subIn K (.ref A) (.type "BaseException") = some true) (h2 : isClsIn K A = true) (h3 : typeIn K (.ref A) = some (.type "type")) (h4 : subIn K (.ref B) (.ref A) = some false) :
    exmOne K (.ref B) (.ref A) = some false := by
  have e1 : (subIn K (.ref A) (.type "BaseException") == some true) = true := by rw [h1] <;> rfl
  have e2 : ((clsIn K A).isSome && typeIn K (.ref A) == some (.type "type")) = true := by
    have h2' : (clsIn K A).isSome = true := h2
    rw [h2', h3] <;> rfl
  show (if (subIn K (.ref A) (.type "BaseException") == some true) = true then (if ((clsIn K A).isSome && typeIn K (.ref A) == some (.type "type")) = true then subIn K (.ref B) (.ref A) else none) else none) = some false
  rw [if_pos e1, if_pos e2]
  exact h4
/-- the text of an own error's __init__ -/
def ErrTx (st : Stmt) (fld : Str) : Prop := ∃ p1 p2 q0 q1 q2 q3 q4 q5 q6 q7 q8 q9, defArgs st = erA fld p1 p2 ∧ defBody st = erB fld q0 q1 q2 q3 q4 q5 q6 q7 q8 q9 ∧ defScope st = erS fld ∧ ErTxt fld q0 q1 q2 q3 q4 q5 q6 q7 q8 q9
theorem own_mk {prog : Program} {K : Frag} {h : Heap} {mg : Str → Option Value} {x fld qual : Str} {C fI cda cc : Addr} {st : Stmt} {oc doc pm ct ccl cl : Value} {od an cdd cld : Option Addr} {osl ccs csl : Array (Option Value)} {vs : Array Value} {file : Str} {tf : Tok}
    (X : K.In h) (G : h.Ns mainGlobals mg) (fo : FldOk fld) (tx : ErrTx st fld) (aC : nsIn K mainGlobals x = some (some (.ref C)))
    {nm q : Str} {N : Addr} {bs bm : List Value} {sn : List Str} {sub : List Value} {ab : Bool} {col : Option Bool} {dd : Option Addr} {m0 m1 m2 m3 m5 : Option Value}
    (cls : K.lookup C = some (excClassObj nm q C N bs bm true sn sub ab col dd m0 m1 m2 m3 m5 "ValueError.__new__")) (rv : refsVE bm = true)
    (sa : findIn K (.ref C) "__setattr__" = some (some (.builtin "object.__setattr__"))) (ga : findIn K (.ref C) "__getattribute__" = some (some (.builtin "BaseException.__getattribute__"))) (gg : findIn K (.ref C) "__getattr__" = some none) (noN : findIn K (.ref C) fld = some none)
    (iC : findIn K (.ref C) "__init__" = some (some (.ref fI))) (tC : typeIn K (.ref fI) = some (.type "function")) (kC : keepIn K (.ref C) = true) (exC : subIn K (.ref C) (.type "BaseException") = some true) (tyC : typeIn K (.ref C) = some (.type "type")) (hdC : hasDictIn K C = true)
    (isC : isClsIn K C = true) (sC : subIn K (.ref C) (.ref C) = some true) (sup : nsIn K mainGlobals "super" = some none) (top : (prog.main.scope.names.lookup ("super" : Str)).isSome = false) (any : nsIn K cStatics "thirdparty.any" = some none)
    (ini : ks_superIn K C C "__init__" = some (some (.builtin "ValueError.__init__"))) (ve : subIn K (.ref C) (.type "ValueError") = some true) (xi : excInitIn K C veB "ValueError.__new__" = true) (mro : mroIn K C (.ref C) = some true)
    (l : K.lookup fI = some ⟨oc, od, .func (ksFn "__init__" qual (defArgs st) (defBody st) (defScope st) .none .none doc pm an (.ref cda) ct cc), osl⟩) (hcd : codeIn K (.ref cda) qual = true)
    (lcd : K.lookup cda = some ⟨ccl, cdd, .fields vs, ccs⟩) (v2 : vs[2]? = some (.str file tf)) (ff : ((prog.main.file : Str) == file) = true) (lcc : K.lookup cc = some ⟨cl, cld, .cell (some (.ref C)), csl⟩) : ∃ C fI, OwnErr prog K mg x fld C fI := by
  obtain ⟨p1, p2, q0, q1, q2, q3, q4, q5, q6, q7, q8, q9, e1, e2, e3, et⟩ := tx
  rw [e1, e2, e3] at l
  exact ⟨C, fI, OwnErr.mk fo (mg_of X G aC) ⟨nm, q, N, bs, bm, sn, sub, ab, col, dd, m0, m1, m2, m3, m5, cls, rv⟩ sa ga gg noN iC tC kC exC tyC hdC (exm_self exC isC tyC sC) sup top any ini ve xi mro
    ⟨oc, od, qual, doc, pm, an, cda, ct, cc, osl, p1, p2, q0, q1, q2, q3, q4, q5, q6, q7, q8, q9, l, hcd, rfl, ⟨ccl, cdd, vs, ccs, file, tf, lcd, v2, ff⟩, ⟨cl, cld, csl, lcc⟩, et⟩⟩
theorem miss_mk {K : Frag} {h : Heap} {mg : Str → Option Value} {A B : Str} {CA CB : Addr} (X : K.In h) (G : h.Ns mainGlobals mg) (aB : nsIn K mainGlobals B = some (some (.ref CB))) (aA : nsIn K mainGlobals A = some (some (.ref CA)))
    (h1 : subIn K (.ref CA) (.type "BaseException") = some true) (h2 : isClsIn K CA = true) (h3 : typeIn K (.ref CA) = some (.type "type")) (h4 : subIn K (.ref CB) (.ref CA) = some false) : Miss K mg B A := by
  intro CB' CA' e1 e2
  rw [mg_of X G aB] at e1
  rw [mg_of X G aA] at e2
  cases e1
  cases e2
  exact exm_other h1 h2 h3 h4
theorem globT_mk {K : Frag} {h : Heap} {mg : Str → Option Value} {x : Str} {p : Addr} {its : Array Value} {n : Nat} {sl : Array (Option Value)} {ys : List Str} (X : K.In h) (G : h.Ns mainGlobals mg) (a : nsIn K mainGlobals x = some (some (.ref p))) (l : K.lookup p = some ⟨.type "tuple", none, .seq its n, sl⟩) (s : its.size ≤ 1000) (v : Vals (ys.map V.str) its.toList) : GlobT K mg x ys :=
  ⟨p, its, n, sl, mg_of X G a, l, by rw [sizeLine_eq]; omega, v⟩
theorem cls_mk {K : Frag} {h : Heap} {mg : Str → Option Value} {x : Str} {C : Addr} {fl : List Str} (X : K.In h) (G : h.Ns mainGlobals mg) (a : nsIn K mainGlobals x = some (some (.ref C))) (cl : Cls K C) (na : ∀ f ∈ fl, NoAttr K C f) : ClsD K mg x fl := ⟨C, mg_of X G a, cl, na⟩
end DL
namespace DL
open PySem L2
/-! ### a reader of a text: its signs, its place -/
abbrev LN : Nat := 1000000
def scanO (s : Str) (i : Nat) : MO := .ins "Scan" [("string", .str s), ("place", .int i)]
structure ScA where
  a : Addr
  s : Str
  i : Nat
def ScA.l (q : ScA) : List Nat := q.s.cps.toList
/-- what is left to be read -/
def ScA.rest (q : ScA) : List Nat := q.l.drop q.i
structure ScA.At (q : ScA) (mu : Mu) : Prop where
  here : mu q.a = some (scanO q.s q.i)
  asc : asc q.l
  len : q.l.length ≤ LN
  le : q.i ≤ q.l.length
def ScA.to (q : ScA) (j : Nat) : ScA := { q with i := j }
theorem ScA.At.go {q : ScA} {mu : Mu} (h : q.At mu) {j : Nat} (hj : j ≤ q.l.length) : (q.to j).At (muSet mu q.a (some (scanO q.s j))) := ⟨muSet_same, h.asc, h.len, hj⟩
theorem sp_ne : ¬ (("string" : Str) = "place") := by decide +kernel
theorem lk_string (x y : D) : List.lookup ("string" : Str) [(("string" : Str), x), ("place", y)] = some x := by simp [List.lookup]
theorem lk_place (x y : D) : List.lookup ("place" : Str) [(("string" : Str), x), ("place", y)] = some y := by
  have e : (("place" : Str) == ("string" : Str)) = false := by decide +kernel
  simp [List.lookup, e]
theorem lk_no {m : Str} (x y : D) (h : (m == ("string" : Str)) = false ∧ (m == ("place" : Str)) = false) : List.lookup m [(("string" : Str), x), ("place", y)] = none := by
  simp [List.lookup, h.1, h.2]
theorem pt_place (x y z : D) : putFD "place" z [(("string" : Str), x), (("place" : Str), y)] = [(("string" : Str), x), (("place" : Str), z)] := by
  unfold putFD
  rw [if_neg sp_ne]
  unfold putFD
  rw [if_pos rfl]
section
variable {q : ScA} {mu : Mu} {Q : D → Prop} {Q2 : Addr → Prop}
theorem fld_string (h : q.At mu) (k : Q (.str q.s)) : ∃ b fs v, D.ref q.a = .ref b ∧ mu b = some (.ins "Scan" fs) ∧ fs.lookup ("string" : Str) = some v ∧ Q v := ⟨_, _, _, rfl, h.here, lk_string _ _, k⟩
theorem fld_place (h : q.At mu) (k : Q (.int q.i)) : ∃ b fs v, D.ref q.a = .ref b ∧ mu b = some (.ins "Scan" fs) ∧ fs.lookup ("place" : Str) = some v ∧ Q v := ⟨_, _, _, rfl, h.here, lk_place _ _, k⟩
theorem mth_scan {m : Str} (h : q.At mu) (n : (m == ("string" : Str)) = false ∧ (m == ("place" : Str)) = false) (k : Q2 q.a) : ∃ b fs, D.ref q.a = .ref b ∧ mu b = some (.ins "Scan" fs) ∧ fs.lookup m = none ∧ Q2 b := ⟨_, _, rfl, h.here, lk_no _ _ n, k⟩
theorem put_place {st : S} {K : S → Prop} {j : Nat} {z : D} (e : z = .int j) (h : q.At st.mu) (k : K { st with mu := muSet st.mu q.a (some (scanO q.s j)) }) : ∃ b fs, D.ref q.a = .ref b ∧ st.mu b = some (.ins "Scan" fs) ∧ fs.length < 1000 ∧ K { st with mu := muSet st.mu b (some (.ins "Scan" (putFD "place" z fs))) } :=
  ⟨_, _, rfl, h.here, by show 2 < 1000; decide, by subst e; rw [pt_place]; exact k⟩
end
theorem cut_nat {α : Type} (l : List α) (i j : Nat) : cutD l (some (i : Int)) (some (j : Int)) = (l.drop (min i l.length)).take (min j l.length - min i l.length) := by
  unfold cutD
  rw [HT.sIx_nat, HT.sIx_nat]
theorem cut_one {l : List Nat} {i : Nat} (h : i ≤ l.length) : cutD l (some (i : Int)) (some ((i : Int) + 1)) = (l.drop i).take 1 := by
  have e : ((i : Int) + 1) = ((i + 1 : Nat) : Int) := by omega
  rw [e, cut_nat, Nat.min_eq_left h]
  by_cases h1 : i < l.length
  · rw [Nat.min_eq_left (by omega), Nat.add_sub_cancel_left]
  · have : i = l.length := by omega
    subst this
    rw [List.drop_length, List.take_nil, List.take_nil]
theorem asc_drop {l : List Nat} (h : asc l) (n : Nat) : asc (l.drop n) := fun k hk => h k (List.mem_of_mem_drop hk)
theorem asc_take {l : List Nat} (h : asc l) (n : Nat) : asc (l.take n) := fun k hk => h k (List.mem_of_mem_take hk)
theorem ok_asc {l : List Nat} (h : asc l) (n : Nat) : (D.str ⟨l.toArray⟩).ok n = true := by
  show PyData.strOk _ = true
  unfold PyData.strOk
  rw [Array.all_eq_true']
  intro x hx
  have := h x (by simpa using hx)
  simp only [decide_eq_true_eq]
  omega
theorem ok_ascS {s : Str} (h : asc s.cps.toList) (n : Nat) : (D.str s).ok n = true := by
  show PyData.strOk _ = true
  unfold PyData.strOk
  rw [Array.all_eq_true']
  intro x hx
  have := h x (by simpa using hx)
  simp only [decide_eq_true_eq]
  omega
/-- the sign that is seen -/
def ScA.see (q : ScA) : Str := ⟨(q.rest.take 1).toArray⟩
theorem ScA.At.see_ok {q : ScA} {mu : Mu} (h : q.At mu) (n : Nat) : (D.str q.see).ok n = true := ok_asc (asc_take (asc_drop h.asc _) _) n
theorem ScA.At.line {q : ScA} {mu : Mu} (h : q.At mu) : q.s.length ≤ LINE := by
  have := h.len
  have e : (LINE : Nat) = 16777216 := rfl
  have e2 : (LN : Nat) = 1000000 := rfl
  rw [str_len]
  show q.l.length ≤ LINE
  omega
theorem str_eq {a b : Str} : a = b ↔ a.cps.toList = b.cps.toList := by
  constructor
  · intro h; rw [h]
  · intro h
    obtain ⟨x⟩ := a
    obtain ⟨y⟩ := b
    have : x = y := Array.toList_inj.mp h
    rw [this]
theorem ScA.see_eq (q : ScA) (s : Str) : eqvD (.str q.see) (.str s) = decide (q.rest.take 1 = s.cps.toList) := by
  rw [eqv_str2, Bool.eq_iff_iff]
  simp only [beq_iff_eq, decide_eq_true_eq]
  rw [str_eq]
  show (q.rest.take 1).toArray.toList = _ ↔ _
  simp
/-- how many spaces stand ahead -/
def skipN : List Nat → Nat
  | [] => 0
  | k :: r => if k = 32 then skipN r + 1 else 0
theorem skipN_le : ∀ l : List Nat, skipN l ≤ l.length
  | [] => Nat.le_refl _
  | k :: r => by
    unfold skipN
    have := skipN_le r
    split
    · rw [List.length_cons]; omega
    · exact Nat.zero_le _
def ScA.skip (q : ScA) : ScA := q.to (q.i + skipN q.rest)
theorem ScA.rest_len (q : ScA) : q.rest.length = q.l.length - q.i := by unfold ScA.rest; rw [List.length_drop]
theorem ScA.skip_le {q : ScA} (h : q.i ≤ q.l.length) : q.skip.i ≤ q.l.length := by
  have := skipN_le q.rest
  have := q.rest_len
  show q.i + skipN q.rest ≤ q.l.length
  omega
end DL
namespace DL
open PySem L2
theorem muSet_id {mu : Mu} {a : Addr} {m : Option MO} (h : mu a = m) : muSet mu a m = mu := by
  funext b
  unfold muSet
  by_cases hb : b = a
  · rw [if_pos hb, hb, h]
  · rw [if_neg hb]
theorem take_one {l : List Nat} {k : Nat} : l.take 1 = [k] ↔ l.head? = some k := by
  cases l with
  | nil => simp
  | cons j r => simp
theorem ScA.see_one (q : ScA) {s : Str} {k : Nat} (h : s.cps.toList = [k]) : eqvD (.str q.see) (.str s) = decide (q.rest.head? = some k) := by
  rw [q.see_eq, h, Bool.eq_iff_iff]
  simp only [decide_eq_true_eq]
  exact take_one
theorem ScA.hd_lt {q : ScA} {k : Nat} (h : q.rest.head? = some k) : q.i + 1 ≤ q.l.length := by
  have := q.rest_len
  cases e : q.rest with
  | nil => rw [e] at h; cases h
  | cons j r => rw [e, List.length_cons] at this; omega
theorem ScA.to_rest (q : ScA) (n : Nat) : (q.to (q.i + n)).rest = q.rest.drop n := by
  show q.l.drop (q.i + n) = _
  rw [← List.drop_drop]
  rfl
theorem ScA.At.self {q : ScA} {mu : Mu} (h : q.At mu) : muSet mu q.a (some (scanO q.s q.i)) = mu := muSet_id h.here
/-- how many letters and digits stand ahead -/
def runN (l : List Nat) : Nat := (l.takeWhile fun k => decide (k ∈ alnum)).length
theorem runN_le (l : List Nat) : runN l ≤ l.length := by
  unfold runN
  exact (List.takeWhile_prefix _).length_le
/-- a name is read: its length, or where it stops -/
def nameR (r : List Nat) : Except Nat Nat := match r with
  | [] => .error 0
  | k :: _ => if k ∈ letters then (if runN r ≤ 12 then .ok (runN r) else .error 12) else .error 0
def notText (i : Nat) : Ex := ⟨"NotAText", [("at", .int (i : Int))]⟩
def ScA.set (q : ScA) (mu : Mu) (j : Nat) : Mu := muSet mu q.a (some (scanO q.s j))
theorem ScA.At.go' {q : ScA} {mu : Mu} (h : q.At mu) {n : Nat} (hj : n ≤ q.rest.length) : (q.to (q.i + n)).At (q.set mu (q.i + n)) := h.go (by have := q.rest_len; have := h.le; omega)
theorem ScA.set_set (q : ScA) (mu : Mu) (i j : Nat) : (q.to i).set (q.set mu i) j = q.set mu j := muSet_set
end DL
namespace DL
open PySem L2
/-! ### texts of forms -/
def sL (l : List Nat) : Str := ⟨l.toArray⟩
theorem sL_cps (l : List Nat) : (sL l).cps.toList = l := by unfold sL; simp
theorem sL_app (a b : List Nat) : sL a ++ sL b = sL (a ++ b) := by rw [str_eq, app_cps, sL_cps, sL_cps, sL_cps]
theorem sL_self (s : Str) : sL s.cps.toList = s := by rw [str_eq, sL_cps]
theorem sL_len (l : List Nat) : (sL l).length = l.length := by rw [str_len, sL_cps]
theorem app_sL (s : Str) (b : List Nat) : s ++ sL b = sL (s.cps.toList ++ b) := by rw [str_eq, app_cps, sL_cps, sL_cps]
theorem lit_lp : (Str.ofString "(") = sL [40] := by decide +kernel
theorem lit_rp : (Str.ofString ")") = sL [41] := by decide +kernel
theorem lit_sp : (Str.ofString " ") = sL [32] := by decide +kernel
theorem lit_ti : (Str.ofString "~") = sL [126] := by decide +kernel
def markC (w : Str) : Nat := if w = "both" then 42 else if w = "between" then 124 else if w = "offered" then 38 else 43
def tilde (w : Str) : List Nat := if w = "counter" then [126] else []
def Fm.txt : Fm → Bool → List Nat
  | .leaf w n, _ => n.cps.toList ++ tilde w
  | .node w l r, h => if h = true then 40 :: (l.txt true ++ [32, markC w, 32] ++ r.txt true ++ [41]) else l.txt true ++ [32, markC w, 32] ++ r.txt true
def Fm.toks : Fm → Bool → List (List Nat)
  | .leaf w n, _ => [n.cps.toList ++ tilde w]
  | .node w l r, h => if h = true then [40] :: (l.toks true ++ [[markC w]] ++ r.toks true ++ [[41]]) else l.toks true ++ [[markC w]] ++ r.toks true
/-- tokens with any spaces between -/
inductive Spd : List (List Nat) → List Nat → Prop
  | nil (n : Nat) : Spd [] (List.replicate n 32)
  | cons (n : Nat) {t : List Nat} {ts : List (List Nat)} {r : List Nat} : Spd ts r → Spd (t :: ts) (List.replicate n 32 ++ (t ++ r))
theorem Spd.split : ∀ {ts us : List (List Nat)} {l : List Nat}, Spd ts l → Spd us [] → True := fun _ _ => trivial
theorem skip_rep (n : Nat) : ∀ (r : List Nat), r.head? ≠ some 32 → (List.replicate n 32 ++ r).drop (skipN (List.replicate n 32 ++ r)) = r := by
  induction n with
  | zero =>
    intro r h
    show r.drop (skipN r) = r
    cases r with
    | nil => rfl
    | cons k r =>
      unfold skipN
      rw [if_neg (fun z => h (by rw [z]; rfl))]
      rfl
  | succ n ih =>
    intro r h
    rw [List.replicate_succ, List.cons_append]
    unfold skipN
    rw [if_pos rfl, List.drop_succ_cons]
    exact ih r h
/-! ### the reader as a machine -/
abbrev Lv := Option (Fm × Nat × Str)
inductive FR where
  | ok (f : Fm) (d : Nat) (r : List Nat)
  | err (r : List Nat)
inductive Cfg where
  | A (st : List Lv) (r : List Nat)
  | B (st : List Lv) (f : Fm) (d : Nat) (r : List Nat)
def leafR (r : List Nat) : Except Nat (Fm × Nat) := match nameR r with
  | .error e => .error e
  | .ok n => if (r.drop n).head? = some 126 then .ok (.leaf "counter" (sL (r.take n)), n + 1) else .ok (.leaf "good" (sL (r.take n)), n)
def markOf (r : List Nat) : Option Str := match r with
  | [] => none
  | k :: _ => if k = 42 then some "both" else if k = 124 then some "between" else if k = 38 then some "offered" else if k = 43 then some "chosen" else none
def skp (r : List Nat) : List Nat := r.drop (skipN r)
def mach : Nat → Cfg → Option FR
  | 0, _ => none
  | n + 1, .A st r => match skp r with
    | 40 :: r2 => mach n (.A (none :: st) r2)
    | r1 => match leafR r1 with
      | .error e => some (.err (r1.drop e))
      | .ok (f, m) => mach n (.B st f 0 (r1.drop m))
  | n + 1, .B [] _ _ _ => none
  | n + 1, .B (some (g, e, w) :: st) f d r => match st with
    | [] => some (.ok (.node w g f) (max e d + 1) r)
    | _ :: _ => match skp r with
      | 41 :: r2 => mach n (.B st (.node w g f) (max e d + 1) r2)
      | r1 => some (.err r1)
  | n + 1, .B (none :: st) f d r => match markOf (skp r) with
    | none => if 0 < st.length ∨ 0 < d then some (.err (skp r)) else some (.ok f d (skp r))
    | some w => mach n (.A (some (f, d, w) :: st) ((skp r).drop 1))
/-- what may stand behind a leaf -/
def Stop (ts : List (List Nat)) : Prop := match ts with
  | [] => True
  | t :: _ => t = [41] ∨ t = [42] ∨ t = [124] ∨ t = [38] ∨ t = [43] ∨ t = [44]
def Steps (c c' : Cfg) : Prop := ∃ k, ∀ n, mach (n + k) c = mach n c'
theorem Steps.refl (c : Cfg) : Steps c c := ⟨0, fun _ => rfl⟩
theorem Steps.trans {a b c : Cfg} (h : Steps a b) (g : Steps b c) : Steps a c := by
  obtain ⟨k, h⟩ := h
  obtain ⟨j, g⟩ := g
  exact ⟨j + k, fun n => by rw [← Nat.add_assoc, h, g]⟩
theorem stop_no {ts : List (List Nat)} {r : List Nat} (h : Spd ts r) (s : Stop ts) : ∀ k, r.head? = some k → k ∉ alnum ∧ k ≠ 126 := by
  intro k hk
  cases h with
  | nil n =>
    cases n with
    | zero => cases hk
    | succ n => cases hk; decide +kernel
  | cons n h =>
    cases n with
    | succ n => cases hk; decide +kernel
    | zero =>
      rcases s with s | s | s | s | s | s <;> (subst s; cases hk; decide +kernel)
theorem runN_app : ∀ {a r : List Nat}, (∀ k ∈ a, k ∈ alnum) → (∀ k, r.head? = some k → k ∉ alnum) → runN (a ++ r) = a.length
  | [], r, _, h => by
    cases r with
    | nil => rfl
    | cons k r =>
      show runN (k :: r) = 0
      unfold runN
      rw [List.takeWhile_cons_of_neg (by simpa using h k rfl)]
      rfl
  | k :: a, r, ha, h => by
    have hk := ha k List.mem_cons_self
    have ih := runN_app (a := a) (r := r) (fun j hj => ha j (List.mem_cons_of_mem _ hj)) h
    show runN (k :: (a ++ r)) = _
    unfold runN at ih ⊢
    rw [List.takeWhile_cons_of_pos (by simpa using hk), List.length_cons, ih, List.length_cons]
theorem nameR_app {a r : List Nat} (ha : isNameL a = true) (h : ∀ k, r.head? = some k → k ∉ alnum) : nameR (a ++ r) = .ok a.length := by
  have hr := runN_app (isNameL_all ha) h
  have hl := isNameL_len ha
  cases a with
  | nil => cases ha
  | cons k a =>
    simp only [isNameL, Bool.and_eq_true, decide_eq_true_eq] at ha
    show (if k ∈ letters then (if runN (k :: a ++ r) ≤ 12 then _ else _) else _) = _
    rw [if_pos ha.2.1, hr, if_pos ha.1]
theorem leafW_str {w : Str} (h : leafW (.str w) = true) : w = "good" ∨ w = "counter" := by
  rcases leafW_or h with e | e <;> cases e
  · exact .inl rfl
  · exact .inr rfl
theorem halfW_str {w : Str} (h : halfW (.str w) = true) : w = "both" ∨ w = "between" ∨ w = "offered" ∨ w = "chosen" := by
  rcases halfW_or h with e | e | e | e <;> cases e
  · exact .inl rfl
  · exact .inr (.inl rfl)
  · exact .inr (.inr (.inl rfl))
  · exact .inr (.inr (.inr rfl))
theorem tilde_good : tilde "good" = [] := by unfold tilde; rw [if_neg (by decide +kernel)]
theorem tilde_counter : tilde "counter" = [126] := by unfold tilde; rw [if_pos rfl]
theorem leafR_app {w n : Str} {r : List Nat} (h : (Fm.leaf w n).ok = true) (hr : ∀ k, r.head? = some k → k ∉ alnum ∧ k ≠ 126) : leafR (n.cps.toList ++ tilde w ++ r) = .ok (.leaf w n, (n.cps.toList ++ tilde w).length) := by
  obtain ⟨h1, h2⟩ := Bool.and_eq_true_iff.mp h
  unfold leafR
  rcases leafW_str h1 with rfl | rfl
  · rw [tilde_good, List.append_nil, nameR_app h2 fun k hk => (hr k hk).1]
    simp only [List.drop_left, List.take_left, sL_self]
    rw [if_neg]
    intro z
    exact (hr _ z).2 rfl
  · rw [tilde_counter, List.append_assoc, nameR_app h2 fun k hk => by cases hk; decide +kernel]
    simp only [List.drop_left, List.take_left, sL_self]
    show (if (some 126 : Option Nat) = some 126 then _ else _) = _
    rw [if_pos rfl, List.length_append]
    rfl
theorem name_head {a : List Nat} (h : isNameL a = true) : ∃ k t, a = k :: t ∧ k ∈ letters := by
  cases a with
  | nil => cases h
  | cons k a =>
    simp only [isNameL, Bool.and_eq_true, decide_eq_true_eq] at h
    exact ⟨k, a, rfl, h.2.1⟩
theorem letter_no {k : Nat} (h : k ∈ letters) : k ≠ 32 ∧ k ≠ 40 ∧ k ≠ 41 ∧ k ≠ 126 := by
  refine ⟨?_, ?_, ?_, ?_⟩ <;> (rintro rfl; revert h; decide +kernel)
theorem mark_is {w : Str} (h : halfW (.str w) = true) (r : List Nat) : markOf (markC w :: r) = some w ∧ markC w ≠ 32 ∧ (markC w = 42 ∨ markC w = 124 ∨ markC w = 38 ∨ markC w = 43) := by
  have e1 : markC "both" = 42 := by decide +kernel
  have e2 : markC "between" = 124 := by decide +kernel
  have e3 : markC "offered" = 38 := by decide +kernel
  have e4 : markC "chosen" = 43 := by decide +kernel
  rcases halfW_str h with rfl | rfl | rfl | rfl
  · rw [e1]; exact ⟨rfl, by decide, by decide⟩
  · rw [e2]; exact ⟨rfl, by decide, by decide⟩
  · rw [e3]; exact ⟨rfl, by decide, by decide⟩
  · rw [e4]; exact ⟨rfl, by decide, by decide⟩
theorem skp_rep (n : Nat) {r : List Nat} (h : r.head? ≠ some 32) : skp (List.replicate n 32 ++ r) = r := skip_rep n r h
theorem Spd.one {k : Nat} {ts : List (List Nat)} {r : List Nat} (h : Spd ([k] :: ts) r) (hk : k ≠ 32) : ∃ r', skp r = k :: r' ∧ Spd ts r' := by
  cases h with
  | cons n h => exact ⟨_, skp_rep n (by intro z; cases z; exact hk rfl), h⟩
theorem half_reads : ∀ (f : Fm), f.ok = true → ∀ (st : List Lv) (ts : List (List Nat)) (r : List Nat), st ≠ [] → Stop ts → Spd (f.toks true ++ ts) r → ∃ r', Spd ts r' ∧ Steps (.A st r) (.B st f f.depth r')
  | .leaf w n, ho, st, ts, r, _, hs, h => by
    have h' : Spd ((n.cps.toList ++ tilde w) :: ts) r := h
    cases h' with
    | @cons m _ _ r' h' =>
      refine ⟨r', h', 1, fun k => ?_⟩
      obtain ⟨h1, h2⟩ := Bool.and_eq_true_iff.mp ho
      obtain ⟨c, t, e, hc⟩ := name_head h2
      have hne := letter_no hc
      have e1 : skp (List.replicate m 32 ++ (n.cps.toList ++ tilde w ++ r')) = n.cps.toList ++ tilde w ++ r' := skp_rep m (by rw [e]; intro z; cases z; exact hne.1 rfl)
      show (match skp (List.replicate m 32 ++ (n.cps.toList ++ tilde w ++ r')) with
        | 40 :: r2 => mach k (.A (none :: st) r2)
        | r1 => match leafR r1 with
          | .error e => some (.err (r1.drop e))
          | .ok (f, m) => mach k (.B st f 0 (r1.drop m))) = _
      rw [e1]
      have e2 := leafR_app ho (stop_no h' hs)
      split
      · rename_i r2 heq
        rw [e] at heq
        cases heq
        exact absurd rfl hne.2.1
      · rw [e2]
        simp only [List.drop_left]
        rfl
  | .node w a b, ho, st, ts, r, hst, hs, h => by
    obtain ⟨hw, ho2⟩ := Bool.and_eq_true_iff.mp ho
    obtain ⟨hoa, hob⟩ := Bool.and_eq_true_iff.mp ho2
    have ek : (Fm.node w a b).toks true ++ ts = [40] :: (a.toks true ++ ([markC w] :: (b.toks true ++ ([41] :: ts)))) := by
      show (if true = true then _ else _) ++ ts = _
      rw [if_pos rfl]
      simp [List.append_assoc]
    rw [ek] at h
    obtain ⟨r1, e1, h1⟩ := h.one (by decide)
    obtain ⟨mk1, mk2, mk3⟩ := mark_is hw ([] : List Nat)
    obtain ⟨r2, h2, s2⟩ := half_reads a hoa (none :: st) _ r1 (by simp) (by rcases mk3 with z | z | z | z <;> (rw [z]; simp [Stop])) h1
    obtain ⟨r3, e3, h3⟩ := h2.one mk2
    obtain ⟨r4, h4, s4⟩ := half_reads b hob (some (a, a.depth, w) :: st) _ r3 (by simp) (by simp [Stop]) h3
    obtain ⟨r5, e5, h5⟩ := h4.one (by decide)
    refine ⟨r5, h5, ?_⟩
    have t1 : Steps (.A st r) (.A (none :: st) r1) := ⟨1, fun n => by simp only [mach, e1]⟩
    have t3 : Steps (.B (none :: st) a a.depth r2) (.A (some (a, a.depth, w) :: st) r3) := ⟨1, fun n => by simp only [mach, e3, (mark_is hw r3).1, List.drop_succ_cons, List.drop_zero]⟩
    refine (t1.trans s2).trans (t3.trans (s4.trans ⟨1, fun n => ?_⟩))
    cases st with
    | nil => exact absurd rfl hst
    | cons x st =>
      simp only [mach, e5, Fm.depth]
theorem Spd.nil_skp {r : List Nat} (h : Spd [] r) : skp r = [] := by
  cases h with
  | nil n =>
    have := skp_rep n (r := []) (by simp)
    rwa [List.append_nil] at this
theorem whole_reads (f : Fm) (ho : f.ok = true) (r : List Nat) (h : Spd (f.toks false) r) : ∃ k r', skp r' = [] ∧ ∀ n, mach (n + k) (.A [none] r) = some (.ok f f.depth r') := by
  cases f with
  | leaf w n =>
    obtain ⟨r', h', k, hk⟩ := half_reads (.leaf w n) ho [none] [] r (by simp) trivial (by simpa [Fm.toks] using h)
    have e := h'.nil_skp
    refine ⟨1 + k, [], rfl, fun n => ?_⟩
    rw [← Nat.add_assoc, hk]
    simp [mach, e, markOf, Fm.depth]
  | node w a b =>
    obtain ⟨hw, ho2⟩ := Bool.and_eq_true_iff.mp ho
    obtain ⟨hoa, hob⟩ := Bool.and_eq_true_iff.mp ho2
    have ek : (Fm.node w a b).toks false = a.toks true ++ ([markC w] :: (b.toks true ++ [])) := by
      show (if false = true then _ else _) = _
      rw [if_neg Bool.false_ne_true]
      simp [List.append_assoc]
    rw [ek] at h
    obtain ⟨mk1, mk2, mk3⟩ := mark_is hw ([] : List Nat)
    obtain ⟨r2, h2, s2⟩ := half_reads a hoa [none] _ r (by simp) (by rcases mk3 with z | z | z | z <;> (rw [z]; simp [Stop])) h
    obtain ⟨r3, e3, h3⟩ := h2.one mk2
    obtain ⟨r4, h4, s4⟩ := half_reads b hob [some (a, a.depth, w)] [] r3 (by simp) trivial h3
    have t3 : Steps (.B [none] a a.depth r2) (.A [some (a, a.depth, w)] r3) := ⟨1, fun n => by simp only [mach, e3, (mark_is hw r3).1, List.drop_succ_cons, List.drop_zero]⟩
    obtain ⟨k, hk⟩ := s2.trans (t3.trans s4)
    refine ⟨1 + k, r4, h4.nil_skp, fun n => ?_⟩
    rw [← Nat.add_assoc, hk]
    rfl
/-- a text with its spaces, and the text itself -/
theorem Spd.pre : ∀ {ts us : List (List Nat)} {l m : List Nat}, Spd ts l → Spd us m → Spd (ts ++ us) (l ++ m) := by
  intro ts us l m h g
  induction h with
  | nil n =>
    cases g with
    | nil k => rw [List.replicate_append_replicate]; exact .nil _
    | @cons k t ts r g => rw [← List.append_assoc, List.replicate_append_replicate]; exact .cons _ g
  | @cons n t ts r h ih =>
    rw [List.append_assoc, List.append_assoc, List.cons_append]
    exact .cons n ih
theorem Spd.tok (t : List Nat) : Spd [t] t := by
  have := Spd.cons 0 (t := t) (Spd.nil 0)
  simpa using this
theorem Spd.sp : Spd [] [32] := .nil 1
theorem txt_spd : ∀ (f : Fm) (h : Bool), Spd (f.toks h) (f.txt h)
  | .leaf w n, _ => Spd.tok _
  | .node w a b, h => by
    have ha := txt_spd a true
    have hb := txt_spd b true
    have core : Spd (a.toks true ++ [[markC w]] ++ b.toks true) (a.txt true ++ [32, markC w, 32] ++ b.txt true) :=
      ((ha.pre (Spd.sp.pre ((Spd.tok [markC w]).pre Spd.sp))).pre hb)
    cases h with
    | false => exact core
    | true =>
      have := (Spd.tok [40]).pre (core.pre (Spd.tok [41]))
      show Spd (if true = true then _ else _) (if true = true then _ else _)
      rw [if_pos rfl, if_pos rfl]
      exact this
theorem join_spd : ∀ ts : List (List Nat), Spd ts ts.flatten
  | [] => .nil 0
  | t :: ts => (Spd.tok t).pre (join_spd ts)
end DL
namespace DL
theorem iteTh {b : Bool} {A B : Prop} (h : b = true) (a : A) : if b = true then A else B := by rw [if_pos h]; exact a
theorem iteFh {b : Bool} {A B : Prop} (h : b = false) (x : B) : if b = true then A else B := by rw [h, if_neg Bool.false_ne_true]; exact x
end DL
namespace DL
open PySem L2
/-! ### sizes of texts -/
theorem asc_lit {l : List Nat} (h : (l.all fun k => decide (k < 128)) = true) : asc l := fun k hk => of_decide_eq_true (List.all_eq_true.mp h k hk)
theorem tilde_len (w : Str) : (tilde w).length ≤ 1 := by unfold tilde; split <;> simp
theorem tilde_asc (w : Str) : asc (tilde w) := by unfold tilde; split <;> exact asc_lit rfl
theorem markC_lt (w : Str) : markC w < 128 := by
  unfold markC
  split
  · decide
  · split
    · decide
    · split <;> decide
theorem txt_le : ∀ f : Fm, (f.txt false).length ≤ (f.txt true).length
  | .leaf _ _ => Nat.le_refl _
  | .node w a b => by
    show (if false = true then _ else _ : List Nat).length ≤ (if true = true then _ else _ : List Nat).length
    rw [if_pos rfl, if_neg Bool.false_ne_true]
    simp only [List.length_cons, List.length_append]
    omega
theorem txt_size : ∀ f : Fm, f.ok = true → (f.txt true).length + 5 ≤ 18 * 2 ^ f.depth
  | .leaf w n, h => by
    have h2 := (Bool.and_eq_true_iff.mp h).2
    have := (isNameL_len h2).2
    have := tilde_len w
    show (n.cps.toList ++ tilde w).length + 5 ≤ 18 * 2 ^ 0
    rw [List.length_append]
    omega
  | .node w a b, h => by
    have h2 := Bool.and_eq_true_iff.mp (Bool.and_eq_true_iff.mp h).2
    have ia := txt_size a h2.1
    have ib := txt_size b h2.2
    show (if true = true then _ else _ : List Nat).length + 5 ≤ 18 * 2 ^ (max a.depth b.depth + 1)
    rw [if_pos rfl]
    simp only [List.length_cons, List.length_append, List.length_nil]
    have pa : 2 ^ a.depth ≤ 2 ^ max a.depth b.depth := Nat.pow_le_pow_right (by decide) (Nat.le_max_left _ _)
    have pb : 2 ^ b.depth ≤ 2 ^ max a.depth b.depth := Nat.pow_le_pow_right (by decide) (Nat.le_max_right _ _)
    rw [Nat.pow_succ]
    omega
theorem toks_le : ∀ f : Fm, (f.toks false).length ≤ (f.toks true).length
  | .leaf _ _ => Nat.le_refl _
  | .node w a b => by
    show (if false = true then _ else _ : List (List Nat)).length ≤ (if true = true then _ else _ : List (List Nat)).length
    rw [if_pos rfl, if_neg Bool.false_ne_true]
    simp only [List.length_cons, List.length_append]
    omega
theorem toks_size : ∀ f : Fm, (f.toks true).length + 3 ≤ 4 * 2 ^ f.depth
  | .leaf w n => by
    show 1 + 3 ≤ 4 * 2 ^ 0
    decide
  | .node w a b => by
    have ia := toks_size a
    have ib := toks_size b
    show (if true = true then _ else _ : List (List Nat)).length + 3 ≤ 4 * 2 ^ (max a.depth b.depth + 1)
    rw [if_pos rfl]
    simp only [List.length_cons, List.length_append, List.length_nil]
    have pa : 2 ^ a.depth ≤ 2 ^ max a.depth b.depth := Nat.pow_le_pow_right (by decide) (Nat.le_max_left _ _)
    have pb : 2 ^ b.depth ≤ 2 ^ max a.depth b.depth := Nat.pow_le_pow_right (by decide) (Nat.le_max_right _ _)
    rw [Nat.pow_succ]
    omega
theorem Spd.flat_le {ts : List (List Nat)} {l : List Nat} (h : Spd ts l) : ts.flatten.length ≤ l.length := by
  induction h with
  | nil n => exact Nat.zero_le _
  | cons n h ih => simp only [List.flatten_cons, List.length_append, List.length_replicate] at *; omega
theorem pow12 {d : Nat} (h : d ≤ 12) : 2 ^ d ≤ 4096 := Nat.pow_le_pow_right (n := 2) (by decide) h
theorem txt_12 {f : Fm} (ho : f.ok = true) (hd : f.depth ≤ 12) (h : Bool) : (f.txt h).length ≤ 73728 := by
  have := txt_size f ho
  have := pow12 hd
  have := txt_le f
  cases h <;> omega
theorem toks_12 {f : Fm} (hd : f.depth ≤ 12) (h : Bool) : (f.toks h).length ≤ 16384 := by
  have := toks_size f
  have := pow12 hd
  have := toks_le f
  cases h <;> omega
theorem asc_cons {k : Nat} {l : List Nat} (hk : k < 128) (h : asc l) : asc (k :: l) := fun j hj => by
  rcases List.mem_cons.mp hj with e | e
  · omega
  · exact h j e
theorem txt_asc : ∀ (f : Fm) (h : Bool), f.ok = true → asc (f.txt h)
  | .leaf w n, _, ho => asc_app (asc_name (Bool.and_eq_true_iff.mp ho).2) (tilde_asc w)
  | .node w a b, h, ho => by
    have h2 := Bool.and_eq_true_iff.mp (Bool.and_eq_true_iff.mp ho).2
    have core : asc (a.txt true ++ [32, markC w, 32] ++ b.txt true) := asc_app (asc_app (txt_asc a true h2.1) (asc_cons (by decide) (asc_cons (markC_lt w) (asc_lit rfl)))) (txt_asc b true h2.2)
    show asc (if h = true then _ else _)
    split
    · exact asc_cons (by decide) (asc_app core (asc_lit rfl))
    · exact core
theorem toks_asc : ∀ (f : Fm) (h : Bool), f.ok = true → ∀ t ∈ f.toks h, asc t
  | .leaf w n, _, ho => al_one (asc_app (asc_name (Bool.and_eq_true_iff.mp ho).2) (tilde_asc w))
  | .node w a b, h, ho => by
    have h2 := Bool.and_eq_true_iff.mp (Bool.and_eq_true_iff.mp ho).2
    have core : ∀ t ∈ a.toks true ++ [[markC w]] ++ b.toks true, asc t := al_app (al_app (toks_asc a true h2.1) (al_one (asc_cons (markC_lt w) (asc_lit rfl)))) (toks_asc b true h2.2)
    show ∀ t ∈ (if h = true then _ else _), asc t
    split
    · exact al_cons (asc_lit rfl) (al_app core (al_one (asc_lit rfl)))
    · exact core
theorem Fm.thin_ok {f : Fm} {n : Nat} (h : f.ok = true) (hn : f.depth < n) : f.toD.ok n = true := D.pl_ok _ _ (f.plain n h hn)
theorem mark_look {w : Str} (h : halfW (.str w) = true) : look (mergeD [] [((.inr "both" : Key), D.str "*"), (.inr "between", .str "|"), (.inr "offered", .str "&"), (.inr "chosen", .str "+")]) (.inr w) = some (.str (sL [markC w])) := by
  rcases halfW_str h with rfl | rfl | rfl | rfl
  · rw [show sL [markC "both"] = Str.ofString "*" by decide +kernel]; rfl
  · rw [show sL [markC "between"] = Str.ofString "|" by decide +kernel]; rfl
  · rw [show sL [markC "offered"] = Str.ofString "&" by decide +kernel]; rfl
  · rw [show sL [markC "chosen"] = Str.ofString "+" by decide +kernel]; rfl
end DL
namespace DL
open PySem L2
section
variable {X : Cx} {Y : Yc} {W : WX} {e a b : Expr} {pos : Pos}
/-! ### a list, a tuple that is there is not too long -/
def D.fit : D → Prop
  | .tup ds => ds.length ≤ LINE
  | .lst ds => ds.length ≤ LINE
  | _ => True
theorem Rep.fit {pins : List (Addr × Obj)} {σ : St} {H : Hp} {s : Shared} {G : Hp} {d : D} {v : V} (I : Inv X pins σ H s) (hK : Y.K = X.K) (hs : Same G H) (q : Rep Y G d v) : d.fit := by
  cases q with
  | tup h r =>
    obtain ⟨its, rv, ht, hz⟩ := I.tuple (hK ▸ sqT_mono hs h)
    show _ ≤ _
    rw [r.length, ← line_eq]
    exact hz
  | lst h r =>
    obtain ⟨its, rv, ht, hz⟩ := I.list (SqL.of (hs _ _ h))
    show _ ≤ _
    rw [r.length, ← line_eq]
    exact hz
  | _ => trivial
def mLn (m : ME) : ME := fun st P PX => m st (fun d s1 => d.fit → P d s1) PX
theorem de_ln {m : ME} (hY : Y.K = X.K) (h : DE X Y W e m) : DE X Y W e (mLn m) := by
  refine ⟨fun pins s σ H Q I ⟨G, st, P, PX, rr, hm, xp, k⟩ => ?_⟩
  refine thn (h.run pins s σ H (fun v H1 => ∃ d s1 G1, (d.fit → P d s1) ∧ Same G G1 ∧ Frm Y G st.mu H G1 s1.mu H1 ∧ R Y G1 s1 σ H1 ∧ Rep Y G1 d v) I ⟨G, st, _, PX, rr, hm, xp, fun d st' v G' H' hp g f r q => ⟨d, st', G', hp, g, f, r, q⟩⟩) fun u s1 ⟨v, H1, I1, rv, d, st', G', hp, g, f, r, q⟩ => ?_
  exact ⟨v, H1, I1, rv, k d st' v G' H1 (hp (q.fit I1 hY r.h.sub)) g f r q⟩
/-! ### == of dicts too -/
def eqK (es fs : List (Key × D)) : Bool := decide (es.length = fs.length) && es.all fun p => match look fs p.1 with | some d => eqvD p.2 d | none => false
def okK (es : List (Key × D)) : Prop := ∀ p ∈ es, p.2.ok 60 = true
def eqDK : O2 := fun mu d e P => match d, e with
  | .dct es, .dct fs => okK es ∧ okK fs ∧ P (.bl (eqK es fs))
  | d, e => eqD mu d e P
theorem Repk.length {G : Hp} {es : List (Key × D)} {ks : List (Key × V)} (h : Repk Y G es ks) : es.length = ks.length := by
  induction es generalizing ks with
  | nil => cases h; rfl
  | cons p es ih =>
    cases h with
    | cons k h r => rw [List.length_cons, List.length_cons, ih r]
theorem hitsD {pins : List (Addr × Obj)} {σ : St} {H : Hp} {s : Shared} {G : Hp} {A : Around} (I : Inv X pins σ H s) (hK : Y.K = X.K) (hs : Same G H) (hu : A.units + 62 < cLine) {fs : List (Key × D)} {us : List (Key × V)} {vb : List (Key × Value)} (qf : Repk Y G fs us) (rb : KV us vb) (of : okK fs) :
    ∀ {es : List (Key × D)} {ks : List (Key × V)} {va : List (Key × Value)}, Repk Y G es ks → KV ks va → okK es → PySem.W.KeqHits A s vb va (es.all fun p => match look fs p.1 with | some d => eqvD p.2 d | none => false)
  | [], _, _, .nil, ra, _ => by cases ra; exact .nil
  | (k, d) :: es, _, _, .cons _ h r, ra, oe => by
    cases ra with
    | @cons p q ps qs h1 t =>
      obtain ⟨e1, rv⟩ := h1
      obtain ⟨k', w⟩ := q
      have e1' : k = k' := e1
      subst e1'
      have ih := hitsD I hK hs hu qf rb of r t fun p hp => oe p (List.mem_cons_of_mem _ hp)
      have hl := qf.look k
      rw [List.all_cons]
      cases el : look fs k with
      | none =>
        have e2 := hl.2 el
        have rr : RelO (valV us k) (valueAt vb k) := rb.val k
        rw [e2] at rr
        have e3 : valueAt vb k = none := by
          cases z : valueAt vb k with
          | none => rfl
          | some y => rw [z] at rr; exact rr.elim
        show PySem.W.KeqHits A s vb ((k, w) :: qs) false
        exact .miss e3
      | some d2 =>
        obtain ⟨v2, e2, q2⟩ := hl.1 d2 el
        have rr : RelO (some v2) (valueAt vb k) := by rw [← e2]; exact rb.val k
        obtain ⟨y, hy, ry⟩ := rr.some_of
        have o1 := oe (k, d) List.mem_cons_self
        have o2 : d2.ok 60 = true := by
          unfold look at el
          cases ef : fs.find? (fun e => decide (e.1 = k)) with
          | none => rw [ef] at el; cases el
          | some z =>
            rw [ef] at el
            cases el
            exact of z (List.mem_of_find?_eq_some ef)
        obtain ⟨as, r1⟩ := Dp.reads I d.py _ _ (hK ▸ h.dp hs o1) rv
        obtain ⟨bs, r2⟩ := Dp.reads I d2.py _ _ (hK ▸ q2.dp hs o2) ry
        have l1 := D.ok_lay d 60 o1
        have l2 := D.ok_lay d2 60 o2
        exact .hit hy (PySem.SeqAt.eqAt_reads d.py d2.py A s w y as bs r1 r2 l1.1 l2.1 (by have := l1.2; omega)) ih
theorem od_eqK (hY : Y.K = X.K) (hu : X.A.units + 64 < cLine) : OpD X Y (compareOp .Eq) eqDK := by
  intro pins s σ H x y v u Q I rx ry ⟨G, mu, c, d, e, P, r0, qd, qe, h, k⟩
  by_cases hd : ∃ es fs, d = .dct es ∧ e = .dct fs
  · obtain ⟨es, fs, rfl, rfl⟩ := hd
    obtain ⟨o1, o2, h⟩ := h
    obtain ⟨a1, ks, rfl, h1, q1⟩ := qd.dctI
    obtain ⟨b1, us, rfl, h2, q2⟩ := qe.dctI
    obtain rfl : v = Value.ref a1 := rx
    obtain rfl : u = Value.ref b1 := ry
    obtain ⟨_, ya, va, ra, da⟩ := (show ObjOk X.prog X.w H s.heap a1 (.dK ks) from I.hok a1 _ (r0.sub _ _ h1))
    obtain ⟨_, yb, vb, rb, db⟩ := (show ObjOk X.prog X.w H s.heap b1 (.dK us) from I.hok b1 _ (r0.sub _ _ h2))
    have hl : (decide (es.length = fs.length)) = (va.length == vb.length) := by
      rw [q1.length, q2.length, ra.length, rb.length]
      rfl
    have e0 : eqK es fs = (va.length == vb.length && es.all fun p => match look fs p.1 with | some d => eqvD p.2 d | none => false) := by unfold eqK; rw [hl]
    exact PySem.W.keq_eq (knd := mixKind X.prog X.w) ya yb da db (by omega) (fun _ => hitsD I hY r0.sub (by show X.A.units + 1 + 62 < cLine; omega) q2 rb o2 q1 ra o1) (fin_bl I (k.here r0 h (.bl _)) e0)
  · have h' : eqD mu d e P := by
      unfold eqDK at h
      split at h
      · rename_i es fs
        exact absurd ⟨es, fs, rfl, rfl⟩ hd
      · exact h
    exact od_eq hY hu pins s σ H x y v u Q I rx ry ⟨G, mu, c, d, e, P, r0, qd, qe, h', k⟩
end
mutual
theorem D.eqv_refl : ∀ d : D, d.ok 64 = true → eqvD d d = true
  | .non, _ => rfl
  | .bl b, _ => by rw [eqv_bl2]; exact beq_self_eq_true b
  | .int i, _ => by rw [eqv_int2]; exact beq_self_eq_true i
  | .str s, _ => by rw [eqv_str2]; exact beq_self_eq_true s
  | .tup ds, h => by
    have h' : (decide (0 < 64) && D.oks ds 63) = true := h
    have := D.eqvs_refl ds (D.oks_mono ds 63 64 (by omega) (Bool.and_eq_true_iff.mp h').2)
    unfold eqvD eqvs at *
    simpa [D.py, PyData.eqv] using this
  | .lst ds, h => by
    have h' : (decide (0 < 64) && D.oks ds 63) = true := h
    have := D.eqvs_refl ds (D.oks_mono ds 63 64 (by omega) (Bool.and_eq_true_iff.mp h').2)
    unfold eqvD eqvs at *
    simpa [D.py, PyData.eqv] using this
  | .dct _, h => by cases h
  | .pen, h => by cases h
  | .ref _, h => by cases h
theorem D.eqvs_refl : ∀ ds : List D, D.oks ds 64 = true → eqvs ds ds = true
  | [], _ => by unfold eqvs; simp [D.pys, PyData.eqvAll]
  | d :: ds, h => by
    have h' := Bool.and_eq_true_iff.mp h
    have h1 := D.eqv_refl d h'.1
    have h2 := D.eqvs_refl ds h'.2
    unfold eqvD at h1
    unfold eqvs at h2 ⊢
    simp [D.pys, PyData.eqvAll, h1, h2]
end
theorem look_nodup : ∀ {es : List (Key × D)}, (es.map (·.1)).Nodup → ∀ p ∈ es, look es p.1 = some p.2
  | [], _, p, h => by cases h
  | q :: es, nd, p, h => by
    rw [List.map_cons, List.nodup_cons] at nd
    unfold look
    rcases List.mem_cons.mp h with e | h'
    · subst e
      rw [List.find?_cons_of_pos (by simp)]
      rfl
    · have hne : ¬ q.1 = p.1 := fun z => nd.1 (List.mem_map.mpr ⟨p, h', z.symm⟩)
      rw [List.find?_cons_of_neg (by simpa using hne)]
      exact look_nodup nd.2 p h'
theorem eqK_self {es : List (Key × D)} (nd : (es.map (·.1)).Nodup) (o : okK es) : eqK es es = true := by
  unfold eqK
  rw [Bool.and_eq_true_iff, List.all_eq_true]
  refine ⟨decide_eq_true rfl, fun p hp => ?_⟩
  rw [look_nodup nd p hp]
  exact D.eqv_refl p.2 (D.ok_mono _ _ _ (by omega) (o p hp))
end DL
namespace DL
open PySem L2 LamX PySem.Spec PyProof.Rows
/-! ### a display of lambdas that a for walks -/
/-- what is asked of one lambda of the display -/
structure LamB (X : Cx) (T : List (Addr × Str)) (k : Nat) (params : Arguments) (body : Expr) (scope : Scope) (mb : ME) : Prop where
  sc : LamS X.env.scope scope
  bind : ∀ (q : Str) (cl : List (Str × Addr)) (pm cv ctv : Value), bindArgs (PySem.W.kla_fn "<lambda>" q params body scope cl pm cv ctv) ⟨[], []⟩ = pure []
  body : ∀ (q : Qp) (A : Around) (outer : List Env) (s : Shared) (H : Hp) (E : XK) (f c' : Addr), Room k (A.deeper (lamEnv X scope s.heap.objs.size f c')) → Takes (lamCx X A outer s H E scope f c') (fun cls d _ H => E cls d H) →
      DE (lamCx X A outer s H E scope f c') (Yp X.K X.mg T q) (fun cls d _ H => E cls d H) body mb
inductive LamPs (X : Cx) (T : List (Addr × Str)) (k : Nat) : List Expr → List ME → Prop
  | nil : LamPs X T k [] []
  | cons {params : Arguments} {body : Expr} {scope : Scope} {lpos : Pos} {mb : ME} {es : List Expr} {mbs : List ME} : LamB X T k params body scope mb → defaultsOf params X.env = ([], []) → LamPs X T k es mbs → LamPs X T k (.Lambda params body scope lpos :: es) (mb :: mbs)
/-- f is the closure of a lambda that acts as mb; its record is among the things that stand -/
structure CloMk (X : Cx) (T : List (Addr × Str)) (os : List (Addr × Obj)) (rs : List (Addr × Str)) (k : Nat) (f : Addr) (mb : ME) : Prop where
  ex : ∃ (params : Arguments) (body : Expr) (scope : Scope) (c' : Addr) (pm ctv : Value), (f, PySem.W.kla_obj "<lambda>" (X.env.qual ++ "<lambda>") params body scope (cloFrom X.env.cells scope.names []) pm c' ctv) ∈ os ∧
    LamB X T k params body scope mb ∧ (c', X.env.qual ++ "<lambda>") ∈ rs ∧ f ∉ frs X.stack
theorem CloMk.mono {X : Cx} {T : List (Addr × Str)} {os os' : List (Addr × Obj)} {rs rs' : List (Addr × Str)} {k : Nat} {f : Addr} {mb : ME} (h : CloMk X T os rs k f mb) (h1 : ∀ x ∈ os, x ∈ os') (h2 : ∀ x ∈ rs, x ∈ rs') : CloMk X T os' rs' k f mb :=
  let ⟨a, b, c, d, e, g, i1, i2, i3, i4⟩ := h.ex
  ⟨a, b, c, d, e, g, h1 _ i1, i2, h2 _ i3, i4⟩
theorem LamB.tr {X : Cx} {T : List (Addr × Str)} {k : Nat} {params : Arguments} {body : Expr} {scope : Scope} {mb : ME} (B : LamB X T k params body scope mb) (pn : List (Addr × Obj)) (xe : Value → Shared → Prop) : LamB (X.tr pn xe) T k params body scope mb := ⟨B.sc, B.bind, B.body⟩
theorem CloMk.tr {X : Cx} {T : List (Addr × Str)} {os : List (Addr × Obj)} {rs : List (Addr × Str)} {k : Nat} {f : Addr} {mb : ME} (h : CloMk X T os rs k f mb) (pn : List (Addr × Obj)) (xe : Value → Shared → Prop) : CloMk (X.tr pn xe) T os rs k f mb :=
  let ⟨a, b, c, d, e, g, i1, i2, i3, i4⟩ := h.ex
  ⟨a, b, c, d, e, g, i1, i2.tr pn xe, i3, i4⟩
/-! many code objects more, or less -/
def Qp.adds (q : Qp) (rs : List (Addr × Str)) (G : Hp) : Qp := { q with raw := rs ++ q.raw, G0 := G }
section
variable {K : PySem.W.Frag} {mg : Str → Option Value} {T : List (Addr × Str)} {q : Qp} {G G1 : Hp} {mu : Mu} {c : Nat} {H : Hp} {rs : List (Addr × Str)}
theorem R0.fewer (h : R0 (Yp K mg T (q.adds rs G1)) G mu c H) (lo : Same q.G0 G) : R0 (Yp K mg T q) G mu c H :=
  ⟨h.sub, fun x m e => let ⟨h1, o, h2, h3⟩ := h.mus x m e; ⟨h1, o, h2, RM.conv (Y := Yp K mg T (q.adds rs G1)) (Y' := Yp K mg T q) rfl rfl rfl h3⟩, h.pen, ⟨h.ext.tab, h.ext.tabO, fun p hp => h.ext.raw p (List.mem_append_right _ hp), h.ext.pl, lo⟩⟩
theorem R0.many (h : R0 (Yp K mg T q) G mu c H) (hr : ∀ p ∈ rs, H p.1 = some (CodeO p.1 p.2)) (lo : Same G1 G) : R0 (Yp K mg T (q.adds rs G1)) G mu c H :=
  ⟨h.sub, fun x m e => let ⟨h1, o, h2, h3⟩ := h.mus x m e; ⟨h1, o, h2, RM.conv (Y := Yp K mg T q) (Y' := Yp K mg T (q.adds rs G1)) rfl rfl rfl h3⟩, h.pen, ⟨h.ext.tab, h.ext.tabO, fun p hp => by
    rcases List.mem_append.mp hp with z | z
    · exact ⟨hr p z, (h.codeOff (hr p z)).1, (h.codeOff (hr p z)).2.1⟩
    · exact h.ext.raw p z, h.ext.pl, lo⟩⟩
end
/-- the display's lambdas are made, from the left -/
theorem lams_make {X : Cx} {T : List (Addr × Str)} {q : Qp} {c P : Addr} {k : Nat} {pos : Pos} {E : Value → Shared → Prop} {G : Hp} {mu : Mu} {cc : Nat} {σ : L2.St} (hst : X.stack = X.env :: X.outer) (hfl : X.env.frame = some X.env.locals) (TB : TabB X.base X.mg c P) (hcode : X.env.code = .ref c) (hmT : (P, X.env.qual ++ "<lambda>") ∈ T) (hu : ∀ p ∈ T, p.1 = P → p.2 = X.env.qual ++ "<lambda>")
    {es : List Expr} {mbs : List ME} (hl : LamPs X T k es mbs) : ∀ {pins : List (Addr × Obj)} {H : Hp} {s : Shared} {Q : List Value → Shared → Prop}, Inv X pins σ H s → R0 (Yp X.K X.mg T q) G mu cc H →
      (∀ (fs : List Addr) (os : List (Addr × Obj)) (rs : List (Addr × Str)) (H1 : Hp) (s1 : Shared), Inv X (pins ++ os) σ H1 s1 → ExtN H H1 → R0 (Yp X.K X.mg T q) G mu cc H1 → (∀ p ∈ rs, H1 p.1 = some (CodeO p.1 p.2)) → fs.length = mbs.length → (∀ p ∈ fs.zip mbs, CloMk X T os rs k p.1 p.2) → Q (fs.map .ref) s1) →
      wpAny (model X.prog X.w) X.A (spliced (backTo pos (starEach es X.env))) Q E s := by
  induction hl with
  | nil =>
    intro pins H s Q I r K
    refine Calls.spliced_nil (K [] [] [] H s (by rw [List.append_nil]; exact I) (ExtN.refl H) r (fun _ z => nomatch z) rfl fun _ z => nomatch z)
  | @cons params body scope lpos mb es mbs B hdef hl ih =>
    intro pins H s Q I r K
    show wpAny _ _ (spliced ((false, eval (.Lambda params body scope lpos) X.env) :: backTo pos (starEach es X.env))) _ _ s
    refine Calls.spliced_cons (lam_make2 I TB hcode hmT hu r.ext.tab hdef (B.sc.has I.ok) fun f c' pm' ctv H1 s' I1 eN T1 hf hfn hfr hco => ?_)
    have hfr' : f ≠ X.env.locals ∧ f ∉ X.fs := by
      have z1 := hfr
      rw [hst] at z1
      unfold frs at z1
      rw [List.filterMap_cons, hfl] at z1
      exact ⟨fun z => z1 (by rw [z]; exact List.mem_cons_self), fun z => z1 (List.mem_cons_of_mem _ z)⟩
    have I1p : Inv X (pins ++ [(f, PySem.W.kla_obj "<lambda>" (X.env.qual ++ "<lambda>") params body scope (cloFrom X.env.cells scope.names []) pm' c' ctv)]) σ H1 s' := I1.pins_of fun pp hp => by
      rcases List.mem_append.mp hp with hp | hp
      · exact I1.pin pp (List.mem_append_right _ hp)
      · rcases List.mem_cons.mp hp with e | e
        · rw [e]
          exact ⟨hf, hfn, hfr'.1, hfr'.2, fun v z => by cases z⟩
        · cases e
    refine ih I1p (r.extN eN T1) fun fs os rs H2 s2 I2 e2 r2 hrs hlen hcl => ?_
    refine K (f :: fs) ((f, PySem.W.kla_obj "<lambda>" (X.env.qual ++ "<lambda>") params body scope (cloFrom X.env.cells scope.names []) pm' c' ctv) :: os) ((c', X.env.qual ++ "<lambda>") :: rs) H2 s2 (by rw [List.append_assoc] at I2; exact I2) (eN.trans e2) r2 (fun p hp => ?_) (by rw [List.length_cons, List.length_cons, hlen]) fun p hp => ?_
    · rcases List.mem_cons.mp hp with z | z
      · rw [z]
        exact e2 _ _ hco (code_no rfl).1
      · exact hrs p z
    · rcases List.mem_cons.mp hp with z | z
      · rw [z]
        exact ⟨params, body, scope, c', pm', ctv, List.mem_cons_self, B, List.mem_cons_self, hfr⟩
      · exact (hcl p z).mono (fun x hx => List.mem_cons_of_mem _ hx) fun x hx => List.mem_cons_of_mem _ hx
/-- the loop over things that are there -/
theorem forW {X : Cx} {Y : Yc} {W : WX} {g : MG} {ms : MS} {D : Ends} {σ : L2.St} {H : Hp} {G : Hp} {st : S} {E : DEnds} {PX : PXT} {ds : List DL.D} {J : It} (h1 : forGo g ms E PX ds st) (r1 : R Y G st σ H) (xp : XPost Y W G st σ H PX) (k : EndsOk Y G st H E D) (wk : Wk Y G J ds) :
    ∃ Wm : Nat → Nat → L2.St → Hp → Prop, (∃ m, Wm 0 m σ H) ∧ ∀ i m σ H, Wm i m σ H → (J.stop i H ∧ D.nx σ H) ∨ (J.go i H ∧ ∃ N : L2.St → Hp → Prop, (∀ σ' H', N σ' H' → ∃ m', m' < m ∧ Wm (i + 1) m' σ' H') ∧ ∀ x H', J.yld i H x H' → TGof Y g x σ H' fun σ2 H2 => TSof Y W ms { D with nx := N, ct := N, bk := D.nx } σ2 H2) := by
  refine ⟨fun i m σ2 H2 => m = ds.length - i ∧ i ≤ ds.length ∧ ∃ G' st', Same G G' ∧ Frm Y G st.mu H G' st'.mu H2 ∧ R Y G' st' σ2 H2 ∧ forGo g ms E PX (ds.drop i) st', ⟨ds.length, by simp, Nat.zero_le _, G, st, Same.refl _, .refl, r1, by rw [List.drop_zero]; exact h1⟩, ?_⟩
  rintro i m σ2 H2 ⟨rfl, hi, G2, s2, g2, f2, r2, h2⟩
  by_cases hlt : i < ds.length
  · refine .inr ⟨wk.go i H2 hlt (g2.trans r2.h.sub), fun σ' H' => ∃ G' st', Same G G' ∧ Frm Y G st.mu H G' st'.mu H' ∧ R Y G' st' σ' H' ∧ forGo g ms E PX (ds.drop (i + 1)) st', fun σ' H' hn => ⟨ds.length - (i + 1), by omega, rfl, hlt, hn⟩, fun x H3 hy => ?_⟩
    obtain ⟨d, G3, hd, g3, f3, r3, q3⟩ := wk.yld i H2 x H3 G2 s2.mu s2.c hlt g2 r2.h hy
    rw [drop_one hd] at h2
    refine ⟨G3, s2, d, _, ⟨r3, r2.s.mono g3⟩, q3, h2, fun s4 σ4 G4 H4 h4 g4 f4 r4 => ?_⟩
    have gg4 := (g2.trans g3).trans g4
    have ff4 := (f2.trans f3).trans f4
    refine ⟨G4, s4, _, PX, r4, h4, xp.on gg4 ff4, ⟨fun s5 σ5 G5 H5 h5 g5 f5 r5 => ?_, fun d5 s5 v5 σ5 G5 H5 h5 g5 f5 r5 q5 => ?_, fun s5 σ5 G5 H5 h5 g5 f5 r5 => ?_, fun s5 σ5 G5 H5 h5 g5 f5 r5 => ?_⟩⟩
    · exact ⟨G5, s5, gg4.trans g5, ff4.trans f5, r5, h5⟩
    · exact k.rt d5 s5 v5 σ5 G5 H5 h5 (gg4.trans g5) (ff4.trans f5) r5 q5
    · exact k.nx s5 σ5 G5 H5 h5 (gg4.trans g5) (ff4.trans f5) r5
    · exact ⟨G5, s5, gg4.trans g5, ff4.trans f5, r5, h5⟩
  · have e : i = ds.length := by omega
    subst e
    rw [List.drop_length] at h2
    exact .inl ⟨wk.stop H2 (g2.trans r2.h.sub), k.nx s2 σ2 G2 H2 h2 g2 f2 r2⟩
/-- the turns of a loop whose iterator is there, in a context that keeps more -/
theorem loopOn {X : Cx} {tg : Expr} {body : List Stmt} {g : TG} {tb : TS} {R : Result → Shared → Prop} (hp : PassesOwn (model X.prog X.w) X.A X.env X.xe) (hc : X.calm = true) (hg : PG X tg g) (hb : PSs X body tb) {s : Shared} {σ : L2.St} {H : Hp} {it : Addr} {fp : List Addr} {tn : Nat → Heap → Prop} {J : It}
    (I : Inv X [] σ H s) (Tn : Turn X.prog X.w X.K tg J fp it tn) (t0 : tn 0 s.heap) (fo : ∀ b ∈ fp, FpOk X [] H b) {D : Ends} {Wm : Nat → Nat → L2.St → Hp → Prop} (w0 : ∃ m, Wm 0 m σ H)
    (step : ∀ i m σ H, Wm i m σ H → (J.stop i H ∧ D.nx σ H) ∨ (J.go i H ∧ ∃ N : L2.St → Hp → Prop, (∀ σ' H', N σ' H' → ∃ m', m' < m ∧ Wm (i + 1) m' σ' H') ∧ ∀ x H', J.yld i H x H' → g x σ H' fun σ2 H2 => tb { D with nx := N, ct := N, bk := D.nx } σ2 H2))
    (hR : ∀ f z, SP X [] { D with bk := fun _ _ => False, ct := fun _ _ => False } f z → R (.ok f) z) (hE : ∀ e z, R (.error e) z = cameBackBy (model X.prog X.w) X.A X.env X.xe e z) :
    codeAny (model X.prog X.w) X.A (.forLoop tg (.ref it) body [] X.env) R s := by
  obtain ⟨m0, w0⟩ := w0
  have hE' : (fun e z => R (.error e) z) = cameBackBy (model X.prog X.w) X.A X.env X.xe := by
    funext e z
    exact hE e z
  have old : ∀ {Hy : Hp}, (∀ b ∈ fp, Hy b = none) → ∀ b ∈ fp, FpOk X [] Hy b := fun n b m => ⟨n b m, (fo b m).2⟩
  refine codeAny_forLoop_any (fun n z => ∃ (i : Nat) (ρ : L2.St) (Hz : Hp), (∀ b ∈ fp, Hz b = none) ∧ Inv X [] ρ Hz z ∧ Wm i n ρ Hz ∧ tn i z.heap) (fun n z hz => ?_) m0 ⟨0, σ, H, fun b m => (fo b m).1, I, w0, t0⟩
  rw [hE']
  obtain ⟨i, ρ, Hz, nz, Iz, wz, tz⟩ := hz
  rcases step i n ρ Hz wz with ⟨a1, a2⟩ | ⟨a1, N, a2, a3⟩
  · refine wpAny_passesOwn hp (wpAny_mono (Tn.done X rfl rfl rfl hc i [] z ρ Hz X.xe Iz (old nz) tz a1) (fun r y hy => ?_) fun _ _ x => x)
    obtain ⟨er, Iy⟩ := hy
    rw [er]
    exact wpAny_execs_nil (hR .next _ ⟨ρ, Hz, Iy, a2⟩)
  · refine wpAny_passesOwn hp (wpAny_mono (Tn.item X rfl rfl rfl hc i [] z ρ Hz X.xe Iz (old nz) tz a1) (fun r y hy => ?_) fun _ _ x => x)
    obtain ⟨u, er, hu⟩ := hy
    rw [er]
    refine wpAny_passesOwn hp (wpAny_mono hu (fun _ y2 hy2 => ?_) fun _ _ x => x)
    obtain ⟨x, Hx, Ix, rx, yx, tx, nx⟩ := hy2
    refine wpAny_passesOwn hp (wpAny_mono (hg.run _ y2 ρ Hx x u _ (Ix.pinned (old nx) (Tn.obj _ _ tx)) rx (a3 x Hx yx)) (fun _ y3 hy3 => ?_) fun _ _ x => x)
    obtain ⟨ρ3, H3, I3, q3⟩ := hy3
    refine wpAny_passesOwn hp (wpAny_mono (hb.run _ y3 ρ3 H3 _ I3 q3) (fun f y4 q4 => ?_) fun _ _ x => x)
    have on : ∀ {ρ4 : L2.St} {H4 : Hp}, Inv X ([] ++ pinsAt fp y2.heap) ρ4 H4 y4 → N ρ4 H4 → ∃ m, m < n ∧ ∃ (i : Nat) (ρ : L2.St) (Hz : Hp), (∀ b ∈ fp, Hz b = none) ∧ Inv X [] ρ Hz y4 ∧ Wm i m ρ Hz ∧ tn i y4.heap := fun {ρ4 H4} I4 n4 => by
      obtain ⟨m', lt, w4⟩ := a2 ρ4 H4 n4
      have at_ : ∀ b ∈ fp, ∀ o, y2.heap.get? b = some o → y4.heap.get? b = some o ∧ H4 b = none := fun b hb o e =>
        have z := I4.pin (b, o) (List.mem_append_right _ (List.mem_append_right _ (mem_pinsAt hb e)))
        ⟨z.1, z.2.1⟩
      refine ⟨m', lt, i + 1, ρ4, H4, fun b hb => ?_, I4.unpinned, w4, Tn.keep _ _ _ tx fun b hb o e => (at_ b hb o e).1⟩
      obtain ⟨o, e, _⟩ := Tn.obj _ _ tx b hb
      exact (at_ b hb o e).2
    cases f with
    | next => obtain ⟨ρ4, H4, I4, n4⟩ := q4; exact on I4 n4
    | cont => obtain ⟨ρ4, H4, I4, n4⟩ := q4; exact on I4 n4
    | brk => obtain ⟨ρ4, H4, I4, n4⟩ := q4; exact hR .next _ ⟨ρ4, H4, I4.unpinned, n4⟩
    | ret v => obtain ⟨x4, ρ4, H4, I4, r4, n4⟩ := q4; exact hR (.ret v) _ ⟨x4, ρ4, H4, I4.unpinned, r4, n4⟩
def mForLam (g : MG) (mbs : List ME) (ms : List (Addr × ME) → MS) : MS := fun st E PX => mbs.length ≤ sizeLine ∧ ∀ fs : List Addr, fs.length = mbs.length → forGo g (ms (fs.zip mbs)) E PX (fs.map D.ref) st
theorem takesTr {X : Cx} {W : WX} {pins : List (Addr × Obj)} (tk : Takes X W) (ok : X.Ok) : Takes (X.tr (X.pn ++ pins) X.xe) W := fun u s' ⟨a, B, sI, pins', σ, H, cls, d, e, I, nb, up, sky, na, os, ag, w⟩ =>
  tk u s' ⟨a, B, sI, pins, σ, H, cls, d, e, I.ofTry ok, nb, up, sky, na, os, ag, w⟩
theorem repsRef {Y : Yc} {G : Hp} : ∀ fs : List Addr, Reps Y G (fs.map D.ref) (fs.map V.ref)
  | [] => .nil
  | f :: fs => .cons (.ref f) (repsRef fs)
theorem valsRef : ∀ fs : List Addr, Vals (fs.map V.ref) (fs.map Value.ref)
  | [] => .nil
  | f :: fs => .cons rfl (valsRef fs)
/-- for x in [lambda: .., ..]: body -/
theorem ds_forLam {X : Cx} {T : List (Addr × Str)} {q : Qp} {W : WX} {c P : Addr} {k : Nat} {pos lpos : Pos} {tg : Expr} {body : List Stmt} {g : MG} {ms : List (Addr × ME) → MS} {es : List Expr} {mbs : List ME}
    (hp : PassesOwn (model X.prog X.w) X.A X.env X.xe) (hc : X.calm = true) (tk : Takes X W) (hst : X.stack = X.env :: X.outer) (hfl : X.env.frame = some X.env.locals) (TB : TabB X.base X.mg c P) (hcode : X.env.code = .ref c) (hmT : (P, X.env.qual ++ "<lambda>") ∈ T) (hu : ∀ p ∈ T, p.1 = P → p.2 = X.env.qual ++ "<lambda>")
    (hl : LamPs X T k es mbs) (hg : ∀ (q : Qp) (pn : List (Addr × Obj)), DG (X.tr pn X.xe) (Yp X.K X.mg T q) tg g)
    (hb : ∀ (q : Qp) (pn : List (Addr × Obj)) (cl : List (Addr × ME)), (∀ p ∈ cl, CloMk (X.tr pn X.xe) T pn q.raw k p.1 p.2) → Takes (X.tr pn X.xe) W → DSs (X.tr pn X.xe) (Yp X.K X.mg T q) W body (ms cl)) (hs : ∀ x, foldedSetIterable (.List es lpos) X.env x = pure x := by intro _; rfl) :
    DS X (Yp X.K X.mg T q) W (.For tg (.List es lpos) body [] pos) (mForLam g mbs ms) := by
  refine ⟨fun pins s σ H D I ⟨G, st, E, PX, rr, ⟨hz, hm⟩, xp, k0⟩ => ?_⟩
  refine wpAny_For (wpAny_List_spliced (lams_make (pos := lpos) hst hfl TB hcode hmT hu hl I rr.h fun fs os rs H1 s1 I1 eN r1 hrs hlen hcl => ?_)) hs
  refine ⟨by rw [List.length_map, hlen]; exact hz, ?_⟩
  have hf : H1 s1.heap.objs.size = none := I1.hok.fresh (Nat.le_refl _)
  have I2 := I1.laid (t' := s1.toks) (o := .lst (fs.map V.ref)) (h' := s1.heap.push { cls := .type "list", data := .seq (fs.map Value.ref).toArray }) (fun b u e => Heap.get?_push_of_some _ e) (Nat.le_refl _) ⟨by rw [List.length_map, hlen]; exact hz, _, 0, valsRef fs, Heap.get?_push_size _ rfl⟩
  have lo0 : Same q.G0 G := rr.h.ext.lo
  have r2 : R0 (Yp X.K X.mg T (q.adds rs G)) G st.mu st.c H1 := r1.many hrs (Same.refl G)
  obtain ⟨r3, gS, hS⟩ := r2.new hf (.lst (fs.map V.ref))
  have f1 : Frm (Yp X.K X.mg T q) G st.mu H (upd G s1.heap.objs.size (.lst (fs.map V.ref))) st.mu (upd H1 s1.heap.objs.size (.lst (fs.map V.ref))) := (Frm.extN eN).trans (.new hf)
  have rs3 : R (Yp X.K X.mg T (q.adds rs G)) (upd G s1.heap.objs.size (.lst (fs.map V.ref))) st σ (upd H1 s1.heap.objs.size (.lst (fs.map V.ref))) :=
    ⟨r3, (Sl.conv (Y := Yp X.K X.mg T q) (Y' := Yp X.K X.mg T (q.adds rs G)) rfl rfl rr.s).mono gS⟩
  have dnR : ∀ {G5 : Hp} {s5 : S} {σ5 : L2.St} {H5 : Hp}, Same G G5 → R (Yp X.K X.mg T (q.adds rs G)) G5 s5 σ5 H5 → R (Yp X.K X.mg T q) G5 s5 σ5 H5 := fun g5 r5 => ⟨r5.h.fewer (lo0.trans g5), Sl.conv (Y := Yp X.K X.mg T (q.adds rs G)) (Y' := Yp X.K X.mg T q) rfl rfl r5.s⟩
  have I3 := I2.toTry X.xe
  have tk3 : Takes (X.tr (X.pn ++ (pins ++ os)) X.xe) W := takesTr tk I.ok
  have hb3 := hb (q.adds rs G) (X.pn ++ (pins ++ os)) (fs.zip mbs) (fun p hp => ((hcl p hp).mono (fun x hx => List.mem_append_right _ (List.mem_append_right _ hx)) fun x hx => List.mem_append_left _ hx).tr _ _) tk3
  have hW := forW (X := X) (J := Itl X.K s1.heap.objs.size) (D := D) (hm fs hlen) rs3 (W := W)
    (fun x st' cls d σ' G' H' h1 g5 f5 r5 rx => xp x st' cls d σ' G' H' h1 (gS.trans g5) (f1.trans f5) (dnR (gS.trans g5) r5) (RepX.conv (Y := Yp X.K X.mg T (q.adds rs G)) (Y' := Yp X.K X.mg T q) rfl rfl rfl rx))
    ⟨fun s5 σ5 G5 H5 h5 g5 f5 r5 => k0.nx s5 σ5 G5 H5 h5 (gS.trans g5) (f1.trans f5) (dnR (gS.trans g5) r5), fun d5 s5 v5 σ5 G5 H5 h5 g5 f5 r5 q5 => k0.rt d5 s5 v5 σ5 G5 H5 h5 (gS.trans g5) (f1.trans f5) (dnR (gS.trans g5) r5) (Rep.conv (Y := Yp X.K X.mg T (q.adds rs G)) (Y' := Yp X.K X.mg T q) rfl rfl q5),
      fun s5 σ5 G5 H5 h5 g5 f5 r5 => k0.bk s5 σ5 G5 H5 h5 (gS.trans g5) (f1.trans f5) (dnR (gS.trans g5) r5), fun s5 σ5 G5 H5 h5 g5 f5 r5 => k0.ct s5 σ5 G5 H5 h5 (gS.trans g5) (f1.trans f5) (dnR (gS.trans g5) r5)⟩
    (wk_lst (X := X) upd_same (repsRef fs) rfl)
  obtain ⟨its, rv, pl, hzz⟩ := I3.list (SqL.of upd_same)
  have h4 : wpAny (model X.prog X.w) X.A (pyIter (.ref s1.heap.objs.size)) (PIE (X.tr (X.pn ++ (pins ++ os)) X.xe) [] σ tg (fun J H' => J = Itl X.K s1.heap.objs.size ∧ H' = upd H1 s1.heap.objs.size (.lst (fs.map V.ref)))) X.xe { s1 with heap := s1.heap.push { cls := .type "list", data := .seq (fs.map Value.ref).toArray } } :=
    wpAny_pyIter_list pl.isList (pi_one (tk := s1.toks) I3 _ (turn_list _ _) ⟨_, Heap.get?_push_size _ rfl, rfl, rfl⟩ ⟨rfl, rfl⟩)
  refine wpAny_mono h4 (fun itv s2 h5 => ?_) fun _ _ x => x
  obtain ⟨it, fp, tn, J, H5, e1, I5, Tn, t0, fo, e2, e3⟩ := h5
  rw [e1]
  rw [e2] at Tn
  rw [e3] at I5 fo
  obtain ⟨Wm, w0, step⟩ := hW
  refine loopOn (X := X.tr (X.pn ++ (pins ++ os)) X.xe) hp hc (hg (q.adds rs G) _) hb3 I5 Tn t0 fo (D := D) w0 step (fun f z hz => ?_) fun e z => rfl
  have dn : ∀ {ρ : L2.St} {Hz : Hp}, Inv (X.tr (X.pn ++ (pins ++ os)) X.xe) [] ρ Hz z → Inv X pins ρ Hz z := fun Iz => (Iz.ofTry I.ok).unpinned
  cases f with
  | next => obtain ⟨ρ, Hz, Iz, qz⟩ := hz; exact ⟨ρ, Hz, dn Iz, qz⟩
  | cont => obtain ⟨ρ, Hz, Iz, qz⟩ := hz; exact qz.elim
  | brk => obtain ⟨ρ, Hz, Iz, qz⟩ := hz; exact qz.elim
  | ret v => obtain ⟨x, ρ, Hz, Iz, rz, qz⟩ := hz; exact ⟨x, ρ, Hz, dn Iz, rz, qz⟩
/-- x(f, ..), f the lambda of this turn -/
def mPassL (csp : CSp) (i : Nat) (cl : List (Addr × ME)) (n : MA) : ME := fun st P PX => ∃ p : Addr × ME, p ∈ cl ∧ st.r[i]? = some (some (.ref p.1)) ∧ n st (fun ds s1 => csp (behOf s1 p.2) ds s1.mu s1.c (fun d mu c => P d { s1 with mu := mu, c := c }) (fun x mu c => PX x { s1 with mu := mu, c := c })) PX
theorem de_passL {X : Cx} {T : List (Addr × Str)} {q : Qp} {W : WX} {csp : CSp} {x v : Str} {k j i : Nat} {rest : List Expr} {mn : MA} {p pv pos : Pos} {cl : List (Addr × ME)} (F : CFn X.prog X.w X.K X.mg T X.base j x csp) (tk : Takes X W) (hg : Gl X x) (hcl : ∀ p ∈ cl, CloMk X T X.pn q.raw k p.1 p.2)
    (hr : Room (k + j + 1) X.A) (hN : X.N[i]? = some v) (hvis : Vis X.env.scope v) (ha : DA X (Yp X.K X.mg T q) W rest mn) (hse : starEach (.Name v pv :: rest) X.env = (false, eval (.Name v pv) X.env) :: starEach rest X.env := by rfl) (hpl : (backTo pos (starEach rest X.env)).any (·.1) = false := by rfl)
    (hdb : (x == ("__debug__" : Str)) = false := by decide) (hd : (v == ("__debug__" : Str)) = false := by decide) (hcd : (v == ("__classdict__" : Str)) = false := by decide) : DE X (Yp X.K X.mg T q) W (.Call (.Name x p) (.Name v pv :: rest) [] pos) (mPassL csp i cl mn) := by
  obtain ⟨g, pg, bg, sg, doc, pm, cdv, ct, oc, kV, an, od, osl, Ng, ps, a, mf, hm, hk, lk, hcg, hb, Sg, hder, hrd⟩ := F.ex
  refine ⟨fun pins s σ H Q I ⟨G, st, P1, PX, rr, ⟨⟨f, mb⟩, hin, hr0, hmn⟩, xp, kq⟩ => ?_⟩
  obtain ⟨params, body, scope, c', pm', ctv, hpn, B, hraw, hfr⟩ := (hcl _ hin).ex
  obtain ⟨v0, e0, q0⟩ := rr.s.2 i _ hr0
  cases q0
  refine wpAny_Call_Name_kw (ld_glob I hg hm ?_ hdb)
  have hpv : PE X (.Name v pv) (tVar i) := pe_var (i := i) hN hvis hd hcd
  refine PySem.W.callWith_K (h₀ := X.base) I.ok.mod.kin hk (thn ((pa_cons hpv ha hse).run pos pins s σ H (fun us H2 => ∃ vs ds s2 G2, us = .ref f :: vs ∧ csp (behOf s2 mb) ds s2.mu s2.c (fun d mu c => P1 d { s2 with mu := mu, c := c }) (fun x mu c => PX x { s2 with mu := mu, c := c }) ∧ Same G G2 ∧ Frm (Yp X.K X.mg T q) G st.mu H G2 s2.mu H2 ∧ R (Yp X.K X.mg T q) G2 s2 σ H2 ∧ Reps (Yp X.K X.mg T q) G2 ds vs) I
    ⟨.ref f, e0, G, st, _, PX, rr, hmn, xp, fun ds s2 vs G2 H2 h2 g2 f2 r2 q2 => ⟨vs, ds, s2, G2, rfl, h2, g2, f2, r2, q2⟩⟩) fun us s2 ⟨vs1, H2, I2, rv1, vs, ds, st2, G2, evs, hcs, g2, f2, r2, q2⟩ => ?_) hse hpl
  subst evs
  refine ⟨I2.kIn, ?_⟩
  obtain ⟨hf2, hfn2, _⟩ := I2.pin _ (List.mem_append_left _ hpn)
  obtain ⟨hco2, m1, m2⟩ := r2.h.ext.raw _ hraw
  obtain ⟨n1, n2, n3⟩ := r2.h.codeOff hco2
  have r3 := r2.h.moreRaw (G1 := G2) hco2 m1 m2 (Same.refl G2)
  have lo2 : Same q.G0 G2 := r2.h.ext.lo
  have hck := hrd f (behOf st2 mb) (behOf_mono _ _) ds st2.mu st2.c _ _ hcs
  have rc : codeAny (model X.prog X.w) X.A (.call (.ref g) ⟨us, []⟩) (CR (L2.CX X.prog X.w) X.stack X.prog X.w H2 s2 Q (WE W σ)) s2 := by
    have hlen : us.length = (a :: ps).length := by rw [← rv1.length, List.length_cons, ← q2.length, hck.1, List.length_cons]
    have hb2 := hb s2 us I2.kIn (by rw [List.append_nil]; exact hlen)
    rw [List.append_nil] at hb2
    refine run_ofS (N := Ng) (ps := a :: ps) (us := us) (vs := .ref f :: vs) lk hcg Sg hr I2.env0 hb2 rv1 (by rw [rv1.length]; exact hlen) fun hr' => ?_
    have hZ := hder (cxOf (L2.CX X.prog X.w) X.prog X.w X.K X.mg X.base Ng x sg g cdv X.A X.stack s2 H2 (WE W σ)) (q.add c' (X.env.qual ++ "<lambda>") G2) (fun cls d _ H => WE W σ cls d H) f k (behOf st2 mb) (behOf_mono _ _) ⟨_, _, _, _, _, rfl⟩
      ⟨frs X.stack, s2.heap, H2, clo_of_lam I2 B.sc hf2 hfn2 hfr (B.bind _ _ _ _ _) (fun A outer s H E hr2 => B.body q A outer s H E f c' hr2 (takes_of rfl rfl rfl rfl)) r2 n3, Un.refl, fun y hy => .inl hy, rfl⟩ (takes_of rfl rfl rfl rfl) hr' (passes_of rfl)
    refine ⟨_, hZ, G2, S0 Ng (a :: ps) (.ref f :: ds) st2.mu st2.c, _, _, ⟨r3, ?_⟩, hck.2, fun y s5 cls d σ5 G5 H5 ⟨c5, l5, hx⟩ g5 f5 r5 rx => ?_, ⟨fun s5 σ5 G5 H5 ⟨c5, l5, hP⟩ g5 f5 r5 => ?_, fun d s5 v σ5 G5 H5 ⟨c5, l5, hP⟩ g5 f5 r5 q5 => ?_, fun _ _ _ _ z => z.elim, fun _ _ _ _ z => z.elim⟩⟩
    · have e1 : Ng.length - (V.ref f :: vs).length = Ng.length - (a :: ps).length := by rw [List.length_cons, List.length_cons, ← q2.length, hck.1]
      show Sl _ G2 _ (L2.start Ng (.ref f :: vs))
      unfold L2.start
      rw [e1]
      exact Sl.start (.cons (.ref f) (Reps.conv (Y := Yp X.K X.mg T q) (Y' := Yp X.K X.mg T (q.add c' (X.env.qual ++ "<lambda>") G2)) rfl rfl q2)) _
    · exact xp y { st2 with mu := s5.mu, c := c5 } cls d σ G5 H5 hx (g2.trans g5) (f2.trans f5) ⟨(r5.h.less lo2).more l5, r2.s.mono g5⟩ rx.dn
    · exact kq .non { st2 with mu := s5.mu, c := c5 } .non G5 H5 hP (g2.trans g5) (f2.trans f5) ⟨(r5.h.less lo2).more l5, r2.s.mono g5⟩ .non
    · exact kq d { st2 with mu := s5.mu, c := c5 } v G5 H5 hP (g2.trans g5) (f2.trans f5) ⟨(r5.h.less lo2).more l5, r2.s.mono g5⟩ q5.dn
  refine wpAny_call (codeAny_mono rc fun r s3 hq => ?_)
  cases r with
  | error e => exact passAt tk σ pins H2 s2 e s3 I2 hq
  | ok fl =>
    cases fl with
    | ret u => exact I2.after hq
    | next => exact False.elim hq
    | brk => exact False.elim hq
    | cont => exact False.elim hq
end DL
namespace DL
open PySem L2 PySem.Spec PyProof.Rows
/-! ### list comprehensions with two fors -/
section
variable {X : Cx} {Y : Yc}
/-- the growing list at A, over what stood before it -/
structure LcI (Y : Yc) (Gb : Hp) (mub : Mu) (Hb : Hp) (A : Addr) (G : Hp) (mu : Mu) (c : Nat) (acc : List DL.D) (ys : List V) (H : Hp) : Prop where
  g : Same Gb G
  f : Frm Y Gb mub Hb G mu H
  r : R0 Y G mu c H
  a1 : G A = none
  a2 : mu A = none
  at_ : H A = some (.lst ys)
  q : Reps Y G acc ys
variable {Gb : Hp} {mub : Mu} {Hb : Hp} {A : Addr} {G : Hp} {mu : Mu} {c : Nat} {acc : List DL.D} {ys : List V} {H : Hp}
theorem LcI.on {G2 : Hp} {mu2 : Mu} {c2 : Nat} {H2 : Hp} (L : LcI Y Gb mub Hb A G mu c acc ys H) (n3 : A ≠ Y.p) (s : Same G G2) (f : Frm Y G mu H G2 mu2 H2) (r : R0 Y G2 mu2 c2 H2) : LcI Y Gb mub Hb A G2 mu2 c2 acc ys H2 :=
  let ⟨e, b1, b2⟩ := f A _ L.at_ L.a1 L.a2 ⟨n3, frm_lst⟩
  ⟨L.g.trans s, L.f.trans f, r, b1, b2, e, L.q.mono s⟩
theorem LcI.put {d : DL.D} {v : V} (L : LcI Y Gb mub Hb A G mu c acc ys H) (hA : Hb A = none) (n3 : A ≠ Y.p) (q : Rep Y G d v) : LcI Y Gb mub Hb A G mu c (acc ++ [d]) (ys ++ [v]) (upd H A (.lst (ys ++ [v]))) :=
  ⟨L.g, fun a o z1 z2 z3 z4 => let ⟨w1, w2, w3⟩ := L.f a o z1 z2 z3 z4; ⟨by rw [upd_ne (ne_of_none z1 hA)]; exact w1, w2, w3⟩, L.r.turn L.a1 L.a2 n3 (fun o z => by rw [L.at_] at z; cases z; exact plain_lst) _, L.a1, L.a2, upd_same, L.q.append (.cons q .nil)⟩
/-- the turns of one for -/
theorem lc_turns {vs : List Nat} {g' : TG} {g : MG} {t : MT} {m : ME} (hgw : GW Y vs g' g) (hA : Hb A = none) (n3 : A ≠ Y.p) (L : LcI Y Gb mub Hb A G mu c acc ys H) {s1 : S} {σ : L2.St} (sl : Sl Y G s1.r σ) {ds : List DL.D} {J : It} (wk : Wk Y G J ds) {P : List DL.D → S → Prop}
    (h : lcGo (lcBody s1.r vs g t m) ds acc { s1 with mu := mu, c := c } P) {Nx : Hp → Prop} (k : ∀ G' mu' c' acc' ys' H', Same G G' → LcI Y Gb mub Hb A G' mu' c' acc' ys' H' → P acc' { s1 with mu := mu', c := c' } → Nx H') :
    ∃ W1 : Nat → Nat → Hp → Prop, (∃ m, W1 0 m H) ∧ ∀ j k H, W1 j k H → (J.stop j H ∧ Nx H) ∨ (J.go j H ∧ ∃ Nx1 : Hp → Prop, (∀ H', Nx1 H' → ∃ k', k' < k ∧ W1 (j + 1) k' H') ∧ ∀ x H', J.yld j H x H' → g' x (L2.wipe σ vs) H' fun σ3 H5 => L2.wipe σ3 vs = L2.wipe σ vs ∧ TTof Y W0 t σ3 H5 fun b H6 =>
      if b = true then TEof Y W0 m σ3 H6 fun y H7 => ∃ acc, H7 A = some (.lst acc) ∧ acc.length < sizeLine ∧ Nx1 (upd H7 A (.lst (acc ++ [y]))) else Nx1 H6) := by
  refine ⟨fun i m0 H => m0 = ds.length - i ∧ i ≤ ds.length ∧ ∃ G' mu' c' acc ys, Same G G' ∧ LcI Y Gb mub Hb A G' mu' c' acc ys H ∧ lcGo (lcBody s1.r vs g t m) (ds.drop i) acc { s1 with mu := mu', c := c' } P,
    ⟨ds.length, by simp, Nat.zero_le _, G, mu, c, acc, ys, Same.refl _, L, by rw [List.drop_zero]; exact h⟩, ?_⟩
  rintro i m0 H2 ⟨rfl, hi, G2, mu2, c2, acc2, ys2, g2, L2', h2⟩
  by_cases hlt : i < ds.length
  · refine .inr ⟨wk.go i H2 hlt (g2.trans L2'.r.sub), fun H' => ∃ G' mu' c' acc ys, Same G G' ∧ LcI Y Gb mub Hb A G' mu' c' acc ys H' ∧ lcGo (lcBody s1.r vs g t m) (ds.drop (i + 1)) acc { s1 with mu := mu', c := c' } P,
      fun H' hn => ⟨ds.length - (i + 1), by omega, rfl, hlt, hn⟩, fun x H3 hy => ?_⟩
    obtain ⟨d, G3, hd, g3, f3, r3, q3⟩ := wk.yld i H2 x H3 G2 mu2 c2 hlt g2 L2'.r hy
    rw [drop_one hd] at h2
    refine hgw G3 { r := wipeD s1.r vs, mu := mu2, c := c2 } (L2.wipe σ vs) H3 d x _ _ ⟨r3, ((sl.mono g2).mono g3).wipe vs⟩ q3 h2 fun s4 σ4 G4 H4 h4 g4 f4 r4 ew => ?_
    refine ⟨by rw [ew, wipe_wipe vs vs fun _ h => h], G4, s4, fun b s3 => if b = true then m s3 (fun y s4 => acc2.length < LINE ∧ lcGo (lcBody s1.r vs g t m) (ds.drop (i + 1)) (acc2 ++ [y]) { s1 with mu := s4.mu, c := s4.c } P) PX0 else lcGo (lcBody s1.r vs g t m) (ds.drop (i + 1)) acc2 { s1 with mu := s3.mu, c := s3.c } P, PX0, r4, h4, fun _ _ _ _ _ _ _ z => z.elim, fun b s5 G5 H5 h5 g5 f5 r5 => ?_⟩
    have gg := (g3.trans g4).trans g5
    have L5 := L2'.on n3 gg ((f3.trans f4).trans f5) r5.h
    cases b with
    | false =>
      show ∃ G' mu' c' acc ys, Same G G' ∧ LcI Y Gb mub Hb A G' mu' c' acc ys H5 ∧ lcGo (lcBody s1.r vs g t m) (ds.drop (i + 1)) acc { s1 with mu := mu', c := c' } P
      exact ⟨G5, s5.mu, s5.c, acc2, ys2, g2.trans gg, L5, h5⟩
    | true =>
      show TEof Y W0 m σ4 H5 _
      refine ⟨G5, s5, _, PX0, r5, h5, fun _ _ _ _ _ _ _ z => z.elim, fun y s6 v G6 H6 ⟨l6, h6⟩ g6 f6 r6 q6 => ?_⟩
      have L6 := L5.on n3 g6 f6 r6.h
      exact ⟨ys2, L6.at_, by rw [← L6.q.length, line_eq]; exact l6, G6, s6.mu, s6.c, acc2 ++ [y], ys2 ++ [v], g2.trans (gg.trans g6), L6.put hA n3 q6, h6⟩
  · have e : i = ds.length := by omega
    subst e
    rw [List.drop_length] at h2
    exact .inl ⟨wk.stop H2 (g2.trans L2'.r.sub), k G2 mu2 c2 acc2 ys2 H2 g2 L2' h2⟩
def lc2Go (turn : DL.D → List DL.D → S → (List DL.D → S → Prop) → Prop) : List DL.D → List DL.D → S → (List DL.D → S → Prop) → Prop
  | [], acc, st, P => P acc st
  | d :: ds, acc, st, P => turn d acc st fun acc' st' => lc2Go turn ds acc' st' P
def lc2Turn (r0 : List (Option DL.D)) (vs : List Nat) (g : MG) (t : MT) (mi1 : MA) (vs1 : List Nat) (g1 : MG) (t1 : MT) (m : ME) : DL.D → List DL.D → S → (List DL.D → S → Prop) → Prop := fun d acc st K =>
  g d { st with r := wipeD r0 vs } fun s2 => t s2 (fun b s3 => if b = true then mi1 s3 (fun es s4 => lcGo (lcBody s4.r vs1 g1 t1 m) es acc s4 fun acc' s5 => K acc' { st with mu := s5.mu, c := s5.c }) PX0 else K acc { st with mu := s3.mu, c := s3.c }) PX0
def mLc2 (mi : MA) (vs : List Nat) (g : MG) (t : MT) (mi1 : MA) (vs1 : List Nat) (g1 : MG) (t1 : MT) (m : ME) : ME := fun st P PX => mi st (fun ds s1 => lc2Go (lc2Turn s1.r vs g t mi1 vs1 g1 t1 m) ds [] s1 (fun ys s2 => P (.lst ys) s2)) PX
theorem lc2_ok {W : WX} {vs vs1 : List Nat} {g' g1' : TG} {g g1 : MG} {t t1 : MT} {m : ME} {mi mi1 : MA} (hgw : GW Y vs g' g) (hgw1 : GW Y vs1 g1' g1) : ∀ σ H Q, TEof Y W (mLc2 mi vs g t mi1 vs1 g1 t1 m) σ H Q → tLc2 (TIof Y W mi) g' (TTof Y W0 t) (TIof Y W0 mi1) g1' (TTof Y W0 t1) (TEof Y W0 m) vs vs1 σ H Q := fun σ H Q ⟨G, st, P, PX, rr, hm, xp, k⟩ =>
  ⟨G, st, _, PX, rr, hm, xp, fun ds s1 G1 H1 J h1 g1' f1 r1 wk A hA => by
    obtain ⟨n1, n2, n3⟩ := r1.h.fresh hA
    refine ⟨fun i m0 H => m0 = ds.length - i ∧ i ≤ ds.length ∧ ∃ G' mu' c' acc ys, LcI Y G1 s1.mu H1 A G' mu' c' acc ys H ∧ lc2Go (lc2Turn s1.r vs g t mi1 vs1 g1 t1 m) (ds.drop i) acc { s1 with mu := mu', c := c' } (fun ys s2 => P (.lst ys) s2),
      ⟨ds.length, by simp, Nat.zero_le _, G1, s1.mu, s1.c, [], [], ⟨Same.refl _, .add hA, r1.h.add hA _, n1, n2, upd_same, .nil⟩, by rw [List.drop_zero]; exact h1⟩, ?_⟩
    rintro i m0 H2 ⟨rfl, hi, G2, mu2, c2, acc, ys, L, h2⟩
    have sl2 : Sl Y G2 s1.r σ := r1.s.mono L.g
    by_cases hlt : i < ds.length
    · refine .inr ⟨wk.go i H2 hlt (L.g.trans L.r.sub), fun H' => ∃ G' mu' c' acc ys, LcI Y G1 s1.mu H1 A G' mu' c' acc ys H' ∧ lc2Go (lc2Turn s1.r vs g t mi1 vs1 g1 t1 m) (ds.drop (i + 1)) acc { s1 with mu := mu', c := c' } (fun ys s2 => P (.lst ys) s2),
        fun H' hn => ⟨ds.length - (i + 1), by omega, rfl, hlt, hn⟩, fun x H3 hy => ?_⟩
      obtain ⟨d, G3, hd, g3, f3, r3, q3⟩ := wk.yld i H2 x H3 G2 mu2 c2 hlt L.g L.r hy
      rw [drop_one hd] at h2
      refine hgw G3 { r := wipeD s1.r vs, mu := mu2, c := c2 } (L2.wipe σ vs) H3 d x _ _ ⟨r3, (sl2.mono g3).wipe vs⟩ q3 h2 fun s4 σ4 G4 H4 h4 g4 f4 r4 ew => ?_
      refine ⟨by rw [ew, wipe_wipe vs vs fun _ h => h], G4, s4, _, PX0, r4, h4, fun _ _ _ _ _ _ _ z => z.elim, fun b s5 G5 H5 h5 g5 f5 r5 => ?_⟩
      have L5 := L.on n3 ((g3.trans g4).trans g5) ((f3.trans f4).trans f5) r5.h
      cases b with
      | false =>
        show ∃ G' mu' c' acc ys, LcI Y G1 s1.mu H1 A G' mu' c' acc ys H5 ∧ lc2Go (lc2Turn s1.r vs g t mi1 vs1 g1 t1 m) (ds.drop (i + 1)) acc { s1 with mu := mu', c := c' } (fun ys s2 => P (.lst ys) s2)
        exact ⟨G5, s5.mu, s5.c, acc, ys, L5, h5⟩
      | true =>
        show TIof Y W0 mi1 σ4 H5 _
        refine ⟨G5, s5, _, PX0, r5, h5, fun _ _ _ _ _ _ _ z => z.elim, fun es s6 G6 H6 J1 h6 g6 f6 r6 wk1 => ?_⟩
        have L6 := L5.on n3 g6 f6 r6.h
        exact lc_turns (s1 := s6) hgw1 hA n3 L6 r6.s wk1 h6 fun G' mu' c' acc' ys' H' _ L' hk => ⟨G', mu', c', acc', ys', L', hk⟩
    · have e : i = ds.length := by omega
      subst e
      rw [List.drop_length] at h2
      refine .inl ⟨wk.stop H2 (L.g.trans L.r.sub), ?_⟩
      have eu : upd H2 A (.lst ys) = H2 := by
        funext b
        unfold upd
        split
        · rename_i hb
          rw [hb, L.at_]
        · rfl
      have r3 := L.r.take L.a1 L.a2 n3 (fun o z => by rw [L.at_] at z; cases z; exact plain_lst) (.lst ys)
      rw [eu] at r3
      refine k _ { s1 with mu := mu2, c := c2 } _ (upd G2 A (.lst ys)) H2 h2 ((g1'.trans L.g).trans (same_upd L.a1)) (f1.trans fun a o z1 z2 z3 z4 => ?_) ⟨r3, sl2.mono (same_upd L.a1)⟩ (.lst upd_same (L.q.mono (same_upd L.a1)))
      obtain ⟨w1, w2, w3⟩ := L.f a o z1 z2 z3 z4
      exact ⟨w1, by rw [upd_ne (ne_of_none z1 hA)]; exact w2, w3⟩⟩
theorem de_lc2 {W : WX} {elt tg iter tg1 iter1 : Expr} {ifs ifs1 : List Expr} {scope : Scope} {own : List (Str × Nat)} {vs1 : List Nat} {pos : Pos} {g' g1' : TG} {g g1 : MG} {t t1 : MT} {m : ME} {mi mi1 : MA} (hc : X.calm = true) (hN : X.N.Nodup) (hi : DI X Y W tg iter mi) (ok : BlkOk X.N X.env.scope scope own) (hv : ∀ i ∈ vs1, i ∈ own.map (·.2))
    (hgw : GW Y (own.map (·.2)) g' g) (hgw1 : GW Y vs1 g1' g1)
    (hg : ∀ (s : Shared) (H : Hp) (C : Addr) (cl : List (Str × Addr)) (fp : List Addr), PG (X.blk s H scope (compEnvC scope cl C X.env) fp) tg g')
    (ht : ∀ (s : Shared) (H : Hp) (C : Addr) (cl : List (Str × Addr)) (fp : List Addr), DTs (X.blk s H scope (compEnvC scope cl C X.env) fp) Y W0 ifs t)
    (hi1 : ∀ (s : Shared) (H : Hp) (C : Addr) (cl : List (Str × Addr)) (fp : List Addr), DI (X.blk s H scope (compEnvC scope cl C X.env) fp) Y W0 tg1 iter1 mi1)
    (hg1 : ∀ (s : Shared) (H : Hp) (C : Addr) (cl : List (Str × Addr)) (fp : List Addr), PG (X.blk s H scope (compEnvC scope cl C X.env) fp) tg1 g1')
    (ht1 : ∀ (s : Shared) (H : Hp) (C : Addr) (cl : List (Str × Addr)) (fp : List Addr), DTs (X.blk s H scope (compEnvC scope cl C X.env) fp) Y W0 ifs1 t1)
    (he : ∀ (s : Shared) (H : Hp) (C : Addr) (cl : List (Str × Addr)) (fp : List Addr), DE (X.blk s H scope (compEnvC scope cl C X.env) fp) Y W0 elt m) (hs : ∀ x, foldedSetIterable iter X.env x = pure x := by intro _; rfl) (hs1 : ∀ env x, foldedSetIterable iter1 env x = pure x := by intro _ _; rfl) :
    DE X Y W (.ListComp elt [⟨tg, iter, ifs, 0⟩, ⟨tg1, iter1, ifs1, 0⟩] scope pos) (mLc2 mi (own.map (·.2)) g t mi1 vs1 g1 t1 m) :=
  peImp (pe_lc2 hc hN hi ok hv hg ht hi1 hg1 ht1 he hs hs1) (lc2_ok hgw hgw1)
end
end DL
namespace DL
open PySem L2 RZ PySem.Spec PyProof.Rows
/-! ### enumerate over a tuple -/
theorem meets_enumOne {v : Value} {o : Obj} {Hh : Heap → Prop} (B : Begins v o Hh) :
    Meets (Builtin.«enumerate.__new__» ⟨[.type "enumerate", v], []⟩) (fun _ R s => Hh s.heap ∧
      R (.ok (.ret (.ref (s.heap.push o).objs.size))) { s with heap := (s.heap.push o).push { cls := .type "enumerate", data := .fields #[.none, .bool false, .ref s.heap.objs.size, rawInt 0, .none, .none] } }) :=
  .of_wp fun prog w A R s hall => by
    obtain ⟨hp, gs, dr, tk, os⟩ := s
    obtain ⟨h1, hR⟩ := hall
    have hsub := sub_enumerate
    have byIt : ∀ {A' : Around} {E : Value → Shared → Prop} {Q : Value → Shared → Prop}, Q (.ref hp.objs.size) ⟨hp.push o, gs, dr, tk, os⟩ → wpAny (model prog w) A' (pyIter v) Q E ⟨hp, gs, dr, tk, os⟩ := fun q => B.iter prog w _ _ ⟨hp, gs, dr, tk, os⟩ _ h1 q
    wp_walk using byIt
    refine wpAny_stack_any fun st => wpAny_pure ?_
    split
    · rename_i cc _ _ _ _ _
      cases (cc == Value.type "enumerate") <;> (wp_walk using byIt; exact ⟨_, rfl, hR⟩)
    · wp_walk using byIt
      exact ⟨_, rfl, hR⟩
theorem call_enumOne {prog : Program} {w : World} {A : Around} {E : Value → Shared → Prop} {s : Shared} {v : Value} {o : Obj} {Hh : Heap → Prop} {Q : Value → Shared → Prop} (B : Begins v o Hh) (h1 : Hh s.heap)
    (h : ∀ h', IsEnum h' (s.heap.objs.size + 1) s.heap.objs.size 0 .none → h'.get? s.heap.objs.size = some o → (∀ b o, s.heap.get? b = some o → h'.get? b = some o) → Q (.ref (s.heap.objs.size + 1)) { s with heap := h' }) :
    wpAny (model prog w) A (call (.type "enumerate") [v]) Q E s := by
  refine callType_new F.called_enumerate (by decide) (F.typeCall_enumerate_1 _) (F.newCall_enumerate_1 _) (fun obj => F.args_object_init_2 obj _) F.entry_enumerate_new (meets_enumOne B) ⟨h1, ?_⟩
  have sz : (s.heap.push o).objs.size = s.heap.objs.size + 1 := Heap.size_push ..
  have en : IsEnum ((s.heap.push o).push { cls := .type "enumerate", data := .fields #[.none, .bool false, .ref s.heap.objs.size, rawInt 0, .none, .none] }) (s.heap.objs.size + 1) s.heap.objs.size 0 .none := by
    rw [← sz]
    exact Heap.get?_push_size _ rfl
  show _ ∧ _
  rw [sz]
  exact ⟨⟨_, en, rfl⟩, h _ en (Heap.get?_push_of_some _ (Heap.get?_push_size _ B.free)) fun b o x => Heap.get?_push_of_some _ (Heap.get?_push_of_some _ x)⟩
/-- the tuple at a, each item in a new pair -/
def IteT (K : PySem.W.Frag) (a : Addr) : It :=
  ⟨fun i H => ∃ (xs : List V) (x : V), SqT K H a xs ∧ xs[i]? = some x, fun i H v H' => ∃ T x, v = .ref T ∧ H T = none ∧ H' = upd H T (.tup [.int (i : Nat), x]) ∧ ∀ xs, SqT K H a xs → xs[i]? = some x, fun i H => ∃ xs : List V, SqT K H a xs ∧ xs.length = i⟩
theorem turn_enumT {P : Program} {w : World} {K : PySem.W.Frag} {elts : List Expr} {kk : Nat} {tpos : Pos} (a e it : Addr) (hit_a : a ≠ it) (hea : e ≠ a) :
    Turn P w K (.Tuple elts kk tpos) (IteT K a) [e, it] e (fun i h => (∃ old, IsEnum h e it ((i : Nat) : Int) old) ∧ h.IsTupleIter it a i ∧ e ≠ it) where
  mem := by simp
  obj := fun i h ⟨⟨old, he⟩, ⟨o, ho, hc, hd⟩, _⟩ b hb => by
    rcases List.mem_cons.mp hb with z | z
    · rw [z]; exact ⟨_, he, fun v q => nomatch q⟩
    · rw [List.mem_singleton.mp z]; exact ⟨o, ho, fun v q => by rw [hd] at q; cases q⟩
  keep := fun i h h' ⟨⟨old, he⟩, hi, hne⟩ k => ⟨⟨old, k e (by simp) _ he⟩, hi.at fun o q => k it (by simp) o q, hne⟩
  item := by
    intro X hP hw hK hc i pins s σ H E I hf st hg
    subst hP hw hK
    obtain ⟨⟨old, he⟩, hti, hne⟩ := st
    obtain ⟨xs, x, hq, hx⟩ := hg
    obtain ⟨its, rv, p, hz⟩ := I.tuple hq
    obtain ⟨u, hu, ru⟩ := rv.get hx
    have le : e < s.heap.objs.size := Heap.lt_size he
    have li : it < s.heap.objs.size := by obtain ⟨_, q, _⟩ := hti; exact Heap.lt_size q
    have ix : i < its.toArray.size := by
      have := (List.getElem?_eq_some_iff.mp hu).1
      simpa using this
    refine wpAny_pyNext_enum_itemD (Draws.tuple (A := X.A.in1) (I.ok.hd hc) it a hit_a its.toArray) he ⟨hti, p⟩ ix hne (by simp [hne, hea]) fun y h' tk hy ho hst hT hsz hk => ?_
    have ey : y = u := by
      have hy' : its.toArray[i]? = some y := hy
      rw [List.getElem?_toArray, hu] at hy'
      exact (Option.some.inj hy').symm
    subst ey
    refine ⟨_, rfl, wpAny_letOwnedTupleGo_enum (s := { s with heap := h', toks := tk + 1 }) ho fun h2 he2 sb => ?_⟩
    have hT2 : h2.get? s.heap.objs.size = some { cls := .type "tuple", data := .seq #[.int i tk, y] } := (sb.2 _ (Nat.ne_of_gt le)).trans hT
    have new : ObjOk X.prog X.w (upd H s.heap.objs.size (.tup [.int (i : Nat), x])) h2 s.heap.objs.size (.tup [.int (i : Nat), x]) :=
      ⟨by show 2 ≤ sizeLine; decide, [.int i tk, y], .cons ⟨_, rfl⟩ (.cons ru .nil), ⟨_, hT2, rfl, _, rfl⟩⟩
    have keep2 : ∀ b ob, b ∉ [e, it] → s.heap.get? b = some ob → h2.get? b = some ob := fun b ob hb q => (sb.2 b (fun z => hb (by simp [z]))).trans (hk b ob (fun z => hb (by simp [z])) (fun z => hb (by simp [z])) q)
    have I1 : Inv X pins σ (upd H s.heap.objs.size (.tup [.int (i : Nat), x])) { s with heap := h2, toks := tk + 1 } := I.turnedNew (ch := [e, it]) keep2 hf (Nat.le_refl _) new
    refine ⟨.ref s.heap.objs.size, _, I1, rfl, ⟨_, x, rfl, I.hok.fresh (Nat.le_refl _), rfl, fun ys hy => by rw [I.tuple_inj hy hq]; exact hx⟩, ⟨⟨y, ?_⟩, hst.1.at fun o q => (sb.2 it (Ne.symm hne)).trans q, hne⟩, fun b hb => ?_⟩
    · rw [show ((i + 1 : Nat) : Int) = (i : Int) + 1 by omega]
      exact he2
    · have lb : b < s.heap.objs.size := by
        rcases List.mem_cons.mp hb with z | z
        · rw [z]; exact le
        · rw [List.mem_singleton.mp z]; exact li
      rw [upd_ne (Nat.ne_of_lt lb)]
      exact (hf b hb).1
  done := by
    intro X hP hw hK hc i pins s σ H E I hf st hg
    subst hP hw hK
    obtain ⟨⟨old, he⟩, hti, hne⟩ := st
    obtain ⟨xs, hq, hx⟩ := hg
    obtain ⟨its, rv, p, hz⟩ := I.tuple hq
    obtain ⟨f0, f1, f2, f3, f4, f5⟩ := hf it (by simp)
    have hl : i = its.toArray.size := by rw [List.size_toArray, ← rv.length, hx]
    rw [hl] at he hti
    exact wpAny_pyNext_enum_endD (Draws.tuple (A := X.A.in1) (I.ok.hd hc) it a hit_a its.toArray) he ⟨hti, p⟩ fun h' eb => ⟨rfl, I.turned (t' := s.toks) (fun b o hb q => eb b o hb q) f0 f1 f3 f4 f5⟩
  self := fun A i s Q E ⟨⟨_, he⟩, _⟩ h => wpAny_pyIter_enum he h
def iEnumA (K : PySem.W.Frag) (ta : TA) : TI := fun σ H R => ta σ H fun vs H1 => ∃ a, vs = [.ref a] ∧ ((∃ xs, SqL K H1 a xs ∧ R (Ite K a) H1) ∨ ∃ xs, SqT K H1 a xs ∧ R (IteT K a) H1)
theorem pi_enumA {X : Cx} {e : Expr} {ta : TA} {p pos tpos : Pos} {elts : List Expr} {kk : Nat} (hg : Gl X "enumerate") (hm : X.mg "enumerate" = none) (ha : PA X [e] ta) (hs : starEach [e] X.env = [(false, eval e X.env)] := by rfl) :
    PI X (.Tuple elts kk tpos) (.Call (.Name "enumerate" p) [e] [] pos) (iEnumA X.K ta) := by
  refine ⟨fun pins s σ H R I h => ?_⟩
  refine Call_ (ld_blt I hg hm boot_enumerate (PyProof.Rows.callWith_type1 (thn (ha.run pos pins s σ H _ I h) fun us s1 ⟨vs, H1, I1, r1, q1⟩ => ?_) hs rfl))
  obtain ⟨a, ex, q⟩ := q1
  subst ex
  cases r1 with
  | cons r rr =>
    cases rr
    cases r
    have apart : ∀ b ∈ [s1.heap.objs.size + 1, s1.heap.objs.size], FpOk X pins H1 b := fun b hb => by
      have le : s1.heap.objs.size ≤ b := by
        rcases List.mem_cons.mp hb with z | z
        · rw [z]; exact Nat.le_add_right _ _
        · rw [List.mem_singleton.mp z]; exact Nat.le_refl _
      exact I1.fpOk le (I1.hok.fresh le)
    rcases q with ⟨xs, hq, q⟩ | ⟨xs, hq, q⟩
    · obtain ⟨its, rv, p', hz⟩ := I1.list hq
      refine call_enumerate_list p'.isList fun h' en hti hsz hk => wpAny_pyIter_enum en ?_
      exact ⟨_, _, _, _, H1, rfl, I1.kept (t' := s1.toks) hk, turn_enum a _ _, ⟨⟨.none, en⟩, hti, Nat.succ_ne_self _⟩, apart, q⟩
    · obtain ⟨its, rv, p', hz⟩ := I1.tuple hq
      have p2 : s1.heap.IsTuple a its.toArray := p'
      have la : a < s1.heap.objs.size := by obtain ⟨_, q, _⟩ := p2; exact Heap.lt_size q
      refine call_enumOne (begins_tuple a its.toArray) p2 fun h' en ho hk => wpAny_pyIter_enum en ?_
      exact ⟨_, _, _, _, H1, rfl, I1.kept (t' := s1.toks) hk, turn_enumT a _ _ (Nat.ne_of_lt la) (Nat.ne_of_gt (Nat.lt_succ_of_lt la)), ⟨⟨.none, en⟩, ⟨_, ho, rfl, rfl⟩, Nat.succ_ne_self _⟩, apart, q⟩
section
variable {X : Cx} {Y : Yc} {W : WX} {G : Hp} {a : Expr} {pos : Pos} {mas : MA}
theorem wk_enumT {a : Addr} {vs : List V} {ds : List DL.D} (h : SqT Y.K G a vs) (q : Reps Y G ds vs) (hK : Y.K = X.K) : Wk Y G (IteT X.K a) (enumD ds) where
  go := fun i H hi s => by
    rw [enumD_len] at hi
    obtain ⟨v, e, _⟩ := q.get (List.getElem?_eq_getElem hi)
    exact ⟨vs, v, sqT_mono s (hK ▸ h), e⟩
  stop := fun H s => ⟨vs, sqT_mono s (hK ▸ h), by rw [enumD_len, q.length]⟩
  yld := fun i H x H' G' mu c hi s r ⟨T, y, e1, e2, e3, e4⟩ => by
    rw [enumD_len] at hi
    subst e1
    obtain ⟨v, e, qv⟩ := q.get (List.getElem?_eq_getElem hi)
    have e5 := e4 vs (sqT_mono r.sub (sqT_mono s (hK ▸ h)))
    rw [e] at e5
    cases e5
    obtain ⟨G'', g1, f1, r1, q1⟩ := yld_pair r e2 e3 (.int (i : Nat)) (qv.mono s)
    exact ⟨_, G'', enumD_get (List.getElem?_eq_getElem hi), g1, f1, r1, q1⟩
/-- enumerate over a list or a tuple -/
def mEnumA (n : MA) : MA := fun st P PX => n st (fun ds s1 => ∃ xs, (ds = [.lst xs] ∨ ds = [.tup xs]) ∧ P (enumD xs) s1) PX
theorem di_enumA {p tpos : Pos} {elts : List Expr} {kk : Nat} (hY : Y.K = X.K) (hg : Gl X "enumerate") (hm : X.mg "enumerate" = none) (ha : DA X Y W [a] mas) (hs : starEach [a] X.env = [(false, eval a X.env)] := by rfl) : DI X Y W (.Tuple elts kk tpos) (.Call (.Name "enumerate" p) [a] [] pos) (mEnumA mas) :=
  piImp (pi_enumA hg hm ha hs) fun σ H Rr ⟨G, st, P, PX, rr, hm, xp, k⟩ => ⟨G, st, _, PX, rr, hm, xp, fun ds s1 vs G1 H1 ⟨xs, e1, h1⟩ g1 f1 r1 q1 => by
    rcases e1 with e1 | e1
    · subst e1
      obtain ⟨v, rfl, qv⟩ := q1.one
      obtain ⟨a1, xs1, rfl, h2, q2⟩ := qv.lstI
      exact ⟨a1, rfl, .inl ⟨xs1, SqL.of (r1.h.sub _ _ h2), k _ s1 G1 H1 _ h1 g1 f1 r1 (wk_enum h2 q2)⟩⟩
    · subst e1
      obtain ⟨v, rfl, qv⟩ := q1.one
      obtain ⟨a1, xs1, rfl, h2, q2⟩ := qv.tupI
      exact ⟨a1, rfl, .inr ⟨xs1, sqT_mono r1.h.sub (hY ▸ h2), k _ s1 G1 H1 _ h1 g1 f1 r1 (wk_enumT h2 q2 hY)⟩⟩⟩
end
end DL
namespace DL
open PySem L2
/-! ### rows of forms: leaves, forks, what stands above them -/
def Fm.leaves : Fm → List Fm
  | .leaf w n => [.leaf w n]
  | .node _ l r => l.leaves ++ r.leaves
def forkW (w : Str) : Bool := decide (w = "offered") || decide (w = "chosen")
def Fm.forks : Fm → List Str
  | .leaf _ _ => []
  | .node w l r => (if forkW w = true then [w] else []) ++ (l.forks ++ r.forks)
def Fm.above : Fm → List D → Nat → List D × List D
  | .leaf _ _, a, _ => ([.tup a], [])
  | .node w l r, a, n =>
    if forkW w = true then
      ((l.above (a ++ [.tup [.int (n : Int), .int 0]]) (n + 1)).1 ++ (r.above (a ++ [.tup [.int (n : Int), .int 1]]) (n + 1 + (l.above (a ++ [.tup [.int (n : Int), .int 0]]) (n + 1)).2.length)).1,
       .tup a :: ((l.above (a ++ [.tup [.int (n : Int), .int 0]]) (n + 1)).2 ++ (r.above (a ++ [.tup [.int (n : Int), .int 1]]) (n + 1 + (l.above (a ++ [.tup [.int (n : Int), .int 0]]) (n + 1)).2.length)).2))
    else ((l.above a n).1 ++ (r.above a (n + (l.above a n).2.length)).1, (l.above a n).2 ++ (r.above a (n + (l.above a n).2.length)).2)
theorem leaves_pos : ∀ f : Fm, 1 ≤ f.leaves.length
  | .leaf _ _ => Nat.le_refl _
  | .node _ l r => by
    show 1 ≤ (l.leaves ++ r.leaves).length
    rw [List.length_append]
    have := leaves_pos l
    omega
theorem leaves_len : ∀ f : Fm, f.leaves.length ≤ 2 ^ f.depth
  | .leaf _ _ => Nat.le_refl _
  | .node _ l r => by
    show (l.leaves ++ r.leaves).length ≤ 2 ^ (max l.depth r.depth + 1)
    rw [List.length_append, Nat.pow_succ]
    have h1 := leaves_len l
    have h2 := leaves_len r
    have h3 : 2 ^ l.depth ≤ 2 ^ (max l.depth r.depth) := Nat.pow_le_pow_right (by decide) (by omega)
    have h4 : 2 ^ r.depth ≤ 2 ^ (max l.depth r.depth) := Nat.pow_le_pow_right (by decide) (by omega)
    omega
theorem forks_len : ∀ f : Fm, f.forks.length < f.leaves.length
  | .leaf _ _ => by show 0 < 1; decide
  | .node w l r => by
    show ((if forkW w = true then [w] else []) ++ (l.forks ++ r.forks)).length < (l.leaves ++ r.leaves).length
    have h1 := forks_len l
    have h2 := forks_len r
    rw [List.length_append, List.length_append, List.length_append]
    split <;> simp only [List.length_cons, List.length_nil] <;> omega
theorem above_len : ∀ (f : Fm) (a : List D) (n : Nat), (f.above a n).1.length = f.leaves.length ∧ (f.above a n).2.length = f.forks.length
  | .leaf _ _, _, _ => ⟨rfl, rfl⟩
  | .node w l r, a, n => by
    unfold Fm.above Fm.leaves Fm.forks
    split
    · refine ⟨by rw [List.length_append, List.length_append, (above_len l _ _).1, (above_len r _ _).1], ?_⟩
      rw [List.length_cons, List.length_append, List.length_append, List.length_append, (above_len r _ _).2, (above_len l _ _).2]
      simp only [List.length_cons, List.length_nil]
      omega
    · refine ⟨by rw [List.length_append, List.length_append, (above_len l _ _).1, (above_len r _ _).1], ?_⟩
      rw [List.length_append, List.length_append, List.length_append, (above_len r _ _).2, (above_len l _ _).2]
      simp
theorem leaves_12 {f : Fm} (h : f.depth ≤ 12) : f.leaves.length ≤ 4096 := Nat.le_trans (leaves_len f) (pow12 h)
theorem leaves_24 {f : Fm} (h : f.depth ≤ 20) : f.leaves.length ≤ 1048576 := Nat.le_trans (leaves_len f) (Nat.pow_le_pow_right (n := 2) (by decide) h)
theorem leaves_ok : ∀ (f : Fm), f.ok = true → ∀ g ∈ f.leaves, ∃ w n, g = .leaf w n ∧ g.ok = true
  | .leaf w n, h, g, hg => by
    rw [List.mem_singleton.mp hg]
    exact ⟨w, n, rfl, h⟩
  | .node _ l r, h, g, hg => by
    obtain ⟨_, h⟩ := Bool.and_eq_true_iff.mp h
    obtain ⟨hl, hr⟩ := Bool.and_eq_true_iff.mp h
    rcases List.mem_append.mp hg with z | z
    · exact leaves_ok l hl g z
    · exact leaves_ok r hr g z
def leafN (fs : List Fm) : Nat := (fs.map fun f => f.leaves.length).sum
theorem leafN_app (a b : List Fm) : leafN (a ++ b) = leafN a + leafN b := by unfold leafN; rw [List.map_append, List.sum_append]
theorem leafN_len : ∀ fs : List Fm, fs.length ≤ leafN fs
  | [] => Nat.le_refl _
  | f :: fs => by
    show fs.length + 1 ≤ f.leaves.length + leafN fs
    have := leaves_pos f
    have := leafN_len fs
    omega
/-! the things that a def which wants ends may meet -/
structure EndsOf (d : D) (fs : List Fm) : Prop where
  is : d = .lst (fs.map Fm.toD) ∨ d = .tup (fs.map Fm.toD)
  ne : fs ≠ []
  ok : ∀ f ∈ fs, f.ok = true ∧ f.depth ≤ 12
  len : fs.length ≤ 1000
inductive NoEnds : D → Prop
  | ty {d : D} : d.ty.isSome = true → (d.isTy "list" || d.isTy "tuple") = false → NoEnds d
  | nilL : NoEnds (.lst [])
  | nilT : NoEnds (.tup [])
  | bad {d : D} (ds : List D) : (d = .lst ds ∨ d = .tup ds) → ds ≠ [] → (∀ x ∈ ds, fineD 12 x = true) → ds.length ≤ 1000 → (∃ x ∈ ds, isFormIn 12 x = false) → NoEnds d
def GoodEnds (d : D) (fs : List Fm) : Prop := EndsOf d fs ∧ leafN fs ≤ 40
def BadEnds (d : D) : Prop := NoEnds d ∨ ∃ fs, EndsOf d fs ∧ 40 < leafN fs
/-- a def that wants ends: res of them, or a refusal -/
def spE (res : List Fm → D) : DSp := fun ds mu c P PX => ∃ d, ds = [d] ∧ ((∃ fs, GoodEnds d fs ∧ P (res fs) mu c) ∨ (BadEnds d ∧ PX ⟨"BadValue", [("value", d)]⟩ mu c))
theorem bls_rel {p : D → Bool} {ds ys : List D} (h : All2 (fun x y => y = .bl (p x)) ds ys) : blsOf ys = some (ds.map p) := by
  induction h with
  | nil => rfl
  | cons h1 _ ih => rw [h1]; simp [blsOf, ih]
theorem ints_rel {α : Type} {p : α → Int} {ds : List α} {ys : List D} (h : All2 (fun x y => y = .int (p x)) ds ys) : intsOf ys = some (ds.map p) := by
  induction h with
  | nil => rfl
  | cons h1 _ ih => rw [h1]; simp [intsOf, ih]
theorem all2_map {α β γ : Type} {R : α → β → Prop} (g : γ → α) : ∀ {ds : List γ} {ys : List β}, All2 R (ds.map g) ys → All2 (fun x y => R (g x) y) ds ys
  | [], _, .nil => .nil
  | _ :: _, _, .cons h t => .cons h (all2_map g t)
theorem sum_cast (fs : List Fm) : (fs.map fun f => (f.leaves.length : Int)).sum = (leafN fs : Int) := by
  induction fs with
  | nil => rfl
  | cons f fs ih => rw [List.map_cons, List.sum_cons, ih]; show _ = (((f.leaves.length + leafN fs : Nat)) : Int); push_cast; rfl
theorem forkW_in {w : Str} (h : halfW (.str w) = true) : (forkW w = true ∧ (w = "offered" ∨ w = "chosen")) ∨ (forkW w = false ∧ (w = "both" ∨ w = "between")) := by
  rcases halfW_str h with rfl | rfl | rfl | rfl
  · exact .inr ⟨by decide +kernel, .inl rfl⟩
  · exact .inr ⟨by decide +kernel, .inr rfl⟩
  · exact .inl ⟨by decide +kernel, .inl rfl⟩
  · exact .inl ⟨by decide +kernel, .inr rfl⟩
theorem toD_inj : ∀ f g : Fm, f.toD = g.toD → f = g
  | .leaf a b, .leaf c d, h => by
    unfold Fm.toD at h
    injection h with h
    injection h with h1 h2
    injection h2 with h2 _
    injection h1 with h1
    injection h2 with h2
    rw [h1, h2]
  | .leaf _ _, .node _ _ _, h => by unfold Fm.toD at h; injection h with h; injection h with _ h; injection h with _ h; cases h
  | .node _ _ _, .leaf _ _, h => by unfold Fm.toD at h; injection h with h; injection h with _ h; injection h with _ h; cases h
  | .node a b c, .node d e f, h => by
    unfold Fm.toD at h
    injection h with h
    injection h with h1 h2
    injection h2 with h2 h3
    injection h3 with h3 _
    injection h1 with h1
    rw [h1, toD_inj b e h2, toD_inj c f h3]
/-- what a comprehension over forms gives -/
theorem fm_rel {fs : List Fm} {g : Fm → D} {ys : List D} (h : All2 (fun x y => ∃ f : Fm, x = f.toD ∧ y = g f) (fs.map Fm.toD) ys) : ys = fs.map g := by
  induction fs generalizing ys with
  | nil => cases h; rfl
  | cons f fs ih =>
    cases h with
    | cons h1 h2 =>
      obtain ⟨f', e1, e2⟩ := h1
      rw [e2, ← toD_inj _ _ e1, ih h2, List.map_cons]
theorem intsOf_map (fs : List Fm) (g : Fm → Int) : intsOf (fs.map fun f => .int (g f)) = some (fs.map g) := by
  induction fs with
  | nil => rfl
  | cons f fs ih => simp [intsOf, ih]
/-! comprehensions whose turns are told -/
theorem lc_each {body : D → S → (Option D → S → Prop) → Prop} (F : D → D) {st : S} {P : List D → S → Prop} : ∀ (ds acc : List D), (∀ d ∈ ds, ∀ K, K (some (F d)) st → body d st K) → acc.length + ds.length ≤ LINE → P (acc ++ ds.map F) st → lcGo body ds acc st P
  | [], acc, _, _, h => by rw [List.map_nil, List.append_nil] at h; exact h
  | d :: ds, acc, hb, hl, h => by
    rw [List.length_cons] at hl
    refine hb d List.mem_cons_self _ ⟨by omega, ?_⟩
    refine lc_each F ds (acc ++ [F d]) (fun x hx => hb x (List.mem_cons_of_mem _ hx)) (by rw [List.length_append, List.length_cons, List.length_nil]; omega) ?_
    rw [List.append_assoc]
    exact h
theorem lc2_pairs {turn : D → List D → S → (List D → S → Prop) → Prop} {st : S} {P : List D → S → Prop} : ∀ (ps : List (D × List D)) (acc : List D), (∀ p ∈ ps, ∀ acc K, acc.length + p.2.length ≤ LINE → K (acc ++ p.2) st → turn p.1 acc st K) → acc.length + (ps.map (·.2)).flatten.length ≤ LINE →
    P (acc ++ (ps.map (·.2)).flatten) st → lc2Go turn (ps.map (·.1)) acc st P
  | [], acc, _, _, h => by rw [List.map_nil, List.flatten_nil, List.append_nil] at h; exact h
  | p :: ps, acc, hb, hl, h => by
    rw [List.map_cons, List.flatten_cons, List.length_append] at hl
    refine hb p List.mem_cons_self _ _ (by omega) ?_
    refine lc2_pairs ps (acc ++ p.2) (fun x hx => hb x (List.mem_cons_of_mem _ hx)) (by rw [List.length_append]; omega) ?_
    rw [List.append_assoc]
    rw [List.map_cons, List.flatten_cons] at h
    exact h
/-- the forms with their indices from n on, each with its index as often as g says -/
def enumP (g : Fm → Nat) : Nat → List Fm → List (D × List D)
  | _, [] => []
  | n, f :: fs => (.tup [.int (n : Int), f.toD], List.replicate (g f) (.int (n : Int))) :: enumP g (n + 1) fs
theorem enumP_fst (g : Fm → Nat) : ∀ (n : Nat) (fs : List Fm), (enumP g n fs).map (·.1) = (List.range fs.length).map fun i => .tup [.int ((n + i : Nat) : Int), (fs.map Fm.toD).getD i .non]
  | _, [] => rfl
  | n, f :: fs => by
    unfold enumP
    rw [List.map_cons, enumP_fst g (n + 1) fs, List.length_cons, List.range_succ_eq_map, List.map_cons, List.map_map]
    congr 1
    refine List.map_congr_left fun i _ => ?_
    simp only [Function.comp, List.map_cons, List.getD_cons_succ]
    rw [show n + 1 + i = n + (i + 1) by omega]
theorem enumP_enum (g : Fm → Nat) (fs : List Fm) : enumD (fs.map Fm.toD) = (enumP g 0 fs).map (·.1) := by
  rw [enumP_fst]
  unfold enumD
  rw [List.length_map]
  refine List.map_congr_left fun i _ => ?_
  rw [Nat.zero_add]
theorem enumP_mem {g : Fm → Nat} : ∀ {n : Nat} {fs : List Fm} {p : D × List D}, p ∈ enumP g n fs → ∃ f ∈ fs, ∃ i : Nat, p = (.tup [.int (i : Int), f.toD], List.replicate (g f) (.int (i : Int)))
  | n, f :: fs, p, h => by
    rcases List.mem_cons.mp h with e | e
    · exact ⟨f, List.mem_cons_self, n, e⟩
    · obtain ⟨f', hf, i, e⟩ := enumP_mem e
      exact ⟨f', List.mem_cons_of_mem _ hf, i, e⟩
def spread (g : Fm → Nat) (fs : List Fm) : List D := ((enumP g 0 fs).map (·.2)).flatten
theorem enumP_len (g : Fm → Nat) : ∀ (n : Nat) (fs : List Fm), ((enumP g n fs).map (·.2)).flatten.length = (fs.map g).sum
  | _, [] => rfl
  | n, f :: fs => by
    unfold enumP
    rw [List.map_cons, List.flatten_cons, List.length_append, enumP_len g (n + 1) fs, List.length_replicate, List.map_cons, List.sum_cons]
def leavesD (fs : List Fm) : List D := (fs.map fun f => f.leaves.map Fm.toD).flatten
def forksD (fs : List Fm) : List D := (fs.map fun f => f.forks.map D.str).flatten
theorem leavesD_len (fs : List Fm) : (leavesD fs).length = leafN fs := by
  unfold leavesD leafN
  rw [List.length_flatten, List.map_map]
  congr 1
  refine List.map_congr_left fun f _ => ?_
  simp
theorem forks_sum (fs : List Fm) : (fs.map fun f => f.forks.length).sum ≤ leafN fs := by
  induction fs with
  | nil => exact Nat.le_refl _
  | cons f fs ih =>
    rw [List.map_cons, List.sum_cons]
    show _ ≤ f.leaves.length + leafN fs
    have := forks_len f
    omega
theorem forksD_len (fs : List Fm) : (forksD fs).length = (fs.map fun f => f.forks.length).sum := by
  unfold forksD
  rw [List.length_flatten, List.map_map]
  congr 1
  refine List.map_congr_left fun f _ => ?_
  simp
/-! two lists that grow -/
def mset2 (mu : Mu) (a : Addr) (A : List D) (b : Addr) (B : List D) : Mu := muSet (muSet mu a (some (.lst A))) b (some (.lst B))
section
variable {mu : Mu} {a b : Addr} {A A' B B' : List D}
theorem mset2_a (h : a ≠ b) : mset2 mu a A b B a = some (.lst A) := by unfold mset2; rw [muSet_ne h, muSet_same]
theorem mset2_b : mset2 mu a A b B b = some (.lst B) := muSet_same
theorem mset2_ne {x : Addr} (h1 : x ≠ a) (h2 : x ≠ b) : mset2 mu a A b B x = mu x := by unfold mset2; rw [muSet_ne h2, muSet_ne h1]
theorem mset2_two (h : a ≠ b) : mset2 (mset2 mu a A b B) a A' b B' = mset2 mu a A' b B' := by
  funext x
  by_cases ha : x = a
  · subst ha; rw [mset2_a h, mset2_a h]
  · by_cases hb : x = b
    · subst hb; rw [mset2_b, mset2_b]
    · rw [mset2_ne ha hb, mset2_ne ha hb, mset2_ne ha hb]
theorem mset2_put_a (h : a ≠ b) : muSet (mset2 mu a A b B) a (some (.lst A')) = mset2 mu a A' b B := by
  funext x
  by_cases ha : x = a
  · subst ha; rw [muSet_same, mset2_a h]
  · rw [muSet_ne ha]
    by_cases hb : x = b
    · subst hb; rw [mset2_b, mset2_b]
    · rw [mset2_ne ha hb, mset2_ne ha hb]
theorem mset2_put_b : muSet (mset2 mu a A b B) b (some (.lst B')) = mset2 mu a A b B' := muSet_set
theorem mset2_self (h : a ≠ b) (ha : mu a = some (.lst A)) (hb : mu b = some (.lst B)) : mset2 mu a A b B = mu := by
  funext x
  by_cases z : x = a
  · subst z; rw [mset2_a h, ha]
  · by_cases z2 : x = b
    · subst z2; rw [mset2_b, hb]
    · rw [mset2_ne z z2]
theorem mset2_less (ha : mu a = none) (hb : mu b = none) : Less mu (muSet (muSet (mset2 mu a A b B) a none) b none) := fun x m e => by
  have n1 : x ≠ a := fun z => by rw [z, ha] at e; cases e
  have n2 : x ≠ b := fun z => by rw [z, hb] at e; cases e
  rw [muSet_ne n2, muSet_ne n1, mset2_ne n1 n2]
  exact e
end
def aboveGo : List Fm → Nat → List D × List D
  | [], _ => ([], [])
  | f :: fs, n => ((f.above [] n).1 ++ (aboveGo fs (n + (f.above [] n).2.length)).1, (f.above [] n).2 ++ (aboveGo fs (n + (f.above [] n).2.length)).2)
theorem aboveGo_len : ∀ (fs : List Fm) (n : Nat), (aboveGo fs n).1.length = leafN fs ∧ (aboveGo fs n).2.length ≤ leafN fs
  | [], _ => ⟨rfl, Nat.le_refl _⟩
  | f :: fs, n => by
    unfold aboveGo
    obtain ⟨h1, h2⟩ := aboveGo_len fs (n + (f.above [] n).2.length)
    obtain ⟨h3, h4⟩ := above_len f [] n
    have h5 := forks_len f
    have e : leafN (f :: fs) = f.leaves.length + leafN fs := rfl
    exact ⟨by rw [List.length_append, h1, h3, e], by rw [List.length_append, e]; omega⟩
theorem two_lines {α β : Type} {a : List α} {b : List β} (ha : a.length ≤ 1048576) (hb : b.length ≤ 1048576) : a.length + b.length ≤ LINE := by
  have : (LINE : Nat) = 16777216 := rfl
  omega
theorem inFork {w : Str} (h : halfW (.str w) = true) : ([D.str "offered", .str "chosen"].any fun z => eqvD z (.str w)) = forkW w := by
  rcases halfW_str h with rfl | rfl | rfl | rfl <;> decide +kernel
theorem forkWs_ok : (D.tup [.str "offered", .str "chosen"]).ok 64 = true := by decide +kernel
theorem forkLs_ok : (D.lst [.str "offered", .str "chosen"]).ok 64 = true := by decide +kernel
theorem szl {n : Nat} (h : n ≤ 200000) : n < sizeLine := by rw [sizeLine_eq]; omega
theorem forks_18 {f : Fm} (h : f.depth ≤ 18) : (f.forks.map D.str).length ≤ 524288 := by
  rw [List.length_map]
  have h1 := forks_len f
  have h2 := Nat.le_trans (leaves_len f) (Nat.pow_le_pow_right (n := 2) (by decide) h)
  have : (2 : Nat) ^ 18 = 262144 := by decide
  omega
theorem node_forks (w : Str) (a b : Fm) : (Fm.node w a b).forks.map D.str = (if forkW w = true then [D.str w] else []) ++ (a.forks.map D.str ++ b.forks.map D.str) := by
  show ((if forkW w = true then [w] else []) ++ (a.forks ++ b.forks)).map D.str = _
  rw [List.map_append, List.map_append]
  split <;> rfl
/-! sizes by the leaves -/
theorem txt_lv : ∀ f : Fm, f.ok = true → (f.txt true).length + 5 ≤ 18 * f.leaves.length
  | .leaf w n, h => by
    obtain ⟨_, hn⟩ := Bool.and_eq_true_iff.mp h
    show (n.cps.toList ++ tilde w).length + 5 ≤ 18 * 1
    rw [List.length_append]
    have := (isNameL_len hn).2
    have := tilde_len w
    omega
  | .node w l r, h => by
    obtain ⟨_, h⟩ := Bool.and_eq_true_iff.mp h
    obtain ⟨hl, hr⟩ := Bool.and_eq_true_iff.mp h
    have h1 := txt_lv l hl
    have h2 := txt_lv r hr
    have e : (Fm.node w l r).leaves.length = l.leaves.length + r.leaves.length := List.length_append
    have e2 : (Fm.node w l r).txt true = 40 :: (l.txt true ++ [32, markC w, 32] ++ r.txt true ++ [41]) := rfl
    rw [e, e2]
    simp only [List.length_cons, List.length_append, List.length_nil]
    omega
theorem toks_lv : ∀ f : Fm, (f.toks true).length + 3 ≤ 4 * f.leaves.length
  | .leaf _ _ => Nat.le_refl _
  | .node w l r => by
    have h1 := toks_lv l
    have h2 := toks_lv r
    have e : (Fm.node w l r).leaves.length = l.leaves.length + r.leaves.length := List.length_append
    have e2 : (Fm.node w l r).toks true = [40] :: (l.toks true ++ [[markC w]] ++ r.toks true ++ [[41]]) := rfl
    rw [e, e2]
    simp only [List.length_cons, List.length_append, List.length_nil]
    omega
/-! rows of forms as tokens, as texts -/
def rowToks : List Fm → List (List Nat)
  | [] => []
  | f :: fs => f.toks false ++ (fs.map fun g => [44] :: g.toks false).flatten
def rowTxt : List Fm → List Nat
  | [] => []
  | f :: fs => f.txt false ++ (fs.map fun g => [44, 32] ++ g.txt false).flatten
theorem foldl_sep (g : Array Nat) : ∀ (l : List Str) (acc : Array Nat), (l.foldl (fun a t => a ++ g ++ t.cps) acc).toList = acc.toList ++ (l.map fun s => g.toList ++ s.cps.toList).flatten
  | [], acc => by simp
  | s :: l, acc => by rw [List.foldl_cons, foldl_sep g l]; simp
theorem join_sep (z x : Str) (l : List Str) : (Txt.join z (x :: l)).cps.toList = x.cps.toList ++ (l.map fun s => z.cps.toList ++ s.cps.toList).flatten := by
  show (l.foldl (fun a t => a ++ z.cps ++ t.cps) x.cps).toList = _
  exact foldl_sep z.cps l x.cps
theorem lit_cs : (Str.ofString ", ") = sL [44, 32] := by decide +kernel
theorem join_row : ∀ (fs : List Fm), fs ≠ [] → Txt.join (Str.ofString ", ") (fs.map fun f => sL (f.txt false)) = sL (rowTxt fs)
  | [], h => absurd rfl h
  | f :: fs, _ => by
    rw [str_eq, sL_cps, List.map_cons, join_sep, sL_cps, List.map_map, lit_cs]
    unfold rowTxt
    have e : (fs.map ((fun s : Str => (sL [44, 32]).cps.toList ++ s.cps.toList) ∘ fun f : Fm => sL (f.txt false))) = fs.map fun g => [44, 32] ++ g.txt false := List.map_congr_left fun g _ => by simp only [Function.comp, sL_cps]
    rw [e]
theorem strsOf_fm (fs : List Fm) (g : Fm → Str) : strsOf (fs.map fun f => .str (g f)) = some (fs.map g) := by
  induction fs with
  | nil => rfl
  | cons f fs ih => simp [strsOf, ih]
theorem txt_sum : ∀ (fs : List Fm), (∀ f ∈ fs, f.ok = true) → ((fs.map fun f => sL (f.txt false)).map (·.length)).sum ≤ 18 * leafN fs
  | [], _ => Nat.le_refl _
  | f :: fs, h => by
    have h1 := txt_sum fs fun g hg => h g (List.mem_cons_of_mem _ hg)
    have h2 := txt_lv f (h f List.mem_cons_self)
    have h3 := txt_le f
    have e : leafN (f :: fs) = f.leaves.length + leafN fs := rfl
    rw [e, List.map_cons, List.map_cons, List.sum_cons, sL_len]
    omega
end DL
namespace DL
open PySem L2 PySem.Spec PyProof.Rows
/-! ### a comprehension whose list may still change -/
section
variable {X : Cx} {Y : Yc}
def mLcM (mi : MA) (vs : List Nat) (g : MG) (t : MT) (m : ME) : ME := fun st P PX => mi st (fun ds s1 => lcGo (lcBody s1.r vs g t m) ds [] s1 (fun ys s2 => ∀ a, s2.mu a = none → P (.ref a) { s2 with mu := muSet s2.mu a (some (.lst ys)) })) PX
theorem lcm_ok {W : WX} {vs : List Nat} {g' : TG} {g : MG} {t : MT} {m : ME} {mi : MA} (hgw : GW Y vs g' g) : ∀ σ H Q, TEof Y W (mLcM mi vs g t m) σ H Q → tLc (TIof Y W mi) g' (TTof Y W0 t) (TEof Y W0 m) vs σ H Q := fun σ H Q ⟨G, st, P, PX, rr, hm, xp, k⟩ =>
  ⟨G, st, _, PX, rr, hm, xp, fun ds s1 G1 H1 J h1 g1 f1 r1 wk A hA => by
    obtain ⟨n1, n2, n3⟩ := r1.h.fresh hA
    have L0 : LcI Y G1 s1.mu H1 A G1 s1.mu s1.c [] [] (upd H1 A (.lst [])) := ⟨Same.refl _, .add hA, r1.h.add hA _, n1, n2, upd_same, .nil⟩
    refine lc_turns (s1 := s1) hgw hA n3 L0 r1.s wk h1 fun G' mu' c' acc' ys' H' g L hk => ?_
    refine k _ { s1 with mu := muSet mu' A (some (.lst acc')), c := c' } _ G' H' (hk A L.a2) (g1.trans L.g) (f1.trans fun a o z1 z2 z3 z4 => ?_) ⟨L.r.told L.at_ (.lst L.q) L.a1 n3, r1.s.mono L.g⟩ (.ref A)
    obtain ⟨w1, w2, w3⟩ := L.f a o z1 z2 z3 z4
    exact ⟨w1, w2, (muSet_ne (ne_of_none z1 hA)).trans w3⟩⟩
theorem de_lcM {W : WX} {elt tg iter : Expr} {ifs : List Expr} {scope : Scope} {own : List (Str × Nat)} {pos : Pos} {g' : TG} {g : MG} {t : MT} {m : ME} {mi : MA} (hc : X.calm = true) (hN : X.N.Nodup) (hi : DI X Y W tg iter mi) (ok : BlkOk X.N X.env.scope scope own)
    (hgw : GW Y (own.map (·.2)) g' g)
    (hg : ∀ (s : Shared) (H : Hp) (C : Addr) (cl : List (Str × Addr)) (fp : List Addr), PG (X.blk s H scope (compEnvC scope cl C X.env) fp) tg g')
    (ht : ∀ (s : Shared) (H : Hp) (C : Addr) (cl : List (Str × Addr)) (fp : List Addr), DTs (X.blk s H scope (compEnvC scope cl C X.env) fp) Y W0 ifs t)
    (he : ∀ (s : Shared) (H : Hp) (C : Addr) (cl : List (Str × Addr)) (fp : List Addr), DE (X.blk s H scope (compEnvC scope cl C X.env) fp) Y W0 elt m) (hs : ∀ x, foldedSetIterable iter X.env x = pure x := by intro _; rfl) :
    DE X Y W (.ListComp elt [⟨tg, iter, ifs, 0⟩] scope pos) (mLcM mi (own.map (·.2)) g t m) :=
  peImp (pe_lc hc hN hi ok hg ht he hs) (lcm_ok hgw)
/-! xs[i] = v, xs a list that changes -/
theorem Reps.putAt {G : Hp} : ∀ {ds : List DL.D} {vs : List V} (j : Nat) {d : DL.D} {v : V}, Reps Y G ds vs → Rep Y G d v → Reps Y G (ds.set j d) (vs.set j v)
  | _, _, _, _, _, .nil, _ => .nil
  | _, _, 0, _, _, .cons _ r, q => .cons q r
  | _, _, j + 1, _, _, .cons h r, q => .cons h (Reps.putAt j r q)
def gIxM (mo mi : ME) : MG := fun d st P => mo st (fun x s1 => mi s1 (fun y s2 => ∃ a ds k j, x = .ref a ∧ y = .int k ∧ s2.mu a = some (.lst ds) ∧ ixN ds.length k = some j ∧ P { s2 with mu := muSet s2.mu a (some (.lst (ds.set j d))) }) PX0) PX0
theorem dg_ixM {o i : Expr} {pos : Pos} {mo mi : ME} (ho : DE X Y W0 o mo) (hi : DE X Y W0 i mi)
    (ha : ∀ v, assign (.Subscript o i pos) X.env v = (do
      let ov ← holding [v] (eval o X.env)
      let iv ← holding [v, ov] (eval i X.env)
      standAt pos
      holding [v, ov, iv] (setItem ov iv v)
      release [v, ov, iv] []) := by intro _; rfl) : DG X Y (.Subscript o i pos) (gIxM mo mi) :=
  pgImp (pg_sub ho hi set_list ha) fun v σ H Q ⟨G, st, d, P, r, q, h, k⟩ => ⟨G, st, _, PX0, r, h, fun _ _ _ _ _ _ _ z => z.elim, fun x s1 u G1 H1 h1 g1 f1 r1 q1 => ⟨G1, s1, _, PX0, r1, h1, fun _ _ _ _ _ _ _ z => z.elim, fun y s2 w G2 H2 ⟨a, ds, kk, j, ex, ey, hmu, hj, hp⟩ g2 f2 r2 q2 => by
    subst ex
    subst ey
    cases q1
    cases q2
    obtain ⟨_, ob, hob, rm⟩ := r2.h.mus a _ hmu
    cases rm with
    | lst q3 =>
      exact ⟨a, _, kk, j, rfl, rfl, hob, by rw [← q3.length]; exact hj, k _ _ G2 _ hp (g1.trans g2) ((f1.trans f2).trans (.set hmu)) ⟨r2.h.set hmu (.lst (q3.putAt j ((q.mono g1).mono g2))), r2.s⟩⟩⟩⟩
/-- s.split() -/
def mWords (m : ME) : ME := fun st P PX => m st (fun d s1 => ∃ a, d = .str a ∧ a.length + 2 ≤ sizeLine ∧ P (.lst ((Txt.words a).map D.str)) s1) PX
theorem strReps {G : Hp} : ∀ l : List Str, Reps Y G (l.map D.str) (l.map V.str)
  | [] => .nil
  | s :: l => .cons (.str s) (strReps l)
theorem de_words {W : WX} {o : Expr} {mo : ME} {apos pos : Pos} (ho : DE X Y W o mo) (hbase : attributeBase o "split" X.env (eval o X.env) = eval o X.env := by rfl) (hline : (apos.endLine == pos.line) = true := by rfl) : DE X Y W (.Call (.Attribute o "split" apos) [] [] pos) (mWords mo) := by
  refine peImp (pe_bm0 PySem.F.plainAttrs_str PySem.F.slot_str_split PySem.F.type_str_split mt_words ho hbase hline) fun σ H Q ⟨G, st, P, PX, rr, hm, xp, k⟩ => ?_
  refine ⟨G, st, _, PX, rr, hm, xp, fun x s1 v G1 H1 ⟨a, ex, hl, hp⟩ g1 f1 r1 q1 => ?_⟩
  subst ex
  cases q1
  refine ⟨rfl, a, rfl, rfl, hl, fun p hq => ?_⟩
  exact k _ s1 _ _ _ hp (g1.trans (r1.h.new hq _).2.1) (f1.trans (.new hq)) (r1.new hq (.lst ((Txt.words a).map V.str))) (.lst upd_same (strReps _))
end
end DL
namespace DL
open PySem L2 RZ PySem.Spec PyProof.Rows
/-! ### enumerate over a text -/
def IteS (z : Str) : It :=
  ⟨fun i _ => i < z.cps.size, fun i H v H' => ∃ T k, v = .ref T ∧ H T = none ∧ H' = upd H T (.tup [.int (i : Nat), .str ⟨#[k]⟩]) ∧ z.cps[i]? = some k, fun i _ => z.cps.size = i⟩
theorem turn_enumS {P : Program} {w : World} {K : PySem.W.Frag} {elts : List Expr} {kk : Nat} {tpos : Pos} (z : Str) (t : Tok) (e it : Addr) :
    Turn P w K (.Tuple elts kk tpos) (IteS z) [e, it] e (fun i h => (∃ old, IsEnum h e it ((i : Nat) : Int) old) ∧ h.IsStrIter it (strIterType z) z t i ∧ e ≠ it) where
  mem := by simp
  obj := fun i h ⟨⟨old, he⟩, ⟨o, ho, hc, hd⟩, _⟩ b hb => by
    rcases List.mem_cons.mp hb with z | z
    · rw [z]; exact ⟨_, he, fun v q => nomatch q⟩
    · rw [List.mem_singleton.mp z]; exact ⟨o, ho, fun v q => by rw [hd] at q; cases q⟩
  keep := fun i h h' ⟨⟨old, he⟩, ⟨o, ho, r⟩, hne⟩ k => ⟨⟨old, k e (by simp) _ he⟩, ⟨o, k it (by simp) o ho, r⟩, hne⟩
  item := by
    intro X hP hw hK hc i pins s σ H E I hf st hg
    subst hP hw hK
    obtain ⟨⟨old, he⟩, hti, hne⟩ := st
    have le : e < s.heap.objs.size := Heap.lt_size he
    have li : it < s.heap.objs.size := by obtain ⟨_, q, _⟩ := hti; exact Heap.lt_size q
    refine wpAny_pyNext_enum_itemD (Draws.text (prog := X.prog) (w := X.w) (A := X.A.in1) (I.ok.hd hc) it z t) he hti hg hne (by simp [hne]) fun y h' tk hy ho hst hT hsz hk => ?_
    obtain ⟨c, u, hc', rfl⟩ := hy
    refine ⟨_, rfl, wpAny_letOwnedTupleGo_enum (s := { s with heap := h', toks := tk + 1 }) ho fun h2 he2 sb => ?_⟩
    have hT2 := (sb.2 _ (Nat.ne_of_gt le)).trans hT
    have new : ObjOk X.prog X.w (upd H s.heap.objs.size (.tup [.int (i : Nat), .str ⟨#[c]⟩])) h2 s.heap.objs.size (.tup [.int (i : Nat), .str ⟨#[c]⟩]) :=
      ⟨by show 2 ≤ sizeLine; decide, [.int i tk, .str ⟨#[c]⟩ u], .cons ⟨_, rfl⟩ (.cons ⟨_, rfl⟩ .nil), ⟨_, hT2, rfl, _, rfl⟩⟩
    have keep2 : ∀ b ob, b ∉ [e, it] → s.heap.get? b = some ob → h2.get? b = some ob := fun b ob hb q => (sb.2 b (fun z => hb (by simp [z]))).trans (hk b ob (fun z => hb (by simp [z])) (fun z => hb (by simp [z])) q)
    have I1 : Inv X pins σ (upd H s.heap.objs.size (.tup [.int (i : Nat), .str ⟨#[c]⟩])) { s with heap := h2, toks := tk + 1 } := I.turnedNew (ch := [e, it]) keep2 hf (Nat.le_refl _) new
    refine ⟨.ref s.heap.objs.size, _, I1, rfl, ⟨_, c, rfl, I.hok.fresh (Nat.le_refl _), rfl, hc'⟩, ⟨⟨.str ⟨#[c]⟩ u, ?_⟩, ?_, hne⟩, fun b hb => ?_⟩
    · rw [show ((i + 1 : Nat) : Int) = (i : Int) + 1 by omega]
      exact he2
    · obtain ⟨o, ho2, r⟩ := hst
      exact ⟨o, (sb.2 it (Ne.symm hne)).trans ho2, r⟩
    · have lb : b < s.heap.objs.size := by
        rcases List.mem_cons.mp hb with z | z
        · rw [z]; exact le
        · rw [List.mem_singleton.mp z]; exact li
      rw [upd_ne (Nat.ne_of_lt lb)]
      exact (hf b hb).1
  done := by
    intro X hP hw hK hc i pins s σ H E I hf st hg
    subst hP hw hK
    obtain ⟨⟨old, he⟩, hti, hne⟩ := st
    obtain ⟨f0, f1, f2, f3, f4, f5⟩ := hf it (by simp)
    have hg' : z.cps.size = i := hg
    rw [← hg'] at he hti
    exact wpAny_pyNext_enum_endD (Draws.text (prog := X.prog) (w := X.w) (A := X.A.in1) (I.ok.hd hc) it z t) he hti fun h' eb => ⟨rfl, I.turned (t' := s.toks) (fun b o hb q => eb b o hb q) f0 f1 f3 f4 f5⟩
  self := fun A i s Q E ⟨⟨_, he⟩, _⟩ h => wpAny_pyIter_enum he h
def iEnumS (ta : TA) : TI := fun σ H R => ta σ H fun vs H1 => ∃ z, vs = [.str z] ∧ R (IteS z) H1
theorem pi_enumS {X : Cx} {e : Expr} {ta : TA} {p pos tpos : Pos} {elts : List Expr} {kk : Nat} (hg : Gl X "enumerate") (hm : X.mg "enumerate" = none) (ha : PA X [e] ta) (hs : starEach [e] X.env = [(false, eval e X.env)] := by rfl) :
    PI X (.Tuple elts kk tpos) (.Call (.Name "enumerate" p) [e] [] pos) (iEnumS ta) := by
  refine ⟨fun pins s σ H R I h => ?_⟩
  refine Call_ (ld_blt I hg hm boot_enumerate (PyProof.Rows.callWith_type1 (thn (ha.run pos pins s σ H _ I h) fun us s1 ⟨vs, H1, I1, r1, q1⟩ => ?_) hs rfl))
  obtain ⟨z, ex, q⟩ := q1
  subst ex
  cases r1 with
  | cons r rr =>
    cases rr
    obtain ⟨t, rfl⟩ := r
    have apart : ∀ b ∈ [s1.heap.objs.size + 1, s1.heap.objs.size], FpOk X pins H1 b := fun b hb => by
      have le : s1.heap.objs.size ≤ b := by
        rcases List.mem_cons.mp hb with z | z
        · rw [z]; exact Nat.le_add_right _ _
        · rw [List.mem_singleton.mp z]; exact Nat.le_refl _
      exact I1.fpOk le (I1.hok.fresh le)
    refine call_enumerate_str fun h' en hti hsz hk => wpAny_pyIter_enum en ?_
    exact ⟨_, _, _, _, H1, rfl, I1.kept (t' := s1.toks) hk, turn_enumS z t _ _, ⟨⟨.none, en⟩, hti, Nat.succ_ne_self _⟩, apart, q⟩
section
variable {X : Cx} {Y : Yc} {W : WX} {G : Hp} {a : Expr} {pos : Pos} {mas : MA}
theorem wk_enumS {z : Str} : Wk Y G (IteS z) (enumD (signs z)) where
  go := fun i H hi s => by
    rw [enumD_len] at hi
    show i < z.cps.size
    simpa [signs] using hi
  stop := fun H s => by
    rw [enumD_len]
    simp [signs, IteS]
  yld := fun i H x H' G' mu c hi s r ⟨T, k, e1, e2, e3, e4⟩ => by
    subst e1
    obtain ⟨G'', g1, f1, r1, q1⟩ := yld_pair r e2 e3 (.int (i : Nat)) (.str ⟨#[k]⟩)
    have e5 : (signs z)[i]? = some (.str ⟨#[k]⟩) := by
      unfold signs
      rw [List.getElem?_map]
      have : z.cps.toList[i]? = some k := by simpa using e4
      rw [this]
      rfl
    exact ⟨_, G'', enumD_get e5, g1, f1, r1, q1⟩
def mEnumS (n : MA) : MA := fun st P PX => n st (fun ds s1 => ∃ z, ds = [.str z] ∧ P (enumD (signs z)) s1) PX
theorem di_enumS {p tpos : Pos} {elts : List Expr} {kk : Nat} (hg : Gl X "enumerate") (hm : X.mg "enumerate" = none) (ha : DA X Y W [a] mas) (hs : starEach [a] X.env = [(false, eval a X.env)] := by rfl) : DI X Y W (.Tuple elts kk tpos) (.Call (.Name "enumerate" p) [a] [] pos) (mEnumS mas) :=
  piImp (pi_enumS hg hm ha hs) fun σ H Rr ⟨G, st, P, PX, rr, hm, xp, k⟩ => ⟨G, st, _, PX, rr, hm, xp, fun ds s1 vs G1 H1 ⟨z, e1, h1⟩ g1 f1 r1 q1 => by
    subst e1
    obtain ⟨v, rfl, qv⟩ := q1.one
    cases qv
    exact ⟨z, rfl, k _ s1 G1 H1 _ h1 g1 f1 r1 wk_enumS⟩⟩
end
/-- a form with its depth, as the readers tell it -/
def foD (f : Fm) (d : Nat) : DL.D := .tup [f.toD, .int (d : Int)]
end DL
namespace DL
open PySem L2
structure FmB where
  f : Fm
  h : Bool
theorem eqv_word {w : Str} {x : Str} : eqvD (.str w) (.str x) = decide (w = x) := by rw [eqv_str2, Bool.eq_iff_iff]; simp
/-! ### the reader as a machine: its steps, where it ends -/
theorem nameR_le {r : List Nat} {n : Nat} (h : nameR r = .ok n) : n ≤ r.length := by
  unfold nameR at h
  split at h
  · cases h
  · split at h
    · split at h
      · cases h
        exact runN_le _
      · cases h
    · cases h
theorem nameR_err {r : List Nat} {n : Nat} (h : nameR r = .error n) : n ≤ r.length := by
  cases r with
  | nil => cases h; exact Nat.zero_le _
  | cons k t =>
    have h' : (if k ∈ letters then (if runN (k :: t) ≤ 12 then (.ok (runN (k :: t)) : Except Nat Nat) else .error 12) else .error 0) = .error n := h
    have := runN_le (k :: t)
    split at h'
    · split at h'
      · cases h'
      · cases h'; omega
    · cases h'; exact Nat.zero_le _
theorem leafR_err {r : List Nat} {n : Nat} (h : leafR r = .error n) : n ≤ r.length := by
  unfold leafR at h
  split at h
  · rename_i e he
    cases h
    exact nameR_err he
  · split at h <;> cases h
theorem leafR_le {r : List Nat} {f : Fm} {n : Nat} (h : leafR r = .ok (f, n)) : n ≤ r.length := by
  unfold leafR at h
  split at h
  · cases h
  · rename_i k he
    have := nameR_le he
    split at h
    · rename_i h1
      cases h
      have : (r.drop k).length ≠ 0 := fun z => by
        rw [List.length_eq_zero_iff.mp z] at h1; cases h1
      rw [List.length_drop] at this
      omega
    · cases h; exact this
theorem skipN_le' (r : List Nat) : skipN r ≤ r.length := skipN_le r
theorem mach_lp {n : Nat} {st : List Lv} {r r2 : List Nat} (e : skp r = 40 :: r2) : mach (n + 1) (.A st r) = mach n (.A (none :: st) r2) := by simp only [mach, e]
theorem mach_err {n : Nat} {st : List Lv} {r : List Nat} {k : Nat} (e : (skp r).head? ≠ some 40) (h : leafR (skp r) = .error k) : mach (n + 1) (.A st r) = some (.err ((skp r).drop k)) := by
  unfold mach
  split
  · rename_i r2 heq; rw [heq] at e; exact absurd rfl e
  · rw [h]
theorem mach_leaf {n : Nat} {st : List Lv} {r : List Nat} {f : Fm} {k : Nat} (e : (skp r).head? ≠ some 40) (h : leafR (skp r) = .ok (f, k)) : mach (n + 1) (.A st r) = mach n (.B st f 0 ((skp r).drop k)) := by
  conv => lhs; unfold mach
  split
  · rename_i r2 heq; rw [heq] at e; exact absurd rfl e
  · rw [h]
theorem mach_B0 {n : Nat} {g f : Fm} {e d : Nat} {w : Str} {r : List Nat} : mach (n + 1) (.B [some (g, e, w)] f d r) = some (.ok (.node w g f) (max e d + 1) r) := by simp only [mach]
theorem mach_B1 {n : Nat} {g f : Fm} {e d : Nat} {w : Str} {x : Lv} {st : List Lv} {r r2 : List Nat} (h : skp r = 41 :: r2) : mach (n + 1) (.B (some (g, e, w) :: x :: st) f d r) = mach n (.B (x :: st) (.node w g f) (max e d + 1) r2) := by simp only [mach, h]
theorem mach_B2 {n : Nat} {g f : Fm} {e d : Nat} {w : Str} {x : Lv} {st : List Lv} {r : List Nat} (h : (skp r).head? ≠ some 41) : mach (n + 1) (.B (some (g, e, w) :: x :: st) f d r) = some (.err (skp r)) := by
  simp only [mach]
  split
  · rename_i r2 heq; rw [heq] at h; exact absurd rfl h
  · rfl
theorem head_cons {l : List Nat} {k : Nat} (h : l.head? = some k) : ∃ t, l = k :: t := by
  cases l with
  | nil => cases h
  | cons j t => cases h; exact ⟨t, rfl⟩
def FR.rest : FR → List Nat
  | .ok _ _ r => r
  | .err r => r
def Cfg.rest : Cfg → List Nat
  | .A _ r => r
  | .B _ _ _ r => r
theorem skp_suf (r : List Nat) : skp r <:+ r := List.drop_suffix _ _
theorem mach_suf : ∀ (n : Nat) (c : Cfg) (res : FR), mach n c = some res → res.rest <:+ c.rest
  | 0, _, _, h => by cases h
  | n + 1, .A st r, res, h => by
    by_cases h1 : (skp r).head? = some 40
    · obtain ⟨t, ht⟩ := head_cons h1
      rw [mach_lp ht] at h
      have := mach_suf n _ _ h
      exact this.trans (List.IsSuffix.trans ⟨[40], by rw [ht]; rfl⟩ (skp_suf r))
    · cases el : leafR (skp r) with
      | error k =>
        rw [mach_err h1 el] at h
        cases h
        exact (List.drop_suffix _ _).trans (skp_suf r)
      | ok fk =>
        obtain ⟨f, k⟩ := fk
        rw [mach_leaf h1 el] at h
        exact (mach_suf n _ _ h).trans ((List.drop_suffix _ _).trans (skp_suf r))
  | n + 1, .B [] f d r, res, h => by cases h
  | n + 1, .B [some (g, e, w)] f d r, res, h => by rw [mach_B0] at h; cases h; exact List.suffix_refl _
  | n + 1, .B (some (g, e, w) :: x :: st) f d r, res, h => by
    by_cases h1 : (skp r).head? = some 41
    · obtain ⟨t, ht⟩ := head_cons h1
      rw [mach_B1 ht] at h
      exact (mach_suf n _ _ h).trans (List.IsSuffix.trans ⟨[41], by rw [ht]; rfl⟩ (skp_suf r))
    · rw [mach_B2 h1] at h
      cases h
      exact skp_suf r
  | n + 1, .B (none :: st) f d r, res, h => by
    cases e : markOf (skp r) with
    | none =>
      simp only [mach, e] at h
      split at h <;> (cases h; exact skp_suf r)
    | some w =>
      simp only [mach, e] at h
      exact (mach_suf n _ _ h).trans ((List.drop_suffix _ _).trans (skp_suf r))
theorem suf_drop {r l : List Nat} (h : r <:+ l) : l.drop (l.length - r.length) = r := by
  obtain ⟨t, rfl⟩ := h
  rw [List.length_append, Nat.add_sub_cancel, List.drop_left]
end DL
namespace DL
open PySem L2
theorem leafR_pos {r : List Nat} {f : Fm} {n : Nat} (h : leafR r = .ok (f, n)) : 1 ≤ n := by
  have key : ∀ k, nameR r = .ok k → 1 ≤ k := by
    intro k hk
    unfold nameR at hk
    split at hk
    · cases hk
    · rename_i j t
      split at hk
      · rename_i hj
        split at hk
        · cases hk
          have hj' : j ∈ alnum := letters_alnum _ hj
          unfold runN
          rw [List.takeWhile_cons_of_pos (by simpa using hj')]
          exact Nat.succ_pos _
        · cases hk
      · cases hk
  unfold leafR at h
  split at h
  · cases h
  · rename_i k he
    have := key k he
    split at h <;> (cases h; omega)
/-- with as much fuel as signs the machine ends -/
theorem mach_ends : ∀ (n : Nat) (c : Cfg), c.rest.length < n → (match c with | .A st _ => st ≠ [] | .B st _ _ _ => st ≠ []) → ∃ res, mach n c = some res
  | 0, _, h, _ => absurd h (Nat.not_lt_zero _)
  | n + 1, .A st r, h, hs => by
    have h0 : r.length < n + 1 := h
    have h1 := (skp_suf r).length_le
    by_cases z : (skp r).head? = some 40
    · obtain ⟨t, ht⟩ := head_cons z
      rw [mach_lp ht]
      refine mach_ends n _ ?_ (by simp)
      show t.length < n
      rw [ht, List.length_cons] at h1
      omega
    · cases el : leafR (skp r) with
      | error k => exact ⟨_, mach_err z el⟩
      | ok fk =>
        obtain ⟨f, k⟩ := fk
        rw [mach_leaf z el]
        refine mach_ends n _ ?_ hs
        show ((skp r).drop k).length < n
        have := leafR_pos el
        have := leafR_le el
        rw [List.length_drop]
        omega
  | n + 1, .B [] f d r, h, hs => absurd rfl hs
  | n + 1, .B [some (g, e, w)] f d r, h, hs => ⟨_, mach_B0⟩
  | n + 1, .B (some (g, e, w) :: x :: st) f d r, h, hs => by
    have h0 : r.length < n + 1 := h
    have h1 := (skp_suf r).length_le
    by_cases z : (skp r).head? = some 41
    · obtain ⟨t, ht⟩ := head_cons z
      rw [mach_B1 ht]
      refine mach_ends n _ ?_ (by simp)
      show t.length < n
      rw [ht, List.length_cons] at h1
      omega
    · exact ⟨_, mach_B2 z⟩
  | n + 1, .B (none :: st) f d r, h, hs => by
    have h0 : r.length < n + 1 := h
    have h1 := (skp_suf r).length_le
    cases e : markOf (skp r) with
    | none =>
      simp only [mach, e]
      split <;> exact ⟨_, rfl⟩
    | some w =>
      simp only [mach, e]
      refine mach_ends n _ ?_ (by simp)
      show ((skp r).drop 1).length < n
      have : 1 ≤ (skp r).length := by
        cases er : skp r with
        | nil => rw [er] at e; cases e
        | cons k t => exact Nat.succ_pos _
      rw [List.length_drop]
      omega
/-- what the machine tells is a form, with its depth -/
def Lv.good : Lv → Prop
  | none => True
  | some (f, d, w) => f.ok = true ∧ d = f.depth ∧ halfW (.str w) = true
theorem markOf_half {r : List Nat} {w : Str} (h : markOf r = some w) : halfW (.str w) = true := by
  unfold markOf at h
  split at h
  · cases h
  · split at h
    · cases h; decide +kernel
    split at h
    · cases h; decide +kernel
    split at h
    · cases h; decide +kernel
    split at h
    · cases h; decide +kernel
    · cases h
theorem nameR_name {r : List Nat} {n : Nat} (h : nameR r = .ok n) : isNameL (r.take n) = true := by
  unfold nameR at h
  split at h
  · cases h
  · rename_i k t
    split at h
    · rename_i hk
      split at h
      · rename_i hl
        cases h
        have hk' : k ∈ alnum := letters_alnum _ hk
        have e : (k :: t).take (runN (k :: t)) = (k :: t).takeWhile fun j => decide (j ∈ alnum) := by
          exact (List.prefix_iff_eq_take.mp (List.takeWhile_prefix _)).symm
        rw [e, List.takeWhile_cons_of_pos (by simpa using hk')]
        unfold runN at hl
        rw [List.takeWhile_cons_of_pos (by simpa using hk')] at hl
        simp only [isNameL, Bool.and_eq_true, decide_eq_true_eq]
        refine ⟨hl, hk, ?_⟩
        refine List.all_eq_true.mpr fun j hj => ?_
        rcases List.mem_cons.mp hj with z | z
        · rw [z]; exact decide_eq_true hk'
        · exact List.all_eq_true.mp (List.all_takeWhile (l := t) (p := fun j => decide (j ∈ alnum))) j z
      · cases h
    · cases h
theorem leafR_ok {r : List Nat} {f : Fm} {n : Nat} (h : leafR r = .ok (f, n)) : f.ok = true ∧ f.depth = 0 := by
  unfold leafR at h
  split at h
  · cases h
  · rename_i k he
    have hn := nameR_name he
    split at h
    · cases h
      exact ⟨Bool.and_eq_true_iff.mpr ⟨by decide +kernel, by rw [show isNameL (sL (r.take k)).cps.toList = isNameL (r.take k) by rw [sL_cps]]; exact hn⟩, rfl⟩
    · cases h
      exact ⟨Bool.and_eq_true_iff.mpr ⟨by decide +kernel, by rw [show isNameL (sL (r.take n)).cps.toList = isNameL (r.take n) by rw [sL_cps]]; exact hn⟩, rfl⟩
theorem mach_ok : ∀ (n : Nat) (c : Cfg) (f : Fm) (d : Nat) (r1 : List Nat), mach n c = some (.ok f d r1) → (match c with | .A st _ => ∀ x ∈ st, Lv.good x | .B st g e _ => (∀ x ∈ st, Lv.good x) ∧ g.ok = true ∧ e = g.depth) → f.ok = true ∧ d = f.depth
  | 0, _, _, _, _, h, _ => by cases h
  | n + 1, .A st r, f, d, r1, h, hs => by
    by_cases z : (skp r).head? = some 40
    · obtain ⟨t, ht⟩ := head_cons z
      rw [mach_lp ht] at h
      exact mach_ok n _ _ _ _ h (fun x hx => by rcases List.mem_cons.mp hx with e | e; · rw [e]; trivial
                                                · exact hs x e)
    · cases el : leafR (skp r) with
      | error k => rw [mach_err z el] at h; cases h
      | ok fk =>
        obtain ⟨g, k⟩ := fk
        rw [mach_leaf z el] at h
        obtain ⟨g1, g2⟩ := leafR_ok el
        exact mach_ok n _ _ _ _ h ⟨hs, g1, g2.symm⟩
  | n + 1, .B [] _ _ _, _, _, _, h, _ => by cases h
  | n + 1, .B [some (g, e, w)] f0 d0 r, f, d, r1, h, hs => by
    rw [mach_B0] at h
    cases h
    obtain ⟨h1, h2, h3⟩ := hs
    obtain ⟨g1, g2, g3⟩ := h1 _ List.mem_cons_self
    exact ⟨Bool.and_eq_true_iff.mpr ⟨g3, Bool.and_eq_true_iff.mpr ⟨g1, h2⟩⟩, by rw [g2, h3]; rfl⟩
  | n + 1, .B (some (g, e, w) :: x :: st) f0 d0 r, f, d, r1, h, hs => by
    obtain ⟨h1, h2, h3⟩ := hs
    obtain ⟨g1, g2, g3⟩ := h1 _ List.mem_cons_self
    by_cases z : (skp r).head? = some 41
    · obtain ⟨t, ht⟩ := head_cons z
      rw [mach_B1 ht] at h
      exact mach_ok n _ _ _ _ h ⟨fun y hy => h1 y (List.mem_cons_of_mem _ hy), Bool.and_eq_true_iff.mpr ⟨g3, Bool.and_eq_true_iff.mpr ⟨g1, h2⟩⟩, by rw [g2, h3]; rfl⟩
    · rw [mach_B2 z] at h; cases h
  | n + 1, .B (none :: st) f0 d0 r, f, d, r1, h, hs => by
    obtain ⟨h1, h2, h3⟩ := hs
    cases e : markOf (skp r) with
    | none =>
      simp only [mach, e] at h
      split at h
      · cases h
      · cases h; exact ⟨h2, h3⟩
    | some w =>
      simp only [mach, e] at h
      exact mach_ok n _ _ _ _ h (fun y hy => by
        rcases List.mem_cons.mp hy with z | z
        · rw [z]; exact ⟨h2, h3, markOf_half e⟩
        · exact h1 y (List.mem_cons_of_mem _ z))
/-! ### a row of forms, read -/
inductive RR where
  | ok (ps : List (Fm × Nat)) (r : List Nat)
  | err (r : List Nat)
def RR.pre (A : List (Fm × Nat)) : RR → RR
  | .ok ps r => .ok (A ++ ps) r
  | .err r => .err r
inductive RowR : List Nat → RR → Prop
  | bad {n : Nat} {r r1 : List Nat} : mach n (.A [none] r) = some (.err r1) → RowR r (.err r1)
  | last {n : Nat} {r r1 : List Nat} {f : Fm} {d : Nat} : mach n (.A [none] r) = some (.ok f d r1) → (skp r1).head? ≠ some 44 → RowR r (.ok [(f, d)] (skp r1))
  | more {n : Nat} {r r1 r2 : List Nat} {f : Fm} {d : Nat} {res : RR} : mach n (.A [none] r) = some (.ok f d r1) → skp r1 = 44 :: r2 → RowR r2 res → RowR r (res.pre [(f, d)])
theorem RR.pre_pre (A B : List (Fm × Nat)) (res : RR) : (res.pre B).pre A = res.pre (A ++ B) := by
  cases res with
  | ok ps r => show RR.ok _ _ = RR.ok _ _; rw [List.append_assoc]
  | err r => rfl
/-- every text is read -/
theorem row_ends : ∀ (n : Nat) (r : List Nat), r.length < n → ∃ res, RowR r res
  | 0, _, h => absurd h (Nat.not_lt_zero _)
  | n + 1, r, h => by
    obtain ⟨res, hm⟩ := mach_ends (r.length + 1) (.A [none] r) (Nat.lt_succ_self _) (by simp)
    cases res with
    | err r1 => exact ⟨_, .bad hm⟩
    | ok f d r1 =>
      by_cases z : (skp r1).head? = some 44
      · obtain ⟨t, ht⟩ := head_cons z
        have h1 : r1.length ≤ r.length := (mach_suf _ _ _ hm).length_le
        have h2 := (skp_suf r1).length_le
        rw [ht, List.length_cons] at h2
        obtain ⟨res, hr⟩ := row_ends n t (by omega)
        exact ⟨_, .more hm ht hr⟩
      · exact ⟨_, .last hm z⟩
def RR.rest : RR → List Nat
  | .ok _ r => r
  | .err r => r
theorem RR.pre_rest (A : List (Fm × Nat)) (res : RR) : (res.pre A).rest = res.rest := by cases res <;> rfl
theorem row_suf {r : List Nat} {res : RR} (h : RowR r res) : res.rest <:+ r := by
  induction h with
  | bad hm => exact mach_suf _ _ _ hm
  | last hm _ => exact (skp_suf _).trans (mach_suf _ _ _ hm)
  | @more n r r1 r2 f d res hm e _ ih =>
    rw [RR.pre_rest]
    exact ih.trans (List.IsSuffix.trans ⟨[44], by rw [e]; rfl⟩ ((skp_suf r1).trans (mach_suf _ _ _ hm)))
theorem none_good : ∀ x ∈ ([none] : List Lv), Lv.good x := fun x hx => by rw [List.mem_singleton.mp hx]; trivial
theorem row_ok {r : List Nat} {res : RR} (h : RowR r res) : ∀ ps r1, res = .ok ps r1 → ps ≠ [] ∧ ∀ p ∈ ps, p.1.ok = true ∧ p.2 = p.1.depth := by
  induction h with
  | bad hm => intro ps r1 e; cases e
  | last hm _ =>
    intro ps r1 e
    cases e
    exact ⟨by simp, fun p hp => by rw [List.mem_singleton.mp hp]; exact mach_ok _ _ _ _ _ hm none_good⟩
  | @more n r r1 r2 f d res hm e _ ih =>
    intro ps r3 e2
    cases res with
    | err _ => cases e2
    | ok ps' r' =>
      cases e2
      obtain ⟨_, h2⟩ := ih ps' _ rfl
      refine ⟨by simp, fun p hp => ?_⟩
      rcases List.mem_cons.mp hp with z | z
      · rw [z]; exact mach_ok _ _ _ _ _ hm none_good
      · exact h2 p z
theorem row_len {r : List Nat} {res : RR} (h : RowR r res) : ∀ ps r1, res = .ok ps r1 → ps.length ≤ r.length + 1 := by
  induction h with
  | bad hm => intro ps r1 e; cases e
  | last hm _ => intro ps r1 e; cases e; simp
  | @more n r r1 r2 f d res hm e _ ih =>
    intro ps r3 e2
    cases res with
    | err _ => cases e2
    | ok ps' r' =>
      cases e2
      have h2 := ih ps' _ rfl
      have h1 := (skp_suf r1).length_le
      have h3 : r1.length ≤ r.length := (mach_suf _ _ _ hm).length_le
      rw [e, List.length_cons] at h1
      show (_ :: ps').length ≤ _
      rw [List.length_cons]
      omega
end DL
namespace DL
open PySem L2
/-! ### the law's own look at a text, and the machine -/
structure Au where
  lv : List Nat
  nm : Nat
  lf : Bool
def isMark (k : Nat) : Prop := k = 42 ∨ k = 124 ∨ k = 38 ∨ k = 43
instance (k : Nat) : Decidable (isMark k) := by unfold isMark; infer_instance
/-- a sign that is met at a level h, t outside -/
def auL (row : Bool) (h : Nat) (t : List Nat) (lf : Bool) (k : Nat) : Option Au :=
  if (h = 0 ∨ h = 2) ∧ k = 40 then some ⟨0 :: h :: t, 0, lf⟩
  else if (h = 0 ∨ h = 2) ∧ k ∈ letters then some ⟨(h + 1) :: t, 1, true⟩
  else if h = 1 ∧ isMark k then some ⟨2 :: t, 0, lf⟩
  else if h = 3 ∧ t ≠ [] ∧ k = 41 then some ⟨(t.headD 0 + 1) :: t.tail, 0, false⟩
  else if row = true ∧ k = 44 ∧ t = [] ∧ (h = 3 ∨ (h = 1 ∧ lf = true)) then some ⟨[0], 0, lf⟩
  else none
def auS (row : Bool) (s : Au) (k : Nat) : Option Au :=
  if 0 < s.nm ∧ k ∈ alnum then (if s.nm = 12 then none else some { s with nm := s.nm + 1 })
  else if 0 < s.nm ∧ k = 126 then some { s with nm := 0 }
  else if k = 32 then some { s with nm := 0 }
  else auL row (s.lv.headD 0) s.lv.tail s.lf k
def auE (s : Au) : Bool := decide (s.lv.length = 1) && (decide (s.lv.headD 0 = 3) || (decide (s.lv.headD 0 = 1) && s.lf))
def auto (row : Bool) : Au → Nat → List Nat → Nat × Bool
  | s, p, [] => (p, auE s)
  | s, p, k :: r => match auS row s k with
    | none => (p, false)
    | some s' => auto row s' (p + 1) r
theorem auto_cons {row : Bool} {s : Au} {p k : Nat} {r : List Nat} : auto row s p (k :: r) = match auS row s k with | none => (p, false) | some s' => auto row s' (p + 1) r := by
  conv => lhs; unfold auto
theorem auS0 {row : Bool} {lv : List Nat} {lf : Bool} {k : Nat} (hk : k ≠ 32) : auS row ⟨lv, 0, lf⟩ k = auL row (lv.headD 0) lv.tail lf k := by
  unfold auS
  rw [if_neg (by simp), if_neg (by simp), if_neg hk]
theorem auS32 {row : Bool} {lv : List Nat} {lf : Bool} : auS row ⟨lv, 0, lf⟩ 32 = some ⟨lv, 0, lf⟩ := by
  unfold auS
  rw [if_neg (by simp), if_neg (by simp), if_pos rfl]
theorem skp_cons (r : List Nat) : skp (32 :: r) = skp r := by
  unfold skp
  have e : skipN (32 :: r) = skipN r + 1 := by
    show (if (32 : Nat) = 32 then skipN r + 1 else 0) = _
    rw [if_pos rfl]
  rw [e, List.drop_succ_cons]
theorem skp_ne {k : Nat} (h : k ≠ 32) (r : List Nat) : skp (k :: r) = k :: r := by
  unfold skp
  have e : skipN (k :: r) = 0 := by
    show (if k = 32 then skipN r + 1 else 0) = _
    rw [if_neg h]
  rw [e, List.drop_zero]
theorem skp_head (r : List Nat) : (skp r).head? ≠ some 32 := by
  induction r with
  | nil => intro z; cases z
  | cons k r ih =>
    by_cases h : k = 32
    · subst h; rw [skp_cons]; exact ih
    · rw [skp_ne h]; intro z; cases z; exact h rfl
theorem skp_skp (r : List Nat) : skp (skp r) = skp r := by
  cases e : skp r with
  | nil => rfl
  | cons k t =>
    refine skp_ne (fun z => ?_) t
    have := skp_head r
    rw [e, z] at this
    exact this rfl
section
variable {row : Bool} {lv t : List Nat} {lf : Bool} {p h : Nat}
theorem auto_skip : ∀ (r : List Nat) (p : Nat), auto row ⟨lv, 0, lf⟩ p r = auto row ⟨lv, 0, lf⟩ (p + (r.length - (skp r).length)) (skp r)
  | [], p => rfl
  | k :: r, p => by
    by_cases hk : k = 32
    · subst hk
      rw [skp_cons, auto_cons, auS32]
      simp only
      rw [auto_skip r (p + 1)]
      have := (skp_suf r).length_le
      congr 1
      rw [List.length_cons]
      omega
    · rw [skp_ne hk, Nat.sub_self, Nat.add_zero]
theorem auto_sp {n : Nat} {r : List Nat} (hr : ∀ k, r.head? = some k → k ∉ alnum ∧ k ≠ 126) : auto row ⟨lv, n, lf⟩ p r = auto row ⟨lv, 0, lf⟩ p r := by
  cases r with
  | nil => rfl
  | cons k r =>
    obtain ⟨h1, h2⟩ := hr k rfl
    have e : auS row ⟨lv, n, lf⟩ k = auS row ⟨lv, 0, lf⟩ k := by
      unfold auS
      simp [h1, h2]
    rw [auto_cons, auto_cons, e]
theorem runN_if {k : Nat} (r : List Nat) : runN (k :: r) = if k ∈ alnum then runN r + 1 else 0 := by
  unfold runN
  by_cases hk : k ∈ alnum
  · rw [List.takeWhile_cons_of_pos (by simpa using hk), if_pos hk, List.length_cons]
  · rw [List.takeWhile_cons_of_neg (by simpa using hk), if_neg hk]; rfl
theorem auto_name : ∀ (r : List Nat) (n p : Nat), 0 < n → n ≤ 12 → auto row ⟨lv, n, true⟩ p r = if 12 < n + runN r then (p + (12 - n), false) else
    if (r.drop (runN r)).head? = some 126 then auto row ⟨lv, 0, true⟩ (p + (runN r + 1)) (r.drop (runN r + 1)) else auto row ⟨lv, 0, true⟩ (p + runN r) (r.drop (runN r))
  | [], n, p, h0, h1 => by
    rw [show runN [] = 0 from rfl, if_neg (by omega), List.drop_nil, if_neg (by simp)]
    rfl
  | k :: r, n, p, h0, h1 => by
    rw [runN_if]
    by_cases hk : k ∈ alnum
    · rw [if_pos hk]
      have es : auS row ⟨lv, n, true⟩ k = if n = 12 then none else some ⟨lv, n + 1, true⟩ := by
        unfold auS
        rw [if_pos ⟨h0, hk⟩]
      rw [auto_cons, es]
      by_cases hn : n = 12
      · subst hn
        rw [if_pos rfl, if_pos (by omega)]
        simp
      · rw [if_neg hn]
        simp only
        rw [auto_name r (n + 1) (p + 1) (by omega) (by omega)]
        rw [List.drop_succ_cons, List.drop_succ_cons]
        rw [show p + 1 + (12 - (n + 1)) = p + (12 - n) by omega, show n + 1 + runN r = n + (runN r + 1) by omega, show p + 1 + (runN r + 1) = p + (runN r + 1 + 1) by omega, show p + 1 + runN r = p + (runN r + 1) by omega]
    · rw [if_neg hk, if_neg (by omega), List.drop_zero]
      by_cases h2 : k = 126
      · subst h2
        rw [if_pos (show (126 :: r).head? = some 126 from rfl)]
        have es : auS row ⟨lv, n, true⟩ 126 = some ⟨lv, 0, true⟩ := by
          unfold auS
          rw [if_neg (fun z => hk z.2), if_pos ⟨h0, rfl⟩]
        rw [auto_cons, es]
        rfl
      · rw [if_neg (by simpa using h2), Nat.add_zero]
        exact auto_sp fun j hj => by cases hj; exact ⟨hk, h2⟩
theorem auto_leaf {r : List Nat} (hh : h = 0 ∨ h = 2) (h40 : r.head? ≠ some 40) (h32 : r.head? ≠ some 32) : auto row ⟨h :: t, 0, lf⟩ p r = match leafR r with
    | .error e => (p + e, false)
    | .ok (f, m) => auto row ⟨(h + 1) :: t, 0, true⟩ (p + m) (r.drop m) := by
  have h1 : h ≠ 1 := by omega
  have h3 : h ≠ 3 := by omega
  cases r with
  | nil =>
    show (p, auE ⟨h :: t, 0, lf⟩) = (p + 0, false)
    have e : auE ⟨h :: t, 0, lf⟩ = false := by
      show (decide ((h :: t).length = 1) && (decide (h = 3) || (decide (h = 1) && lf))) = false
      rw [decide_eq_false h3, decide_eq_false h1]
      simp
    rw [e]
    rfl
  | cons k r =>
    have k40 : k ≠ 40 := fun z => h40 (by rw [z]; rfl)
    have k32 : k ≠ 32 := fun z => h32 (by rw [z]; rfl)
    rw [auto_cons, auS0 k32]
    have eN : nameR (k :: r) = if k ∈ letters then (if runN (k :: r) ≤ 12 then (.ok (runN (k :: r)) : Except Nat Nat) else .error 12) else .error 0 := rfl
    unfold leafR
    rw [eN]
    show (match auL row h t lf k with | none => (_, false) | some s' => auto row s' _ _) = _
    unfold auL
    rw [if_neg (fun z => k40 z.2)]
    by_cases hk : k ∈ letters
    · have ha : k ∈ alnum := letters_alnum _ hk
      rw [if_pos ⟨hh, hk⟩, if_pos hk]
      simp only
      rw [auto_name r 1 (p + 1) (by omega) (by omega), runN_if, if_pos ha]
      by_cases hl : 12 < 1 + runN r
      · rw [if_pos hl, if_neg (show ¬ runN r + 1 ≤ 12 by omega)]
      · rw [if_neg hl, if_pos (show runN r + 1 ≤ 12 by omega)]
        simp only [List.drop_succ_cons]
        by_cases h126 : (r.drop (runN r)).head? = some 126
        · rw [if_pos h126, if_pos h126]
          simp only [List.drop_succ_cons]
          rw [show p + 1 + (runN r + 1) = p + (runN r + 1 + 1) by omega]
        · rw [if_neg h126, if_neg h126]
          simp only [List.drop_succ_cons]
          rw [show p + 1 + runN r = p + (runN r + 1) by omega]
    · rw [if_neg (fun z => hk z.2), if_neg (fun z => h1 z.1), if_neg (fun z => h3 z.1), if_neg (fun z => by rcases z.2.2.2 with z | z; exact h3 z; exact h1 z.1), if_neg hk]
      rfl
/-- whether a leaf was read last counts at level 1 alone -/
theorem auto_lf : ∀ (r : List Nat) (lv : List Nat) (p : Nat) (lf lf' : Bool), lv.headD 0 ≠ 1 → auto row ⟨lv, 0, lf⟩ p r = auto row ⟨lv, 0, lf'⟩ p r
  | [], lv, p, lf, lf', h1 => by
    show (p, auE _) = (p, auE _)
    unfold auE
    simp only
    rw [decide_eq_false h1]
    rfl
  | k :: r, lv, p, lf, lf', h1 => by
    by_cases hk : k = 32
    · subst hk
      rw [auto_cons, auto_cons, auS32, auS32]
      exact auto_lf r lv (p + 1) lf lf' h1
    · rw [auto_cons, auto_cons, auS0 hk, auS0 hk]
      unfold auL
      by_cases c1 : (lv.headD 0 = 0 ∨ lv.headD 0 = 2) ∧ k = 40
      · rw [if_pos c1, if_pos c1]
        exact auto_lf r _ (p + 1) lf lf' (by simp)
      rw [if_neg c1, if_neg c1]
      by_cases c2 : (lv.headD 0 = 0 ∨ lv.headD 0 = 2) ∧ k ∈ letters
      · rw [if_pos c2, if_pos c2]
      rw [if_neg c2, if_neg c2]
      have c3 : ¬ (lv.headD 0 = 1 ∧ isMark k) := fun z => h1 z.1
      rw [if_neg c3, if_neg c3]
      by_cases c4 : lv.headD 0 = 3 ∧ lv.tail ≠ [] ∧ k = 41
      · rw [if_pos c4, if_pos c4]
      rw [if_neg c4, if_neg c4]
      by_cases c5 : row = true ∧ k = 44 ∧ lv.tail = [] ∧ lv.headD 0 = 3
      · have c6 : ∀ b : Bool, (row = true ∧ k = 44 ∧ lv.tail = [] ∧ (lv.headD 0 = 3 ∨ (lv.headD 0 = 1 ∧ b = true))) := fun b => ⟨c5.1, c5.2.1, c5.2.2.1, .inl c5.2.2.2⟩
        rw [if_pos (c6 _), if_pos (c6 _)]
        exact auto_lf r _ (p + 1) lf lf' (by simp)
      · have c6 : ∀ b : Bool, ¬ (row = true ∧ k = 44 ∧ lv.tail = [] ∧ (lv.headD 0 = 3 ∨ (lv.headD 0 = 1 ∧ b = true))) := fun b z => c5 ⟨z.1, z.2.1, z.2.2.1, z.2.2.2.elim id fun y => absurd y.1 h1⟩
        rw [if_neg (c6 _), if_neg (c6 _)]
end
def lvA : Lv → Nat
  | none => 0
  | some _ => 2
theorem lvA_or (x : Lv) : lvA x = 0 ∨ lvA x = 2 := by cases x; exact .inl rfl; exact .inr rfl
/-- where the machine's end leaves the look -/
def auFin (row : Bool) (p : Nat) (r : List Nat) : FR → Nat × Bool
  | .err r1 => (p + (r.length - r1.length), false)
  | .ok _ d r1 => auto row ⟨[if d = 0 then 1 else 3], 0, decide (d = 0)⟩ (p + (r.length - r1.length)) r1
theorem auFin_go {row : Bool} {p : Nat} {r r2 : List Nat} {res : FR} (h1 : r2.length ≤ r.length) (h2 : res.rest.length ≤ r2.length) : auFin row (p + (r.length - r2.length)) r2 res = auFin row p r res := by
  cases res with
  | err r1 =>
    have h2 : r1.length ≤ r2.length := h2
    show (_, false) = (_, false)
    rw [show p + (r.length - r2.length) + (r2.length - r1.length) = p + (r.length - r1.length) by omega]
  | ok f d r1 =>
    have h2 : r1.length ≤ r2.length := h2
    show auto _ _ _ _ = auto _ _ _ _
    rw [show p + (r.length - r2.length) + (r2.length - r1.length) = p + (r.length - r1.length) by omega]
theorem markOf_mark {k : Nat} {r : List Nat} : markOf (k :: r) = none ↔ ¬ isMark k := by
  unfold markOf isMark
  simp only
  by_cases h1 : k = 42
  · simp [h1]
  by_cases h2 : k = 124
  · simp [h2]
  by_cases h3 : k = 38
  · simp [h3]
  by_cases h4 : k = 43
  · simp [h4]
  simp [h1, h2, h3, h4]
def auCfg (row : Bool) (res : FR) : Cfg → Prop
  | .A st r => ∀ p lf, st ≠ [] → auto row ⟨st.map lvA, 0, lf⟩ p r = auFin row p r res
  | .B st _ d r => ∀ p x s, st = x :: s → auto row ⟨(lvA x + 1) :: s.map lvA, 0, decide (d = 0)⟩ p r = auFin row p r res
theorem auto_mach (row : Bool) : ∀ (n : Nat) (c : Cfg) (res : FR), mach n c = some res → auCfg row res c
  | 0, _, _, h => by cases h
  | n + 1, .A st r, res, h => by
    intro p lf hst
    have hs := (skp_suf r).length_le
    rw [auto_skip]
    by_cases z : (skp r).head? = some 40
    · obtain ⟨t, ht⟩ := head_cons z
      rw [mach_lp ht] at h
      have ih := auto_mach row n _ _ h
      have hl : res.rest.length ≤ t.length := (mach_suf _ _ _ h).length_le
      cases st with
      | nil => exact absurd rfl hst
      | cons x st =>
        rw [ht, auto_cons, auS0 (by decide)]
        show (match auL row (lvA x) (st.map lvA) lf 40 with | none => (_, false) | some s' => auto row s' _ _) = _
        unfold auL
        rw [if_pos ⟨lvA_or x, rfl⟩]
        simp only
        have e := ih (p + (r.length - (40 :: t).length) + 1) lf (by simp)
        have hl2 : t.length + 1 ≤ r.length := by rw [ht, List.length_cons] at hs; exact hs
        refine e.trans ?_
        rw [show p + (r.length - (40 :: t).length) + 1 = p + (r.length - t.length) by rw [List.length_cons]; omega]
        exact auFin_go (by omega) hl
    · cases st with
      | nil => exact absurd rfl hst
      | cons x st =>
        show auto row ⟨lvA x :: st.map lvA, 0, lf⟩ _ _ = _
        rw [auto_leaf (lvA_or x) z (skp_head r)]
        cases el : leafR (skp r) with
        | error k =>
          rw [mach_err z el] at h
          cases h
          have := leafR_err el
          show (_, false) = (p + (r.length - ((skp r).drop k).length), false)
          rw [List.length_drop, show p + (r.length - (skp r).length) + k = p + (r.length - ((skp r).length - k)) by omega]
        | ok fk =>
          obtain ⟨f, k⟩ := fk
          rw [mach_leaf z el] at h
          have hk := leafR_le el
          have ih := auto_mach row n _ _ h (p + (r.length - (skp r).length) + k) x st rfl
          have hl : res.rest.length ≤ ((skp r).drop k).length := (mach_suf _ _ _ h).length_le
          refine ih.trans ?_
          have e : p + (r.length - (skp r).length) + k = p + (r.length - ((skp r).drop k).length) := by rw [List.length_drop]; omega
          rw [e]
          exact auFin_go (by rw [List.length_drop]; omega) hl
  | n + 1, .B [] f d r, res, h => by cases h
  | n + 1, .B [some (g, e, w)] f d r, res, h => by
    rw [mach_B0] at h
    cases h
    intro p x s hx
    cases hx
    show auto row ⟨[3], 0, _⟩ p r = auto row ⟨[if max e d + 1 = 0 then 1 else 3], 0, decide (max e d + 1 = 0)⟩ (p + (r.length - r.length)) r
    rw [if_neg (by omega), Nat.sub_self, Nat.add_zero]
    exact auto_lf _ _ _ _ _ (by simp)
  | n + 1, .B (some (g, e, w) :: x :: st) f d r, res, h => by
    intro p y s hy
    cases hy
    have hs := (skp_suf r).length_le
    rw [auto_skip]
    show auto row ⟨3 :: lvA x :: st.map lvA, 0, _⟩ _ _ = _
    by_cases z : (skp r).head? = some 41
    · obtain ⟨t, ht⟩ := head_cons z
      rw [mach_B1 ht] at h
      have hl : res.rest.length ≤ t.length := (mach_suf _ _ _ h).length_le
      rw [ht, auto_cons, auS0 (by decide)]
      show (match auL row 3 (lvA x :: st.map lvA) (decide (d = 0)) 41 with | none => (p + (r.length - (41 :: t).length), false) | some s' => auto row s' (p + (r.length - (41 :: t).length) + 1) t) = auFin row p r res
      unfold auL
      rw [if_neg (by decide), if_neg (by decide), if_neg (by decide), if_pos ⟨rfl, by simp, rfl⟩]
      simp only
      have hl2 : t.length + 1 ≤ r.length := by rw [ht, List.length_cons] at hs; exact hs
      have ih := auto_mach row n _ _ h (p + (r.length - (41 :: t).length) + 1) x st rfl
      refine Eq.trans ?_ (ih.trans ?_)
      · rw [decide_eq_false (by omega : ¬ max e d + 1 = 0)]; rfl
      · rw [show p + (r.length - (41 :: t).length) + 1 = p + (r.length - t.length) by rw [List.length_cons]; omega]
        exact auFin_go (by omega) hl
    · rw [mach_B2 z] at h
      cases h
      show _ = (p + (r.length - (skp r).length), false)
      cases er : skp r with
      | nil =>
        show (_, auE _) = _
        have e0 : ∀ b, auE ⟨3 :: lvA x :: st.map lvA, 0, b⟩ = false := fun b => by
          show (decide ((3 :: lvA x :: st.map lvA).length = 1) && _) = false
          rw [decide_eq_false (by simp)]
          rfl
        rw [e0]
      | cons k t =>
        have k32 : k ≠ 32 := fun z => skp_head r (by rw [er, z]; rfl)
        have k41 : k ≠ 41 := fun y => z (by rw [er, y]; rfl)
        rw [auto_cons, auS0 k32]
        show (match auL row 3 (lvA x :: st.map lvA) (decide (d = 0)) k with | none => (_, false) | some s' => auto row s' _ _) = _
        unfold auL
        rw [if_neg (fun z => by omega), if_neg (fun z => by omega), if_neg (fun z => by omega), if_neg (fun z => k41 z.2.2), if_neg (fun z => by simp at z)]
  | n + 1, .B (none :: st) f d r, res, h => by
    intro p y s hy
    cases hy
    have hs := (skp_suf r).length_le
    rw [auto_skip]
    show auto row ⟨1 :: st.map lvA, 0, _⟩ _ _ = _
    cases em : markOf (skp r) with
    | none =>
      simp only [mach, em] at h
      by_cases c1 : 0 < st.length ∨ 0 < d
      · rw [if_pos c1] at h
        cases h
        show _ = (p + (r.length - (skp r).length), false)
        have hc : ¬ (st.map lvA = [] ∧ decide (d = 0) = true) := fun z => by
          obtain ⟨z1, z2⟩ := z
          rcases c1 with c | c
          · rw [List.map_eq_nil_iff.mp z1] at c; cases c
          · rw [of_decide_eq_true z2] at c; cases c
        cases er : skp r with
        | nil =>
          show (_, auE _) = _
          have e0 : auE ⟨1 :: st.map lvA, 0, decide (d = 0)⟩ = false := by
            show (decide ((1 :: st.map lvA).length = 1) && (decide (1 = 3) || (decide (1 = 1) && decide (d = 0)))) = false
            rw [Bool.eq_false_iff]
            intro z
            simp only [Bool.and_eq_true, Bool.or_eq_true, decide_eq_true_eq] at z
            refine hc ⟨?_, ?_⟩
            · exact List.length_eq_zero_iff.mp (by have := z.1; rw [List.length_cons] at this; omega)
            · rcases z.2 with y | y
              · cases y
              · exact decide_eq_true y.2
          rw [e0]
        | cons k t =>
          have k32 : k ≠ 32 := fun z => skp_head r (by rw [er, z]; rfl)
          rw [er] at em
          have hm := markOf_mark.mp em
          rw [auto_cons, auS0 k32]
          show (match auL row 1 (st.map lvA) (decide (d = 0)) k with | none => (_, false) | some s' => auto row s' _ _) = _
          unfold auL
          rw [if_neg (fun z => by omega), if_neg (fun z => by omega), if_neg (fun z => hm z.2), if_neg (fun z => by omega), if_neg (fun z => hc ⟨z.2.2.1, z.2.2.2.elim (fun y => by cases y) fun y => y.2⟩)]
      · rw [if_neg c1] at h
        cases h
        have hst : st = [] := List.length_eq_zero_iff.mp (by omega)
        have hd : d = 0 := by omega
        subst hst
        subst hd
        rfl
    | some w =>
      simp only [mach, em] at h
      have ih := auto_mach row n _ _ h
      have hl : res.rest.length ≤ ((skp r).drop 1).length := (mach_suf _ _ _ h).length_le
      cases er : skp r with
      | nil => rw [er] at em; cases em
      | cons k t =>
        have k32 : k ≠ 32 := fun z => skp_head r (by rw [er, z]; rfl)
        rw [er] at em ih hl
        have hm : isMark k := Classical.byContradiction fun z => by rw [markOf_mark.mpr z] at em; cases em
        rw [auto_cons, auS0 k32]
        show (match auL row 1 (st.map lvA) (decide (d = 0)) k with | none => (_, false) | some s' => auto row s' _ _) = _
        unfold auL
        rw [if_neg (fun z => by omega), if_neg (fun z => by omega), if_pos ⟨rfl, hm⟩]
        simp only
        have e := ih (p + (r.length - (k :: t).length) + 1) (decide (d = 0)) (by simp)
        have hl2 : t.length + 1 ≤ r.length := by rw [er, List.length_cons] at hs; exact hs
        refine e.trans ?_
        rw [show p + (r.length - (k :: t).length) + 1 = p + (r.length - t.length) by rw [List.length_cons]; omega]
        exact auFin_go (by show t.length ≤ _; omega) hl
theorem mach_stop : ∀ (n : Nat) (c : Cfg) (f : Fm) (r1 : List Nat), mach n c = some (.ok f 0 r1) → markOf (skp r1) = none
  | 0, _, _, _, h => by cases h
  | n + 1, .A st r, f, r1, h => by
    by_cases z : (skp r).head? = some 40
    · obtain ⟨t, ht⟩ := head_cons z
      rw [mach_lp ht] at h
      exact mach_stop n _ _ _ h
    · cases el : leafR (skp r) with
      | error k => rw [mach_err z el] at h; cases h
      | ok fk =>
        obtain ⟨g, k⟩ := fk
        rw [mach_leaf z el] at h
        exact mach_stop n _ _ _ h
  | n + 1, .B [] _ _ _, _, _, h => by cases h
  | n + 1, .B [some (g, e, w)] f0 d0 r, f, r1, h => by rw [mach_B0] at h; cases h
  | n + 1, .B (some (g, e, w) :: x :: st) f0 d0 r, f, r1, h => by
    by_cases z : (skp r).head? = some 41
    · obtain ⟨t, ht⟩ := head_cons z
      rw [mach_B1 ht] at h
      exact mach_stop n _ _ _ h
    · rw [mach_B2 z] at h; cases h
  | n + 1, .B (none :: st) f0 d0 r, f, r1, h => by
    cases e : markOf (skp r) with
    | none =>
      simp only [mach, e] at h
      split at h
      · cases h
      · cases h; rw [skp_skp]; exact e
    | some w =>
      simp only [mach, e] at h
      exact mach_stop n _ _ _ h
/-- behind a form: no comma follows -/
theorem auto_end {row : Bool} {p d : Nat} {r1 : List Nat} (h1 : d = 0 → markOf (skp r1) = none) (h2 : row = true → (skp r1).head? ≠ some 44) :
    auto row ⟨[if d = 0 then 1 else 3], 0, decide (d = 0)⟩ p r1 = (p + (r1.length - (skp r1).length), decide (skp r1 = [])) := by
  rw [auto_skip]
  cases er : skp r1 with
  | nil =>
    show (_, auE _) = _
    by_cases hd : d = 0
    · subst hd; rfl
    · rw [if_neg hd, decide_eq_false hd]; rfl
  | cons k t =>
    have k32 : k ≠ 32 := fun z => skp_head r1 (by rw [er, z]; rfl)
    have k44 : ¬ (row = true ∧ k = 44) := fun z => h2 z.1 (by rw [er, z.2]; rfl)
    rw [auto_cons, auS0 k32, decide_eq_false (by simp : ¬ k :: t = [])]
    have e : auL row ((if d = 0 then 1 else 3 : Nat)) [] (decide (d = 0)) k = none := by
      unfold auL
      by_cases hd : d = 0
      · have hm := h1 hd
        rw [er] at hm
        have hm := markOf_mark.mp hm
        rw [if_pos hd, if_neg (fun z => by omega), if_neg (fun z => by omega), if_neg (fun z => hm z.2), if_neg (fun z => by omega), if_neg (fun z => k44 ⟨z.1, z.2.1⟩)]
      · rw [if_neg hd, if_neg (fun z => by omega), if_neg (fun z => by omega), if_neg (fun z => by omega), if_neg (fun z => z.2.1 rfl), if_neg (fun z => k44 ⟨z.1, z.2.1⟩)]
    show (match auL row (if d = 0 then 1 else 3) [] (decide (d = 0)) k with | none => (_, false) | some s' => auto row s' _ _) = _
    rw [e]
/-- ONE FORM: the law's look says what the machine says -/
theorem auto_form {n : Nat} {r : List Nat} {res : FR} (h : mach n (.A [none] r) = some res) (p : Nat) (lf : Bool) : auto false ⟨[0], 0, lf⟩ p r = match res with
    | .err r1 => (p + (r.length - r1.length), false)
    | .ok _ _ r1 => (p + (r.length - (skp r1).length), decide (skp r1 = [])) := by
  have e := auto_mach false _ _ _ h p lf (by simp)
  refine (show auto false ⟨[0], 0, lf⟩ p r = _ from e).trans ?_
  cases res with
  | err r1 => rfl
  | ok f d r1 =>
    show auto _ _ _ _ = _
    have h1 := (skp_suf r1).length_le
    have h2 : r1.length ≤ r.length := (mach_suf _ _ _ h).length_le
    rw [auto_end (fun z => by subst z; exact mach_stop _ _ _ _ h) (fun z => by cases z)]
    show (_, _) = (_, _)
    rw [show p + (r.length - r1.length) + (r1.length - (skp r1).length) = p + (r.length - (skp r1).length) by omega]
/-- A ROW OF FORMS -/
theorem auto_row {r : List Nat} {res : RR} (h : RowR r res) : ∀ (p : Nat) (lf : Bool), auto true ⟨[0], 0, lf⟩ p r = match res with
    | .err r1 => (p + (r.length - r1.length), false)
    | .ok _ r1 => (p + (r.length - r1.length), decide (r1 = [])) := by
  induction h with
  | @bad n r r1 hm =>
    intro p lf
    exact auto_mach true _ _ _ hm p lf (by simp)
  | @last n r r1 f d hm h44 =>
    intro p lf
    have e := auto_mach true _ _ _ hm p lf (by simp)
    refine (show auto true ⟨[0], 0, lf⟩ p r = _ from e).trans ?_
    show auto _ _ _ _ = _
    have h1 := (skp_suf r1).length_le
    have h2 : r1.length ≤ r.length := (mach_suf _ _ _ hm).length_le
    rw [auto_end (fun z => by subst z; exact mach_stop _ _ _ _ hm) (fun _ => h44)]
    show (_, _) = (_, _)
    rw [show p + (r.length - r1.length) + (r1.length - (skp r1).length) = p + (r.length - (skp r1).length) by omega]
  | @more n r r1 r2 f d res hm h44 hrow ih =>
    intro p lf
    have e := auto_mach true _ _ _ hm p lf (by simp)
    refine (show auto true ⟨[0], 0, lf⟩ p r = _ from e).trans ?_
    show auto _ _ _ _ = _
    have h1 := (skp_suf r1).length_le
    have h2 : r1.length ≤ r.length := (mach_suf _ _ _ hm).length_le
    have h3 : res.rest.length ≤ r2.length := (row_suf hrow).length_le
    rw [h44, List.length_cons] at h1
    rw [auto_skip, h44, auto_cons, auS0 (by decide)]
    have e2 : auL true ((if d = 0 then 1 else 3 : Nat)) [] (decide (d = 0)) 44 = some ⟨[0], 0, decide (d = 0)⟩ := by
      unfold auL
      by_cases hd : d = 0
      · rw [if_pos hd, if_neg (fun z => by omega), if_neg (fun z => by omega), if_neg (fun z => by have := z.2; unfold isMark at this; omega), if_neg (fun z => by omega), if_pos ⟨rfl, rfl, rfl, .inr ⟨rfl, decide_eq_true hd⟩⟩]
      · rw [if_neg hd, if_neg (fun z => by omega), if_neg (fun z => by have := z.2; revert this; decide +kernel), if_neg (fun z => by omega), if_neg (fun z => z.2.1 rfl), if_pos ⟨rfl, rfl, rfl, .inl rfl⟩]
    show (match auL true (if d = 0 then 1 else 3) [] (decide (d = 0)) 44 with | none => (_, false) | some s' => auto true s' _ _) = _
    rw [e2]
    simp only
    rw [ih]
    cases res with
    | err r3 =>
      have h3 : r3.length ≤ r2.length := h3
      show (_, false) = (_, false)
      rw [show p + (r.length - r1.length) + (r1.length - (44 :: r2).length) + 1 + (r2.length - r3.length) = p + (r.length - r3.length) by rw [List.length_cons]; omega]
    | ok ps r3 =>
      have h3 : r3.length ≤ r2.length := h3
      show (_, _) = (_, _)
      rw [show p + (r.length - r1.length) + (r1.length - (44 :: r2).length) + 1 + (r2.length - r3.length) = p + (r.length - r3.length) by rw [List.length_cons]; omega]
end DL
namespace DL
open PySem L2
/-! ### for c in "..": s = s.replace(c, ' ' + c + ' ') -/
section
variable {X : Cx} {pins : List (Addr × Obj)} {σ : St} {H : Hp} {s : Shared}
/-- the frame's own names, one of them changed -/
theorem inv_named {h' : Heap} {tk : Nat} {m : Str → Option Value} {i : Nat} {x : Str} {v : V} {u : Value} (I : Inv X pins σ H s) (nd : X.N.Nodup) (hi : X.N[i]? = some x) (hk : X.env.scope.names.lookup x = some .local) (r : RelV v u)
    (hl : ∀ (j : Nat) (y : Str) (w : V), X.N[j]? = some y → σ[j]? = some (some w) → Vis X.env.scope y → ∃ z, RelV w z ∧ Look X.env s.heap m y z)
    (hn : h'.Ns X.env.locals (fun y => if y = x then some u else m y)) (sb : Heap.SameBut X.env.locals s.heap h') : Inv X pins (σ.set i (some v)) H { s with heap := h', toks := tk } := by
  have far : ∀ {b : Addr} {o : Obj}, X.s_0.heap.get? b = some o → b ≠ X.env.locals := fun e => Nat.ne_of_lt (Nat.lt_of_lt_of_le (Heap.lt_size e) I.ok.above)
  have len : i < σ.length := by
    rw [I.len]
    exact (List.getElem?_eq_some_iff.mp hi).1
  have cne := I.cne
  exact {
    ok := I.ok
    os := I.os
    bare := I.bare
    base := {
      keep := fun b o e n1 n2 n3 => by rw [show h'.get? b = _ from sb.2 b (far e)]; exact I.base.keep b o e n1 n2 n3
      slot := fun b o e n1 n2 n3 => let ⟨sl, z⟩ := I.base.slot b o e n1 n2 n3; ⟨sl, by rw [show h'.get? b = _ from sb.2 b (far e)]; exact z⟩
      free := I.base.free
      there := fun b o e n1 => let ⟨o', z⟩ := I.base.there b o e n1; ⟨o', by rw [show h'.get? b = _ from sb.2 b (far e)]; exact z⟩
      tups := I.base.tups
      frzs := I.base.frzs
      tbls := I.base.tbls }
    loc := ⟨_, hn, fun j y w e1 e2 e3 => by
      by_cases hj : j = i
      · subst hj
        have ey : y = x := Option.some.inj (e1.symm.trans hi)
        rw [List.getElem?_set_self len] at e2
        cases e2
        refine ⟨u, r, .inl ⟨by rw [ey]; exact hk, ?_⟩⟩
        show (if y = x then some u else m y) = some u
        rw [if_pos ey]
      · have e2' : σ[j]? = some (some w) := by rwa [List.getElem?_set_ne (fun z => hj z.symm)] at e2
        obtain ⟨z, hz, hq⟩ := hl j y w e1 e2' e3
        have ny : y ≠ x := fun e => hj (nodup_ix nd e1 (by rw [e]; exact hi))
        refine ⟨z, hz, ?_⟩
        rcases hq with ⟨q1, q2⟩ | ⟨q1, cc, q2, q3⟩
        · refine .inl ⟨q1, ?_⟩
          show (if y = x then some u else m y) = some z
          rw [if_neg ny]
          exact q2
        · exact .inr ⟨q1, cc, q2, q3.sameBut sb (cne y cc q2)⟩⟩
    cell := fun y cc e => let ⟨w, z⟩ := I.cell y cc e; ⟨w, z.sameBut sb (cne y cc e)⟩
    free := I.free
    freeC := I.freeC
    pin := fun p hp => let ⟨e, n1, n2, n3, d⟩ := I.pin p hp; ⟨by rw [show h'.get? p.1 = _ from sb.2 p.1 n2]; exact e, n1, n2, n3, d⟩
    hok := fun b o e => (I.hok b o e).stay (fun d w hd q => by
        have nd : d ≠ X.env.locals := by
          rintro rfl
          rcases hd with hd | hd
          · have := I.free; rw [hd, e] at this; cases this
          · have := I.free; rw [hd] at this; cases this
        rw [show h'.get? d = _ from sb.2 d nd]; exact q) (fun _ q => q) fun _ _ q => q
    len := by simpa using I.len }
/-- ' ' + c + ' ' -/
def spOf (y : Str) : Str := (Str.ofString " ") ++ y ++ (Str.ofString " ")
theorem add_two {P : Program} {w : World} {A : Around} {E : Value → Shared → Prop} {s : Shared} {x y : Str} {t u : Tok} {Q : Value → Shared → Prop} (hx : (x.length == 0) = false) (hy : (y.length == 0) = false) (hl : (x ++ y).length ≤ sizeLine)
    (h : Q (.str (x ++ y) s.toks) { s with toks := s.toks + 1 }) : wpAny (model P w) A (binaryOp .Add (.str x t) (.str y u)) Q E s := by
  refine PySem.P.add_str ?_
  rw [hx, hy]
  exact ⟨hl, h⟩
theorem eval_repl {E : Value → Shared → Prop} {m : Str → Option Value} {j : Nat} {sg tx x y : Str} {t : Tok} {k1 k2 : Nat} {p3 p4 p5 p6 p7 p8 p9 p10 p11 : Pos} {Q : Value → Shared → Prop} (I : Inv X pins σ H s) (hn : s.heap.Ns X.env.locals m) (hm : m sg = some (.str y t)) (hk : X.env.scope.names.lookup sg = some .local)
    (ht : t ≠ 0) (hts : t < s.toks) (hy : y.length = 1) (hj : X.N[j]? = some tx) (hv : Vis X.env.scope tx) (hx : σ[j]? = some (some (.str x))) (hb : x.length + (x.length + 1) * 3 ≤ 16777216)
    (q : ∀ t' k, Q (.str (Txt.replace x y (spOf y)) t') { s with toks := k })
    (hd : (sg == ("__debug__" : Str)) = false := by decide) (hdt : (tx == ("__debug__" : Str)) = false := by decide) (hct : (tx == ("__classdict__" : Str)) = false := by decide)
    (hst : starEach [.Name sg p5, .BinOp (.BinOp (.Constant (.str " ") k1 p6) .Add (.Name sg p7) p8) .Add (.Constant (.str " ") k2 p9) p10] X.env = [(false, eval (.Name sg p5) X.env), (false, eval (.BinOp (.BinOp (.Constant (.str " ") k1 p6) .Add (.Name sg p7) p8) .Add (.Constant (.str " ") k2 p9) p10) X.env)] := by rfl)
    (hbase : attributeBase (.Name tx p3) "replace" X.env (eval (.Name tx p3) X.env) = eval (.Name tx p3) X.env := by rfl) (hline : (p4.endLine == p11.line) = true := by rfl) :
    wpAny (model X.prog X.w) X.A (eval (.Call (.Attribute (.Name tx p3) "replace" p4) [.Name sg p5, .BinOp (.BinOp (.Constant (.str " ") k1 p6) .Add (.Name sg p7) p8) .Add (.Constant (.str " ") k2 p9) p10] [] p11) X.env) Q E s := by
  have l1 : (Str.ofString " ").length = 1 := by decide +kernel
  have l2 : ((Str.ofString " ") ++ y).length = 2 := by rw [strLen_append, l1, hy]
  have l3 : (spOf y).length = 3 := by unfold spOf; rw [strLen_append, l2, l1]
  have hne : (y == spOf y) = false := by
    rw [Bool.eq_false_iff]
    intro z
    have := congrArg Str.length (eq_of_beq z)
    rw [hy, l3] at this
    cases this
  have eS : (sizeLine : Nat) = 16777216 := sizeLine_eq
  refine PySem.Call_method2 hbase hst hline (raw_name hj hv I hx (fun v r => ?_) hdt hct)
  obtain ⟨t0, e0⟩ := r
  subst e0
  refine ⟨"str", _, PySem.F.plainAttrs_str, PySem.F.slot_str_replace, PySem.F.type_str_replace, typeIs_str _ _ _, (fun _ e => nomatch e), Calls.callWith_builtin rfl (Calls.evalArgs_plain (Calls.spliced_cons ?_))⟩
  refine wpAny_Name (wpAny_loadName_local I.ok.kind hk hn hm ?_) hd
  refine Calls.spliced_cons (wpAny_BinOp (wpAny_BinOp (Calls.Constant_str ?_)))
  refine wpAny_Name (wpAny_loadName_local I.ok.kind hk hn hm ?_) hd
  refine add_two (by rw [l1]; rfl) (by rw [hy]; rfl) (by rw [l2]; omega) ?_
  refine Calls.Constant_str ?_
  refine add_two (by rw [l2]; rfl) (by rw [l1]; rfl) (by show (spOf y).length ≤ _; rw [l3]; omega) (Calls.spliced_nil ?_)
  refine PySem.SC.replace ht ?_ ?_ hne (by show x.length + (x.length + 1) * (spOf y).length ≤ _; rw [l3]; exact hb) fun t' k => q t' k
  · exact Nat.succ_ne_zero _
  · exact Nat.ne_of_lt (Nat.lt_of_lt_of_le hts (Nat.le_add_right _ 3))
/-- what the loop does to the frame -/
def replV (i j : Nat) : List Nat → L2.St → (L2.St → Prop) → Prop
  | [], σ, K => K σ
  | c :: cs, σ, K => ∃ x, σ[j]? = some (some (.str x)) ∧ x.length + (x.length + 1) * 3 ≤ 16777216 ∧ replV i j cs ((σ.set i (some (.str ⟨#[c]⟩))).set j (some (.str (Txt.replace x ⟨#[c]⟩ (spOf ⟨#[c]⟩))))) K
def tRepl (i j : Nat) (cs : List Nat) : TS := fun D σ H => replV i j cs σ fun σ' => D.nx σ' H
theorem ps_repl {i j : Nat} {sg tx lit : Str} {k0 k1 k2 : Nat} {p0 p1 p2 p3 p4 p5 p6 p7 p8 p9 p10 p11 p12 pos : Pos} (hp : PassesOwn (model X.prog X.w) X.A X.env X.xe) (hc : X.calm = true) (hN : X.N.Nodup) (hi : X.N[i]? = some sg) (hj : X.N[j]? = some tx) (hij : i ≠ j)
    (hki : X.env.scope.names.lookup sg = some .local) (hkj : X.env.scope.names.lookup tx = some .local) (ha : lit.cps.all (· < 128) = true)
    (hd : (sg == ("__debug__" : Str)) = false := by decide) (hdt : (tx == ("__debug__" : Str)) = false := by decide) (hct : (tx == ("__classdict__" : Str)) = false := by decide)
    (hst : starEach [.Name sg p5, .BinOp (.BinOp (.Constant (.str " ") k1 p6) .Add (.Name sg p7) p8) .Add (.Constant (.str " ") k2 p9) p10] X.env = [(false, eval (.Name sg p5) X.env), (false, eval (.BinOp (.BinOp (.Constant (.str " ") k1 p6) .Add (.Name sg p7) p8) .Add (.Constant (.str " ") k2 p9) p10) X.env)] := by rfl)
    (hbase : attributeBase (.Name tx p3) "replace" X.env (eval (.Name tx p3) X.env) = eval (.Name tx p3) X.env := by rfl) (hline : (p4.endLine == p11.line) = true := by rfl)
    (hsw : swapsWith (.Call (.Attribute (.Name tx p3) "replace" p4) [.Name sg p5, .BinOp (.BinOp (.Constant (.str " ") k1 p6) .Add (.Name sg p7) p8) .Add (.Constant (.str " ") k2 p9) p10] [] p11) (some (.Name tx p2)) p12.line X.env = pure false := by rfl)
    (hs : ∀ x, foldedSetIterable (.Constant (.str lit) k0 p1) X.env x = pure x := by intro _; rfl) :
    PS X (.For (.Name sg p0) (.Constant (.str lit) k0 p1) [.Assign [.Name tx p2] (.Call (.Attribute (.Name tx p3) "replace" p4) [.Name sg p5, .BinOp (.BinOp (.Constant (.str " ") k1 p6) .Add (.Name sg p7) p8) .Add (.Constant (.str " ") k2 p9) p10] [] p11) p12] [] pos) (tRepl i j lit.cps.toList) := by
  refine ⟨fun pins s σ H D I h => ?_⟩
  refine wpAny_For (Calls.Constant_str (wpAny_pyIter_ascii ha ?_)) hs
  have I0 := I.tok (s.toks + 1)
  have hlen : s.heap.objs.size ≤ s.heap.objs.size := Nat.le_refl _
  obtain ⟨it, hit⟩ : ∃ it, it = s.heap.objs.size := ⟨_, rfl⟩
  have f0 : FpOk X pins H it := by rw [hit]; exact I.fpOk hlen (I.hok.fresh hlen)
  obtain ⟨g0, g1, g2, g3, g4, g5⟩ := f0
  subst hit
  refine codeAny_forLoop_any (fun n s' => ∃ (k : Nat) (σ' : L2.St), n = lit.cps.size - k ∧ Inv X pins σ' H s' ∧ s'.heap.IsStrIter s.heap.objs.size "str_ascii_iterator" lit s.toks k ∧ 1 ≤ s'.toks ∧ replV i j (lit.cps.toList.drop k) σ' fun σ'' => D.nx σ'' H) ?_ (lit.cps.size - 0)
    ⟨0, σ, rfl, I.kept fun b o e => Heap.get?_push_of_some _ e, ?_, ?_, ?_⟩
  · rintro n s3 ⟨k, σ3, hn, I3, st, htk, hr⟩
    have turn : ∀ {h' : Heap} {tk : Nat}, Heap.ExtBut s.heap.objs.size s3.heap h' → Inv X pins σ3 H { s3 with heap := h', toks := tk } := fun eb => I3.turned (fun b o hb e => eb b o hb e) g0 g1 g3 g4 g5
    cases hx : lit.cps[k]? with
    | none =>
      have hsz : lit.cps.size ≤ k := Array.getElem?_eq_none_iff.mp hx
      rw [List.drop_of_length_le (by simpa using hsz)] at hr
      refine wpAny_passesOwn hp (wpAny_pyNext_ascii_end (I.ok.hd hc) st hx fun h' eb => ?_)
      exact wpAny_execs_nil ⟨σ3, H, turn (tk := s3.toks) eb, hr⟩
    | some c =>
      have hlt : k < lit.cps.size := (Array.getElem?_eq_some_iff.mp hx).1
      have hdrop : lit.cps.toList.drop k = c :: lit.cps.toList.drop (k + 1) := drop_one (by rw [Array.getElem?_toList]; exact hx)
      rw [hdrop] at hr
      obtain ⟨x, hxj, hb, hr⟩ := hr
      refine wpAny_passesOwn hp (wpAny_pyNext_ascii_item st hx fun h' st' sb => ?_)
      obtain ⟨oi, e1, e2, e3⟩ := id st'
      have I4 : Inv X pins σ3 H { s3 with heap := h', toks := s3.toks + 1 } := turn sb.extBut
      refine wpAny_passesOwn hp (go_of e1 e2 e3 (by decide) ?_)
      obtain ⟨m, hm, hl⟩ := id I4.loc
      have hcls : (X.env.scope.kind == .class || (X.env.scope.kind == .module && X.env.locals != X.env.globals)) = false := by rw [I.ok.kind]; rfl
      refine wpAny_passesOwn hp (wpAny_assign_Name (wpAny_storeName_local hki hm (fun h2 hm2 sb2 => ?_) hcls))
      have I5 : Inv X pins (σ3.set i (some (.str ⟨#[c]⟩))) H { s3 with heap := h2, toks := s3.toks + 1 + 1 } := inv_named (s := { s3 with heap := h', toks := s3.toks + 1 }) I4 hN hi hki ⟨s3.toks, rfl⟩ hl hm2 sb2
      have hxj' : (σ3.set i (some (V.str ⟨#[c]⟩)))[j]? = some (some (.str x)) := by rw [List.getElem?_set_ne hij]; exact hxj
      have it2 : h2.IsStrIter s.heap.objs.size "str_ascii_iterator" lit s.toks (k + 1) := ⟨oi, (sb2.2 s.heap.objs.size g1).trans e1, e2, e3⟩
      refine wpAny_passesOwn hp (wpAny_execs_cons (wpAny_mono (PySem.wpAny_toks (Q := fun f s7 => f = .next ∧ Inv X pins ((σ3.set i (some (.str ⟨#[c]⟩))).set j (some (.str (Txt.replace x ⟨#[c]⟩ (spOf ⟨#[c]⟩))))) H s7 ∧ s7.heap.IsStrIter s.heap.objs.size "str_ascii_iterator" lit s.toks (k + 1)) (wpAny_Assign_Name (eval_repl (t := s3.toks) (y := ⟨#[c]⟩) I5 hm2 (if_pos rfl) hki (Nat.ne_of_gt htk) (Nat.lt_succ_of_lt (Nat.lt_succ_self _)) rfl hj (.inl hkj) hxj' hb (fun t' k' => ?_) hd hdt hct hst hbase hline) hsw)) (fun f s7 q7 => ?_) fun _ _ z => z.2))
      · refine store_ok2 (v := .str (Txt.replace x ⟨#[c]⟩ (spOf ⟨#[c]⟩))) (I5.tok k') hN hj (.inl hkj) ⟨t', rfl⟩ (fun s8 I8 hsb => ⟨rfl, I8, ?_⟩) (.inr hkj)
        obtain ⟨b, sb8, hb8⟩ := hsb
        have : s.heap.objs.size ≠ b := by
          rcases hb8 with z | z
          · rw [z]; exact g1
          · exact fun y => g4 _ _ z y.symm
        exact ⟨oi, (sb8.2 s.heap.objs.size this).trans ((sb2.2 s.heap.objs.size g1).trans e1), e2, e3⟩
      · obtain ⟨hk7, rfl, I7, st7⟩ := q7
        refine wpAny_execs_nil ⟨_, ?_, k + 1, _, rfl, I7, st7, ?_, hr⟩
        · rw [hn]; omega
        · have : s3.toks + 1 + 1 ≤ s7.toks := hk7
          omega
  · exact ⟨_, by exact Heap.get?_push_size _ rfl, rfl, rfl⟩
  · exact Nat.succ_pos _
  · rw [List.drop_zero]; exact h
/-- the loop over data -/
def replD (i j : Nat) : List Nat → S → (S → Prop) → Prop
  | [], st, K => K st
  | c :: cs, st, K => ∃ x, st.r[j]? = some (some (.str x)) ∧ x.length + (x.length + 1) * 3 ≤ 16777216 ∧ replD i j cs ((st.put i (.str ⟨#[c]⟩)).put j (.str (Txt.replace x ⟨#[c]⟩ (spOf ⟨#[c]⟩)))) K
def mRepl (i j : Nat) (cs : List Nat) : MS := fun st E _ => replD i j cs st E.nx
theorem replV_of {Y : Yc} {G : Hp} {i j : Nat} {mu : Mu} {P : S → Prop} {Q : L2.St → Prop} : ∀ (cs : List Nat) (st : S) (σ : L2.St), R Y G st σ H → st.mu = mu → replD i j cs st P → (∀ st' σ', P st' → st'.mu = mu → R Y G st' σ' H → Q σ') → replV i j cs σ Q
  | [], st, σ, r, e, h, k => k st σ h e r
  | c :: cs, st, σ, r, e, ⟨x, h1, h2, h3⟩, k => by
    obtain ⟨v, hv, q⟩ := r.s.2 j _ h1
    cases q
    exact ⟨x, hv, h2, replV_of cs _ _ ((r.put i (.str _)).put j (.str _)) e h3 k⟩
theorem ds_repl {Y : Yc} {W : WX} {i j : Nat} {sg tx lit : Str} {k0 k1 k2 : Nat} {p0 p1 p2 p3 p4 p5 p6 p7 p8 p9 p10 p11 p12 pos : Pos} (hp : PassesOwn (model X.prog X.w) X.A X.env X.xe) (hc : X.calm = true) (hN : X.N.Nodup) (hi : X.N[i]? = some sg) (hj : X.N[j]? = some tx) (hij : i ≠ j)
    (hki : X.env.scope.names.lookup sg = some .local) (hkj : X.env.scope.names.lookup tx = some .local) (ha : lit.cps.all (· < 128) = true)
    (hd : (sg == ("__debug__" : Str)) = false := by decide) (hdt : (tx == ("__debug__" : Str)) = false := by decide) (hct : (tx == ("__classdict__" : Str)) = false := by decide)
    (hst : starEach [.Name sg p5, .BinOp (.BinOp (.Constant (.str " ") k1 p6) .Add (.Name sg p7) p8) .Add (.Constant (.str " ") k2 p9) p10] X.env = [(false, eval (.Name sg p5) X.env), (false, eval (.BinOp (.BinOp (.Constant (.str " ") k1 p6) .Add (.Name sg p7) p8) .Add (.Constant (.str " ") k2 p9) p10) X.env)] := by rfl)
    (hbase : attributeBase (.Name tx p3) "replace" X.env (eval (.Name tx p3) X.env) = eval (.Name tx p3) X.env := by rfl) (hline : (p4.endLine == p11.line) = true := by rfl)
    (hsw : swapsWith (.Call (.Attribute (.Name tx p3) "replace" p4) [.Name sg p5, .BinOp (.BinOp (.Constant (.str " ") k1 p6) .Add (.Name sg p7) p8) .Add (.Constant (.str " ") k2 p9) p10] [] p11) (some (.Name tx p2)) p12.line X.env = pure false := by rfl)
    (hs : ∀ x, foldedSetIterable (.Constant (.str lit) k0 p1) X.env x = pure x := by intro _; rfl) :
    DS X Y W (.For (.Name sg p0) (.Constant (.str lit) k0 p1) [.Assign [.Name tx p2] (.Call (.Attribute (.Name tx p3) "replace" p4) [.Name sg p5, .BinOp (.BinOp (.Constant (.str " ") k1 p6) .Add (.Name sg p7) p8) .Add (.Constant (.str " ") k2 p9) p10] [] p11) p12] [] pos) (mRepl i j lit.cps.toList) :=
  psImp (ps_repl hp hc hN hi hj hij hki hkj ha hd hdt hct hst hbase hline hsw hs) fun D σ H ⟨G, st, E, PX, rr, hm, xp, k⟩ => replV_of _ st σ rr rfl hm fun st' σ' h e r => k.nx st' σ' G H h (Same.refl G) (by rw [e]; exact .refl) r
end
end DL
namespace DL
open PySem L2
/-! ### a text parted at its signs and spaces -/
def spc1 (c : Nat) (l : List Nat) : List Nat := l.flatMap fun k => if k = c then [32, c, 32] else [k]
def spcs (cs l : List Nat) : List Nat := l.flatMap fun k => if k ∈ cs then [32, k, 32] else [k]
theorem spc1_app (c : Nat) (a b : List Nat) : spc1 c (a ++ b) = spc1 c a ++ spc1 c b := List.flatMap_append
theorem spc1_free (c : Nat) : ∀ l : List Nat, c ∉ l → spc1 c l = l
  | [], _ => rfl
  | k :: r, h => by
    have h1 : k ≠ c := fun z => h (by rw [z]; exact List.mem_cons_self)
    show (if k = c then [32, c, 32] else [k]) ++ spc1 c r = k :: r
    rw [if_neg h1, spc1_free c r fun z => h (List.mem_cons_of_mem _ z)]
    rfl
theorem spOf_one (c : Nat) : (spOf ⟨#[c]⟩).cps.toList = [32, c, 32] := by
  unfold spOf
  rw [app_cps, app_cps, show (Str.ofString " ").cps.toList = [32] by decide +kernel]
  rfl
theorem spc1_join (c : Nat) : ∀ ps : List Str, (∀ p ∈ ps, c ∉ p.cps.toList) → spc1 c (Str.join ⟨#[c]⟩ ps).cps.toList = (Str.join (spOf ⟨#[c]⟩) ps).cps.toList
  | [], _ => rfl
  | [p], h => spc1_free c _ (h p (List.mem_singleton.mpr rfl))
  | p :: q :: r, h => by
    have ih := spc1_join c (q :: r) fun a ha => h a (List.mem_cons_of_mem _ ha)
    show spc1 c (p ++ ⟨#[c]⟩ ++ Str.join ⟨#[c]⟩ (q :: r)).cps.toList = (p ++ spOf ⟨#[c]⟩ ++ Str.join (spOf ⟨#[c]⟩) (q :: r)).cps.toList
    have e1 : spc1 c [c] = [32, c, 32] := by
      show (if c = c then [32, c, 32] else [c]) ++ [] = _
      rw [if_pos rfl]
      rfl
    rw [app_cps, app_cps, app_cps, app_cps, spc1_app, spc1_app, ih, spc1_free c _ (h p List.mem_cons_self), spOf_one]
    show _ ++ spc1 c [c] ++ _ = _
    rw [e1]
theorem repl_sp (x : Str) (c : Nat) : Txt.replace x ⟨#[c]⟩ (spOf ⟨#[c]⟩) = sL (spc1 c x.cps.toList) := by
  rw [str_eq, sL_cps, StrLaws.replace_one, ← spc1_join c _ (StrLaws.split_free x c), StrLaws.join_split]
theorem spcs_step {c : Nat} {cs : List Nat} (h1 : c ∉ cs) (h2 : c ≠ 32) (l : List Nat) : spc1 c (spcs cs l) = spcs (cs ++ [c]) l := by
  induction l with
  | nil => rfl
  | cons k l ih =>
    show spc1 c ((if k ∈ cs then [32, k, 32] else [k]) ++ spcs cs l) = (if k ∈ cs ++ [c] then [32, k, 32] else [k]) ++ spcs (cs ++ [c]) l
    rw [spc1_app, ih]
    congr 1
    by_cases hk : k ∈ cs
    · rw [if_pos hk, if_pos (List.mem_append_left _ hk)]
      refine spc1_free c _ ?_
      have : c ≠ k := fun z => h1 (by rw [z]; exact hk)
      simp [h2, this]
    · rw [if_neg hk]
      show (if k = c then [32, c, 32] else [k]) ++ [] = _
      rw [List.append_nil]
      by_cases e : k = c
      · rw [if_pos e, if_pos (List.mem_append_right _ (by rw [e]; exact List.mem_singleton.mpr rfl)), e]
      · rw [if_neg e, if_neg]
        intro z
        rcases List.mem_append.mp z with z | z
        · exact hk z
        · exact e (List.mem_singleton.mp z)
theorem spcs_len (cs l : List Nat) : (spcs cs l).length ≤ 3 * l.length := by
  induction l with
  | nil => exact Nat.le_refl _
  | cons k l ih =>
    show ((if k ∈ cs then [32, k, 32] else [k]) ++ spcs cs l).length ≤ _
    rw [List.length_append, List.length_cons]
    have : (if k ∈ cs then [32, k, 32] else [k]).length ≤ 3 := by split <;> simp
    omega
theorem spcs_nil (l : List Nat) : spcs [] l = l := by
  induction l with
  | nil => rfl
  | cons k l ih => show (if k ∈ [] then [32, k, 32] else [k]) ++ spcs [] l = _; rw [if_neg (by simp), ih]; rfl
theorem replD_all {l : List Nat} (hl : l.length ≤ 1000000) {rest : List (Option D)} {mu : Mu} {c : Nat} {K : S → Prop} : ∀ (cs done : List Nat) (x1 : Option D), (done ++ cs).Nodup → 32 ∉ done ++ cs → (∀ y, K ⟨some (.str (sL (spcs (done ++ cs) l))) :: y :: rest, mu, c⟩) →
    replD 1 0 cs ⟨some (.str (sL (spcs done l))) :: x1 :: rest, mu, c⟩ K
  | [], done, x1, _, _, k => by rw [List.append_nil] at k; exact k x1
  | a :: cs, done, x1, hd, h32, k => by
    have e : done ++ a :: cs = (done ++ [a]) ++ cs := by rw [List.append_assoc]; rfl
    have ha : a ∉ done := fun z => by
      rw [List.nodup_append] at hd
      exact hd.2.2 a z a List.mem_cons_self rfl
    have ha2 : a ≠ 32 := fun z => h32 (by rw [z]; exact List.mem_append_right _ List.mem_cons_self)
    have hlen := spcs_len done l
    refine ⟨_, rfl, by rw [sL_len]; omega, ?_⟩
    rw [repl_sp, sL_cps, spcs_step ha ha2]
    exact replD_all hl cs (done ++ [a]) _ (by rw [← e]; exact hd) (by rw [← e]; exact h32) (by rw [← e]; exact k)
/-! words -/
def spw : Nat → Option Nat → List Nat → List (Nat × Nat)
  | _, none, [] => []
  | cur, some b, [] => [(b, cur)]
  | cur, some b, k :: r => if Unicode.isSpace k = true then (b, cur) :: spw (cur + 1) none r else spw (cur + 1) (some b) r
  | cur, none, k :: r => if Unicode.isSpace k = true then spw (cur + 1) none r else spw (cur + 1) (some cur) r
theorem sw_run' (s : Str) : ∀ (l : List Nat) (cur : Nat) (words : Array (Nat × Nat)) (sta : Option Nat), cur + l.length = s.length → l = s.cps.toList.drop cur → words.size ≤ cur →
    StrLaws.swEnd s (forIn (List.range' cur l.length) ((none, words, sta) : StrLaws.SwSt) (StrLaws.swBody s (s.length + 1))).run = words.toList ++ spw cur sta l
  | [], cur, words, sta, hl, he, hw => by
    show StrLaws.swEnd s (none, words, sta) = _
    have e : cur = s.length := by simpa using hl
    unfold StrLaws.swEnd
    cases sta with
    | none => simp [spw]
    | some b => simp [spw, e]
  | k :: r, cur, words, sta, hl, he, hw => by
    rw [List.length_cons] at hl
    have hk : s.cps.getD cur 0 = k := by
      have : (s.cps.toList.drop cur)[0]? = some k := by rw [← he]; rfl
      rw [List.getElem?_drop, Nat.add_zero, Array.getElem?_toList] at this
      rw [Array.getD_eq_getD_getElem?, this]
      rfl
    have hr : r = s.cps.toList.drop (cur + 1) := by
      rw [← List.drop_drop, ← he]
      rfl
    rw [List.length_cons, List.range'_succ, List.forIn_cons]
    have hz : (words.size == s.length + 1) = false := by
      rw [Bool.eq_false_iff]
      intro z
      have := beq_iff_eq.mp z
      omega
    have step : StrLaws.swBody s (s.length + 1) cur (none, words, sta) = match sta, Unicode.isSpace k with
      | some b, true => pure (ForInStep.yield (none, words.push (b, cur), none))
      | none, false => pure (ForInStep.yield (none, words, some cur))
      | _, _ => pure (ForInStep.yield (none, words, sta)) := by
      unfold StrLaws.swBody
      simp only
      rw [hz, if_neg Bool.false_ne_true, hk]
      cases sta <;> cases Unicode.isSpace k <;> rfl
    rw [step]
    cases hs : Unicode.isSpace k with
    | true =>
      cases sta with
      | none =>
        show StrLaws.swEnd s (forIn (List.range' (cur + 1) r.length) ((none, words, none) : StrLaws.SwSt) (StrLaws.swBody s (s.length + 1))).run = _
        rw [sw_run' s r (cur + 1) words none (by omega) hr (by omega)]
        conv => rhs; unfold spw
        rw [if_pos hs]
      | some b =>
        show StrLaws.swEnd s (forIn (List.range' (cur + 1) r.length) ((none, words.push (b, cur), none) : StrLaws.SwSt) (StrLaws.swBody s (s.length + 1))).run = _
        rw [sw_run' s r (cur + 1) _ none (by omega) hr (by simp; omega)]
        conv => rhs; unfold spw
        rw [if_pos hs]
        simp
    | false =>
      cases sta with
      | none =>
        show StrLaws.swEnd s (forIn (List.range' (cur + 1) r.length) ((none, words, some cur) : StrLaws.SwSt) (StrLaws.swBody s (s.length + 1))).run = _
        rw [sw_run' s r (cur + 1) words (some cur) (by omega) hr (by omega)]
        conv => rhs; unfold spw
        rw [if_neg (by rw [hs]; exact Bool.false_ne_true)]
      | some b =>
        show StrLaws.swEnd s (forIn (List.range' (cur + 1) r.length) ((none, words, some b) : StrLaws.SwSt) (StrLaws.swBody s (s.length + 1))).run = _
        rw [sw_run' s r (cur + 1) words (some b) (by omega) hr (by omega)]
        conv => rhs; unfold spw
        rw [if_neg (by rw [hs]; exact Bool.false_ne_true)]
theorem sw_spw (s : Str) : Builtin.Str.spaceWords s (s.length + 1) = spw 0 none s.cps.toList := by
  have h := sw_run' s s.cps.toList 0 #[] none (by rw [str_len, Nat.zero_add]) (by simp) (Nat.le_refl _)
  rw [StrLaws.sw_eq]
  rw [show s.cps.toList.length = s.length by rw [str_len]] at h
  rw [h]
  rfl
/-- the words of a text, sign by sign -/
def wd : List Nat → List Nat → List (List Nat)
  | a, [] => if a = [] then [] else [a]
  | a, k :: r => if k = 32 then (if a = [] then wd [] r else a :: wd [] r) else wd (a ++ [k]) r
theorem sub_cps (x : Str) (i j : Nat) : (Builtin.Str.strSub x i j).cps.toList = (x.cps.toList.drop i).take (j - i) := by
  unfold Builtin.Str.strSub
  simp [Array.toList_extract, List.extract_eq_take_drop, List.take_drop]
theorem spw_wd (x : Str) : ∀ (l : List Nat) (cur : Nat) (sta : Option Nat), (∀ k ∈ l, Unicode.isSpace k = decide (k = 32)) → l = x.cps.toList.drop cur → (∀ b, sta = some b → b < cur) → cur ≤ x.cps.toList.length →
    (spw cur sta l).map (fun p => (Builtin.Str.strSub x p.1 p.2).cps.toList) = wd (match sta with | none => [] | some b => (x.cps.toList.drop b).take (cur - b)) l
  | [], cur, sta, _, _, hb, hc => by
    cases sta with
    | none => rfl
    | some b =>
      have := hb b rfl
      show [(Builtin.Str.strSub x b cur).cps.toList] = if _ = [] then [] else [_]
      rw [if_neg, sub_cps]
      intro z
      have := congrArg List.length z
      rw [List.length_take, List.length_drop, List.length_nil] at this
      omega
  | k :: r, cur, sta, hsp, he, hb, hc => by
    have hk := hsp k List.mem_cons_self
    have hr : r = x.cps.toList.drop (cur + 1) := by
      rw [← List.drop_drop, ← he]
      rfl
    have hlen : cur + 1 ≤ x.cps.toList.length := by
      have := congrArg List.length he
      rw [List.length_cons, List.length_drop] at this
      omega
    have hsp' : ∀ k ∈ r, Unicode.isSpace k = decide (k = 32) := fun j hj => hsp j (List.mem_cons_of_mem _ hj)
    by_cases h32 : k = 32
    · have hk' : Unicode.isSpace k = true := by rw [hk]; exact decide_eq_true h32
      cases sta with
      | none =>
        unfold spw
        rw [if_pos hk', spw_wd x r (cur + 1) none hsp' hr (by simp) hlen]
        show _ = if k = 32 then (if ([] : List Nat) = [] then wd [] r else _) else _
        rw [if_pos h32, if_pos rfl]
      | some b =>
        have hbc := hb b rfl
        unfold spw
        rw [if_pos hk', List.map_cons, spw_wd x r (cur + 1) none hsp' hr (by simp) hlen]
        show _ = if k = 32 then (if (x.cps.toList.drop b).take (cur - b) = [] then wd [] r else (x.cps.toList.drop b).take (cur - b) :: wd [] r) else _
        rw [if_pos h32, if_neg, sub_cps]
        intro z
        have := congrArg List.length z
        rw [List.length_take, List.length_drop, List.length_nil] at this
        omega
    · have hk' : ¬ Unicode.isSpace k = true := by rw [hk, decide_eq_false h32]; exact Bool.false_ne_true
      have hkx : x.cps.toList[cur]? = some k := by
        have : (x.cps.toList.drop cur)[0]? = some k := by rw [← he]; rfl
        rw [List.getElem?_drop, Nat.add_zero] at this
        exact this
      cases sta with
      | none =>
        unfold spw
        rw [if_neg hk', spw_wd x r (cur + 1) (some cur) hsp' hr (by simp) hlen]
        show wd ((x.cps.toList.drop cur).take (cur + 1 - cur)) r = if k = 32 then _ else wd ([] ++ [k]) r
        rw [if_neg h32, ← he, Nat.add_sub_cancel_left]
        rfl
      | some b =>
        have hbc := hb b rfl
        unfold spw
        rw [if_neg hk', spw_wd x r (cur + 1) (some b) hsp' hr (by intro b' e; cases e; omega) hlen]
        show wd ((x.cps.toList.drop b).take (cur + 1 - b)) r = if k = 32 then _ else wd ((x.cps.toList.drop b).take (cur - b) ++ [k]) r
        rw [if_neg h32]
        congr 1
        rw [show cur + 1 - b = (cur - b) + 1 by omega, List.take_succ]
        congr 1
        rw [List.getElem?_drop, show b + (cur - b) = cur by omega, hkx]
        rfl
theorem words_wd (x : Str) (h : ∀ k ∈ x.cps.toList, Unicode.isSpace k = decide (k = 32)) : Txt.words x = (wd [] x.cps.toList).map sL := by
  have e := spw_wd x x.cps.toList 0 none h (by simp) (by simp) (Nat.zero_le _)
  have e2 : (spw 0 none x.cps.toList).map (fun p => Builtin.Str.strSub x p.1 p.2) = (wd [] x.cps.toList).map sL := by
    rw [← e, List.map_map]
    refine List.map_congr_left fun p _ => ?_
    show _ = sL _
    rw [sL_self]
  unfold Txt.words wordsOf
  rw [sw_spw]
  split
  · rename_i hc
    have hc := eq_of_beq hc
    rw [← e2, hc]
    show [x] = [Builtin.Str.strSub x 0 x.length]
    congr 1
    rw [str_eq, sub_cps, List.drop_zero, str_len, Nat.sub_zero]
    exact (List.take_of_length_le (by simp)).symm
  · exact e2
end DL
namespace DL
open PySem L2
/-! ### tokens: of the text behind the replacing; what the machine has read -/
def signs7 : List Nat := [40, 41, 42, 124, 38, 43, 44]
def isSignT (t : List Nat) : Prop := ∃ k ∈ signs7, t = [k]
def isWordT (t : List Nat) : Prop := t ≠ [] ∧ ∀ k ∈ t, k ∉ signs7 ∧ k ≠ 32
def Alt : List (List Nat) → Prop
  | [] => True
  | t :: ts => (isSignT t ∨ (isWordT t ∧ (match ts with | [] => True | u :: _ => isSignT u))) ∧ Alt ts
theorem spcs_app (cs a b : List Nat) : spcs cs (a ++ b) = spcs cs a ++ spcs cs b := List.flatMap_append
theorem spcs_word {cs : List Nat} : ∀ {t : List Nat}, (∀ k ∈ t, k ∉ cs) → spcs cs t = t
  | [], _ => rfl
  | k :: t, h => by
    show (if k ∈ cs then [32, k, 32] else [k]) ++ spcs cs t = _
    rw [if_neg (h k List.mem_cons_self), spcs_word fun j hj => h j (List.mem_cons_of_mem _ hj)]
    rfl
theorem spcs_rep (n : Nat) : spcs signs7 (List.replicate n 32) = List.replicate n 32 := spcs_word fun k hk => by rw [List.eq_of_mem_replicate hk]; decide
theorem wd_rep (n : Nat) (l : List Nat) : wd [] (List.replicate n 32 ++ l) = wd [] l := by
  induction n with
  | zero => rfl
  | succ n ih =>
    rw [List.replicate_succ, List.cons_append]
    show (if (32 : Nat) = 32 then (if ([] : List Nat) = [] then wd [] (List.replicate n 32 ++ l) else _) else _) = _
    rw [if_pos rfl, if_pos rfl, ih]
theorem wd_32 (a l : List Nat) : wd a (32 :: l) = if a = [] then wd [] l else a :: wd [] l := by
  show (if (32 : Nat) = 32 then _ else _) = _
  rw [if_pos rfl]
theorem wd_word : ∀ (t a l : List Nat), (∀ k ∈ t, k ≠ 32) → wd a (t ++ l) = wd (a ++ t) l
  | [], a, l, _ => by rw [List.append_nil]; rfl
  | k :: t, a, l, h => by
    rw [List.cons_append]
    show (if k = 32 then _ else wd (a ++ [k]) (t ++ l)) = _
    rw [if_neg (h k List.mem_cons_self), wd_word t (a ++ [k]) l fun j hj => h j (List.mem_cons_of_mem _ hj), List.append_assoc]
    rfl
theorem spcs_sign {k : Nat} (hk : k ∈ signs7) (l : List Nat) : spcs signs7 ([k] ++ l) = 32 :: k :: 32 :: spcs signs7 l := by
  rw [spcs_app]
  show ((if k ∈ signs7 then [32, k, 32] else [k]) ++ []) ++ _ = _
  rw [if_pos hk]
  rfl
def NextS (ts : List (List Nat)) : Prop := match ts with | [] => True | u :: _ => isSignT u
theorem wd_stop {t : List Nat} (ht : t ≠ []) {ts : List (List Nat)} {r : List Nat} (h : Spd ts r) (hs : NextS ts) : wd t (spcs signs7 r) = t :: wd [] (spcs signs7 r) := by
  cases h with
  | nil n =>
    rw [spcs_rep]
    cases n with
    | zero =>
      show (if t = [] then [] else [t]) = t :: (if ([] : List Nat) = [] then [] else _)
      rw [if_neg ht, if_pos rfl]
    | succ n =>
      rw [List.replicate_succ, wd_32, wd_32, if_neg ht, if_pos rfl]
  | cons n h =>
    rw [spcs_app, spcs_rep]
    cases n with
    | zero =>
      obtain ⟨k, hk, rfl⟩ := hs
      show wd t (spcs signs7 ([k] ++ _)) = t :: wd [] (spcs signs7 ([k] ++ _))
      rw [spcs_sign hk, wd_32, wd_32, if_neg ht, if_pos rfl]
    | succ n => rw [List.replicate_succ, List.cons_append, wd_32, wd_32, if_neg ht, if_pos rfl]
theorem spd_wd {ts : List (List Nat)} {l : List Nat} (h : Spd ts l) : Alt ts → wd [] (spcs signs7 l) = ts := by
  induction h with
  | nil n =>
    intro _
    rw [spcs_rep]
    have := wd_rep n []
    rw [List.append_nil] at this
    rw [this]
    rfl
  | @cons n t ts r h ih =>
    rintro ⟨h1, h2⟩
    rw [spcs_app, spcs_rep, wd_rep]
    rcases h1 with ⟨k, hk, rfl⟩ | ⟨⟨ht, hw⟩, hs⟩
    · have k32 : k ≠ 32 := fun z => by subst z; revert hk; decide
      rw [spcs_sign hk, wd_32, if_pos rfl]
      show (if k = 32 then _ else wd ([] ++ [k]) (32 :: spcs signs7 r)) = _
      rw [if_neg k32, List.nil_append, wd_32, if_neg (by simp), ih h2]
    · rw [spcs_app, spcs_word fun k hk => (hw k hk).1, wd_word t [] _ fun k hk => (hw k hk).2, List.nil_append, wd_stop ht h hs, ih h2]
/-! the tokens of forms -/
theorem alnum_word : ∀ k ∈ alnum, k ∉ signs7 ∧ k ≠ 32 ∧ k ≠ 126 := by decide +kernel
theorem leaf_word {w n : Str} (h : (Fm.leaf w n).ok = true) : isWordT (n.cps.toList ++ tilde w) := by
  obtain ⟨h1, h2⟩ := Bool.and_eq_true_iff.mp h
  have hl := isNameL_len h2
  refine ⟨fun z => ?_, fun k hk => ?_⟩
  · rw [List.append_eq_nil_iff] at z
    rw [z.1] at hl
    simp at hl
  · rcases List.mem_append.mp hk with z | z
    · have := alnum_word k (isNameL_all h2 k z)
      exact ⟨this.1, this.2.1⟩
    · unfold tilde at z
      split at z
      · rw [List.mem_singleton.mp z]; decide
      · cases z
theorem markC_sign {w : Str} (h : halfW (.str w) = true) : isSignT [markC w] := by
  refine ⟨_, ?_, rfl⟩
  rcases (mark_is h []).2.2 with z | z | z | z <;> (rw [z]; decide)
theorem alt_half : ∀ (f : Fm) (b : Bool) (ts : List (List Nat)), f.ok = true → Alt ts → NextS ts → Alt (f.toks b ++ ts)
  | .leaf w n, b, ts, ho, ha, hs => ⟨.inr ⟨leaf_word ho, hs⟩, ha⟩
  | .node w l r, b, ts, ho, ha, hs => by
    obtain ⟨hw, ho2⟩ := Bool.and_eq_true_iff.mp ho
    obtain ⟨hl, hr⟩ := Bool.and_eq_true_iff.mp ho2
    have core : ∀ us, Alt us → NextS us → Alt (l.toks true ++ [[markC w]] ++ r.toks true ++ us) := fun us hu hn => by
      rw [List.append_assoc, List.append_assoc]
      exact alt_half l true _ hl ⟨.inl (markC_sign hw), alt_half r true us hr hu hn⟩ (markC_sign hw)
    cases b with
    | false => exact core ts ha hs
    | true =>
      have e : (Fm.node w l r).toks true ++ ts = [40] :: (l.toks true ++ [[markC w]] ++ r.toks true ++ ([41] :: ts)) := by
        show (if true = true then _ else _) ++ ts = _
        rw [if_pos rfl]
        simp [List.append_assoc]
      rw [e]
      exact ⟨.inl ⟨40, by decide, rfl⟩, core ([41] :: ts) ⟨.inl ⟨41, by decide, rfl⟩, ha⟩ ⟨41, by decide, rfl⟩⟩
theorem alt_more : ∀ (fs : List Fm), (∀ f ∈ fs, f.ok = true) → Alt (fs.map fun g => [44] :: g.toks false).flatten ∧ NextS (fs.map fun g => [44] :: g.toks false).flatten
  | [], _ => ⟨trivial, trivial⟩
  | f :: fs, h => by
    obtain ⟨h1, h2⟩ := alt_more fs fun g hg => h g (List.mem_cons_of_mem _ hg)
    exact ⟨⟨.inl ⟨44, by decide, rfl⟩, alt_half f false _ (h f List.mem_cons_self) h1 h2⟩, ⟨44, by decide, rfl⟩⟩
theorem alt_row {fs : List Fm} (h : ∀ f ∈ fs, f.ok = true) : Alt (rowToks fs) := by
  cases fs with
  | nil => exact trivial
  | cons f fs =>
    obtain ⟨h1, h2⟩ := alt_more fs fun g hg => h g (List.mem_cons_of_mem _ hg)
    exact alt_half f false _ (h f List.mem_cons_self) h1 h2
/-! ### the law's own reader of tokens -/
inductive LL where
  | emp
  | one (f : Fm) (d : Nat)
  | two (f : Fm) (d : Nat) (w : Str)
  | three (f : Fm) (d : Nat) (w : Str) (g : Fm) (e : Nat)
def LL.push : LL → Fm × Nat → Option LL
  | .emp, p => some (.one p.1 p.2)
  | .two f d w, p => some (.three f d w p.1 p.2)
  | _, _ => none
def LL.word : LL → Str → Option LL
  | .one f d, w => some (.two f d w)
  | _, _ => none
def LL.fold : LL → Option (Fm × Nat)
  | .one f d => some (f, d)
  | .three f d w g e => some (.node w f g, max d e + 1)
  | _ => none
def markT (t : List Nat) : Option Str := if t = [42] then some "both" else if t = [124] then some "between" else if t = [38] then some "offered" else if t = [43] then some "chosen" else none
def leafT (t : List Nat) : Fm := if t.getLast? = some 126 then .leaf "counter" (sL t.dropLast) else .leaf "good" (sL t)
def tkRun : List LL → List (Fm × Nat) → List (List Nat) → Option (List (Fm × Nat))
  | [], _, _ => none
  | l :: _, out, [] => (l.fold).map fun p => out ++ [p]
  | l :: st, out, t :: ts =>
    if t = [40] then tkRun (.emp :: l :: st) out ts
    else if t = [41] then (match st with
      | [] => none
      | m :: s => match l.fold with
        | none => none
        | some p => match m.push p with
          | none => none
          | some m' => tkRun (m' :: s) out ts)
    else if t = [44] then (match l.fold with
      | none => none
      | some p => tkRun (.emp :: st) (out ++ [p]) ts)
    else match markT t with
      | some w => (match l.word w with
        | none => none
        | some l' => tkRun (l' :: st) out ts)
      | none => match l.push (leafT t, 0) with
        | none => none
        | some l' => tkRun (l' :: st) out ts
section
variable {l l' : LL} {st : List LL} {out : List (Fm × Nat)} {t : List Nat} {ts : List (List Nat)}
theorem tk_40 : tkRun (l :: st) out ([40] :: ts) = tkRun (.emp :: l :: st) out ts := by
  conv => lhs; unfold tkRun
  rw [if_pos rfl]
theorem tk_41 {m m' : LL} {p : Fm × Nat} (h1 : l.fold = some p) (h2 : m.push p = some m') : tkRun (l :: m :: st) out ([41] :: ts) = tkRun (m' :: st) out ts := by
  conv => lhs; unfold tkRun
  rw [if_neg (by decide), if_pos rfl]
  simp only [h1, h2]
theorem tk_44 {p : Fm × Nat} (h1 : l.fold = some p) : tkRun (l :: st) out ([44] :: ts) = tkRun (.emp :: st) (out ++ [p]) ts := by
  conv => lhs; unfold tkRun
  rw [if_neg (by decide), if_neg (by decide), if_pos rfl]
  simp only [h1]
theorem markT_markC {w : Str} (h : halfW (.str w) = true) : markT [markC w] = some w ∧ [markC w] ≠ [40] ∧ [markC w] ≠ [41] ∧ [markC w] ≠ [44] := by
  rcases halfW_str h with rfl | rfl | rfl | rfl <;> decide +kernel
theorem tk_mark {w : Str} (h : halfW (.str w) = true) (h2 : l.word w = some l') : tkRun (l :: st) out ([markC w] :: ts) = tkRun (l' :: st) out ts := by
  obtain ⟨e1, e2, e3, e4⟩ := markT_markC h
  conv => lhs; unfold tkRun
  rw [if_neg e2, if_neg e3, if_neg e4]
  simp only [e1, h2]
theorem word_head {t : List Nat} (h : isWordT t) {k : Nat} (hk : k ∈ signs7) : t ≠ [k] := fun z => by
  subst z
  exact (h.2 k List.mem_cons_self).1 hk
theorem tk_leaf (h : isWordT t) (h2 : l.push (leafT t, 0) = some l') : tkRun (l :: st) out (t :: ts) = tkRun (l' :: st) out ts := by
  have em : markT t = none := by
    unfold markT
    rw [if_neg (word_head h (by decide)), if_neg (word_head h (by decide)), if_neg (word_head h (by decide)), if_neg (word_head h (by decide))]
  conv => lhs; unfold tkRun
  rw [if_neg (word_head h (by decide)), if_neg (word_head h (by decide)), if_neg (word_head h (by decide))]
  simp only [em, h2]
end
theorem leafT_leaf {w n : Str} (h : (Fm.leaf w n).ok = true) : leafT (n.cps.toList ++ tilde w) = .leaf w n := by
  obtain ⟨h1, h2⟩ := Bool.and_eq_true_iff.mp h
  unfold leafT
  rcases leafW_str h1 with rfl | rfl
  · rw [tilde_good, List.append_nil, sL_self, if_neg]
    intro z
    have hm := List.mem_of_getLast? z
    exact (alnum_word _ (isNameL_all h2 _ hm)).2.2 rfl
  · rw [tilde_counter, if_pos (by simp)]
    rw [List.dropLast_concat, sL_self]
theorem tk_half : ∀ (f : Fm) (l l' : LL) (st : List LL) (out : List (Fm × Nat)) (ts : List (List Nat)), f.ok = true → l.push (f, f.depth) = some l' → tkRun (l :: st) out (f.toks true ++ ts) = tkRun (l' :: st) out ts
  | .leaf w n, l, l', st, out, ts, ho, hp => tk_leaf (leaf_word ho) (by rw [leafT_leaf ho]; exact hp)
  | .node w a b, l, l', st, out, ts, ho, hp => by
    obtain ⟨hw, ho2⟩ := Bool.and_eq_true_iff.mp ho
    obtain ⟨ha, hb⟩ := Bool.and_eq_true_iff.mp ho2
    have e : (Fm.node w a b).toks true ++ ts = [40] :: (a.toks true ++ ([markC w] :: (b.toks true ++ ([41] :: ts)))) := by
      show (if true = true then _ else _) ++ ts = _
      rw [if_pos rfl]
      simp [List.append_assoc]
    rw [e, tk_40, tk_half a .emp (.one a a.depth) (l :: st) out _ ha rfl, tk_mark hw (l' := .two a a.depth w) rfl, tk_half b _ (.three a a.depth w b b.depth) (l :: st) out _ hb rfl]
    exact tk_41 rfl hp
theorem tk_whole (f : Fm) (st : List LL) (out : List (Fm × Nat)) (ts : List (List Nat)) (ho : f.ok = true) : ∃ l : LL, l.fold = some (f, f.depth) ∧ tkRun (.emp :: st) out (f.toks false ++ ts) = tkRun (l :: st) out ts := by
  cases f with
  | leaf w n => exact ⟨.one (.leaf w n) 0, rfl, tk_leaf (leaf_word ho) (by rw [leafT_leaf ho]; rfl)⟩
  | node w a b =>
    obtain ⟨hw, ho2⟩ := Bool.and_eq_true_iff.mp ho
    obtain ⟨ha, hb⟩ := Bool.and_eq_true_iff.mp ho2
    refine ⟨.three a a.depth w b b.depth, rfl, ?_⟩
    have e : (Fm.node w a b).toks false ++ ts = a.toks true ++ ([markC w] :: (b.toks true ++ ts)) := by
      show (if false = true then _ else _) ++ ts = _
      rw [if_neg Bool.false_ne_true]
      simp [List.append_assoc]
    rw [e, tk_half a .emp (.one a a.depth) st out _ ha rfl, tk_mark hw (l' := .two a a.depth w) rfl, tk_half b _ (.three a a.depth w b b.depth) st out _ hb rfl]
theorem tk_more : ∀ (fs : List Fm) (l : LL) (p : Fm × Nat) (st : List LL) (out : List (Fm × Nat)), l.fold = some p → (∀ f ∈ fs, f.ok = true) → tkRun (l :: st) out (fs.map fun g => [44] :: g.toks false).flatten = some (out ++ p :: fs.map fun f => (f, f.depth))
  | [], l, p, st, out, hl, _ => by
    show (l.fold).map _ = _
    rw [hl]
    rfl
  | f :: fs, l, p, st, out, hl, h => by
    obtain ⟨l2, h1, h2⟩ := tk_whole f st (out ++ [p]) ((fs.map fun g => [44] :: g.toks false).flatten) (h f List.mem_cons_self)
    rw [List.map_cons, List.flatten_cons, List.cons_append, tk_44 hl, h2, tk_more fs l2 _ st _ h1 fun g hg => h g (List.mem_cons_of_mem _ hg), List.append_assoc]
    rfl
theorem tk_row {fs : List Fm} (hne : fs ≠ []) (h : ∀ f ∈ fs, f.ok = true) : tkRun [.emp] [] (rowToks fs) = some (fs.map fun f => (f, f.depth)) := by
  cases fs with
  | nil => exact absurd rfl hne
  | cons f fs =>
    obtain ⟨l2, h1, h2⟩ := tk_whole f [] [] ((fs.map fun g => [44] :: g.toks false).flatten) (h f List.mem_cons_self)
    show tkRun [.emp] [] (f.toks false ++ _) = _
    rw [h2, tk_more fs l2 _ [] [] h1 fun g hg => h g (List.mem_cons_of_mem _ hg)]
    rfl
/-! ### what the machine reads is the text of the form -/
theorem skp_split (r : List Nat) : r = List.replicate (skipN r) 32 ++ skp r := by
  induction r with
  | nil => rfl
  | cons k r ih =>
    by_cases h : k = 32
    · subst h
      rw [skp_cons]
      have e : skipN (32 :: r) = skipN r + 1 := by
        show (if (32 : Nat) = 32 then skipN r + 1 else 0) = _
        rw [if_pos rfl]
      rw [e, List.replicate_succ, List.cons_append, ← ih]
    · rw [skp_ne h]
      have e : skipN (k :: r) = 0 := by
        show (if k = 32 then skipN r + 1 else 0) = _
        rw [if_neg h]
      rw [e]
      rfl
theorem leafR_take {r : List Nat} {f : Fm} {m : Nat} (h : leafR r = .ok (f, m)) : ∃ w n, f = .leaf w n ∧ r.take m = n.cps.toList ++ tilde w := by
  unfold leafR at h
  split at h
  · cases h
  · rename_i k he
    split at h
    · rename_i h1
      cases h
      refine ⟨_, _, rfl, ?_⟩
      obtain ⟨t, ht⟩ := head_cons h1
      rw [sL_cps, tilde_counter, List.take_succ]
      congr 1
      have : r[k]? = some 126 := by
        have e : (r.drop k)[0]? = some 126 := by rw [ht]; rfl
        rw [List.getElem?_drop, Nat.add_zero] at e
        exact e
      rw [this]
      rfl
    · cases h
      exact ⟨_, _, rfl, by rw [sL_cps, tilde_good, List.append_nil]⟩
def lvT : Lv → List (List Nat)
  | none => []
  | some (g, _, w) => g.toks true ++ [[markC w]]
def preT : List Lv → List (List Nat)
  | [] => []
  | [x] => lvT x
  | x :: y :: s => preT (y :: s) ++ [[40]] ++ lvT x
theorem preT_push {x : Lv} {st : List Lv} {f : Fm} {d : Nat} {w : Str} : preT (some (f, d, w) :: st) = preT (none :: st) ++ f.toks true ++ [[markC w]] := by
  cases st with
  | nil => rfl
  | cons y s =>
    show preT (y :: s) ++ [[40]] ++ (f.toks true ++ [[markC w]]) = preT (y :: s) ++ [[40]] ++ [] ++ f.toks true ++ [[markC w]]
    simp [List.append_assoc]
theorem markOf_C {k : Nat} {r : List Nat} {w : Str} (h : markOf (k :: r) = some w) : k = markC w := by
  unfold markOf at h
  simp only at h
  split at h
  · cases h; rename_i e; rw [e]; decide +kernel
  split at h
  · cases h; rename_i e; rw [e]; decide +kernel
  split at h
  · cases h; rename_i e; rw [e]; decide +kernel
  split at h
  · cases h; rename_i e; rw [e]; decide +kernel
  · cases h
def MachT (f : Fm) (r1 : List Nat) : Cfg → Prop
  | .A st r => st ≠ [] → (∀ x ∈ st, Lv.good x) → ∃ ts p, r = p ++ r1 ∧ Spd ts p ∧ preT st ++ ts = f.toks false
  | .B st g e r => st ≠ [] → (∀ x ∈ st, Lv.good x) → g.ok = true → e = g.depth → ∃ ts p, r = p ++ r1 ∧ Spd ts p ∧ preT st ++ g.toks true ++ ts = f.toks false
theorem mach_toks : ∀ (n : Nat) (c : Cfg) (f : Fm) (d : Nat) (r1 : List Nat), mach n c = some (.ok f d r1) → MachT f r1 c
  | 0, _, _, _, _, h => by cases h
  | n + 1, .A st r, f, d, r1, h => by
    intro hne hg
    have hsp := skp_split r
    by_cases z : (skp r).head? = some 40
    · obtain ⟨t, ht⟩ := head_cons z
      rw [mach_lp ht] at h
      obtain ⟨ts, p, e1, e2, e3⟩ := mach_toks n _ _ _ _ h (by simp) (fun x hx => by rcases List.mem_cons.mp hx with e | e; · rw [e]; trivial
                                                                                    · exact hg x e)
      refine ⟨[40] :: ts, List.replicate (skipN r) 32 ++ ([40] ++ p), ?_, .cons _ e2, ?_⟩
      · rw [ht, e1] at hsp
        conv => lhs; rw [hsp]
        simp [List.append_assoc]
      · rw [← e3]
        cases st with
        | nil => exact absurd rfl hne
        | cons y s =>
          show preT (y :: s) ++ [40] :: ts = preT (y :: s) ++ [[40]] ++ [] ++ ts
          simp [List.append_assoc]
    · cases el : leafR (skp r) with
      | error k => rw [mach_err z el] at h; cases h
      | ok fk =>
        obtain ⟨g, k⟩ := fk
        rw [mach_leaf z el] at h
        obtain ⟨g1, g2⟩ := leafR_ok el
        obtain ⟨w, nm, rfl, hk⟩ := leafR_take el
        obtain ⟨ts, p, e1, e2, e3⟩ := mach_toks n _ _ _ _ h hne hg g1 g2.symm
        refine ⟨(nm.cps.toList ++ tilde w) :: ts, List.replicate (skipN r) 32 ++ ((nm.cps.toList ++ tilde w) ++ p), ?_, .cons _ e2, ?_⟩
        · conv => lhs; rw [hsp, ← List.take_append_drop k (skp r), e1, hk]
          simp [List.append_assoc]
        · rw [← e3]
          show _ = preT st ++ [nm.cps.toList ++ tilde w] ++ ts
          simp [List.append_assoc]
  | n + 1, .B [] _ _ _, _, _, _, h => by cases h
  | n + 1, .B [some (g, e, w)] f0 d0 r, f, d, r1, h => by
    rw [mach_B0] at h
    cases h
    intro _ hg h1 h2
    refine ⟨[], [], rfl, .nil 0, ?_⟩
    show g.toks true ++ [[markC w]] ++ f0.toks true ++ [] = (if false = true then _ else _)
    rw [if_neg Bool.false_ne_true, List.append_nil]
  | n + 1, .B (some (g, e, w) :: x :: st) f0 d0 r, f, d, r1, h => by
    intro _ hg h1 h2
    obtain ⟨g1, g2, g3⟩ := hg _ List.mem_cons_self
    by_cases z : (skp r).head? = some 41
    · obtain ⟨t, ht⟩ := head_cons z
      rw [mach_B1 ht] at h
      obtain ⟨ts, p, e1, e2, e3⟩ := mach_toks n _ _ _ _ h (by simp) (fun y hy => hg y (List.mem_cons_of_mem _ hy)) (Bool.and_eq_true_iff.mpr ⟨g3, Bool.and_eq_true_iff.mpr ⟨g1, h1⟩⟩) (by rw [g2, h2]; rfl)
      refine ⟨[41] :: ts, List.replicate (skipN r) 32 ++ ([41] ++ p), ?_, .cons _ e2, ?_⟩
      · have hsp := skp_split r
        rw [ht, e1] at hsp
        conv => lhs; rw [hsp]
        simp [List.append_assoc]
      · rw [← e3]
        show preT (x :: st) ++ [[40]] ++ (g.toks true ++ [[markC w]]) ++ f0.toks true ++ [41] :: ts = preT (x :: st) ++ (if true = true then _ else _) ++ ts
        rw [if_pos rfl]
        simp [List.append_assoc]
    · rw [mach_B2 z] at h; cases h
  | n + 1, .B (none :: st) f0 d0 r, f, d, r1, h => by
    intro _ hg h1 h2
    have hsp := skp_split r
    cases em : markOf (skp r) with
    | none =>
      simp only [mach, em] at h
      split at h
      · cases h
      · rename_i c1
        cases h
        have hst : st = [] := List.length_eq_zero_iff.mp (by omega)
        have hd : d0 = 0 := by omega
        subst hst
        refine ⟨[], List.replicate (skipN r) 32, hsp, .nil _, ?_⟩
        cases f0 with
        | leaf w nm => rfl
        | node w a b => rw [hd] at h2; cases h2
    | some w =>
      simp only [mach, em] at h
      cases er : skp r with
      | nil => rw [er] at em; cases em
      | cons k t =>
        rw [er] at em h hsp
        obtain ⟨ts, p, e1, e2, e3⟩ := mach_toks n _ _ _ _ h (by simp) (fun y hy => by
          rcases List.mem_cons.mp hy with z | z
          · rw [z]; exact ⟨h1, h2, markOf_half em⟩
          · exact hg y (List.mem_cons_of_mem _ z))
        have e1 : t = p ++ r1 := e1
        have hk := markOf_C em
        refine ⟨[markC w] :: ts, List.replicate (skipN r) 32 ++ ([markC w] ++ p), ?_, .cons _ e2, ?_⟩
        · conv => lhs; rw [hsp, e1, hk]
          simp [List.append_assoc]
        · rw [← e3, preT_push (x := none)]
          simp [List.append_assoc]
theorem form_toks {n : Nat} {r : List Nat} {f : Fm} {d : Nat} {r1 : List Nat} (h : mach n (.A [none] r) = some (.ok f d r1)) : ∃ p, r = p ++ r1 ∧ Spd (f.toks false) p := by
  obtain ⟨ts, p, e1, e2, e3⟩ := mach_toks _ _ _ _ _ h (by simp) none_good
  have e3 : ts = f.toks false := e3
  exact ⟨p, e1, by rw [← e3]; exact e2⟩
theorem row_toks {r : List Nat} {res : RR} (h : RowR r res) : ∀ ps r1, res = .ok ps r1 → ∃ p, r = p ++ r1 ∧ Spd (rowToks (ps.map (·.1))) p := by
  induction h with
  | bad _ => intro ps r1 e; cases e
  | @last n r r1 f d hm h44 =>
    intro ps r2 e
    cases e
    obtain ⟨p, e1, e2⟩ := form_toks hm
    refine ⟨p ++ List.replicate (skipN r1) 32, ?_, ?_⟩
    · conv => lhs; rw [e1, skp_split r1]
      rw [List.append_assoc]
    · have := e2.pre (Spd.nil (skipN r1))
      exact this
  | @more n r r1 r2 f d res hm h44 hrow ih =>
    intro ps r3 e
    cases res with
    | err _ => cases e
    | ok ps' r' =>
      cases e
      obtain ⟨p2, e3, e4⟩ := ih ps' _ rfl
      obtain ⟨p, e1, e2⟩ := form_toks hm
      have hne := (row_ok hrow _ _ rfl).1
      refine ⟨p ++ (List.replicate (skipN r1) 32 ++ ([44] ++ p2)), ?_, ?_⟩
      · conv => lhs; rw [e1, skp_split r1, h44, e3]
        simp [List.append_assoc]
      · have := e2.pre (Spd.cons (skipN r1) (t := [44]) e4)
        have e5 : rowToks ((f :: ps'.map (·.1))) = f.toks false ++ [44] :: rowToks (ps'.map (·.1)) := by
          cases ps' with
          | nil => exact absurd rfl hne
          | cons q qs => rfl
        show Spd (rowToks (f :: ps'.map (·.1))) _
        rw [e5]
        exact this
end DL
namespace DL
open PySem L2
/-! ### a list that changes is lent to a def as a value, for the time of the call -/
def D.atom : D → Bool
  | .non => true
  | .bl _ => true
  | .int _ => true
  | .str _ => true
  | _ => false
theorem Rep.atom {Y : Yc} {G G' : Hp} {d : D} {v : V} (h : Rep Y G d v) (ha : d.atom = true) : Rep Y G' d v := by
  cases h <;> first | exact .non | exact .bl _ | exact .int _ | exact .str _ | cases ha
/-- no exception's dict is about -/
def noXd (mu : Mu) : Prop := ∀ x fs, mu x ≠ some (.xd fs)
def mCallL (sp : DSp) (i : Nat) (n : MA) : ME := fun st P PX => n st (fun ds s1 => ∃ a es, ds[i]? = some (.ref a) ∧ s1.mu a = some (.lst es) ∧ (∃ d ∈ es, ∀ k, d ≠ .int k) ∧ noXd s1.mu ∧
  sp (ds.set i (.lst es)) (fun _ => none) s1.c (fun d _ c' => d.atom = true ∧ P d { s1 with c := c' }) (fun _ _ _ => False)) PX
theorem Reps.lend {Y : Yc} {G : Hp} {a : Addr} {es : List D} {xs : List V} (hG : G a = some (.lst xs)) (hq : Reps Y G es xs) : ∀ {ds : List D} {vs : List V} {i : Nat}, Reps Y G ds vs → ds[i]? = some (.ref a) → Reps Y G (ds.set i (.lst es)) vs
  | _, _, i, .nil, e => by simp at e
  | _, _, 0, .cons h r, e => by
    simp at e
    subst e
    cases h
    exact .cons (.lst hG hq) r
  | _, _, i + 1, .cons h r, e => .cons h (Reps.lend hG hq r (by simpa using e))
section
variable {X : Cx} {W : WX} {e : Expr} {es : List Expr} {mas : MA} {pos p : Pos} {x : Str} {k : Nat} {ps : List Str} {sp : DSp}
theorem de_callL {q : Qp} {T : List (Addr × Str)} {i : Nat} (F : FnD X.prog X.w X.K X.mg T X.base k x ps sp) (tk : Takes X W) (hr : Room k X.A) (hg : Gl X x) (ha : DA X (Yp X.K X.mg T q) W (e :: es) mas) (hdb : (x == ("__debug__" : Str)) = false := by decide)
    (he : starEach (e :: es) X.env = (false, eval e X.env) :: starEach es X.env := by rfl) (hpl : (backTo pos (starEach es X.env)).any (·.1) = false := by rfl) : DE X (Yp X.K X.mg T q) W (.Call (.Name x p) (e :: es) [] pos) (mCallL sp i mas) := by
  obtain ⟨f, fd, h1, h2, h3, h4⟩ := F.ex
  refine peImp (pe_callSD (dvs := []) (ds := []) (E := WE W) (h4 q) hr hg h1 h2 h3 .nil (fun σ => passAt tk σ) ha hdb he hpl) fun σ H Q ⟨G, st, P, PX, rr, hm, xp, k⟩ => ?_
  refine ⟨G, st, _, PX, rr, hm, xp, fun ds s1 vs G1 H1 hm1 g1 f1 r1 q1 => ?_⟩
  obtain ⟨a, es, hi, hmu, ⟨d0, hd0, hd1⟩, hxd, hsp⟩ := hm1
  obtain ⟨hGa, ob, hHa, rm⟩ := r1.h.mus a _ hmu
  cases rm with
  | @lst _ xs hrep =>
  obtain ⟨po, hp1, hp2, hp3, hp4⟩ := r1.h.pen
  have hp4 : s1.mu q.p = none := hp4
  have nap : a ≠ q.p := fun z => by rw [z, hp4] at hmu; cases hmu
  have sG : Same G1 (upd G1 a (.lst xs)) := same_upd hGa
  have R1 : R0 (Yp X.K X.mg T q) (upd G1 a (.lst xs)) (fun _ => none) s1.c H1 := {
    sub := fun b o e => by
      by_cases hb : b = a
      · subst hb; rw [upd_same] at e; cases e; exact hHa
      · rw [upd_ne hb] at e; exact r1.h.sub b o e
    mus := fun b m e => by cases e
    pen := ⟨po, hp1, (Yp X.K X.mg T q).mono _ _ _ _ sG hp2, (upd_ne (Ne.symm nap)).trans hp3, rfl⟩
    ext := {
      tab := r1.h.ext.tab
      tabO := fun t ht => by
        obtain ⟨y1, y2⟩ := r1.h.ext.tabO t ht
        have : t.1 ≠ a := fun z => by rw [z, hmu] at y2; cases y2
        exact ⟨by rw [upd_ne this]; exact y1, rfl⟩
      raw := fun t ht => by
        obtain ⟨y0, y1, y2⟩ := r1.h.ext.raw t ht
        have : t.1 ≠ a := fun z => by rw [z, hmu] at y2; cases y2
        exact ⟨y0, by rw [upd_ne this]; exact y1, rfl⟩
      pl := fun b o e => by
        by_cases hb : b = a
        · subst hb; rw [upd_same] at e; cases e; exact plain_lst
        · rw [upd_ne hb] at e; exact r1.h.ext.pl b o e
      lo := fun b o e => sG b o (r1.h.ext.lo b o e) } }
  refine ⟨upd G1 a (.lst xs), fun _ => none, s1.c, ds.set i (.lst es), _, _, R1, ?_, hsp, fun d mu' c' v G' H' hp g f r q2 => ?_, fun ex mu' c' cls d G' H' hp => hp.elim⟩
  · rw [List.append_nil]
    exact Reps.lend (upd_same) (hrep.mono sG) (q1.mono sG) hi
  obtain ⟨hat, hP⟩ := hp
  obtain ⟨po', n1, n2, n3, n4⟩ := r.pen
  obtain ⟨ca, b, l, ns, e1, e2, e3, e4, e5, e6⟩ := n2
  have hG'a : G' a = some (.lst xs) := g a _ upd_same
  have nca : ca ≠ a := fun z => by
    rw [z, hG'a] at e2
    cases e2
    obtain ⟨j, hj, hje⟩ := List.getElem_of_mem hd0
    obtain ⟨v0, hv0, q0⟩ := hrep.get (i := j) (by rw [List.getElem?_eq_getElem hj, hje])
    rw [List.getElem?_map] at hv0
    cases hn : ns[j]? with
    | none => rw [hn] at hv0; cases hv0
    | some n0 =>
      rw [hn] at hv0
      cases hv0
      cases q0
      exact hd1 _ rfl
  have up : ∀ b o, G1 b = some o → G' b = some o := fun b o e => g b o (sG b o e)
  obtain ⟨Gf, hGf⟩ : ∃ Gf : Hp, Gf = fun b => if b = ca then G' ca else G1 b := ⟨_, rfl⟩
  have gf1 : Gf ca = some (.lst (ns.map V.int)) := by rw [hGf]; show (if ca = ca then G' ca else _) = _; rw [if_pos rfl]; exact e2
  have gf2 : ∀ {b}, b ≠ ca → Gf b = G1 b := fun {b} h => by rw [hGf]; show (if b = ca then _ else G1 b) = _; rw [if_neg h]
  have gS : Same G1 Gf := fun b o e => by
    by_cases hb : b = ca
    · subst hb; rw [gf1, ← e2]; exact up _ _ e
    · rw [gf2 hb]; exact e
  have gU : ∀ b o, Gf b = some o → G' b = some o := fun b o e => by
    by_cases hb : b = ca
    · subst hb; rw [gf1] at e; rw [e2]; exact e
    · rw [gf2 hb] at e; exact up b o e
  have gN : ∀ b, G' b = none → Gf b = none := fun b e => by
    cases z : Gf b with
    | none => rfl
    | some o => have := gU b o z; rw [e] at this; cases this
  have hFrm : ∀ b o, H1 b = some o → G1 b = none → b ≠ a → b ≠ q.p ∧ frmO o → H' b = some o ∧ G' b = none := fun b o y1 y2 y3 y4 => by
    obtain ⟨z1, z2, _⟩ := f b o y1 (by rw [upd_ne y3]; exact y2) rfl y4
    exact ⟨z1, z2⟩
  refine k d _ v Gf H' hP (g1.trans gS) (f1.trans ?_) ⟨?_, r1.s.mono gS⟩ (q2.atom hat)
  · intro b o y1 y2 y3 y4
    have nb : b ≠ a := fun z => by rw [z, hmu] at y3; cases y3
    obtain ⟨z1, z2⟩ := hFrm b o y1 y2 nb y4
    exact ⟨z1, gN b z2, y3⟩
  · exact {
      sub := fun b o e => r.sub b o (gU b o e)
      mus := fun b m e => by
        obtain ⟨y1, o, y2, y3⟩ := r1.h.mus b m e
        by_cases hb : b = a
        · subst hb
          refine ⟨by rw [gf2 (Ne.symm nca)]; exact y1, o, ?_, y3.mono gS⟩
          have : o = .lst xs := Option.some.inj (y2.symm.trans hHa)
          rw [this]
          exact r.sub _ _ hG'a
        · have np : b ≠ q.p := fun z => by
            rw [z] at e
            have := hp4
            rw [this] at e
            cases e
          have fo : frmO o := by
            cases y3 with
            | lst _ => exact frm_lst
            | dct _ => exact frm_dK
            | ins _ _ => exact ⟨fun _ z => (by cases z), fun _ z => (by cases z)⟩
            | xd _ => exact absurd e (hxd b _)
          obtain ⟨z1, z2⟩ := hFrm b o y2 y1 hb ⟨np, fo⟩
          exact ⟨gN b z2, o, z1, y3.mono gS⟩
      pen := ⟨po', n1, ⟨ca, b, l, ns, e1, gf1, e3, e4, e5, e6⟩, gN _ n3, hp4⟩
      ext := {
        tab := r.ext.tab
        tabO := fun t ht => ⟨gN _ (r.ext.tabO t ht).1, (r1.h.ext.tabO t ht).2⟩
        raw := fun t ht => ⟨(r.ext.raw t ht).1, gN _ (r.ext.raw t ht).2.1, (r1.h.ext.raw t ht).2.2⟩
        pl := fun b o e => r.ext.pl b o (gU b o e)
        lo := fun b o e => gS b o (r1.h.ext.lo b o e) } }
end
end DL
namespace DL
open PySem L2
/-! ### a row of forms: its tokens with any spaces are read as the row -/
theorem whole_reads2 (f : Fm) (ho : f.ok = true) (ts : List (List Nat)) (hts : ts = [] ∨ ∃ us, ts = [44] :: us) (r : List Nat) (h : Spd (f.toks false ++ ts) r) : ∃ k r' r'', Spd ts r' ∧ skp r'' = skp r' ∧ ∀ n, mach (n + k) (.A [none] r) = some (.ok f f.depth r'') := by
  have hst : Stop ts := by
    rcases hts with rfl | ⟨us, rfl⟩
    · trivial
    · simp [Stop]
  cases f with
  | leaf w n =>
    obtain ⟨r', h', k, hk⟩ := half_reads (.leaf w n) ho [none] ts r (by simp) hst h
    have em : markOf (skp r') = none := by
      rcases hts with rfl | ⟨us, rfl⟩
      · rw [h'.nil_skp]; rfl
      · obtain ⟨r2, e, _⟩ := h'.one (by decide)
        rw [e]
        rfl
    refine ⟨1 + k, r', skp r', h', skp_skp r', fun n => ?_⟩
    rw [← Nat.add_assoc, hk]
    simp [mach, em, Fm.depth]
  | node w a b =>
    obtain ⟨hw, ho2⟩ := Bool.and_eq_true_iff.mp ho
    obtain ⟨hoa, hob⟩ := Bool.and_eq_true_iff.mp ho2
    have ek : (Fm.node w a b).toks false ++ ts = a.toks true ++ ([markC w] :: (b.toks true ++ ts)) := by
      show (if false = true then _ else _) ++ ts = _
      rw [if_neg Bool.false_ne_true]
      simp [List.append_assoc]
    rw [ek] at h
    obtain ⟨mk1, mk2, mk3⟩ := mark_is hw ([] : List Nat)
    obtain ⟨r2, h2, s2⟩ := half_reads a hoa [none] _ r (by simp) (by rcases mk3 with z | z | z | z <;> (rw [z]; simp [Stop])) h
    obtain ⟨r3, e3, h3⟩ := h2.one mk2
    obtain ⟨r4, h4, s4⟩ := half_reads b hob [some (a, a.depth, w)] ts r3 (by simp) hst h3
    have t3 : Steps (.B [none] a a.depth r2) (.A [some (a, a.depth, w)] r3) := ⟨1, fun n => by simp only [mach, e3, (mark_is hw r3).1, List.drop_succ_cons, List.drop_zero]⟩
    obtain ⟨k, hk⟩ := s2.trans (t3.trans s4)
    refine ⟨1 + k, r4, r4, h4, rfl, fun n => ?_⟩
    rw [← Nat.add_assoc, hk]
    rfl
def withD (fs : List Fm) : List (Fm × Nat) := fs.map fun f => (f, f.depth)
theorem rowToks_cons (f g : Fm) (fs : List Fm) : rowToks (f :: g :: fs) = f.toks false ++ [44] :: rowToks (g :: fs) := rfl
theorem row_reads : ∀ (fs : List Fm) (l : List Nat), fs ≠ [] → (∀ f ∈ fs, f.ok = true) → Spd (rowToks fs) l → RowR l (.ok (withD fs) [])
  | [], _, h, _, _ => absurd rfl h
  | [f], l, _, hok, hs => by
    have hs : Spd (f.toks false ++ []) l := hs
    obtain ⟨k, r', r'', h1, h2, h3⟩ := whole_reads2 f (hok f List.mem_cons_self) [] (.inl rfl) l hs
    have e : skp r'' = [] := by rw [h2, h1.nil_skp]
    have := RowR.last (h3 0) (by rw [e]; simp)
    rw [e] at this
    exact this
  | f :: g :: fs, l, _, hok, hs => by
    rw [rowToks_cons] at hs
    obtain ⟨k, r', r'', h1, h2, h3⟩ := whole_reads2 f (hok f List.mem_cons_self) _ (.inr ⟨_, rfl⟩) l hs
    obtain ⟨r2, e, h4⟩ := h1.one (by decide)
    exact RowR.more (h3 0) (h2.trans e) (row_reads (g :: fs) r2 (by simp) (fun x hx => hok x (List.mem_cons_of_mem _ hx)) h4)
theorem withD_fst (fs : List Fm) : (withD fs).map (·.1) = fs := by
  unfold withD
  rw [List.map_map]
  exact (List.map_congr_left fun f _ => rfl).trans (List.map_id _)
theorem more_spd : ∀ fs : List Fm, Spd (fs.map fun g => [44] :: g.toks false).flatten (fs.map fun g => [44, 32] ++ g.txt false).flatten
  | [] => .nil 0
  | f :: fs => by
    have := ((Spd.tok [44]).pre (Spd.sp.pre (txt_spd f false))).pre (more_spd fs)
    exact this
theorem rowTxt_spd : ∀ fs : List Fm, Spd (rowToks fs) (rowTxt fs)
  | [] => .nil 0
  | f :: fs => (txt_spd f false).pre (more_spd fs)
theorem rowTxt_asc {fs : List Fm} (h : ∀ f ∈ fs, f.ok = true) : asc (rowTxt fs) := by
  cases fs with
  | nil => intro k hk; cases hk
  | cons f fs =>
    refine asc_app (txt_asc f false (h f List.mem_cons_self)) ?_
    intro k hk
    obtain ⟨l, hl, z⟩ := List.mem_flatten.mp hk
    obtain ⟨g, hg, rfl⟩ := List.mem_map.mp hl
    rcases List.mem_append.mp z with z | z
    · simp only [List.mem_cons, List.not_mem_nil, or_false] at z
      omega
    · exact txt_asc g false (h g (List.mem_cons_of_mem _ hg)) k z
theorem rowTxt_len : ∀ (fs : List Fm), (∀ f ∈ fs, f.ok = true) → (rowTxt fs).length ≤ 20 * leafN fs := by
  have one : ∀ f : Fm, f.ok = true → (f.txt false).length ≤ 18 * f.leaves.length := fun f h => by
    have := txt_lv f h
    have := txt_le f
    omega
  have more : ∀ fs : List Fm, (∀ f ∈ fs, f.ok = true) → ((fs.map fun g => [44, 32] ++ g.txt false).flatten).length ≤ 20 * leafN fs := by
    intro fs
    induction fs with
    | nil => intro _; exact Nat.le_refl _
    | cons f fs ih =>
      intro h
      have h1 := ih fun g hg => h g (List.mem_cons_of_mem _ hg)
      have h2 := one f (h f List.mem_cons_self)
      have h3 := leaves_pos f
      have e : leafN (f :: fs) = f.leaves.length + leafN fs := rfl
      rw [List.map_cons, List.flatten_cons, List.length_append, List.length_append, e]
      show 2 + _ + _ ≤ _
      omega
  intro fs h
  cases fs with
  | nil => exact Nat.le_refl _
  | cons f fs =>
    have h1 := more fs fun g hg => h g (List.mem_cons_of_mem _ hg)
    have h2 := one f (h f List.mem_cons_self)
    have e : leafN (f :: fs) = f.leaves.length + leafN fs := rfl
    show (f.txt false ++ _).length ≤ _
    rw [List.length_append, e]
    omega
theorem rowToks_len : ∀ (fs : List Fm), (rowToks fs).length ≤ 5 * leafN fs := by
  have one : ∀ f : Fm, (f.toks false).length ≤ 4 * f.leaves.length := fun f => by
    have := toks_lv f
    have := toks_le f
    omega
  have more : ∀ fs : List Fm, ((fs.map fun g => [44] :: g.toks false).flatten).length ≤ 5 * leafN fs := by
    intro fs
    induction fs with
    | nil => exact Nat.le_refl _
    | cons f fs ih =>
      have h2 := one f
      have h3 := leaves_pos f
      have e : leafN (f :: fs) = f.leaves.length + leafN fs := rfl
      rw [List.map_cons, List.flatten_cons, List.length_append, List.length_cons, e]
      omega
  intro fs
  cases fs with
  | nil => exact Nat.le_refl _
  | cons f fs =>
    have h1 := more fs
    have h2 := one f
    have e : leafN (f :: fs) = f.leaves.length + leafN fs := rfl
    show (f.toks false ++ _).length ≤ _
    rw [List.length_append, e]
    omega
theorem rowFlat_len {fs : List Fm} (h : ∀ f ∈ fs, f.ok = true) : (rowToks fs).flatten.length ≤ 20 * leafN fs := Nat.le_trans (rowTxt_spd fs).flat_le (rowTxt_len fs h)
theorem rowToks_asc {fs : List Fm} (h : ∀ f ∈ fs, f.ok = true) : ∀ t ∈ rowToks fs, asc t := by
  cases fs with
  | nil => intro t ht; cases ht
  | cons f fs =>
    intro t ht
    rcases List.mem_append.mp ht with z | z
    · exact toks_asc f false (h f List.mem_cons_self) t z
    · obtain ⟨l, hl, z⟩ := List.mem_flatten.mp z
      obtain ⟨g, hg, rfl⟩ := List.mem_map.mp hl
      rcases List.mem_cons.mp z with z | z
      · rw [z]; exact asc_lit rfl
      · exact toks_asc g false (h g (List.mem_cons_of_mem _ hg)) t z
theorem join_toks (ts : List (List Nat)) : Txt.join (Str.ofString "") (ts.map sL) = sL ts.flatten := by
  rw [str_eq, join_cps, sL_cps, List.map_map]
  congr 1
  exact (List.map_congr_left fun t _ => sL_cps t).trans (List.map_id _)
theorem sum_toks (ts : List (List Nat)) : ((ts.map sL).map (·.length)).sum = ts.flatten.length := by
  rw [List.map_map, List.length_flatten]
  exact congrArg List.sum (List.map_congr_left fun t _ => sL_len t)
theorem tilde_rep {w : Str} : (⟨(repD (Str.ofString "~").cps.toList (if decide (w = "counter") = true then (1 : Int) else 0)).toArray⟩ : Str) = sL (tilde w) := by
  unfold tilde
  by_cases h : w = "counter"
  · rw [decide_eq_true h, if_pos rfl, if_pos h]
    decide +kernel
  · rw [decide_eq_false h, if_neg Bool.false_ne_true, if_neg h]
    decide +kernel
end DL
namespace DL
open PySem L2
local macro_rules | `(tactic| walk_at "st") => `(tactic| repeat (first | refine ⟨_, rfl, ?_⟩ | refine iteT ?_ | refine iteF ?_ | refine ⟨rfl, ?_⟩ | refine ⟨ceq_of (n := 0) (m := 0) rfl rfl, ?_⟩ | refine ⟨shortL _ rfl, ?_⟩))
local macro_rules | `(tactic| walk_at "c") => `(tactic| dsimp only [mNil])
local macro_rules | `(tactic| walk_at "ff") => `(tactic| first | (show if false = true then _ else _; refine iteF ?_) | skip)
-- @hash d4cc7186
-- @raw
-- @level 1
-- @hash 6b07265e
-- @raw
-- @level 1
-- @hash 4e449025
def sp_need_any_string : DSp := fun ds mu c P PX => ∃ d : D, ds = [d] ∧ d.ty.isSome = true ∧ if d.isTy "str" = true then P .non mu c else PX ⟨"BadValue", [("value", d)]⟩ mu c
def m_need_any_string : MS := (mIfS (mNot (mB (mIsi "str" (mVar 0)))) (mRaise "BadValue" "value" (mVar 0)) mNext)
theorem rd_need_any_string (ds : List D) (mu : Mu) (c : Nat) (P : D → Mu → Nat → Prop) (PX : Ex → Mu → Nat → Prop) (h : sp_need_any_string ds mu c P PX) : m_need_any_string (S0 ["value"] ["value"] ds mu c) (EF P) (XF PX) := by
  obtain ⟨d, rfl, ht, h⟩ := h
  refine ⟨d, rfl, ht, _, rfl, ?_⟩
  cases e : d.isTy "str" with
  | true => rw [e, if_pos rfl] at h; exact iteF ⟨c, Nat.le_refl _, h⟩
  | false => rw [e, if_neg Bool.false_ne_true] at h; exact iteT ⟨d, rfl, c, Nat.le_refl _, h⟩
-- @hash eb7698ed
def sp_is_leaf : DSp := fun ds mu c P PX => ∃ q : D × List D, ds = [.tup (q.1 :: q.2)] ∧ q.1.ok 64 = true ∧ P (.bl (leafW q.1)) mu c
def m_is_leaf : MS := (mRet (mOp (inD id) (mOp subD (mVar 0) (mC (.int 0))) (mC (.tup [(.str "good"), (.str "counter")]))))
theorem rd_is_leaf (ds : List D) (mu : Mu) (c : Nat) (P : D → Mu → Nat → Prop) (PX : Ex → Mu → Nat → Prop) (h : sp_is_leaf ds mu c P PX) : m_is_leaf (S0 ["form"] ["form"] ds mu c) (EF P) (XF PX) := by
  obtain ⟨⟨w, r⟩, rfl, hw, h⟩ := h
  exact ⟨_, rfl, w, atI_nat (j := 0) rfl, ceq_of hw leafWs_ok, c, Nat.le_refl _, h⟩
/-- at a form -/
theorem Fm.cons (f : Fm) : ∃ w r, f.toD = .tup (.str w :: r) := by cases f <;> exact ⟨_, _, rfl⟩
theorem word_ok {w : Str} (h : leafW (.str w) = true ∨ halfW (.str w) = true) (n : Nat) : (D.str w).ok n = true := by
  rcases h with h | h
  · exact ok_ascS (leafW_asc h).1 n
  · exact ok_ascS (halfW_asc h).1 n
theorem leaf_half {w : Str} (h : halfW (.str w) = true) : leafW (.str w) = false := by
  rcases halfW_str h with rfl | rfl | rfl | rfl <;> decide +kernel
-- @hash c1ded76e
def sp_Scan_seen : DSp := fun ds mu c P PX => ∃ q : ScA, ds = [.ref q.a] ∧ q.At mu ∧ P (.str q.see) mu c
def m_Scan_seen : MS := (mRet (mSl (mFld "Scan" "string" (mVar 0)) (mOSome (mFld "Scan" "place" (mVar 0))) (mOSome (mOp addD (mFld "Scan" "place" (mVar 0)) (mC (.int 1))))))
theorem rd_Scan_seen (ds : List D) (mu : Mu) (c : Nat) (P : D → Mu → Nat → Prop) (PX : Ex → Mu → Nat → Prop) (h : sp_Scan_seen ds mu c P PX) : m_Scan_seen (S0 ["self"] ["self"] ds mu c) (EF P) (XF PX) := by
  obtain ⟨q, rfl, h0, h⟩ := h
  refine ⟨_, rfl, fld_string h0 ⟨_, rfl, fld_place h0 ⟨_, rfl, _, rfl, fld_place h0 ⟨_, rfl, ?_⟩⟩⟩⟩
  refine ⟨h0.line, c, Nat.le_refl _, ?_⟩
  show P (.str ⟨(cutD q.l (some (q.i : Int)) (some ((q.i : Int) + 1))).toArray⟩) mu c
  rw [cut_one h0.le]
  exact h
-- @hash 77b5d3bf
def sp_Scan_sees : DSp := fun ds mu c P PX => ∃ q : ScA × Str × Nat, ds = [.ref q.1.a, .str q.2.1] ∧ q.1.At mu ∧ q.2.1.cps.toList = [q.2.2] ∧ q.2.2 < 128 ∧ (q.1.rest.head? = some q.2.2 → P (.bl true) (q.1.set mu (q.1.i + 1)) c) ∧ (q.1.rest.head? ≠ some q.2.2 → P (.bl false) mu c)
def m_Scan_sees : MS := (mSeq (mIfS (mB (mOp neD (mMeth0 "Scan" "seen" sp_Scan_seen (mVar 0)) (mVar 1))) (mRet (mC (.bl false))) mNext)
  (mSeq (mPutF "Scan" "place" (mVar 0) (mOp addD (mFld "Scan" "place" (mVar 0)) (mC (.int 1))))
  (mRet (mC (.bl true)))))
theorem rd_Scan_sees (ds : List D) (mu : Mu) (c : Nat) (P : D → Mu → Nat → Prop) (PX : Ex → Mu → Nat → Prop) (h : sp_Scan_sees ds mu c P PX) : m_Scan_sees (S0 ["self", "sign"] ["self", "sign"] ds mu c) (EF P) (XF PX) := by
  obtain ⟨⟨q, g, k⟩, rfl, h0, hg, hk, h1, h2⟩ := h
  simp only at h0 hg hk h1 h2
  have hga : asc g.cps.toList := by rw [hg]; exact fun j hj => by have : j = k := by simpa using hj
                                                                  omega
  refine ⟨_, rfl, mth_scan h0 (by decide +kernel) ⟨q, rfl, h0, _, rfl, ceq_of (h0.see_ok 0) (ok_ascS hga 0), ?_⟩⟩
  refine ⟨_, rfl, ?_⟩
  rw [q.see_one hg]
  refine ite2 (fun c1 => ?_) (fun c1 => ?_)
  · exact ⟨c, Nat.le_refl _, h2 fun z => by rw [decide_eq_true z] at c1; cases c1⟩
  · have c1' : q.rest.head? = some k := by
      have := bT c1
      exact of_decide_eq_true this
    refine ⟨_, rfl, fld_place h0 ⟨_, rfl, put_place (j := q.i + 1) rfl h0 ⟨c, Nat.le_refl _, h1 c1'⟩⟩⟩
-- @hash a1ce37ff
def sp_Scan_take_name : DSp := fun ds mu c P PX => ∃ q : ScA, ds = [.ref q.a] ∧ q.At mu ∧ match nameR q.rest with
  | .ok n => P (.str ⟨(q.rest.take n).toArray⟩) (q.set mu (q.i + n)) c
  | .error n => PX (notText (q.i + n)) (q.set mu (q.i + n)) c
theorem runN_cons {k : Nat} {r : List Nat} (h : k ∈ alnum) : runN (k :: r) = runN r + 1 := by
  unfold runN
  rw [List.takeWhile_cons_of_pos (by simpa using h), List.length_cons]
theorem runN_stop {k : Nat} {r : List Nat} (h : ¬ k ∈ alnum) : runN (k :: r) = 0 := by
  unfold runN
  rw [List.takeWhile_cons_of_neg (by simpa using h)]
  rfl
theorem runN_drop : ∀ (l : List Nat) (n : Nat), n ≤ runN l → runN (l.drop n) = runN l - n
  | l, 0, _ => rfl
  | [], n + 1, h => by simp [runN] at h
  | k :: r, n + 1, h => by
    by_cases hk : k ∈ alnum
    · rw [runN_cons hk] at h ⊢
      rw [List.drop_succ_cons, runN_drop r n (by omega)]
      omega
    · rw [runN_stop hk] at h
      omega
def m_Scan_take_name : MS := (mSeq (mSet 1 (mFld "Scan" "place" (mVar 0)))
  (mSeq (mIfS (mOr (mB (mOp eqD (mMeth0 "Scan" "seen" sp_Scan_seen (mVar 0)) (mC (.str "")))) (mB (mOp (inD not) (mMeth0 "Scan" "seen" sp_Scan_seen (mVar 0)) (mC (.str "abcdefghijklmnopqrstuvwxyz"))))) (mRaise "NotAText" "at" (mFld "Scan" "place" (mVar 0))) mNext)
  (mSeq (mWhile (mAnd (mB (mOp neD (mMeth0 "Scan" "seen" sp_Scan_seen (mVar 0)) (mC (.str "")))) (mB (mOp (inD id) (mMeth0 "Scan" "seen" sp_Scan_seen (mVar 0)) (mC (.str "abcdefghijklmnopqrstuvwxyz0123456789"))))) (mSeq (mIfS (mB (mOp eqD (mFld "Scan" "place" (mVar 0)) (mOp addD (mVar 1) (mC (.int 12))))) (mRaise "NotAText" "at" (mFld "Scan" "place" (mVar 0))) mNext)
  (mPutF "Scan" "place" (mVar 0) (mOp addD (mFld "Scan" "place" (mVar 0)) (mC (.int 1))))))
  (mRet (mSl (mFld "Scan" "string" (mVar 0)) (mOSome (mVar 1)) (mOSome (mFld "Scan" "place" (mVar 0))))))))
theorem rd_Scan_take_name (ds : List D) (mu : Mu) (c : Nat) (P : D → Mu → Nat → Prop) (PX : Ex → Mu → Nat → Prop) (h : sp_Scan_take_name ds mu c P PX) : m_Scan_take_name (S0 ["self", "first"] ["self"] ds mu c) (EF P) (XF PX) := by
  obtain ⟨q, rfl, h0, h⟩ := h
  refine ⟨_, rfl, fld_place h0 ?_⟩
  refine ⟨_, rfl, mth_scan h0 (by decide +kernel) ⟨q, rfl, h0, ceq_of (m := 0) (h0.see_ok 0) (by decide +kernel), _, rfl, ?_⟩⟩
  have bad : ∀ n, nameR q.rest = .error n → PX (notText (q.i + n)) (q.set mu (q.i + n)) c := fun n e => by rw [e] at h; exact h
  rw [q.see_eq]
  refine ite2 (fun c1 => ?_) (fun c1 => ?_)
  · have e0 : nameR q.rest = .error 0 := by
      have := of_decide_eq_true c1
      cases e : q.rest with
      | nil => rfl
      | cons k r => rw [e] at this; exact absurd this (by intro z; cases z)
    have hb := bad 0 e0
    rw [Nat.add_zero] at hb
    unfold ScA.set at hb
    rw [h0.self] at hb
    exact ⟨_, rfl, fld_place h0 ⟨c, Nat.le_refl _, hb⟩⟩
  obtain ⟨k, r, hr⟩ : ∃ k r, q.rest = k :: r := by
    cases e : q.rest with
    | nil => exact absurd (by rw [e]; rfl) c1
    | cons k r => exact ⟨k, r, rfl⟩
  have hsee : q.see = ⟨#[k]⟩ := by unfold ScA.see; rw [hr]; rfl
  refine ⟨_, rfl, mth_scan h0 (by decide +kernel) ⟨q, rfl, h0, ?_⟩⟩
  rw [hsee]
  refine ⟨_, rfl, ?_⟩
  rw [show hasStr ⟨#[k]⟩ (Str.ofString "abcdefghijklmnopqrstuvwxyz") = decide (k ∈ letters) from hasStr_one k _]
  refine ite2 (fun c2 => ?_) (fun c2 => ?_)
  · have c2' : ¬ k ∈ letters := by simpa using c2
    have e0 : nameR q.rest = .error 0 := by rw [hr]; show (if _ then _ else _) = _; rw [if_neg c2']
    have hb := bad 0 e0
    rw [Nat.add_zero] at hb
    unfold ScA.set at hb
    rw [h0.self] at hb
    exact ⟨_, rfl, fld_place h0 ⟨c, Nat.le_refl _, hb⟩⟩
  have c2' : k ∈ letters := by simpa using c2
  have hok : runN q.rest ≤ 12 → P (.str ⟨(q.rest.take (runN q.rest)).toArray⟩) (q.set mu (q.i + runN q.rest)) c := fun z => by
    have e : nameR q.rest = .ok (runN q.rest) := by rw [hr] at z ⊢; show (if _ then _ else _) = _; rw [if_pos c2', if_pos z]
    rw [e] at h
    exact h
  have hbad : ¬ runN q.rest ≤ 12 → PX (notText (q.i + 12)) (q.set mu (q.i + 12)) c := fun z => by
    refine bad 12 ?_
    rw [hr] at z ⊢; show (if _ then _ else _) = _; rw [if_pos c2', if_neg z]
  have hl := q.rest_len
  have hle := runN_le q.rest
  refine ⟨fun m st => ∃ n, n ≤ 12 ∧ n ≤ runN q.rest ∧ m = q.rest.length - n ∧ st = ⟨[some (.ref q.a), some (.int q.i)], q.set mu (q.i + n), c⟩, ⟨_, 0, Nat.zero_le _, Nat.zero_le _, rfl, ?_⟩, ?_⟩
  · show _ = S.mk _ (q.set mu (q.i + 0)) _
    unfold ScA.set
    rw [Nat.add_zero, h0.self]
    rfl
  rintro m st ⟨n, n12, nr, rfl, rfl⟩
  have hA : (q.to (q.i + n)).At (q.set mu (q.i + n)) := h0.go' (by omega)
  obtain ⟨p, hp⟩ : ∃ p, p = q.to (q.i + n) := ⟨_, rfl⟩
  have hrest : p.rest = q.rest.drop n := by rw [hp]; exact q.to_rest n
  rw [← hp] at hA
  have hpa : q.a = p.a := by rw [hp]; rfl
  have fin : runN q.rest = n → (∃ c', c ≤ c' ∧ P (.str ⟨(cutD q.l (some (q.i : Int)) (some ((q.i + n : Nat) : Int))).toArray⟩) (q.set mu (q.i + n)) c') := fun z => by
    have := hok (by omega)
    rw [z] at this
    refine ⟨c, Nat.le_refl _, ?_⟩
    rw [cut_nat]
    have e1 : min q.i q.l.length = q.i := by have := h0.le; omega
    have e2 : min (q.i + n) q.l.length - min q.i q.l.length = n := by have := h0.le; omega
    rw [e2, e1]
    exact this
  have fin2 : runN q.rest = n → (mRet (mSl (mFld "Scan" "string" (mVar 0)) (mOSome (mVar 1)) (mOSome (mFld "Scan" "place" (mVar 0)))) : MS) ⟨[some (.ref q.a), some (.int q.i)], q.set mu (q.i + n), c⟩ (EF P) (XF PX) := fun z => by
    rw [hpa]
    refine ⟨_, rfl, fld_string hA ⟨_, rfl, _, rfl, _, rfl, fld_place hA ⟨_, rfl, hA.line, ?_⟩⟩⟩
    have := fin z
    subst hp
    exact this
  rw [hpa]
  refine ⟨_, rfl, mth_scan hA (by decide +kernel) ⟨p, rfl, hA, ceq_of (m := 0) (hA.see_ok 0) (by decide +kernel), _, rfl, ?_⟩⟩
  rw [p.see_eq]
  refine ite2 (fun c3 => ?_) (fun c3 => ?_)
  · obtain ⟨j, t, hj⟩ : ∃ j t, p.rest = j :: t := by
      cases e : p.rest with
      | nil => rw [e] at c3; exact absurd c3 (by decide +kernel)
      | cons j t => exact ⟨j, t, rfl⟩
    have hseep : p.see = ⟨#[j]⟩ := by unfold ScA.see; rw [hj]; rfl
    refine ⟨_, rfl, mth_scan hA (by decide +kernel) ⟨p, rfl, hA, ?_⟩⟩
    rw [hseep]
    refine ⟨_, rfl, ?_⟩
    rw [show hasStr ⟨#[j]⟩ (Str.ofString "abcdefghijklmnopqrstuvwxyz0123456789") = decide (j ∈ alnum) from hasStr_one j _]
    have hd : runN (q.rest.drop n) = runN q.rest - n := runN_drop _ _ nr
    rw [← hrest, hj] at hd
    refine ite2 (fun c4 => ?_) (fun c4 => ?_)
    · have c4' : j ∈ alnum := of_decide_eq_true c4
      rw [runN_cons c4'] at hd
      refine ⟨_, rfl, fld_place hA ⟨_, rfl, ceq_of (n := 0) (m := 0) rfl rfl, _, rfl, ?_⟩⟩
      have epi : p.i = q.i + n := by rw [hp]; rfl
      rw [show eqvD (.int (p.i : Int)) (.int ((q.i : Int) + 12)) = decide (n = 12) by rw [eqv_int2, Bool.eq_iff_iff]; simp only [beq_iff_eq, decide_eq_true_eq]; omega]
      refine ite2 (fun c5 => ?_) (fun c5 => ?_)
      · have c5' : n = 12 := of_decide_eq_true c5
        have := hbad (by omega)
        refine ⟨_, rfl, fld_place hA ⟨c, Nat.le_refl _, ?_⟩⟩
        rw [epi, c5']
        exact this
      · have c5' : n ≠ 12 := fun z => c5 (decide_eq_true z)
        refine ⟨_, rfl, fld_place hA ⟨_, rfl, put_place (j := p.i + 1) rfl hA ⟨_, ?_, n + 1, by omega, by omega, rfl, ?_⟩⟩⟩
        · omega
        · have e2 : muSet (q.set mu (q.i + n)) p.a (some (scanO p.s (p.i + 1))) = q.set mu (q.i + (n + 1)) := by
            subst hp
            exact muSet_set
          rw [e2]
    · have c4' : ¬ j ∈ alnum := fun z => c4 (decide_eq_true z)
      rw [runN_stop c4'] at hd
      rw [← hpa]
      exact fin2 (by omega)
  · have c3' : p.rest = [] := by
      cases e : p.rest with
      | nil => rfl
      | cons j t =>
        refine absurd ?_ c3
        rw [e]
        rw [decide_eq_false]
        · rfl
        · intro z; cases z
    have : runN q.rest = n := by
      have : (q.rest.drop n).length = 0 := by rw [← hrest, c3']; rfl
      rw [List.length_drop] at this
      omega
    rw [← hpa]
    exact fin2 this
-- @hash fa8f3558
def sp_leaf_read : DSp := fun ds mu c P PX => ∃ q : ScA, ds = [.ref q.a] ∧ q.At mu ∧ match leafR q.rest with
  | .ok (f, m) => P (.tup [f.toD, .int 0]) (q.set mu (q.i + m)) c
  | .error e => PX (notText (q.i + e)) (q.set mu (q.i + e)) c
def m_leaf_read : MS := (mSeq (mSet 1 (mMeth0 "Scan" "take_name" sp_Scan_take_name (mVar 0)))
  (mRet (mTup (mCons (mTup (mCons (mIf (mB (mMeth "Scan" "sees" sp_Scan_sees (mVar 0) (mCons (mC (.str "~")) mNil))) (mC (.str "counter")) (mC (.str "good"))) (mCons (mVar 1) mNil))) (mCons (mC (.int 0)) mNil)))))
theorem rd_leaf_read (ds : List D) (mu : Mu) (c : Nat) (P : D → Mu → Nat → Prop) (PX : Ex → Mu → Nat → Prop) (h : sp_leaf_read ds mu c P PX) : m_leaf_read (S0 ["scan", "name"] ["scan"] ds mu c) (EF P) (XF PX) := by
  obtain ⟨q, rfl, h0, h⟩ := h
  refine ⟨_, rfl, mth_scan h0 (by decide +kernel) ⟨q, rfl, h0, ?_⟩⟩
  unfold leafR at h
  cases e : nameR q.rest with
  | error n =>
    rw [e] at h
    exact ⟨c, Nat.le_refl _, h⟩
  | ok n =>
    rw [e] at h
    dsimp only at h
    have hn := nameR_le e
    have hA := h0.go' hn
    have hr : (q.to (q.i + n)).rest = q.rest.drop n := q.to_rest n
    show ∃ d, _ ∧ _
    refine ⟨_, rfl, mth_scan (q := q.to (q.i + n)) hA (by decide +kernel) ⟨(q.to (q.i + n), Str.ofString "~", 126), rfl, hA, by rw [lit_ti, sL_cps], (by decide : 126 < 128), fun z => ?_, fun z => ?_⟩⟩
    · have z' : (q.rest.drop n).head? = some 126 := by rw [← hr]; exact z
      rw [if_pos z'] at h
      refine ⟨_, rfl, _, rfl, shortL 2 rfl, shortL 2 rfl, c, Nat.le_refl _, ?_⟩
      show P (.tup [.tup [.str (Str.ofString "counter"), .str (sL (q.rest.take n))], .int 0]) ((q.to (q.i + n)).set (q.set mu (q.i + n)) (q.i + n + 1)) c
      rw [q.set_set]
      exact h
    · have z' : ¬ (q.rest.drop n).head? = some 126 := by rw [← hr]; exact z
      rw [if_neg z'] at h
      exact ⟨_, rfl, _, rfl, shortL 2 rfl, shortL 2 rfl, c, Nat.le_refl _, h⟩
-- @hash 0372a7bc
def sp_Scan_need : DSp := fun ds mu c P PX => ∃ q : ScA × Str × Nat, ds = [.ref q.1.a, .str q.2.1] ∧ q.1.At mu ∧ q.2.1.cps.toList = [q.2.2] ∧ q.2.2 < 128 ∧ (q.1.rest.head? = some q.2.2 → P .non (q.1.set mu (q.1.i + 1)) c) ∧ (q.1.rest.head? ≠ some q.2.2 → PX (notText q.1.i) mu c)
def m_Scan_need : MS := (mIfS (mNot (mB (mMeth "Scan" "sees" sp_Scan_sees (mVar 0) (mCons (mVar 1) mNil)))) (mRaise "NotAText" "at" (mFld "Scan" "place" (mVar 0))) mNext)
theorem rd_Scan_need (ds : List D) (mu : Mu) (c : Nat) (P : D → Mu → Nat → Prop) (PX : Ex → Mu → Nat → Prop) (h : sp_Scan_need ds mu c P PX) : m_Scan_need (S0 ["self", "sign"] ["self", "sign"] ds mu c) (EF P) (XF PX) := by
  obtain ⟨⟨q, g, k⟩, rfl, h0, hg, hk, h1, h2⟩ := h
  simp only at h0 hg hk h1 h2
  refine ⟨_, rfl, mth_scan h0 (by decide +kernel) ⟨_, rfl, ⟨q, g, k⟩, rfl, h0, hg, hk, fun z => ?_, fun z => ?_⟩⟩
  · exact ⟨_, rfl, c, Nat.le_refl _, h1 z⟩
  · exact ⟨_, rfl, _, rfl, fld_place h0 ⟨c, Nat.le_refl _, h2 z⟩⟩
-- @hash 1d01c332
def sp_Scan_skip : DSp := fun ds mu c P PX => ∃ q : ScA, ds = [.ref q.a] ∧ q.At mu ∧ P .non (muSet mu q.a (some (scanO q.s q.skip.i))) c
theorem skip_step {q : ScA} {r : List Nat} (h : q.rest = 32 :: r) : (q.to (q.i + 1)).rest = r ∧ (q.to (q.i + 1)).skip.i = q.skip.i ∧ q.i + 1 ≤ q.l.length := by
  have h1 : (q.to (q.i + 1)).rest = r := by
    show q.l.drop (q.i + 1) = r
    rw [← List.drop_drop]
    show (q.rest).drop 1 = r
    rw [h]
    rfl
  refine ⟨h1, ?_, ?_⟩
  · show (q.i + 1) + skipN (q.to (q.i + 1)).rest = q.i + skipN q.rest
    rw [h1, h]
    show _ = q.i + (if (32 : Nat) = 32 then skipN r + 1 else 0)
    rw [if_pos rfl]
    omega
  · have := q.rest_len
    rw [h, List.length_cons] at this
    omega
def m_Scan_skip : MS := (mWhile (mB (mOp eqD (mMeth0 "Scan" "seen" sp_Scan_seen (mVar 0)) (mC (.str " ")))) (mPutF "Scan" "place" (mVar 0) (mOp addD (mFld "Scan" "place" (mVar 0)) (mC (.int 1)))))
theorem rd_Scan_skip (ds : List D) (mu : Mu) (c : Nat) (P : D → Mu → Nat → Prop) (PX : Ex → Mu → Nat → Prop) (h : sp_Scan_skip ds mu c P PX) : m_Scan_skip (S0 ["self"] ["self"] ds mu c) (EF P) (XF PX) := by
  obtain ⟨q, rfl, h0, h⟩ := h
  have hm : ∀ j, muSet (muSet mu q.a (some (scanO q.s j))) q.a (some (scanO q.s (j + 1))) = muSet mu q.a (some (scanO q.s (j + 1))) := fun j => muSet_set
  refine ⟨fun m st => ∃ p : ScA, p.a = q.a ∧ p.s = q.s ∧ p.At st.mu ∧ m = p.rest.length ∧ st = ⟨[some (.ref q.a)], st.mu, c⟩ ∧ (∀ j, muSet st.mu q.a (some (scanO q.s j)) = muSet mu q.a (some (scanO q.s j))) ∧ p.skip.i = q.skip.i ∧ st.mu q.a = some (scanO q.s p.i), ⟨_, q, rfl, rfl, h0, rfl, rfl, fun _ => rfl, rfl, h0.here⟩, ?_⟩
  rintro m ⟨r, mu1, c1⟩ ⟨⟨pa, ps, pi⟩, rfl, rfl, hp, rfl, e, hq, hs, hh⟩
  simp only [S.mk.injEq] at e
  obtain ⟨rfl, -, rfl⟩ := e
  simp only at hp hh hq
  obtain ⟨p, rfl⟩ : ∃ p : ScA, p = ⟨q.a, q.s, pi⟩ := ⟨_, rfl⟩
  refine ⟨_, rfl, mth_scan (q := ⟨q.a, q.s, pi⟩) hp (by decide +kernel) ⟨⟨q.a, q.s, pi⟩, rfl, hp, ceq_of (m := 0) (hp.see_ok 0) (by decide +kernel), ?_⟩⟩
  refine ⟨_, rfl, ?_⟩
  rw [ScA.see_eq]
  refine ite2 (fun c1 => ?_) (fun c1 => ?_)
  · have c1' := of_decide_eq_true c1
    obtain ⟨r, hr⟩ : ∃ r, (⟨q.a, q.s, pi⟩ : ScA).rest = 32 :: r := by
      cases e : (⟨q.a, q.s, pi⟩ : ScA).rest with
      | nil => rw [e] at c1'; exact absurd c1' (by decide +kernel)
      | cons k r =>
        rw [e] at c1'
        have : [k] = [32] := c1'
        cases this
        exact ⟨r, rfl⟩
    obtain ⟨g1, g2, g3⟩ := skip_step hr
    refine ⟨_, rfl, fld_place (q := ⟨q.a, q.s, pi⟩) hp ⟨_, rfl, put_place (q := ⟨q.a, q.s, pi⟩) (j := pi + 1) rfl hp ?_⟩⟩
    refine ⟨_, ?_, (⟨q.a, q.s, pi⟩ : ScA).to (pi + 1), rfl, rfl, hp.go g3, rfl, rfl, fun j => ?_, g2.trans hs, muSet_same⟩
    · rw [g1, hr]
      exact Nat.lt_succ_self _
    · rw [muSet_set]
      exact hq j
  · have c1' : ¬ _ := fun z => c1 (decide_eq_true z)
    have e0 : skipN (⟨q.a, q.s, pi⟩ : ScA).rest = 0 := by
      cases e : (⟨q.a, q.s, pi⟩ : ScA).rest with
      | nil => rfl
      | cons k r =>
        rw [e] at c1'
        unfold skipN
        rw [if_neg]
        intro z
        subst z
        exact c1' (show [32] = _ by decide +kernel)
    have e1 : pi = q.skip.i := by
      have : pi + skipN (⟨q.a, q.s, pi⟩ : ScA).rest = q.skip.i := hs
      rw [e0] at this
      exact this
    refine ⟨_, Nat.le_refl _, ?_⟩
    have e2 : mu1 = muSet mu q.a (some (scanO q.s q.skip.i)) := by
      rw [← hq, ← e1]
      funext b
      unfold muSet
      by_cases hb : b = q.a
      · rw [if_pos hb, hb, hh]
      · rw [if_neg hb]
    show P .non mu1 _
    rw [e2]
    exact h
-- @hash 021e4195
-- @nest levels
-- @drop
def sp_form_read : DSp := fun ds mu c P PX => ∃ q : ScA × Nat × FR, ds = [.ref q.1.a] ∧ q.1.At mu ∧ mach q.2.1 (.A [none] q.1.rest) = some q.2.2 ∧ match q.2.2 with
  | .ok f d r => P (.tup [f.toD, .int d]) (q.1.set mu (q.1.l.length - r.length)) c
  | .err r => PX (notText (q.1.l.length - r.length)) (q.1.set mu (q.1.l.length - r.length)) c
def lvD : Lv → List D
  | none => []
  | some (f, d, w) => [.tup [f.toD, .int (d : Int)], .str w]
inductive LvAll (mu : Mu) : List Addr → List Lv → Prop
  | nil : LvAll mu [] []
  | cons {b : Addr} {bs : List Addr} {lv : Lv} {st : List Lv} : mu b = some (.lst (lvD lv)) → b ∉ bs → LvAll mu bs st → LvAll mu (b :: bs) (lv :: st)
theorem LvAll.set {mu : Mu} {bs : List Addr} {st : List Lv} (h : LvAll mu bs st) {x : Addr} (hx : x ∉ bs) (o : Option MO) : LvAll (muSet mu x o) bs st := by
  induction h with
  | nil => exact .nil
  | @cons b bs lv st h1 h2 _ ih =>
    have hb : b ≠ x := fun z => hx (by rw [z]; exact List.mem_cons_self)
    exact .cons (by rw [muSet_ne hb]; exact h1) h2 (ih fun z => hx (List.mem_cons_of_mem _ z))
theorem LvAll.len {mu : Mu} {bs : List Addr} {st : List Lv} (h : LvAll mu bs st) : bs.length = st.length := by
  induction h with
  | nil => rfl
  | cons _ _ _ ih => simp [ih]
theorem LvAll.some {mu : Mu} {bs : List Addr} {st : List Lv} (h : LvAll mu bs st) : ∀ b ∈ bs, mu b ≠ none := by
  induction h with
  | nil => intro b hb; cases hb
  | cons h1 _ _ ih =>
    intro x hx z
    rcases List.mem_cons.mp hx with e | e
    · rw [e, h1] at z; cases z
    · exact ih x e z
structure RdSt (q : ScA) (mu0 : Mu) (la : Addr) (mu : Mu) (bs : List Addr) (stk : List Lv) (r : List Nat) : Prop where
  here : mu q.a = some (scanO q.s (q.l.length - r.length))
  suf : r = q.l.drop (q.l.length - r.length)
  lv : mu la = some (.lst (bs.reverse.map D.ref))
  all : LvAll mu bs stk
  nl : la ∉ bs
  na : q.a ∉ bs
  nla : la ≠ q.a
  old : ∀ x m, x ≠ q.a → mu0 x = some m → mu x = some m ∧ x ≠ la ∧ x ∉ bs
  room : bs.length + r.length ≤ q.l.length + 1
section
variable {q : ScA} {mu0 mu : Mu} {la : Addr} {bs : List Addr} {stk : List Lv} {r : List Nat}
theorem RdSt.le (h : RdSt q mu0 la mu bs stk r) : r.length ≤ q.l.length := by
  have := congrArg List.length h.suf
  rw [List.length_drop] at this
  omega
def ScA.at_ (q : ScA) (r : List Nat) : ScA := q.to (q.l.length - r.length)
theorem RdSt.pos (h : RdSt q mu0 la mu bs stk r) (h0 : q.At mu0) : (q.at_ r).At mu ∧ (q.at_ r).rest = r := ⟨⟨h.here, h0.asc, h0.len, Nat.sub_le _ _⟩, h.suf.symm⟩
theorem RdSt.at_eq (h : RdSt q mu0 la mu bs stk r) {k : Nat} (hk : k ≤ r.length) : (q.at_ r).i + k = q.l.length - (r.drop k).length := by
  have hl := h.le
  show q.l.length - r.length + k = _
  rw [List.length_drop]
  omega
theorem RdSt.go (h : RdSt q mu0 la mu bs stk r) {k : Nat} (hk : k ≤ r.length) : RdSt q mu0 la ((q.at_ r).set mu ((q.at_ r).i + k)) bs stk (r.drop k) where
  here := by rw [h.at_eq hk]; exact muSet_same
  suf := by
    have hl := h.le
    have : q.l.length - (r.drop k).length = (q.l.length - r.length) + k := by rw [List.length_drop]; omega
    rw [this, ← List.drop_drop, ← h.suf]
  lv := by show muSet mu q.a _ la = _; rw [muSet_ne h.nla]; exact h.lv
  all := h.all.set h.na _
  nl := h.nl
  na := h.na
  nla := h.nla
  old := fun x m hx e => by
    obtain ⟨e1, e2, e3⟩ := h.old x m hx e
    exact ⟨by show muSet mu q.a _ x = _; rw [muSet_ne hx]; exact e1, e2, e3⟩
  room := by have := h.room; rw [List.length_drop]; omega
theorem RdSt.skip (h : RdSt q mu0 la mu bs stk r) (h0 : q.At mu0) : RdSt q mu0 la ((q.at_ r).set mu (q.at_ r).skip.i) bs stk (skp r) := by
  have := h.go (skipN_le r)
  have e : (q.at_ r).skip.i = (q.at_ r).i + skipN r := by
    show (q.at_ r).i + skipN (q.at_ r).rest = _
    rw [(h.pos h0).2]
  rw [e]
  exact this
theorem RdSt.push (h : RdSt q mu0 la mu bs stk r) {b : Addr} (hb : mu b = none) (hr : bs.length + 1 + r.length ≤ q.l.length + 1) : RdSt q mu0 la (muSet (muSet mu b (some (.lst []))) la (some (.lst (bs.reverse.map D.ref ++ [.ref b])))) (b :: bs) (none :: stk) r := by
  have n1 : b ≠ q.a := fun z => by rw [z, h.here] at hb; cases hb
  have n2 : b ≠ la := fun z => by rw [z, h.lv] at hb; cases hb
  have n3 : b ∉ bs := fun z => h.all.some b z hb
  refine ⟨?_, h.suf, ?_, .cons ?_ n3 ((h.all.set n3 _).set h.nl _), ?_, ?_, h.nla, fun x m hx e => ?_, by rw [List.length_cons]; omega⟩
  · rw [muSet_ne h.nla.symm, muSet_ne n1.symm]; exact h.here
  · rw [muSet_same, List.reverse_cons, List.map_append]; rfl
  · rw [muSet_ne n2, muSet_same]; rfl
  · simp only [List.mem_cons, not_or]; exact ⟨n2.symm, h.nl⟩
  · simp only [List.mem_cons, not_or]; exact ⟨n1.symm, h.na⟩
  · obtain ⟨e1, e2, e3⟩ := h.old x m hx e
    have n4 : x ≠ b := fun z => by rw [z, hb] at e1; cases e1
    exact ⟨by rw [muSet_ne e2, muSet_ne n4]; exact e1, e2, by simp only [List.mem_cons, not_or]; exact ⟨n4, e3⟩⟩
theorem RdSt.pop {b : Addr} {lv : Lv} (h : RdSt q mu0 la mu (b :: bs) (lv :: stk) r) : RdSt q mu0 la (muSet (muSet mu la (some (.lst (bs.reverse.map D.ref)))) b none) bs stk r := by
  have hall := h.all
  cases hall with
  | cons h1 h2 h3 =>
    have n1 : b ≠ q.a := fun z => h.na (by rw [z]; exact List.mem_cons_self)
    have n2 : b ≠ la := fun z => h.nl (by rw [z]; exact List.mem_cons_self)
    have n3 : la ∉ bs := fun z => h.nl (List.mem_cons_of_mem _ z)
    refine ⟨?_, h.suf, ?_, (h3.set n3 _).set h2 _, n3, fun z => h.na (List.mem_cons_of_mem _ z), h.nla, fun x m hx e => ?_, by have := h.room; rw [List.length_cons] at this; omega⟩
    · rw [muSet_ne n1.symm, muSet_ne h.nla.symm]; exact h.here
    · rw [muSet_ne n2.symm, muSet_same]
    · obtain ⟨e1, e2, e3⟩ := h.old x m hx e
      have n4 : x ≠ b := fun z => e3 (by rw [z]; exact List.mem_cons_self)
      exact ⟨by rw [muSet_ne n4, muSet_ne e2]; exact e1, e2, fun z => e3 (List.mem_cons_of_mem _ z)⟩
theorem RdSt.put {b : Addr} (h : RdSt q mu0 la mu (b :: bs) (none :: stk) r) (lv : Lv) : RdSt q mu0 la (muSet mu b (some (.lst (lvD lv)))) (b :: bs) (lv :: stk) r := by
  have hall := h.all
  cases hall with
  | cons h1 h2 h3 =>
    have n1 : b ≠ q.a := fun z => h.na (by rw [z]; exact List.mem_cons_self)
    have n2 : b ≠ la := fun z => h.nl (by rw [z]; exact List.mem_cons_self)
    refine ⟨?_, h.suf, ?_, .cons muSet_same h2 (h3.set h2 _), h.nl, h.na, h.nla, fun x m hx e => ?_, h.room⟩
    · rw [muSet_ne n1.symm]; exact h.here
    · rw [muSet_ne n2.symm]; exact h.lv
    · obtain ⟨e1, e2, e3⟩ := h.old x m hx e
      have n4 : x ≠ b := fun z => e3 (by rw [z]; exact List.mem_cons_self)
      exact ⟨by rw [muSet_ne n4]; exact e1, e2, e3⟩
theorem RdSt.less (h : RdSt q mu0 la mu bs stk r) : Less (q.set mu0 (q.l.length - r.length)) mu := fun x m e => by
  unfold ScA.set at e
  by_cases hx : x = q.a
  · subst hx; rw [muSet_same] at e; cases e; exact h.here
  · rw [muSet_ne hx] at e; exact (h.old x m hx e).1
end
theorem refs_last (b : Addr) (bs : List Addr) : ((b :: bs).reverse.map D.ref)[((b :: bs).reverse.map D.ref).length - 1]? = some (.ref b) ∧ ((b :: bs).reverse.map D.ref).dropLast = bs.reverse.map D.ref ∧ atI ((b :: bs).reverse.map D.ref) (-1) = some (.ref b) := by
  have e : (b :: bs).reverse.map D.ref = bs.reverse.map D.ref ++ [.ref b] := by rw [List.reverse_cons, List.map_append]; rfl
  rw [e]
  exact ⟨by simp, by simp, atI_last _ _⟩
theorem mark_ix {r : List Nat} {w : Str} (h : markOf r = some w) : ∃ (k : Nat) (t : List Nat) (j : Nat), r = k :: t ∧ k < 128 ∧ ([Str.ofString "*", Str.ofString "|", Str.ofString "&", Str.ofString "+"] : List Str)[j]? = some (⟨#[k]⟩ : Str) ∧ (∀ m, m < j → ([Str.ofString "*", Str.ofString "|", Str.ofString "&", Str.ofString "+"] : List Str)[m]? ≠ some (⟨#[k]⟩ : Str)) ∧ ([D.str (Str.ofString "both"), D.str (Str.ofString "between"), D.str (Str.ofString "offered"), D.str (Str.ofString "chosen")] : List D)[j]? = some (.str w) := by
  cases r with
  | nil => cases h
  | cons k t =>
    unfold markOf at h
    simp only at h
    split at h
    · rename_i e; cases h; subst e
      exact ⟨42, t, 0, rfl, by decide, by decide +kernel, fun m hm => by omega, rfl⟩
    split at h
    · rename_i e; cases h; subst e
      refine ⟨124, t, 1, rfl, by decide, by decide +kernel, fun m hm => ?_, rfl⟩
      obtain rfl : m = 0 := by omega
      decide +kernel
    split at h
    · rename_i e; cases h; subst e
      refine ⟨38, t, 2, rfl, by decide, by decide +kernel, fun m hm => ?_, rfl⟩
      obtain rfl | rfl : m = 0 ∨ m = 1 := by omega
      all_goals decide +kernel
    split at h
    · rename_i e; cases h; subst e
      refine ⟨43, t, 3, rfl, by decide, by decide +kernel, fun m hm => ?_, rfl⟩
      obtain rfl | rfl | rfl : m = 0 ∨ m = 1 ∨ m = 2 := by omega
      all_goals decide +kernel
    · cases h
def marks4 : List D := [.str "*", .str "|", .str "&", .str "+"]
theorem see_mark (q : ScA) : (marks4.any fun z => eqvD z (.str q.see)) = (markOf q.rest).isSome := by
  have e : ∀ (x : Str) (k : Nat), x.cps.toList = [k] → eqvD (.str x) (.str q.see) = decide (q.rest.head? = some k) := fun x k hx => by
    rw [eqv_word, Bool.eq_iff_iff]
    simp only [decide_eq_true_eq]
    rw [str_eq, hx]
    show [k] = (q.rest.take 1).toArray.toList ↔ _
    rw [← take_one]
    simp only [eq_comm]
  simp only [marks4, List.any_cons, List.any_nil, Bool.or_false]
  rw [e _ 42 (by decide +kernel), e _ 124 (by decide +kernel), e _ 38 (by decide +kernel), e _ 43 (by decide +kernel)]
  cases q.rest with
  | nil => rfl
  | cons k t =>
    unfold markOf
    simp only [List.head?_cons, Option.some.injEq]
    by_cases h1 : k = 42
    · simp [h1]
    by_cases h2 : k = 124
    · simp [h2]
    by_cases h3 : k = 38
    · simp [h3]
    by_cases h4 : k = 43
    · simp [h4]
    simp [h1, h2, h3, h4]
theorem ScA.set_at (q : ScA) (mu : Mu) (r : List Nat) (j : Nat) : (q.at_ r).set mu j = q.set mu j := rfl
theorem gt0 (n : Nat) : decide ((0 : Int) < (n : Int)) = decide (0 < n) := by rw [Bool.eq_iff_iff]; simp
def m_form_read : MS := (mSeq (mSet 1 (mNewL (mCons (mNewL mNil) mNil)))
  (mWhile (mB (mC (.bl true))) (mSeq (mDrop (mMeth0 "Scan" "skip" sp_Scan_skip (mVar 0)))
  (mSeq (mIfS (mB (mMeth "Scan" "sees" sp_Scan_sees (mVar 0) (mCons (mC (.str "(")) mNil))) (mSeq (mDrop (mApp (mVar 1) (mNewL mNil)))
  mCont) mNext)
  (mSeq (mSet 2 (mCall sp_leaf_read (mCons (mVar 0) mNil)))
  (mSeq (mWhile (mB (mOp gtD (mCB lenM (mCons (mOp ixM (mVar 1) (mUn negD (mC (.int 1)))) mNil)) (mC (.int 0)))) (mSeq (mAsg (mFrz (mPop (mVar 1))) (gU 2 (gsC (gN 3) (gsC (gN 4) gsN))))
  (mSeq (mSet 2 (mTup (mCons (mTup (mCons (mVar 4) (mCons (mOp subD (mVar 3) (mC (.int 0))) (mCons (mOp subD (mVar 2) (mC (.int 0))) mNil)))) (mCons (mOp addD (mCB maxD (mCons (mOp subD (mVar 3) (mC (.int 1))) (mCons (mOp subD (mVar 2) (mC (.int 1))) mNil))) (mC (.int 1))) mNil))))
  (mSeq (mIfS (mB (mOp eqD (mCB lenM (mCons (mVar 1) mNil)) (mC (.int 0)))) (mRet (mVar 2)) mNext)
  (mSeq (mDrop (mMeth0 "Scan" "skip" sp_Scan_skip (mVar 0)))
  (mDrop (mMeth "Scan" "need" sp_Scan_need (mVar 0) (mCons (mC (.str ")")) mNil))))))))
  (mSeq (mDrop (mMeth0 "Scan" "skip" sp_Scan_skip (mVar 0)))
  (mSeq (mIfS (mOr (mB (mOp eqD (mMeth0 "Scan" "seen" sp_Scan_seen (mVar 0)) (mC (.str "")))) (mB (mOp (inD not) (mMeth0 "Scan" "seen" sp_Scan_seen (mVar 0)) (mC (.tup [(.str "*"), (.str "|"), (.str "&"), (.str "+")]))))) (mSeq (mIfS (mOr (mB (mOp gtD (mCB lenM (mCons (mVar 1) mNil)) (mC (.int 1)))) (mB (mOp gtD (mOp subD (mVar 2) (mC (.int 1))) (mC (.int 0))))) (mRaise "NotAText" "at" (mFld "Scan" "place" (mVar 0))) mNext)
  (mRet (mVar 2))) mNext)
  (mSeq (mDrop (mExt (mOp ixM (mVar 1) (mUn negD (mC (.int 1)))) (mLst (mCons (mVar 2) (mCons (mOp subD (mC (.tup [(.str "both"), (.str "between"), (.str "offered"), (.str "chosen")])) (mUn (indexG ["*", "|", "&", "+"]) (mMeth0 "Scan" "seen" sp_Scan_seen (mVar 0)))) mNil)))))
  (mDrop (mMeth "Scan" "need" sp_Scan_need (mVar 0) (mCons (mMeth0 "Scan" "seen" sp_Scan_seen (mVar 0)) mNil))))))))))))
theorem rd_form_read (ds : List D) (mu : Mu) (c : Nat) (P : D → Mu → Nat → Prop) (PX : Ex → Mu → Nat → Prop) (h : sp_form_read ds mu c P PX) : m_form_read (S0 ["scan", "levels", "part", "left", "word"] ["scan"] ds mu c) (EF (fg P)) (XF (fg PX)) := by
  obtain ⟨⟨q, fuel, res⟩, rfl, h0, hm, h⟩ := h
  simp only at h0 hm h
  have hok : ∀ {mu1 : Mu} {la : Addr} {bs : List Addr} {stk : List Lv} {r : List Nat} {f : Fm} {d : Nat}, RdSt q mu la mu1 bs stk r → res = .ok f d r → ∃ c', c ≤ c' ∧ fg P (.tup [f.toD, .int d]) mu1 c' := fun hR e => by
    subst e
    exact ⟨c, Nat.le_refl _, _, hR.less, h⟩
  have hbad : ∀ {mu1 : Mu} {la : Addr} {bs : List Addr} {stk : List Lv} {r : List Nat}, RdSt q mu la mu1 bs stk r → res = .err r → ∃ c', c ≤ c' ∧ fg PX (notText (q.l.length - r.length)) mu1 c' := fun hR e => by
    subst e
    exact ⟨c, Nat.le_refl _, _, hR.less, h⟩
  refine ⟨Nat.zero_le _, fun b hb => ⟨shortL 1 rfl, fun la hla => ?_⟩⟩
  have hb' : mu b = none := hb
  have hla' : muSet mu b (some (.lst [])) la = none := hla
  have nlb : la ≠ b := fun z => by rw [z, muSet_same] at hla'; cases hla'
  have hla2 : mu la = none := by rw [muSet_ne nlb] at hla'; exact hla'
  have nba : b ≠ q.a := fun z => by rw [z, h0.here] at hb'; cases hb'
  have nla : la ≠ q.a := fun z => by rw [z, h0.here] at hla2; cases hla2
  have hq0 : q.l.length - q.rest.length = q.i := by have := q.rest_len; have := h0.le; omega
  have R0 : RdSt q mu la (muSet (muSet mu b (some (.lst []))) la (some (.lst [.ref b]))) [b] [none] q.rest := by
    refine ⟨?_, ?_, muSet_same, .cons ?_ (by simp) .nil, by simpa using nlb, by simpa using nba.symm, nla, fun x m hx e => ?_, ?_⟩
    · rw [muSet_ne nla.symm, muSet_ne nba.symm, hq0]; exact h0.here
    · rw [hq0]; rfl
    · rw [muSet_ne nlb.symm, muSet_same]; rfl
    · have n1 : x ≠ b := fun z => by rw [z, hb'] at e; cases e
      have n2 : x ≠ la := fun z => by rw [z, hla2] at e; cases e
      exact ⟨by rw [muSet_ne n2, muSet_ne n1]; exact e, n2, by simpa using n1⟩
    · have := q.rest_len; simp only [List.length_cons, List.length_nil]; omega
  refine ⟨fun m st => ∃ (p2 p3 p4 : Option D) (mu1 : Mu) (bs : List Addr) (stk : List Lv) (r : List Nat), st = ⟨[some (.ref q.a), some (.ref la), p2, p3, p4], mu1, c⟩ ∧ RdSt q mu la mu1 bs stk r ∧ mach m (.A stk r) = some res, ⟨fuel, none, none, none, _, [b], [none], q.rest, rfl, R0, hm⟩, ?_⟩
  rintro m st ⟨p2, p3, p4, mu1, bs, stk, r, rfl, hR, hm1⟩
  refine ⟨true, rfl, iteT ?_⟩
  cases m with
  | zero => cases hm1
  | succ m =>
  obtain ⟨hA, hrest⟩ := hR.pos h0
  -- scan.skip()
  refine ⟨_, rfl, mth_scan (q := q.at_ r) hA (by decide +kernel) ⟨q.at_ r, rfl, hA, ?_⟩⟩
  have hR1 := hR.skip h0
  obtain ⟨hA1, hrest1⟩ := hR1.pos h0
  -- if scan.sees('(')
  refine ⟨_, rfl, mth_scan (q := q.at_ (skp r)) hA1 (by decide +kernel) ⟨(q.at_ (skp r), Str.ofString "(", 40), rfl, hA1, by rw [lit_lp, sL_cps], (by decide : 40 < 128), fun z => ?_, fun z => ?_⟩⟩
  · have z' : (skp r).head? = some 40 := by rw [← hrest1]; exact z
    obtain ⟨t, ht⟩ := head_cons z'
    rw [mach_lp ht] at hm1
    have h1 : 1 ≤ (skp r).length := by rw [ht]; exact Nat.succ_pos _
    have hR2 := hR1.go h1
    have e2 : (q.at_ (skp r)).i + 1 = q.l.length - ((skp r).drop 1).length := hR1.at_eq h1
    have e3 : (skp r).drop 1 = t := by rw [ht]; rfl
    refine ⟨_, rfl, iteT ?_⟩
    rw [e3] at hR2
    refine ⟨_, rfl, la, _, rfl, hR2.lv, Nat.zero_le _, fun b hb => ⟨bs.reverse.map D.ref, ?_, ?_, ?_⟩⟩
    · have : la ≠ b := fun z => by rw [← z] at hb; have hb' := hb.symm.trans hR2.lv; cases hb'
      exact (muSet_ne this).trans hR2.lv
    · have := hR2.room
      have h5 := hR.room
      have h6 := h0.len
      rw [List.length_map, List.length_reverse, line_eq]
      have e5 : (LN : Nat) = 1000000 := rfl
      have e6 : (LINE : Nat) = 16777216 := rfl
      omega
    · refine ⟨m, Nat.lt_succ_self _, p2, p3, p4, _, b :: bs, none :: stk, t, rfl, hR2.push hb ?_, hm1⟩
      have := hR1.room
      rw [ht, List.length_cons] at this
      omega
  have z' : (skp r).head? ≠ some 40 := by rw [← hrest1]; exact z
  refine ⟨_, rfl, iteF ?_⟩
  -- part = leaf_read(scan)
  refine ⟨_, rfl, q.at_ (skp r), rfl, hA1, ?_⟩
  rw [hrest1]
  cases el : leafR (skp r) with
  | error k =>
    rw [mach_err z' el] at hm1
    have hk := leafR_err el
    have hR2 := hR1.go hk
    have e2 := hR1.at_eq hk
    have hz := hbad hR2 (Option.some.inj hm1).symm
    rw [← e2] at hz
    exact hz
  | ok fk =>
    obtain ⟨f, k⟩ := fk
    rw [mach_leaf z' el] at hm1
    have hk := leafR_le el
    have hR2 := hR1.go hk
    -- while len(levels[-1]) > 0
    refine ⟨fun m1 st => ∃ (p3 p4 : Option D) (mu1 : Mu) (bs : List Addr) (stk : List Lv) (f : Fm) (d : Nat) (r : List Nat), m1 ≤ m ∧ st = ⟨[some (.ref q.a), some (.ref la), some (.tup [f.toD, .int (d : Int)]), p3, p4], mu1, c⟩ ∧ RdSt q mu la mu1 bs stk r ∧ mach m1 (.B stk f d r) = some res, ⟨m, p3, p4, _, bs, stk, f, 0, _, Nat.le_refl _, rfl, hR2, hm1⟩, ?_⟩
    clear hm1 hR2 hR1 hR hA hA1 el hrest hrest1 hk z z' R0
    rintro m1 st ⟨p3, p4, mu1, bs, stk, f, d, r, hmm, rfl, hR, hm1⟩
    cases m1 with
    | zero => cases hm1
    | succ m1 =>
    have hall := hR.all
    cases hall with
    | nil => cases hm1
    | @cons b bs lv stk hb1 hb2 hb3 =>
    obtain ⟨rl1, rl2, rl3⟩ := refs_last b bs
    refine ⟨_, rfl, _, _, hR.lv, rl3, _, hb1, _, rfl, ?_⟩
    rw [gt0]
    cases lv with
    | none =>
      -- behind the inner loop
      refine iteF ?_
      obtain ⟨hA, hrest⟩ := hR.pos h0
      refine ⟨_, rfl, mth_scan (q := q.at_ r) hA (by decide +kernel) ⟨q.at_ r, rfl, hA, ?_⟩⟩
      have hR1 := hR.skip h0
      obtain ⟨hA1, hrest1⟩ := hR1.pos h0
      have stop : markOf (skp r) = none → (mSeq (mIfS (mOr (mB (mOp gtD (mCB lenM (mCons (mVar 1) mNil)) (mC (.int 1)))) (mB (mOp gtD (mOp subD (mVar 2) (mC (.int 1))) (mC (.int 0))))) (mRaise "NotAText" "at" (mFld "Scan" "place" (mVar 0))) mNext) (mRet (mVar 2)) : MS) ⟨[some (.ref q.a), some (.ref la), some (.tup [f.toD, .int (d : Int)]), p3, p4], (q.at_ r).set mu1 (q.at_ r).skip.i, c⟩ (EF (fg P)) (XF (fg PX)) := fun hmk => by
        have hlen : ((b :: bs).reverse.map D.ref).length = stk.length + 1 := by rw [List.length_map, List.length_reverse, List.length_cons, hb3.len]
        refine ⟨_, rfl, _, hR1.lv, _, rfl, ?_⟩
        rw [hlen]
        rw [show decide ((1 : Int) < ((stk.length + 1 : Nat) : Int)) = decide (0 < stk.length) by rw [Bool.eq_iff_iff]; simp only [decide_eq_true_eq]; omega]
        have er : mach (m1 + 1) (.B (none :: stk) f d r) = if 0 < stk.length ∨ 0 < d then some (.err (skp r)) else some (.ok f d (skp r)) := by simp only [mach, hmk]
        rw [er] at hm1
        refine ite2 (fun c1 => ?_) (fun c1 => ?_)
        · have c1' := of_decide_eq_true c1
          rw [if_pos (.inl c1')] at hm1
          exact iteT ⟨_, rfl, fld_place (q := q.at_ (skp r)) hA1 (hbad hR1 (Option.some.inj hm1).symm)⟩
        · have c1' : ¬ 0 < stk.length := fun z => c1 (decide_eq_true z)
          refine ⟨_, rfl, _, rfl, _, rfl, ?_⟩
          rw [gt0]
          refine ite2 (fun c2 => ?_) (fun c2 => ?_)
          · have c2' := of_decide_eq_true c2
            rw [if_pos (.inr c2')] at hm1
            exact ⟨_, rfl, fld_place (q := q.at_ (skp r)) hA1 (hbad hR1 (Option.some.inj hm1).symm)⟩
          · have c2' : ¬ 0 < d := fun z => c2 (decide_eq_true z)
            rw [if_neg (by rintro (z | z); exact c1' z; exact c2' z)] at hm1
            exact ⟨_, rfl, hok hR1 (Option.some.inj hm1).symm⟩
      refine ⟨_, rfl, mth_scan (q := q.at_ (skp r)) hA1 (by decide +kernel) ⟨q.at_ (skp r), rfl, hA1, ceq_of (m := 0) (hA1.see_ok 0) (by decide +kernel), _, rfl, ?_⟩⟩
      rw [ScA.see_eq, hrest1]
      refine ite2 (fun c1 => ?_) (fun c1 => ?_)
      · have c1' : skp r = [] := by
          have := of_decide_eq_true c1
          cases e : skp r with
          | nil => rfl
          | cons k t => rw [e] at this; exact absurd this (by intro z; cases z)
        exact iteT (stop (by rw [c1']; rfl))
      · refine ⟨_, rfl, mth_scan (q := q.at_ (skp r)) hA1 (by decide +kernel) ⟨q.at_ (skp r), rfl, hA1, ceq_of (m := 1) (hA1.see_ok 0) (by decide +kernel), _, rfl, ?_⟩⟩
        have em := see_mark (q.at_ (skp r))
        rw [hrest1] at em
        cases emk : markOf (skp r) with
        | none =>
          rw [emk] at em
          refine iteTh ?_ (stop emk)
          show (!(marks4.any fun z => eqvD z (.str (q.at_ (skp r)).see))) = true
          rw [em]; rfl
        | some w =>
          rw [emk] at em
          refine iteFh ?_ ?_
          · show (!(marks4.any fun z => eqvD z (.str (q.at_ (skp r)).see))) = false
            rw [em]; rfl
          obtain ⟨k, t, j, ek, hk, j1, j2, j3⟩ := mark_ix emk
          have hsee : (q.at_ (skp r)).see = ⟨#[k]⟩ := by unfold ScA.see; rw [hrest1, ek]; rfl
          have hall1 := hR1.all
          cases hall1 with
          | cons hc1 hc2 hc3 =>
          have er : mach (m1 + 1) (.B (none :: stk) f d r) = mach m1 (.A (some (f, d, w) :: stk) t) := by
            have : (skp r).drop 1 = t := by rw [ek]; rfl
            simp only [mach, emk, this]
          rw [er] at hm1
          refine ⟨_, rfl, _, _, hR1.lv, rl3, _, _, rfl, hc1, _, rfl, _, rfl, mth_scan (q := q.at_ (skp r)) hA1 (by decide +kernel) ⟨q.at_ (skp r), rfl, hA1, ?_⟩⟩
          rw [hsee]
          refine ⟨j, j1, j2, _, atI_nat j3, shortL 2 rfl, _, _, rfl, hc1, by show 0 + 2 ≤ sizeLine; rw [sizeLine_eq]; decide, ?_⟩
          have hR3 := hR1.put (some (f, d, w))
          obtain ⟨hA3, hrest3⟩ := hR3.pos h0
          refine ⟨_, rfl, mth_scan (q := q.at_ (skp r)) hA3 (by decide +kernel) ⟨_, rfl, mth_scan (q := q.at_ (skp r)) hA3 (by decide +kernel) ⟨q.at_ (skp r), rfl, hA3, ?_⟩⟩⟩
          rw [hsee]
          refine ⟨(q.at_ (skp r), ⟨#[k]⟩, k), rfl, hA3, rfl, hk, fun z => ?_, fun z => absurd (by show (q.at_ (skp r)).rest.head? = some k; rw [hrest3, ek]; rfl) z⟩
          have h1 : 1 ≤ (skp r).length := by rw [ek]; exact Nat.succ_pos _
          have hR4 := hR3.go h1
          have e2 : (q.at_ (skp r)).i + 1 = q.l.length - ((skp r).drop 1).length := hR3.at_eq h1
          have e3 : (skp r).drop 1 = t := by rw [ek]; rfl
          refine ⟨m1, by omega, _, p3, p4, _, b :: bs, _, t, rfl, ?_, hm1⟩
          rw [e3] at hR4; exact hR4
    | some gew =>
      obtain ⟨g, e, w⟩ := gew
      refine iteT ?_
      have hR1 := hR.pop
      have n2 : b ≠ la := fun z => hR.nl (by rw [z]; exact List.mem_cons_self)
      refine ⟨_, rfl, la, _, _, rfl, hR.lv, rl1, b, _, rfl, (muSet_ne n2).trans hb1, _, .inr rfl, rfl, _, _, rfl, _, _, rfl, rfl, ?_⟩
      refine ⟨_, rfl, _, rfl, _, rfl, _, rfl, _, rfl, shortL 3 rfl, _, rfl, _, rfl, _, rfl, _, rfl, shortL 2 rfl, ?_⟩
      have emx : (if (d : Int) > (e : Int) then (d : Int) else (e : Int)) + 1 = ((max e d + 1 : Nat) : Int) := by split <;> omega
      rw [← rl2] at hR1
      refine ⟨_, rfl, _, hR1.lv, ceq_of (n := 0) (m := 0) rfl rfl, _, rfl, ?_⟩
      cases hb3 with
      | nil =>
        rw [mach_B0] at hm1
        refine iteT ?_
        have hz := hok (f := .node w g f) hR1 (Option.some.inj hm1).symm
        rw [← emx] at hz
        exact ⟨_, rfl, hz⟩
      | @cons b2 bs x stk hd1 hd2 hd3 =>
        refine iteFh ?_ ?_
        · rw [eqv_int2]
          have : ((b2 :: bs).reverse.map D.ref).length = bs.length + 1 := by rw [List.length_map, List.length_reverse, List.length_cons]
          rw [this, Bool.eq_false_iff]
          intro z
          have := beq_iff_eq.mp z
          omega
        obtain ⟨hA, hrest⟩ := hR1.pos h0
        refine ⟨_, rfl, mth_scan (q := q.at_ r) hA (by decide +kernel) ⟨q.at_ r, rfl, hA, ?_⟩⟩
        have hR2 := hR1.skip h0
        obtain ⟨hA2, hrest2⟩ := hR2.pos h0
        refine ⟨_, rfl, mth_scan (q := q.at_ (skp r)) hA2 (by decide +kernel) ⟨(q.at_ (skp r), Str.ofString ")", 41), rfl, hA2, by rw [lit_rp, sL_cps], (by decide : 41 < 128), fun z => ?_, fun z => ?_⟩⟩
        · have z' : (skp r).head? = some 41 := by rw [← hrest2]; exact z
          obtain ⟨t, ht⟩ := head_cons z'
          rw [mach_B1 ht] at hm1
          have h1 : 1 ≤ (skp r).length := by rw [ht]; exact Nat.succ_pos _
          have hR3 := hR2.go h1
          have e2 : (q.at_ (skp r)).i + 1 = q.l.length - ((skp r).drop 1).length := hR2.at_eq h1
          have e3 : (skp r).drop 1 = t := by rw [ht]; rfl
          refine ⟨m1, Nat.lt_succ_self _, _, _, _, b2 :: bs, x :: stk, .node w g f, max e d + 1, t, by omega, by rw [← emx]; rfl, ?_, hm1⟩
          rw [e3] at hR3; exact hR3
        · have z' : (skp r).head? ≠ some 41 := by rw [← hrest2]; exact z
          rw [mach_B2 z'] at hm1
          exact hbad hR2 (Option.some.inj hm1).symm
-- @hash ebd755d2
def sp_need_depth : DSp := fun ds mu c P PX => ∃ d : Nat, ds = [.int d] ∧ (d ≤ 12 → P .non mu c) ∧ (12 < d → PX ⟨"TooDeep", [("most", .int 12)]⟩ mu c)
def m_need_depth : MS := (mIfS (mB (mOp gtD (mVar 0) (mC (.int 12)))) (mRaise "TooDeep" "most" (mC (.int 12))) mNext)
theorem rd_need_depth (ds : List D) (mu : Mu) (c : Nat) (P : D → Mu → Nat → Prop) (PX : Ex → Mu → Nat → Prop) (h : sp_need_depth ds mu c P PX) : m_need_depth (S0 ["many"] ["many"] ds mu c) (EF P) (XF PX) := by
  obtain ⟨d, rfl, h0, h1⟩ := h
  refine ⟨_, rfl, _, rfl, ?_⟩
  refine ite2 (fun c1 => ?_) (fun c1 => ?_)
  · have := of_decide_eq_true c1
    exact ⟨c, Nat.le_refl _, h1 (by omega)⟩
  · have : ¬ _ := fun z => c1 (decide_eq_true z)
    exact ⟨c, Nat.le_refl _, h0 (by omega)⟩
-- @hash c96c7ceb
def sp_Scan___init__ : DSp := fun ds mu c P PX => ∃ q : Addr × Str, ds = [.ref q.1, .str q.2] ∧ mu q.1 = some (.ins "Scan" []) ∧ P .non (muSet mu q.1 (some (scanO q.2 0))) c
def m_Scan___init__ : MS := (mAsg (mTup (mCons (mVar 1) (mCons (mC (.int 0)) mNil))) (gT 2 (gsC (gF "Scan" "string" (mVar 0)) (gsC (gF "Scan" "place" (mVar 0)) gsN))))
theorem rd_Scan___init__ (ds : List D) (mu : Mu) (c : Nat) (P : D → Mu → Nat → Prop) (PX : Ex → Mu → Nat → Prop) (h : sp_Scan___init__ ds mu c P PX) : m_Scan___init__ (S0 ["self", "string"] ["self", "string"] ds mu c) (EF P) (XF PX) := by
  obtain ⟨⟨a, s⟩, rfl, h0, h⟩ := h
  simp only at h0 h
  refine ⟨_, rfl, shortL 2 rfl, _, rfl, rfl, _, _, rfl, _, rfl, _, _, rfl, h0, by decide, _, _, rfl, _, rfl, _, _, rfl, muSet_same, by show 1 < 1000; decide, rfl, c, Nat.le_refl _, ?_⟩
  show P .non (muSet (muSet mu a _) a (some (.ins "Scan" (putFD "place" (.int 0) [(("string" : Str), .str s)])))) c
  rw [muSet_set]
  have e : putFD "place" (.int 0) [(("string" : Str), D.str s)] = [(("string" : Str), D.str s), (("place" : Str), D.int 0)] := by
    unfold putFD
    rw [if_neg sp_ne]
    rfl
  rw [e]
  exact h
-- @hash 19b23e1f
def sp_Scan_is_done : DSp := fun ds mu c P PX => ∃ q : ScA, ds = [.ref q.a] ∧ q.At mu ∧ P (.bl (decide (q.i = q.l.length))) mu c
def m_Scan_is_done : MS := (mRet (mOp eqD (mFld "Scan" "place" (mVar 0)) (mCB lenD (mCons (mFld "Scan" "string" (mVar 0)) mNil))))
theorem rd_Scan_is_done (ds : List D) (mu : Mu) (c : Nat) (P : D → Mu → Nat → Prop) (PX : Ex → Mu → Nat → Prop) (h : sp_Scan_is_done ds mu c P PX) : m_Scan_is_done (S0 ["self"] ["self"] ds mu c) (EF P) (XF PX) := by
  obtain ⟨q, rfl, h0, h⟩ := h
  refine ⟨_, rfl, fld_place h0 ⟨_, rfl, fld_string h0 ?_⟩⟩
  refine ⟨h0.line, ceq_of (n := 0) (m := 0) rfl rfl, c, Nat.le_refl _, ?_⟩
  rw [show eqvD (.int (q.i : Int)) (.int (q.s.length : Int)) = decide (q.i = q.l.length) by rw [eqv_int2, Bool.eq_iff_iff, str_len]; simp only [beq_iff_eq, decide_eq_true_eq]; show _ ↔ q.i = q.s.cps.toList.length; omega]
  exact h
-- @hash e2d8be44
-- @drop
def readEnd (l : List Nat) (res : FR) (mu : Mu) (c : Nat) (P : D → Mu → Nat → Prop) (PX : Ex → Mu → Nat → Prop) : Prop := match res with
  | .err r => PX (notText (l.length - r.length)) mu c
  | .ok f d r => if skp r = [] then (if d ≤ 12 then P f.toD mu c else PX ⟨"TooDeep", [("most", .int 12)]⟩ mu c) else PX (notText (l.length - (skp r).length)) mu c
def sp_read_form : DSp := fun ds mu c P PX => ∃ d : D, ds = [d] ∧ d.ty.isSome = true ∧ (d.isTy "str" = false → PX ⟨"BadValue", [("value", d)]⟩ mu c) ∧ (d.isTy "str" = true → ∃ s : Str, d = .str s ∧ asc s.cps.toList ∧ s.cps.toList.length ≤ LN ∧ ∃ fuel res, mach fuel (.A [none] s.cps.toList) = some res ∧ readEnd s.cps.toList res mu c P PX)
def m_read_form : MS := (mSeq (mDrop (mCall sp_need_any_string (mCons (mVar 0) mNil)))
  (mSeq (mSet 1 (mMake "Scan" sp_Scan___init__ (mCons (mVar 0) mNil)))
  (mSeq (mAsg (mCall sp_form_read (mCons (mVar 1) mNil)) (gT 2 (gsC (gN 2) (gsC (gN 3) gsN))))
  (mSeq (mDrop (mMeth0 "Scan" "skip" sp_Scan_skip (mVar 1)))
  (mSeq (mIfS (mNot (mB (mMeth0 "Scan" "is_done" sp_Scan_is_done (mVar 1)))) (mRaise "NotAText" "at" (mFld "Scan" "place" (mVar 1))) mNext)
  (mSeq (mDrop (mCall sp_need_depth (mCons (mVar 3) mNil)))
  (mRet (mVar 2))))))))
theorem rd_read_form (ds : List D) (mu : Mu) (c : Nat) (P : D → Mu → Nat → Prop) (PX : Ex → Mu → Nat → Prop) (h : sp_read_form ds mu c P PX) : m_read_form (S0 ["text", "scan", "form", "many"] ["text"] ds mu c) (EF (fg P)) (XF (fg PX)) := by
  obtain ⟨d, rfl, ht, h0, h1⟩ := h
  refine ⟨d, rfl, d, rfl, ht, ?_⟩
  cases e : d.isTy "str" with
  | false =>
    rw [if_neg Bool.false_ne_true]
    exact ⟨c, Nat.le_refl _, _, Less.refl _, h0 e⟩
  | true =>
    rw [if_pos rfl]
    obtain ⟨s, rfl, ha, hl, fuel, res, hm, h⟩ := h1 e
    have hsuf := mach_suf _ _ _ hm
    refine ⟨_, rfl, fun x hx => ⟨(x, s), rfl, muSet_same, rfl, ?_⟩⟩
    have hx' : mu x = none := hx
    have hA : (⟨x, s, 0⟩ : ScA).At (muSet (muSet mu x (some (.ins "Scan" []))) x (some (scanO s 0))) := ⟨muSet_same, ha, hl, Nat.zero_le _⟩
    have less : ∀ j, Less mu ((⟨x, s, 0⟩ : ScA).set (muSet (muSet mu x (some (.ins "Scan" []))) x (some (scanO s 0))) j) := fun j => ((Less.refl mu).over hx').over hx' |>.over hx'
    refine ⟨_, rfl, (⟨x, s, 0⟩, fuel, res), rfl, hA, hm, ?_⟩
    cases res with
    | err r => exact ⟨c, Nat.le_refl _, _, less _, h⟩
    | ok f d r =>
      have hr : s.cps.toList.drop (s.cps.toList.length - r.length) = r := suf_drop hsuf
      have hrl : r.length ≤ s.cps.toList.length := hsuf.length_le
      refine ⟨_, rfl, rfl, _, _, rfl, _, _, rfl, rfl, ?_⟩
      obtain ⟨q, hq⟩ : ∃ q : ScA, q = ⟨x, s, s.cps.toList.length - r.length⟩ := ⟨_, rfl⟩
      have hA1 : (⟨x, s, s.cps.toList.length - r.length⟩ : ScA).At ((⟨x, s, 0⟩ : ScA).set (muSet (muSet mu x (some (.ins "Scan" []))) x (some (scanO s 0))) (s.cps.toList.length - r.length)) := ⟨muSet_same, ha, hl, Nat.sub_le _ _⟩
      refine ⟨_, rfl, mth_scan (q := ⟨x, s, s.cps.toList.length - r.length⟩) hA1 (by decide +kernel) ⟨⟨x, s, s.cps.toList.length - r.length⟩, rfl, hA1, ?_⟩⟩
      have hsk := skipN_le r
      have hj : (⟨x, s, s.cps.toList.length - r.length⟩ : ScA).skip.i = s.cps.toList.length - (skp r).length := by
        show (s.cps.toList.length - r.length) + skipN (s.cps.toList.drop (s.cps.toList.length - r.length)) = _
        rw [hr]
        unfold skp
        rw [List.length_drop]
        omega
      have hA2 : (⟨x, s, (⟨x, s, s.cps.toList.length - r.length⟩ : ScA).skip.i⟩ : ScA).At (muSet ((⟨x, s, 0⟩ : ScA).set (muSet (muSet mu x (some (.ins "Scan" []))) x (some (scanO s 0))) (s.cps.toList.length - r.length)) x (some (scanO s (⟨x, s, s.cps.toList.length - r.length⟩ : ScA).skip.i))) := ⟨muSet_same, ha, hl, by rw [hj]; exact Nat.sub_le _ _⟩
      have less2 : Less mu (muSet ((⟨x, s, 0⟩ : ScA).set (muSet (muSet mu x (some (.ins "Scan" []))) x (some (scanO s 0))) (s.cps.toList.length - r.length)) x (some (scanO s (⟨x, s, s.cps.toList.length - r.length⟩ : ScA).skip.i))) := (less _).over hx'
      refine ⟨_, rfl, mth_scan (q := ⟨x, s, (⟨x, s, s.cps.toList.length - r.length⟩ : ScA).skip.i⟩) hA2 (by decide +kernel) ⟨⟨x, s, (⟨x, s, s.cps.toList.length - r.length⟩ : ScA).skip.i⟩, rfl, hA2, _, rfl, ?_⟩⟩
      have hdone : decide ((⟨x, s, s.cps.toList.length - r.length⟩ : ScA).skip.i = s.cps.toList.length) = decide (skp r = []) := by
        rw [hj, Bool.eq_iff_iff]
        simp only [decide_eq_true_eq]
        have h3 : (skp r).length ≤ r.length := (skp_suf r).length_le
        constructor
        · intro z
          exact List.length_eq_zero_iff.mp (by omega)
        · intro z
          rw [z]
          rfl
      show if (!decide ((⟨x, s, s.cps.toList.length - r.length⟩ : ScA).skip.i = s.cps.toList.length)) = true then _ else _
      rw [hdone]
      by_cases c1 : skp r = []
      · simp only [readEnd] at h
        rw [if_pos c1] at h
        rw [decide_eq_true c1]
        refine iteF ⟨_, rfl, d, rfl, fun z => ?_, fun z => ?_⟩
        · rw [if_pos z] at h
          exact ⟨_, rfl, c, Nat.le_refl _, _, less2, h⟩
        · rw [if_neg (by omega)] at h
          exact ⟨c, Nat.le_refl _, _, less2, h⟩
      · simp only [readEnd] at h
        rw [if_neg c1] at h
        rw [decide_eq_false c1]
        refine iteT ⟨_, rfl, fld_place (q := ⟨x, s, (⟨x, s, s.cps.toList.length - r.length⟩ : ScA).skip.i⟩) hA2 ⟨c, Nat.le_refl _, _, less2, ?_⟩⟩
        rw [hj]
        exact h
-- @hash 3c6edd0b
-- @rec 32
def spn_leaves_in (n : Nat) : DSp := fun ds mu c P PX => ∃ f : Fm, ds = [f.toD] ∧ f.depth < n ∧ f.ok = true ∧ P (.int (f.leaves.length : Int)) mu c
def sp_leaves_in : DSp := spn_leaves_in 32
def m_leaves_in (self : DSp) : MS := (mRet (mIf (mB (mCall sp_is_leaf (mCons (mVar 0) mNil))) (mC (.int 1)) (mOp addD (mCall self (mCons (mOp subD (mVar 0) (mC (.int 1))) mNil)) (mCall self (mCons (mOp subD (mVar 0) (mC (.int 2))) mNil)))))
theorem rd_leaves_in (n : Nat) (ds : List D) (mu : Mu) (c : Nat) (P : D → Mu → Nat → Prop) (PX : Ex → Mu → Nat → Prop) (h : spn_leaves_in (n + 1) ds mu c P PX) : m_leaves_in (spn_leaves_in n) (S0 ["form"] ["form"] ds mu c) (EF P) (XF PX) := by
  obtain ⟨f, rfl, hn, ho, h⟩ := h
  cases f with
  | leaf w x =>
    obtain ⟨hw, hx⟩ := Bool.and_eq_true_iff.mp ho
    refine ⟨_, rfl, (.str w, [.str x]), rfl, word_ok (.inl hw) 64, _, rfl, ?_⟩
    show if leafW (.str w) = true then _ else _
    exact iteTh hw ⟨c, Nat.le_refl _, h⟩
  | node w a b =>
    obtain ⟨hw, hab⟩ := Bool.and_eq_true_iff.mp ho
    obtain ⟨ha, hb⟩ := Bool.and_eq_true_iff.mp hab
    have hn' : max a.depth b.depth + 1 < n + 1 := hn
    refine ⟨_, rfl, (.str w, [a.toD, b.toD]), rfl, word_ok (.inr hw) 64, _, rfl, ?_⟩
    show if leafW (.str w) = true then _ else _
    refine iteFh (leaf_half hw) ?_
    refine ⟨_, rfl, _, rfl, a, rfl, by omega, ha, ?_⟩
    refine ⟨_, rfl, _, rfl, b, rfl, by omega, hb, c, Nat.le_refl _, ?_⟩
    have e : (a.leaves.length : Int) + (b.leaves.length : Int) = ((Fm.node w a b).leaves.length : Int) := by
      show _ = ((a.leaves ++ b.leaves).length : Int)
      rw [List.length_append]; push_cast; rfl
    show P (.int ((a.leaves.length : Int) + (b.leaves.length : Int))) mu c
    rw [e]
    exact h
-- @hash dd67b42e
-- @drop
def foDs (A : List (Fm × Nat)) : List D := A.map fun p => foD p.1 p.2
def sp_ends_read : DSp := fun ds mu c P PX => ∃ q : ScA × RR, ds = [.ref q.1.a] ∧ q.1.At mu ∧ RowR q.1.rest q.2 ∧ match q.2 with
  | .ok ps r => P (.lst (foDs ps)) (q.1.set mu (q.1.l.length - r.length)) c
  | .err r => PX (notText (q.1.l.length - r.length)) (q.1.set mu (q.1.l.length - r.length)) c
/-- what stands at a turn of the reading -/
structure RwSt (q : ScA) (mu0 : Mu) (la : Addr) (mu : Mu) (A : List (Fm × Nat)) (r : List Nat) : Prop where
  here : mu q.a = some (scanO q.s (q.l.length - r.length))
  suf : r <:+ q.l
  lv : mu la = some (.lst (foDs A))
  nla : la ≠ q.a
  old : ∀ x m, x ≠ q.a → mu0 x = some m → mu x = some m ∧ x ≠ la
  room : A.length + r.length ≤ q.l.length + 1
section
variable {q : ScA} {mu0 mu : Mu} {la : Addr} {A : List (Fm × Nat)} {r : List Nat}
theorem RwSt.pos (h : RwSt q mu0 la mu A r) (h0 : q.At mu0) : (q.at_ r).At mu ∧ (q.at_ r).rest = r := ⟨⟨h.here, h0.asc, h0.len, Nat.sub_le _ _⟩, suf_drop h.suf⟩
theorem RwSt.to (h : RwSt q mu0 la mu A r) {r2 : List Nat} (hr : r2 <:+ r) : RwSt q mu0 la (q.set mu (q.l.length - r2.length)) A r2 where
  here := muSet_same
  suf := hr.trans h.suf
  lv := by show muSet mu q.a _ la = _; rw [muSet_ne h.nla]; exact h.lv
  nla := h.nla
  old := fun x m hx e => by
    obtain ⟨e1, e2⟩ := h.old x m hx e
    exact ⟨by show muSet mu q.a _ x = _; rw [muSet_ne hx]; exact e1, e2⟩
  room := by have := h.room; have := hr.length_le; omega
theorem RwSt.less (h : RwSt q mu0 la mu A r) : Less (q.set mu0 (q.l.length - r.length)) mu := fun x m e => by
  unfold ScA.set at e
  by_cases hx : x = q.a
  · subst hx; rw [muSet_same] at e; cases e; exact h.here
  · rw [muSet_ne hx] at e; exact (h.old x m hx e).1
theorem RwSt.lessF (h : RwSt q mu0 la mu A r) (hl : mu0 la = none) : Less (q.set mu0 (q.l.length - r.length)) (muSet mu la none) := fun x m e => by
  have e1 := h.less x m e
  have : x ≠ la := fun z => by
    subst z
    unfold ScA.set at e
    rw [muSet_ne h.nla, hl] at e
    cases e
  rw [muSet_ne this]
  exact e1
theorem RwSt.skip_i (h : RwSt q mu0 la mu A r) (h0 : q.At mu0) : (q.at_ r).skip.i = q.l.length - (skp r).length := by
  show (q.l.length - r.length) + skipN (q.at_ r).rest = _
  rw [(h.pos h0).2]
  have h1 := skipN_le r
  have h2 := h.suf.length_le
  unfold skp
  rw [List.length_drop]
  omega
theorem RwSt.put (h : RwSt q mu0 la mu A r) (p : Fm × Nat) (hr : A.length + 1 + r.length ≤ q.l.length + 1) : RwSt q mu0 la (muSet mu la (some (.lst (foDs A ++ [foD p.1 p.2])))) (A ++ [p]) r where
  here := by rw [muSet_ne h.nla.symm]; exact h.here
  suf := h.suf
  lv := by rw [muSet_same]; unfold foDs; rw [List.map_append]; rfl
  nla := h.nla
  old := fun x m hx e => by
    obtain ⟨e1, e2⟩ := h.old x m hx e
    exact ⟨by rw [muSet_ne e2]; exact e1, e2⟩
  room := by rw [List.length_append]; exact hr
end
/-- what is still to come -/
def RwGo (res : RR) (A : List (Fm × Nat)) (r : List Nat) : Prop :=
  (A = [] ∧ RowR r res) ∨ (A ≠ [] ∧ ((r.head? ≠ some 44 ∧ res = .ok A r) ∨ ∃ r2 res', r = 44 :: r2 ∧ RowR r2 res' ∧ res = res'.pre A))
def m_ends_read : MS := (mSeq (mSet 1 (mNewL mNil))
  (mSeq (mWhile (mOr (mB (mOp eqD (mCB lenM (mCons (mVar 1) mNil)) (mC (.int 0)))) (mB (mMeth "Scan" "sees" sp_Scan_sees (mVar 0) (mCons (mC (.str ",")) mNil)))) (mSeq (mDrop (mApp (mVar 1) (mCall sp_form_read (mCons (mVar 0) mNil))))
  (mDrop (mMeth0 "Scan" "skip" sp_Scan_skip (mVar 0)))))
  (mRet (mFrz (mVar 1)))))
theorem rd_ends_read (ds : List D) (mu : Mu) (c : Nat) (P : D → Mu → Nat → Prop) (PX : Ex → Mu → Nat → Prop) (h : sp_ends_read ds mu c P PX) : m_ends_read (S0 ["scan", "told"] ["scan"] ds mu c) (EF (fg P)) (XF (fg PX)) := by
  obtain ⟨⟨q, res⟩, rfl, h0, hm, h⟩ := h
  simp only at h0 hm h
  have hl0 : q.l.length ≤ 1000000 := h0.len
  have hq0 : q.l.length - q.rest.length = q.i := by have := q.rest_len; have := h0.le; omega
  refine ⟨Nat.zero_le _, fun la hla => ?_⟩
  have hla : mu la = none := hla
  have nla : la ≠ q.a := fun z => by rw [z, h0.here] at hla; cases hla
  have R0 : RwSt q mu la (muSet mu la (some (.lst []))) [] q.rest :=
    ⟨by rw [muSet_ne nla.symm, hq0]; exact h0.here, List.drop_suffix _ _, muSet_same, nla, fun x m hx e => by
      have n : x ≠ la := fun z => by rw [z, hla] at e; cases e
      exact ⟨by rw [muSet_ne n]; exact e, n⟩, by have := q.rest_len; simp only [List.length_nil]; omega⟩
  refine ⟨fun m st => ∃ (mu1 : Mu) (A : List (Fm × Nat)) (r : List Nat), st = ⟨[some (.ref q.a), some (.ref la)], mu1, c⟩ ∧ RwSt q mu la mu1 A r ∧ RwGo res A r ∧ m = r.length + (if A = [] then 1 else 0), ⟨_, _, [], q.rest, rfl, R0, .inl ⟨rfl, hm⟩, rfl⟩, ?_⟩
  rintro m st ⟨mu1, A, r, rfl, hR, hg, hmm⟩
  obtain ⟨hA, hrest⟩ := hR.pos h0
  -- the body, at a form
  have body : ∀ (mu1 : Mu) (r : List Nat) (res' : RR), RwSt q mu la mu1 A r → RowR r res' → res = res'.pre A → A.length + 1 + r.length ≤ q.l.length + 1 → r.length < m →
      (mSeq (mDrop (mApp (mVar 1) (mCall sp_form_read (mCons (mVar 0) mNil)))) (mDrop (mMeth0 "Scan" "skip" sp_Scan_skip (mVar 0))) : MS) ⟨[some (.ref q.a), some (.ref la)], mu1, c⟩
        { nx := fun s => ∃ m', m' < m ∧ ∃ (mu1 : Mu) (A : List (Fm × Nat)) (r : List Nat), s = ⟨[some (.ref q.a), some (.ref la)], mu1, c⟩ ∧ RwSt q mu la mu1 A r ∧ RwGo res A r ∧ m' = r.length + (if A = [] then 1 else 0),
          ct := fun s => ∃ m', m' < m ∧ ∃ (mu1 : Mu) (A : List (Fm × Nat)) (r : List Nat), s = ⟨[some (.ref q.a), some (.ref la)], mu1, c⟩ ∧ RwSt q mu la mu1 A r ∧ RwGo res A r ∧ m' = r.length + (if A = [] then 1 else 0),
          bk := fun _ => False, rt := (EF (fg P)).rt } (XF (fg PX)) := by
    intro mu1 r res' hR hrow hres hroom hlt
    obtain ⟨hA, hrest⟩ := hR.pos h0
    have key : ∃ n fr, mach n (.A [none] r) = some fr ∧ (match fr with | .err r1 => res = .err r1 | .ok f d r1 => RwGo res (A ++ [(f, d)]) (skp r1)) := by
      cases hrow with
      | bad hm1 => exact ⟨_, _, hm1, hres⟩
      | last hm1 hh => exact ⟨_, _, hm1, .inr ⟨by simp, .inl ⟨hh, hres⟩⟩⟩
      | more hm1 hh hrow2 => exact ⟨_, _, hm1, .inr ⟨by simp, .inr ⟨_, _, hh, hrow2, by rw [hres, RR.pre_pre]⟩⟩⟩
    obtain ⟨n, fr, hm1, hfr⟩ := key
    have hs : fr.rest <:+ r := mach_suf _ _ _ hm1
    refine ⟨_, rfl, la, _, rfl, hR.lv, _, rfl, (q.at_ r, n, fr), rfl, hA, by rw [hrest]; exact hm1, ?_⟩
    cases fr with
    | err r1 =>
      have hfr : res = .err r1 := hfr
      have hR1 := hR.to (r2 := r1) hs
      subst hfr
      exact ⟨c, Nat.le_refl _, _, hR1.less, h⟩
    | ok f d r1 =>
      have hfr : RwGo res (A ++ [(f, d)]) (skp r1) := hfr
      have hR1 := hR.to (r2 := r1) hs
      have hs1 : r1.length ≤ r.length := hs.length_le
      have hR2 := hR1.put (f, d) (by omega)
      refine ⟨_, hR1.lv, ?_, ?_⟩
      · have := hR.room
        have e6 : (sizeLine : Nat) = 16777216 := sizeLine_eq
        unfold foDs
        rw [List.length_map, e6]
        omega
      obtain ⟨hA2, hrest2⟩ := hR2.pos h0
      refine ⟨_, rfl, mth_scan (q := q.at_ r1) hA2 (by decide +kernel) ⟨q.at_ r1, rfl, hA2, ?_⟩⟩
      have hR3 := hR2.to (skp_suf r1)
      rw [← hR2.skip_i h0] at hR3
      refine ⟨_, ?_, _, _, skp r1, rfl, hR3, hfr, rfl⟩
      have h1 := (skp_suf r1).length_le
      rw [if_neg (by simp)]
      omega
  refine ⟨_, rfl, _, hR.lv, ceq_of (n := 0) (m := 0) rfl rfl, _, rfl, ?_⟩
  have elen : eqvD (.int ((foDs A).length : Int)) (.int 0) = decide (A = []) := by
    unfold foDs
    rw [eqv_int2, List.length_map, Bool.eq_iff_iff]
    simp only [beq_iff_eq, decide_eq_true_eq]
    rw [← List.length_eq_zero_iff]
    omega
  rw [elen]
  rcases hg with ⟨hA0, hrow⟩ | ⟨hA0, hg⟩
  · subst hA0
    refine iteTh rfl (iteT ?_)
    refine body mu1 r res hR hrow (by cases res <;> rfl) (by have := hR.suf.length_le; simp only [List.length_nil]; omega) ?_
    rw [hmm, if_pos rfl]
    omega
  · refine iteFh (decide_eq_false hA0) ?_
    have hlen1 : 1 ≤ A.length := by cases A with | nil => exact absurd rfl hA0 | cons _ _ => exact Nat.succ_pos _
    refine ⟨_, rfl, mth_scan (q := q.at_ r) hA (by decide +kernel) ⟨(q.at_ r, Str.ofString ",", 44), rfl, hA, (show (Str.ofString ",").cps.toList = [44] by decide +kernel), (by decide : 44 < 128), fun z => ?_, fun z => ?_⟩⟩
    · have z : r.head? = some 44 := by rw [← hrest]; exact z
      rcases hg with ⟨hh, _⟩ | ⟨r2, res', rfl, hrow, hres⟩
      · exact absurd z hh
      refine ⟨true, rfl, iteT ?_⟩
      have hR1 := hR.to (r2 := r2) ⟨[44], rfl⟩
      have e2 : (q.at_ (44 :: r2)).i + 1 = q.l.length - r2.length := by
        show q.l.length - (44 :: r2).length + 1 = _
        have := hR.suf.length_le
        rw [List.length_cons] at this ⊢
        omega
      rw [← e2] at hR1
      refine body _ r2 res' hR1 hrow hres (by have := hR.room; rw [List.length_cons] at this; omega) ?_
      rw [hmm, List.length_cons]
      omega
    · have z : r.head? ≠ some 44 := by rw [← hrest]; exact z
      rcases hg with ⟨hh, hres⟩ | ⟨r2, res', rfl, hrow, hres⟩
      · refine ⟨false, rfl, iteF ?_⟩
        refine ⟨_, rfl, la, _, rfl, hR.lv, ?_⟩
        subst hres
        exact ⟨c, Nat.le_refl _, _, hR.lessF hla, h⟩
      · exact absurd rfl z
-- @hash 7e64bb47
-- @fresh
def sp_ends_from : DSp := fun ds mu c P PX => ∃ ps : List (Fm × Nat), ds = [.lst (ps.map fun p => foD p.1 p.2)] ∧ ps ≠ [] ∧ ps.length ≤ 1000001 ∧ (∀ p ∈ ps, p.1.ok = true ∧ p.1.depth = p.2) ∧
  ((∃ p ∈ ps, 12 < p.2) → PX ⟨"TooDeep", [("most", .int 12)]⟩ mu c) ∧ ((∀ p ∈ ps, p.2 ≤ 12) → 40 < leafN (ps.map (·.1)) → PX ⟨"TooMany", [("most", .int 40)]⟩ mu c) ∧
  ((∀ p ∈ ps, p.2 ≤ 12) → leafN (ps.map (·.1)) ≤ 40 → ∀ a, mu a = none → P (.ref a) (muSet mu a (some (.lst ((ps.map (·.1)).map Fm.toD)))) c)
theorem lc_eachM {α : Type} {body : D → S → (Option D → S → Prop) → Prop} (e F : α → D) {st : S} {P : List D → S → Prop} : ∀ (ps : List α) (acc : List D), (∀ p ∈ ps, ∀ K, K (some (F p)) st → body (e p) st K) → acc.length + ps.length ≤ LINE → P (acc ++ ps.map F) st → lcGo body (ps.map e) acc st P
  | [], acc, _, _, h => by rw [List.map_nil, List.append_nil] at h; exact h
  | d :: ds, acc, hb, hl, h => by
    rw [List.length_cons] at hl
    refine hb d List.mem_cons_self _ ⟨by omega, ?_⟩
    refine lc_eachM e F ds (acc ++ [F d]) (fun x hx => hb x (List.mem_cons_of_mem _ hx)) (by rw [List.length_append, List.length_cons, List.length_nil]; omega) ?_
    rw [List.append_assoc]
    exact h
theorem intsOf_gen {α : Type} (ps : List α) (g : α → Int) : intsOf (ps.map fun p => .int (g p)) = some (ps.map g) := by
  induction ps with
  | nil => rfl
  | cons f fs ih => simp [intsOf, ih]
def m_ends_from : MS := (mSeq (mDrop (mCall sp_need_depth (mCons (mCB maxD (mCons (mLc (mItems (mVar 0)) [1, 2] (gT 2 (gsC (gN 1) (gsC (gN 2) gsN))) mYes (mVar 2)) mNil)) mNil)))
  (mSeq (mIfS (mB (mOp gtD (mCB sumD (mCons (mLc (mItems (mVar 0)) [1, 2] (gT 2 (gsC (gN 1) (gsC (gN 2) gsN))) mYes (mCall sp_leaves_in (mCons (mVar 1) mNil))) mNil)) (mC (.int 40)))) (mRaise "TooMany" "most" (mC (.int 40))) mNext)
  (mRet (mLcM (mItems (mVar 0)) [1, 2] (gT 2 (gsC (gN 1) (gsC (gN 2) gsN))) mYes (mVar 1)))))
theorem rd_ends_from (ds : List D) (mu : Mu) (c : Nat) (P : D → Mu → Nat → Prop) (PX : Ex → Mu → Nat → Prop) (h : sp_ends_from ds mu c P PX) : m_ends_from (S0 ["told", "form", "many"] ["told"] ds mu c) (EF P) (XF PX) := by
  obtain ⟨ps, rfl, hne, hlen, hok, h1, h2, h3⟩ := h
  have hL : (LINE : Nat) = 16777216 := rfl
  have hl : ([] : List D).length + ps.length ≤ LINE := by rw [List.length_nil]; omega
  have hpos : 0 < (ps.map fun p => (p.2 : Int)).length := by rw [List.length_map]; cases ps with | nil => exact absurd rfl hne | cons _ _ => exact Nat.succ_pos _
  refine ⟨_, rfl, ?_⟩
  refine lc_eachM (fun p : Fm × Nat => foD p.1 p.2) (fun p => .int (p.2 : Int)) ps [] (fun p hp K hK => ⟨_, rfl, rfl, _, _, rfl, _, _, rfl, rfl, _, rfl, hK⟩) hl ?_
  refine ⟨_, intsOf_gen ps _, hpos, fun m m1 m2 => ?_⟩
  obtain ⟨p, hp, rfl⟩ := List.mem_map.mp m1
  refine ⟨p.2, rfl, fun hle => ?_, fun hgt => ⟨c, Nat.le_refl _, h1 ⟨p, hp, hgt⟩⟩⟩
  have ha : ∀ q ∈ ps, q.2 ≤ 12 := fun q hq => by have := m2 (q.2 : Int) (List.mem_map.mpr ⟨q, hq, rfl⟩); omega
  refine ⟨_, rfl, ?_⟩
  refine lc_eachM (fun p : Fm × Nat => foD p.1 p.2) (fun p => .int (p.1.leaves.length : Int)) ps [] (fun p hp K hK => ⟨_, rfl, rfl, _, _, rfl, _, _, rfl, rfl, _, rfl, p.1, rfl, by have := (hok p hp).2; have := ha p hp; omega, (hok p hp).1, hK⟩) hl ?_
  refine ⟨_, intsOf_gen ps _, ?_⟩
  have es : (ps.map fun p => (p.1.leaves.length : Int)).sum = (leafN (ps.map (·.1)) : Int) := by rw [← sum_cast, List.map_map]; rfl
  rw [es]
  refine ⟨_, rfl, ?_⟩
  refine ite2 (fun c1 => ?_) (fun c1 => ?_)
  · have c1' : (40 : Int) < (leafN (ps.map (·.1)) : Int) := of_decide_eq_true c1
    exact ⟨c, Nat.le_refl _, h2 ha (by omega)⟩
  · have c1' : ¬ (40 : Int) < (leafN (ps.map (·.1)) : Int) := fun z => c1 (decide_eq_true z)
    refine ⟨_, rfl, ?_⟩
    refine lc_eachM (fun p : Fm × Nat => foD p.1 p.2) (fun p => p.1.toD) ps [] (fun p hp K hK => ⟨_, rfl, rfl, _, _, rfl, _, _, rfl, rfl, _, rfl, hK⟩) hl ?_
    intro a hm
    refine ⟨c, Nat.le_refl _, ?_⟩
    have k := h3 ha (by omega) a hm
    rw [List.map_map] at k
    exact k
-- @hash 737f1df8
-- @fresh
-- @drop
def rowEnd (l : List Nat) (res : RR) (mu : Mu) (c : Nat) (P : D → Mu → Nat → Prop) (PX : Ex → Mu → Nat → Prop) : Prop := match res with
  | .err r => PX (notText (l.length - r.length)) mu c
  | .ok ps r => if r = [] then (((∃ p ∈ ps, 12 < p.2) → PX ⟨"TooDeep", [("most", .int 12)]⟩ mu c) ∧ ((∀ p ∈ ps, p.2 ≤ 12) → 40 < leafN (ps.map (·.1)) → PX ⟨"TooMany", [("most", .int 40)]⟩ mu c) ∧
      ((∀ p ∈ ps, p.2 ≤ 12) → leafN (ps.map (·.1)) ≤ 40 → ∀ a, mu a = none → P (.ref a) (muSet mu a (some (.lst ((ps.map (·.1)).map Fm.toD)))) c))
    else PX (notText (l.length - r.length)) mu c
def sp_read_ends : DSp := fun ds mu c P PX => ∃ d : D, ds = [d] ∧ d.ty.isSome = true ∧ (d.isTy "str" = false → PX ⟨"BadValue", [("value", d)]⟩ mu c) ∧ (d.isTy "str" = true → ∃ s : Str, d = .str s ∧ asc s.cps.toList ∧ s.cps.toList.length ≤ LN ∧ ∃ res, RowR s.cps.toList res ∧ rowEnd s.cps.toList res mu c P PX)
theorem Less.both {mu mu1 : Mu} (h : Less mu mu1) (a : Addr) (o : Option MO) : Less (muSet mu a o) (muSet mu1 a o) := fun b m eb => by
  by_cases hb : b = a
  · subst hb; rw [muSet_same] at eb ⊢; exact eb
  · rw [muSet_ne hb] at eb ⊢; exact h b m eb
def m_read_ends : MS := (mSeq (mDrop (mCall sp_need_any_string (mCons (mVar 0) mNil)))
  (mSeq (mSet 1 (mMake "Scan" sp_Scan___init__ (mCons (mVar 0) mNil)))
  (mSeq (mSet 2 (mCall sp_ends_read (mCons (mVar 1) mNil)))
  (mSeq (mIfS (mNot (mB (mMeth0 "Scan" "is_done" sp_Scan_is_done (mVar 1)))) (mRaise "NotAText" "at" (mFld "Scan" "place" (mVar 1))) mNext)
  (mRet (mCall sp_ends_from (mCons (mVar 2) mNil)))))))
theorem rd_read_ends (ds : List D) (mu : Mu) (c : Nat) (P : D → Mu → Nat → Prop) (PX : Ex → Mu → Nat → Prop) (h : sp_read_ends ds mu c P PX) : m_read_ends (S0 ["text", "scan", "told"] ["text"] ds mu c) (EF (fg P)) (XF (fg PX)) := by
  obtain ⟨d, rfl, ht, h0, h1⟩ := h
  refine ⟨d, rfl, d, rfl, ht, ?_⟩
  cases e : d.isTy "str" with
  | false =>
    rw [if_neg Bool.false_ne_true]
    exact ⟨c, Nat.le_refl _, _, Less.refl _, h0 e⟩
  | true =>
    rw [if_pos rfl]
    obtain ⟨s, rfl, ha, hl, res, hm, h⟩ := h1 e
    have hsuf := row_suf hm
    have hl' : s.cps.toList.length ≤ LN := hl
    have hl2 : s.cps.toList.length ≤ 1000000 := hl
    refine ⟨_, rfl, fun x hx => ⟨(x, s), rfl, muSet_same, rfl, ?_⟩⟩
    have hx' : mu x = none := hx
    have hA : (⟨x, s, 0⟩ : ScA).At (muSet (muSet mu x (some (.ins "Scan" []))) x (some (scanO s 0))) := ⟨muSet_same, ha, hl', Nat.zero_le _⟩
    have less : ∀ j, Less mu ((⟨x, s, 0⟩ : ScA).set (muSet (muSet mu x (some (.ins "Scan" []))) x (some (scanO s 0))) j) := fun j => ((Less.refl mu).over hx').over hx' |>.over hx'
    refine ⟨_, rfl, (⟨x, s, 0⟩, res), rfl, hA, hm, ?_⟩
    cases res with
    | err r => exact ⟨c, Nat.le_refl _, _, less _, h⟩
    | ok ps r =>
      have hrl : r.length ≤ s.cps.toList.length := hsuf.length_le
      have hA1 : (⟨x, s, s.cps.toList.length - r.length⟩ : ScA).At ((⟨x, s, 0⟩ : ScA).set (muSet (muSet mu x (some (.ins "Scan" []))) x (some (scanO s 0))) (s.cps.toList.length - r.length)) := ⟨muSet_same, ha, hl', Nat.sub_le _ _⟩
      refine ⟨_, rfl, mth_scan (q := ⟨x, s, s.cps.toList.length - r.length⟩) hA1 (by decide +kernel) ⟨⟨x, s, s.cps.toList.length - r.length⟩, rfl, hA1, _, rfl, ?_⟩⟩
      have hdone : decide (s.cps.toList.length - r.length = s.cps.toList.length) = decide (r = []) := by
        rw [Bool.eq_iff_iff]
        simp only [decide_eq_true_eq]
        rw [← List.length_eq_zero_iff]
        omega
      show if (!decide (s.cps.toList.length - r.length = s.cps.toList.length)) = true then _ else _
      rw [hdone]
      by_cases c1 : r = []
      · simp only [rowEnd] at h
        rw [if_pos c1] at h
        obtain ⟨k1, k2, k3⟩ := h
        obtain ⟨p1, p2⟩ := row_ok hm _ _ rfl
        have p3 := row_len hm _ _ rfl
        rw [decide_eq_true c1]
        refine iteF ⟨_, rfl, ps, rfl, p1, by omega, fun p hp => ⟨(p2 p hp).1, (p2 p hp).2.symm⟩, fun z => ?_, fun z1 z2 => ?_, fun z1 z2 a hm1 => ?_⟩
        · exact ⟨c, Nat.le_refl _, _, less _, k1 z⟩
        · exact ⟨c, Nat.le_refl _, _, less _, k2 z1 z2⟩
        · exact ⟨c, Nat.le_refl _, _, Less.both (less (s.cps.toList.length - r.length)) a _, k3 z1 z2 a (Less.none (less (s.cps.toList.length - r.length)) hm1)⟩
      · simp only [rowEnd] at h
        rw [if_neg c1] at h
        rw [decide_eq_false c1]
        exact iteT ⟨_, rfl, fld_place (q := ⟨x, s, s.cps.toList.length - r.length⟩) hA1 ⟨c, Nat.le_refl _, _, less _, h⟩⟩
-- @hash 2a9950ea
def m__law_pick : MS := (mRet (mOp subD (mVar 1) (mCall sp__law_draw (mCons (mVar 0) (mCons (mCB lenD (mCons (mVar 1) mNil)) mNil)))))
theorem rd__law_pick (ds : List D) (mu : Mu) (c : Nat) (P : D → Mu → Nat → Prop) (PX : Ex → Mu → Nat → Prop) (h : sp__law_pick ds mu c P PX) : m__law_pick (S0 ["_law_pen", "_law_some"] ["_law_pen", "_law_some"] ds mu c) (EF P) (XF PX) := by
  obtain ⟨d, rfl, hc, h⟩ := h
  cases d <;> first | exact h.elim | skip
  · rename_i z
    obtain ⟨h1, h2, h3⟩ := h
    have e1 : z.length = z.cps.toList.length := by show z.cps.size = _; simp
    refine ⟨_, rfl, _, rfl, _, rfl, h2, z.length, rfl, by omega, by have : (LINE : Nat) = 16777216 := rfl; omega, hc, fun m m0 m1 => ?_⟩
    obtain ⟨j, rfl⟩ := Int.eq_ofNat_of_zero_le m0
    have hj : j < z.cps.toList.length := by omega
    exact ⟨h2, _, atI_nat (List.getElem?_eq_getElem hj), _, Nat.le_refl _, h3 _ (List.getElem_mem hj)⟩
  all_goals
    rename_i a
    obtain ⟨h1, h2, h3⟩ := h
    refine ⟨_, rfl, _, rfl, _, rfl, a.length, rfl, by omega, by omega, hc, fun m m0 m1 => ?_⟩
    obtain ⟨j, rfl⟩ := Int.eq_ofNat_of_zero_le m0
    have hj : j < a.length := by omega
    exact ⟨_, atI_nat (List.getElem?_eq_getElem hj), _, Nat.le_refl _, h3 _ (List.getElem_mem hj)⟩
-- @hash 750ffaee
-- @rec 32
def spn__law_leaves (n : Nat) : DSp := fun ds mu c P PX => ∃ f : Fm, ds = [f.toD] ∧ f.depth < n ∧ f.depth ≤ 18 ∧ P (.lst (f.leaves.map Fm.toD)) mu c
def sp__law_leaves : DSp := spn__law_leaves 32
theorem leaves_18 {f : Fm} (h : f.depth ≤ 18) : (f.leaves.map Fm.toD).length ≤ 1048576 := by rw [List.length_map]; exact leaves_24 (by omega)
def m__law_leaves (self : DSp) : MS := (mRet (mIf (mB (mOp eqD (mCB lenD (mCons (mVar 0) mNil)) (mC (.int 2)))) (mLst (mCons (mVar 0) mNil)) (mOp addD (mCall self (mCons (mOp subD (mVar 0) (mC (.int 1))) mNil)) (mCall self (mCons (mOp subD (mVar 0) (mC (.int 2))) mNil)))))
theorem rd__law_leaves (n : Nat) (ds : List D) (mu : Mu) (c : Nat) (P : D → Mu → Nat → Prop) (PX : Ex → Mu → Nat → Prop) (h : spn__law_leaves (n + 1) ds mu c P PX) : m__law_leaves (spn__law_leaves n) (S0 ["_law_form"] ["_law_form"] ds mu c) (EF P) (XF PX) := by
  obtain ⟨f, rfl, hn, hd, h⟩ := h
  cases f with
  | leaf w x =>
    refine ⟨_, rfl, ceq_of (n := 0) (m := 0) rfl rfl, _, rfl, ?_⟩
    refine iteT ?_
    exact ⟨_, rfl, shortL 1 rfl, c, Nat.le_refl _, h⟩
  | node w a b =>
    have hd' : max a.depth b.depth + 1 ≤ 18 := hd
    have hn' : max a.depth b.depth + 1 < n + 1 := hn
    refine ⟨_, rfl, ceq_of (n := 0) (m := 0) rfl rfl, _, rfl, ?_⟩
    refine iteF ?_
    refine ⟨_, rfl, _, rfl, a, rfl, by omega, by omega, ?_⟩
    refine ⟨_, rfl, _, rfl, b, rfl, by omega, by omega, ?_⟩
    refine ⟨?_, c, Nat.le_refl _, ?_⟩
    · have := leaves_18 (f := a) (by omega)
      have := leaves_18 (f := b) (by omega)
      exact two_lines (by assumption) (by assumption)
    · dsimp only
      rw [← List.map_append]
      exact h
-- @hash 391625fe
def sp__law_leaf_many : DSp := fun ds mu c P PX => ∃ fs : List Fm, ds = [.lst (fs.map Fm.toD)] ∧ fs.length ≤ 1000001 ∧ (∀ f ∈ fs, f.depth ≤ 18) ∧ P (.int (leafN fs : Int)) mu c
def m__law_leaf_many : MS := (mRet (mCB sumD (mCons (mLc (mItems (mVar 0)) [1] (gN 1) mYes (mCB lenD (mCons (mCall sp__law_leaves (mCons (mVar 1) mNil)) mNil))) mNil)))
theorem rd__law_leaf_many (ds : List D) (mu : Mu) (c : Nat) (P : D → Mu → Nat → Prop) (PX : Ex → Mu → Nat → Prop) (h : sp__law_leaf_many ds mu c P PX) : m__law_leaf_many (S0 ["_law_ends", "_law_form"] ["_law_ends"] ds mu c) (EF P) (XF PX) := by
  obtain ⟨fs, rfl, hl, hd, h⟩ := h
  have hL : (LINE : Nat) = 16777216 := rfl
  refine ⟨_, rfl, ?_⟩
  refine lc_rel (fun x y => ∃ f : Fm, x = f.toD ∧ y = .int (f.leaves.length : Int)) 0 c _ _ _ (fun d hm c1 K hc1 hK => ?_) (by rw [List.length_map]; simp; omega) (by simp) (fun ys hys => ?_)
  · obtain ⟨f, hf, rfl⟩ := List.mem_map.mp hm
    refine ⟨_, rfl, f, rfl, by have := hd f hf; omega, hd f hf, ?_⟩
    exact hK _ ⟨f, rfl, by rw [List.length_map]⟩
  · rw [fm_rel hys]
    refine ⟨_, intsOf_map fs _, c, by simp, ?_⟩
    rw [sum_cast]
    exact h
-- @hash b8c1818e
-- @rec 60
-- @eqk
mutual
/-- plain data at most n deep, dicts of such at its leaves -/
def D.thin : D → Nat → Bool
  | .non, _ => true
  | .bl _, _ => true
  | .int _, _ => true
  | .str s, _ => PyData.strOk s
  | .tup ds, n => decide (0 < n) && D.thins ds (n - 1)
  | .lst ds, n => decide (0 < n) && D.thins ds (n - 1)
  | .dct es, _ => decide (es.map (·.1)).Nodup && es.all fun p => p.2.ok 60
  | .pen, _ => false
  | .ref _, _ => false
def D.thins : List D → Nat → Bool
  | [], _ => true
  | d :: ds, n => D.thin d n && D.thins ds n
end
mutual
theorem D.ok_thin : ∀ (d : D) (n : Nat), d.ok n = true → d.thin n = true
  | .non, _, _ => rfl
  | .bl _, _, _ => rfl
  | .int _, _, _ => rfl
  | .str s, _, h => h
  | .tup ds, n, h => Bool.and_eq_true_iff.mpr ⟨(Bool.and_eq_true_iff.mp h).1, D.oks_thins ds _ (Bool.and_eq_true_iff.mp h).2⟩
  | .lst ds, n, h => Bool.and_eq_true_iff.mpr ⟨(Bool.and_eq_true_iff.mp h).1, D.oks_thins ds _ (Bool.and_eq_true_iff.mp h).2⟩
  | .dct _, _, h => by cases h
  | .pen, _, h => by cases h
  | .ref _, _, h => by cases h
theorem D.oks_thins : ∀ (d : List D) (n : Nat), D.oks d n = true → D.thins d n = true
  | [], _, _ => rfl
  | d :: ds, n, h => Bool.and_eq_true_iff.mpr ⟨D.ok_thin d n (Bool.and_eq_true_iff.mp h).1, D.oks_thins ds n (Bool.and_eq_true_iff.mp h).2⟩
end
theorem D.thins_mem {ds : List D} {n : Nat} (h : D.thins ds n = true) : ∀ d ∈ ds, d.thin n = true := by
  induction ds with
  | nil => intro d hd; cases hd
  | cons x ds ih =>
    intro d hd
    have h' := Bool.and_eq_true_iff.mp h
    rcases List.mem_cons.mp hd with e | e
    · rw [e]; exact h'.1
    · exact ih h'.2 d e
def spn__law_same (n : Nat) : DSp := fun ds mu c P PX => ∃ d : D, ds = [d, d] ∧ 0 < n ∧ d.thin (n - 1) = true ∧ n ≤ 64 ∧ P (.bl true) mu c
def sp__law_same : DSp := spn__law_same 60
theorem zipD_self {xs : List D} {d : D} (h : d ∈ zipD xs xs) : ∃ x ∈ xs, d = .tup [x, x] := by
  unfold zipD at h
  obtain ⟨i, hi, rfl⟩ := List.mem_map.mp h
  have hi' : i < xs.length := by simpa using hi
  refine ⟨xs[i], List.getElem_mem hi', ?_⟩
  simp [hi']
def D.flat : D → Bool
  | .non => true
  | .bl _ => true
  | .int _ => true
  | .str _ => true
  | _ => false
theorem eqv_self : ∀ (d : D), d.flat = true → eqvD d d = true
  | .non, _ => rfl
  | .bl b, _ => by rw [eqv_bl2]; exact beq_self_eq_true b
  | .int i, _ => by rw [eqv_int2]; exact beq_self_eq_true i
  | .str s, _ => by rw [eqv_str2]; exact beq_self_eq_true s
theorem eqDK_flat {mu : Mu} {d : D} {P : D → Prop} (h : d.flat = true) (k : eqD mu d d P) : eqDK mu d d P := by
  cases d <;> first | exact k | cases h
theorem thins_of {ds : List D} {n : Nat} (h : ∀ d ∈ ds, d.thin n = true) : D.thins ds n = true := by
  induction ds with
  | nil => rfl
  | cons x ds ih => exact Bool.and_eq_true_iff.mpr ⟨h x List.mem_cons_self, ih fun d hd => h d (List.mem_cons_of_mem _ hd)⟩
theorem thin_lst {ds : List D} {n : Nat} (h : ∀ d ∈ ds, d.thin n = true) : (D.lst ds).thin (n + 1) = true := Bool.and_eq_true_iff.mpr ⟨rfl, thins_of h⟩
theorem thin_tup {ds : List D} {n : Nat} (h : ∀ d ∈ ds, d.thin n = true) : (D.tup ds).thin (n + 1) = true := Bool.and_eq_true_iff.mpr ⟨rfl, thins_of h⟩
def m__law_same (self : DSp) : MS := (mSeq (mIfS (mB (mIsi2 "tuple" "list" (mVar 1))) (mSeq (mIfS (mOr (mB (mOp neD (mIsi "tuple" (mVar 0)) (mIsi "tuple" (mVar 1)))) (mB (mOp neD (mIsi "list" (mVar 0)) (mIsi "list" (mVar 1))))) (mRet (mC (.bl false))) mNext)
  (mRet (mAndV (mOp eqDK (mCB lenD (mCons (mVar 0) mNil)) (mCB lenD (mCons (mVar 1) mNil))) (mCB allD (mCons (mLc (mZip (mCons (mLn (mVar 0)) (mCons (mLn (mVar 1)) mNil))) [2, 3] (gT 2 (gsC (gN 2) (gsC (gN 3) gsN))) mYes (mCall self (mCons (mVar 2) (mCons (mVar 3) mNil)))) mNil))))) mNext)
  (mRet (mAndV (mOp eqDK (mIsi "bool" (mVar 0)) (mIsi "bool" (mVar 1))) (mOp eqDK (mVar 0) (mVar 1)))))
theorem rd__law_same (n : Nat) (ds : List D) (mu : Mu) (c : Nat) (P : D → Mu → Nat → Prop) (PX : Ex → Mu → Nat → Prop) (h : spn__law_same (n + 1) ds mu c P PX) : m__law_same (spn__law_same n) (S0 ["_law_told", "_law_due", "_law_one", "_law_other"] ["_law_told", "_law_due"] ds mu c) (EF P) (XF PX) := by
  obtain ⟨d, rfl, hn, hth, h64, h⟩ := h
  have hth : d.thin n = true := hth
  have tt : ∀ b : Bool, (!eqvD (.bl b) (.bl b)) = false := fun b => by rw [eqv_bl2, beq_self_eq_true]; rfl
  have tt2 : ∀ b : Bool, eqvD (.bl b) (.bl b) = true := fun b => by rw [eqv_bl2]; exact beq_self_eq_true b
  have il : ∀ xs : List D, eqvD (.int (xs.length : Int)) (.int (xs.length : Int)) = true := fun xs => by rw [eqv_int2]; exact beq_self_eq_true _
  have hty : d.ty.isSome = true := by cases d <;> first | rfl | cases hth
  have flat : d.flat = true → m__law_same (spn__law_same n) (S0 ["_law_told", "_law_due", "_law_one", "_law_other"] ["_law_told", "_law_due"] [d, d] mu c) (EF P) (XF PX) := fun hfl => by
    have e0 : (d.isTy "tuple" || d.isTy "list") = false := by cases d <;> first | rfl | cases hfl
    refine ⟨d, rfl, hty, _, rfl, ?_⟩
    rw [e0]
    refine iteF ?_
    refine ⟨d, rfl, hty, d, rfl, hty, ceq_of (n := 0) (m := 0) rfl rfl, _, rfl, ?_⟩
    rw [tt2]
    refine iteT ?_
    have hok' : d.ok 0 = true := by cases d <;> first | rfl | exact hth | cases hfl
    refine ⟨d, rfl, d, rfl, eqDK_flat hfl ⟨ceq_of hok' hok', c, Nat.le_refl _, ?_⟩⟩
    rw [eqv_self d hfl]
    exact h
  cases d with
  | non => exact flat rfl
  | bl b => exact flat rfl
  | int b => exact flat rfl
  | str b => exact flat rfl
  | dct es =>
    obtain ⟨h1, h2⟩ := Bool.and_eq_true_iff.mp hth
    have o : okK es := fun p hp => List.all_eq_true.mp h2 p hp
    refine ⟨_, rfl, rfl, _, rfl, ?_⟩
    refine iteF ?_
    refine ⟨_, rfl, rfl, _, rfl, rfl, ceq_of (n := 0) (m := 0) rfl rfl, _, rfl, ?_⟩
    refine iteTh (tt2 _) ?_
    refine ⟨_, rfl, _, rfl, o, o, c, Nat.le_refl _, ?_⟩
    rw [eqK_self (of_decide_eq_true h1) o]
    exact h
  | pen => exact absurd (show false = true from hth) Bool.false_ne_true
  | ref b => exact absurd (show false = true from hth) Bool.false_ne_true
  | tup xs =>
    refine ⟨_, rfl, rfl, _, rfl, ?_⟩
    obtain ⟨o1, o3⟩ := Bool.and_eq_true_iff.mp hth
    have o1' : 0 < n := of_decide_eq_true o1
    refine iteT ?_
    refine ⟨_, rfl, rfl, _, rfl, rfl, ceq_of (n := 0) (m := 0) rfl rfl, _, rfl, ?_⟩
    refine iteF ⟨_, rfl, rfl, _, rfl, rfl, ceq_of (n := 0) (m := 0) rfl rfl, _, rfl, ?_⟩
    refine iteF ?_
    refine ⟨_, rfl, _, rfl, ceq_of (n := 0) (m := 0) rfl rfl, _, rfl, ?_⟩
    rw [il]
    refine iteT ?_
    refine ⟨_, rfl, fun hl => ⟨_, rfl, fun _ => ⟨xs, xs, .inr rfl, ?_⟩⟩⟩
    have hl : xs.length ≤ LINE := hl
    refine lc_rel (fun _ y => y = .bl true) 0 c _ _ _ (fun d hd c1 K hc1 hK => ?_) (by rw [zipD_len]; simp; omega) (by simp) (fun ys hys => ?_)
    · obtain ⟨x, hx, rfl⟩ := zipD_self hd
      refine ⟨_, rfl, rfl, x, _, rfl, x, _, rfl, rfl, ?_⟩
      refine ⟨x, rfl, x, rfl, x, rfl, o1', D.thins_mem o3 x hx, by omega, ?_⟩
      exact hK _ rfl
    · obtain ⟨bs, e1, e2⟩ := all_rel hys
      refine ⟨bs, e1, c, by simp, ?_⟩
      rw [e2]
      exact h
  | lst xs =>
    refine ⟨_, rfl, rfl, _, rfl, ?_⟩
    obtain ⟨o1, o3⟩ := Bool.and_eq_true_iff.mp hth
    have o1' : 0 < n := of_decide_eq_true o1
    refine iteT ?_
    refine ⟨_, rfl, rfl, _, rfl, rfl, ceq_of (n := 0) (m := 0) rfl rfl, _, rfl, ?_⟩
    refine iteF ⟨_, rfl, rfl, _, rfl, rfl, ceq_of (n := 0) (m := 0) rfl rfl, _, rfl, ?_⟩
    refine iteF ?_
    refine ⟨_, rfl, _, rfl, ceq_of (n := 0) (m := 0) rfl rfl, _, rfl, ?_⟩
    rw [il]
    refine iteT ?_
    refine ⟨_, rfl, fun hl => ⟨_, rfl, fun _ => ⟨xs, xs, .inl rfl, ?_⟩⟩⟩
    have hl : xs.length ≤ LINE := hl
    refine lc_rel (fun _ y => y = .bl true) 0 c _ _ _ (fun d hd c1 K hc1 hK => ?_) (by rw [zipD_len]; simp; omega) (by simp) (fun ys hys => ?_)
    · obtain ⟨x, hx, rfl⟩ := zipD_self hd
      refine ⟨_, rfl, rfl, x, _, rfl, x, _, rfl, rfl, ?_⟩
      refine ⟨x, rfl, x, rfl, x, rfl, o1', D.thins_mem o3 x hx, by omega, ?_⟩
      exact hK _ rfl
    · obtain ⟨bs, e1, e2⟩ := all_rel hys
      refine ⟨bs, e1, c, by simp, ?_⟩
      rw [e2]
      exact h
-- @hash c94f9976
-- @clo
def csp__law_fault : CSp := fun B ds mu c P PX => ds = [] ∧ B mu c (fun _ mu c => P .non mu c) (fun x mu c => ∃ v, (x.cls = "BadValue" ∧ x.fs = [(("value" : Str), v)] ∧ P (.tup [.str "value", v]) mu c) ∨ (x.cls = "NotAText" ∧ x.fs = [(("at" : Str), v)] ∧ P (.tup [.str "text", v]) mu c) ∨ (x.cls = "TooDeep" ∧ x.fs = [(("most" : Str), v)] ∧ P (.tup [.str "deep", v]) mu c) ∨ (x.cls = "TooMany" ∧ x.fs = [(("most" : Str), v)] ∧ P (.tup [.str "many", v]) mu c))
def m__law_fault (g : Addr) (B : Beh) : MS := (mSeq (mSet 1 (mC .non))
  (mSeq (mTryM (mDrop (mAct 0 g B)) [⟨"BadValue", some 2, fun a dd => (mSet 1 (mTup (mCons (mC (.str "value")) (mCons (mBy "value" dd (mVar 2) a) mNil))))⟩, ⟨"NotAText", some 2, fun a dd => (mSet 1 (mTup (mCons (mC (.str "text")) (mCons (mBy "at" dd (mVar 2) a) mNil))))⟩, ⟨"TooDeep", some 2, fun a dd => (mSet 1 (mTup (mCons (mC (.str "deep")) (mCons (mBy "most" dd (mVar 2) a) mNil))))⟩, ⟨"TooMany", some 2, fun a dd => (mSet 1 (mTup (mCons (mC (.str "many")) (mCons (mBy "most" dd (mVar 2) a) mNil))))⟩])
  (mRet (mVar 1))))
theorem rd__law_fault (g : Addr) (B : Beh) (hB : BMono B) (ds : List D) (mu : Mu) (c : Nat) (P : D → Mu → Nat → Prop) (PX : Ex → Mu → Nat → Prop) (h : csp__law_fault B ds mu c P PX) : ds.length = 0 ∧ m__law_fault g B (S0 ["_law_deed", "_law_told", "e"] ["_law_deed"] (.ref g :: ds) mu c) (EF P) (XF PX) := by
  obtain ⟨rfl, h⟩ := h
  refine ⟨rfl, rfl, hB _ _ _ _ _ _ h (fun d mu1 c1 h1 => ?_) (fun x mu1 c1 h1 => ?_)⟩
  · exact ⟨_, rfl, c1, Nat.le_refl _, h1⟩
  · obtain ⟨v, h1⟩ := h1
    obtain ⟨xc, xf⟩ := x
    rcases h1 with ⟨e1, e2, h1⟩ | ⟨e1, e2, h1⟩ | ⟨e1, e2, h1⟩ | ⟨e1, e2, h1⟩
    all_goals
      simp only at e1 e2
      subst e1
      subst e2
    · have fin : ∀ (w : Str) (dd : Addr), mu1 dd = none → P (.tup [.str w, v]) mu1 c1 → ∀ fs, P (.tup [.str w, v]) (muSet (muSet mu1 dd (some (.xd fs))) dd none) c1 := fun w dd hdd hp fs => by rw [muSet_undo hdd]; exact hp
      refine mGo_hit rfl ⟨List.cons_ne_nil _ _, fun a dd hdd => ?_⟩
      exact ⟨_, rfl, rfl, v, muSet_same, shortL 2 rfl, _, rfl, c1, Nat.le_refl _, fin _ dd hdd h1 _⟩
    · have fin : ∀ (w : Str) (dd : Addr), mu1 dd = none → P (.tup [.str w, v]) mu1 c1 → ∀ fs, P (.tup [.str w, v]) (muSet (muSet mu1 dd (some (.xd fs))) dd none) c1 := fun w dd hdd hp fs => by rw [muSet_undo hdd]; exact hp
      refine mGo_skip (show ¬ ("NotAText" : Str) = "BadValue" by decide +kernel) (mGo_hit rfl ⟨List.cons_ne_nil _ _, fun a dd hdd => ?_⟩)
      exact ⟨_, rfl, rfl, v, muSet_same, shortL 2 rfl, _, rfl, c1, Nat.le_refl _, fin _ dd hdd h1 _⟩
    · have fin : ∀ (w : Str) (dd : Addr), mu1 dd = none → P (.tup [.str w, v]) mu1 c1 → ∀ fs, P (.tup [.str w, v]) (muSet (muSet mu1 dd (some (.xd fs))) dd none) c1 := fun w dd hdd hp fs => by rw [muSet_undo hdd]; exact hp
      refine mGo_skip (show ¬ ("TooDeep" : Str) = "BadValue" by decide +kernel) (mGo_skip (show ¬ ("TooDeep" : Str) = "NotAText" by decide +kernel) (mGo_hit rfl ⟨List.cons_ne_nil _ _, fun a dd hdd => ?_⟩))
      exact ⟨_, rfl, rfl, v, muSet_same, shortL 2 rfl, _, rfl, c1, Nat.le_refl _, fin _ dd hdd h1 _⟩
    · have fin : ∀ (w : Str) (dd : Addr), mu1 dd = none → P (.tup [.str w, v]) mu1 c1 → ∀ fs, P (.tup [.str w, v]) (muSet (muSet mu1 dd (some (.xd fs))) dd none) c1 := fun w dd hdd hp fs => by rw [muSet_undo hdd]; exact hp
      refine mGo_skip (show ¬ ("TooMany" : Str) = "BadValue" by decide +kernel) (mGo_skip (show ¬ ("TooMany" : Str) = "NotAText" by decide +kernel) (mGo_skip (show ¬ ("TooMany" : Str) = "TooDeep" by decide +kernel) (mGo_hit rfl ⟨List.cons_ne_nil _ _, fun a dd hdd => ?_⟩)))
      exact ⟨_, rfl, rfl, v, muSet_same, shortL 2 rfl, _, rfl, c1, Nat.le_refl _, fin _ dd hdd h1 _⟩
-- @hash c4ba0b94
-- @clo
def csp__law_faults : CSp := fun B ds mu c P PX => ∃ w : Str × D, ds = [.tup [.str w.1, w.2]] ∧ (D.tup [.str w.1, w.2]).thin 59 = true ∧ B mu c (fun _ _ _ => False) (fun x mu c => P (.bl true) mu c ∧ ((x.cls = "BadValue" ∧ x.fs = [(("value" : Str), w.2)] ∧ w.1 = "value") ∨ (x.cls = "NotAText" ∧ x.fs = [(("at" : Str), w.2)] ∧ w.1 = "text") ∨ (x.cls = "TooDeep" ∧ x.fs = [(("most" : Str), w.2)] ∧ w.1 = "deep") ∨ (x.cls = "TooMany" ∧ x.fs = [(("most" : Str), w.2)] ∧ w.1 = "many")))
def m__law_faults (g : Addr) (B : Beh) : MS := (mSeq (mSet 2 (mPassC csp__law_fault 0 g B mNil))
  (mRet (mAndV (mOp notND (mVar 2) (mC .non)) (mCall sp__law_same (mCons (mVar 2) (mCons (mVar 1) mNil))))))
theorem rd__law_faults (g : Addr) (B : Beh) (hB : BMono B) (ds : List D) (mu : Mu) (c : Nat) (P : D → Mu → Nat → Prop) (PX : Ex → Mu → Nat → Prop) (h : csp__law_faults B ds mu c P PX) : ds.length = 1 ∧ m__law_faults g B (S0 ["_law_deed", "_law_due", "_law_told"] ["_law_deed", "_law_due"] (.ref g :: ds) mu c) (EF P) (XF PX) := by
  obtain ⟨⟨w, v⟩, rfl, ht, h⟩ := h
  have ht' : (D.tup [.str w, v]).thin 59 = true := ht
  refine ⟨rfl, rfl, rfl, hB _ _ _ _ _ _ h (fun _ _ _ z => z.elim) (fun x mu1 c1 h1 => ?_)⟩
  obtain ⟨hp, h1⟩ := h1
  have fin : (mRet (mAndV (mOp notND (mVar 2) (mC .non)) (mCall sp__law_same (mCons (mVar 2) (mCons (mVar 1) mNil)))) : MS) ⟨[some (.ref g), some (.tup [.str w, v]), some (.tup [.str w, v])], mu1, c1⟩ (EF P) (XF PX) := by
    refine ⟨_, rfl, rfl, true, rfl, ?_⟩
    refine iteT ⟨_, rfl, _, rfl, .tup [.str w, v], rfl, by decide, ht', by decide, c1, Nat.le_refl _, hp⟩
  refine ⟨v, ?_⟩
  rcases h1 with ⟨e1, e2, e3⟩ | ⟨e1, e2, e3⟩ | ⟨e1, e2, e3⟩ | ⟨e1, e2, e3⟩
  · have e3' : w = "value" := e3
    subst e3'
    exact .inl ⟨e1, e2, fin⟩
  · have e3' : w = "text" := e3
    subst e3'
    exact .inr (.inl ⟨e1, e2, fin⟩)
  · have e3' : w = "deep" := e3
    subst e3'
    exact .inr (.inr (.inl ⟨e1, e2, fin⟩))
  · have e3' : w = "many" := e3
    subst e3'
    exact .inr (.inr (.inr ⟨e1, e2, fin⟩))
-- @hash 907b268a
def sp__law_name : DSp := fun ds mu c P PX => ∃ _u : Unit, ds = [.pen] ∧ c + 13 ≤ LIM ∧ ∀ s : Str, isNameL s.cps.toList = true → P (.str s) mu (c + 13)
def m__law_name : MS := (mSeq (mSet 1 (mC (.str "abcdefghijklmnopqrstuvwxyz")))
  (mSeq (mSet 2 (mCall sp__law_pick (mCons (mVar 0) (mCons (mLst (mCons (mC (.int 0)) (mCons (mC (.int 0)) (mCons (mC (.int 1)) (mCons (mC (.int 2)) (mCons (mC (.int 5)) (mCons (mC (.int 10)) (mCons (mC (.int 11)) mNil)))))))) mNil))))
  (mSeq (mSet 3 (mLc (mRng1 (mCons (mVar 2) mNil)) [4] (gN 4) mYes (mCall sp__law_pick (mCons (mVar 0) (mCons (mOp addD (mVar 1) (mC (.str "0123456789"))) mNil)))))
  (mRet (mM1 joinD (mC (.str "")) (mOp addD (mLst (mCons (mCall sp__law_pick (mCons (mVar 0) (mCons (mVar 1) mNil))) mNil)) (mVar 3)))))))
theorem sum_ones : ∀ l : List Nat, ((l.map fun k => (⟨#[k]⟩ : Str)).map (·.length)).sum = l.length
  | [] => rfl
  | k :: l => by rw [List.map_cons, List.map_cons, List.sum_cons, sum_ones l, List.length_cons, Nat.add_comm]; rfl
theorem rd__law_name (ds : List D) (mu : Mu) (c : Nat) (P : D → Mu → Nat → Prop) (PX : Ex → Mu → Nat → Prop) (h : sp__law_name ds mu c P PX) : m__law_name (S0 ["_law_pen", "_law_letters", "_law_many", "_law_rest", "_law_k"] ["_law_pen"] ds mu c) (EF P) (XF PX) := by
  obtain ⟨_, rfl, hc, h⟩ := h
  have hL : (LINE : Nat) = 16777216 := rfl
  refine ⟨_, rfl, by decide, _, rfl, by show c < LIM; omega, by decide, by decide, fun x hx => ?_⟩
  have hj : ∃ j : Int, x = .int j ∧ 0 ≤ j ∧ j ≤ 11 := by
    simp only [List.mem_cons, List.not_mem_nil, or_false] at hx
    rcases hx with rfl | rfl | rfl | rfl | rfl | rfl | rfl <;> exact ⟨_, rfl, by decide, by decide⟩
  obtain ⟨j, rfl, j0, j1⟩ := hj
  obtain ⟨j, rfl⟩ := Int.eq_ofNat_of_zero_le j0
  refine ⟨_, rfl, j, rfl, by omega, by omega, ?_⟩
  refine lc_rel (fun _ y => ∃ k : Nat, y = .str ⟨#[k]⟩ ∧ k ∈ alnum) 1 (c + 12) _ _ _ (fun d hd c1 K hc1 hK => ?_) ?_ ?_ (fun ys hys => ?_)
  · refine ⟨_, rfl, _, rfl, by decide +kernel, _, rfl, by show c1 < LIM; omega, by decide +kernel, by decide +kernel, fun k hk => ?_⟩
    exact hK _ ⟨k, rfl, hk⟩
  · rw [rngD_len]; simp; omega
  · rw [rngD_len]
    show c + 1 + 1 * ((j : Nat) : Int).toNat ≤ c + 12
    omega
  · obtain ⟨ks, rfl, hl, hks⟩ := all2_ex (fun k : Nat => D.str ⟨#[k]⟩) (fun k => k ∈ alnum) hys
    rw [rngD_len] at hl
    have hl' : ks.length = j := by simpa using hl
    refine ⟨⟨_, rfl⟩, _, rfl, _, rfl, _, rfl, ?_, by decide +kernel, by decide +kernel, fun k hk => ?_⟩
    · show c + 1 + 1 * (rngD 0 ((j : Nat) : Int).toNat).length < LIM
      rw [rngD_len]
      simp only [Int.toNat_natCast]
      omega
    refine ⟨shortL 1 rfl, _, rfl, ?_, (k :: ks).map fun k => ⟨#[k]⟩, strsOf_map (fun k : Nat => (⟨#[k]⟩ : Str)) (k :: ks), ?_, c + 13, ?_, ?_⟩
    · show [D.str ⟨#[k]⟩].length + ([] ++ ks.map fun k : Nat => D.str ⟨#[k]⟩).length ≤ LINE
      simp
      omega
    · rw [sum_ones]
      show (k :: ks).length + _ * 0 ≤ LINE
      simp
      omega
    · show c + 1 + 1 * (rngD 0 ((j : Nat) : Int).toNat).length + 1 ≤ c + 13
      rw [rngD_len]
      simp only [Int.toNat_natCast]
      omega
    · refine h _ ?_
      rw [join_ones]
      simp only [isNameL, Bool.and_eq_true, decide_eq_true_eq]
      refine ⟨by simp; omega, hk, ?_⟩
      rw [List.all_eq_true]
      intro x hx
      rcases List.mem_cons.mp hx with e | e
      · rw [e]; exact decide_eq_true (letters_alnum k hk)
      · exact decide_eq_true (hks x e)
-- @hash ba47f826
def sp__law_names : DSp := fun ds mu c P PX => ∃ most : Nat, ds = [.pen, .int most] ∧ 0 < most ∧ most ≤ 1000 ∧ c + (1 + 13 * most) ≤ LIM ∧ ∀ ns : List Str, 0 < ns.length → ns.length ≤ most → (∀ s ∈ ns, isNameL s.cps.toList = true) → P (.lst (ns.map D.str)) mu (c + (1 + 13 * most))
def m__law_names : MS := (mRet (mLc (mRng1 (mCons (mOp addD (mC (.int 1)) (mCall sp__law_draw (mCons (mVar 0) (mCons (mVar 1) mNil)))) mNil)) [2] (gN 2) mYes (mCall sp__law_name (mCons (mVar 0) mNil))))
theorem rd__law_names (ds : List D) (mu : Mu) (c : Nat) (P : D → Mu → Nat → Prop) (PX : Ex → Mu → Nat → Prop) (h : sp__law_names ds mu c P PX) : m__law_names (S0 ["_law_pen", "_law_most", "_law_k"] ["_law_pen", "_law_most"] ds mu c) (EF P) (XF PX) := by
  obtain ⟨most, rfl, h0, h1, hc, h⟩ := h
  have hL : (LINE : Nat) = 16777216 := rfl
  refine ⟨_, rfl, _, rfl, (most : Int), rfl, by omega, by omega, by show c < LIM; omega, fun m m0 m1 => ?_⟩
  obtain ⟨j, rfl⟩ := Int.eq_ofNat_of_zero_le m0
  refine ⟨1 + (j : Int), rfl, by omega, by omega, ?_⟩
  have ej : ((1 : Int) + (j : Int)).toNat = j + 1 := by omega
  rw [ej]
  refine lc_rel (fun _ y => ∃ s : Str, y = .str s ∧ isNameL s.cps.toList = true) 13 (c + (1 + 13 * most)) _ _ _ (fun d hd c1 K hc1 hK => ?_) ?_ ?_ (fun ys hys => ?_)
  · refine ⟨_, rfl, (), rfl, by show c1 + 13 ≤ LIM; omega, fun s hs => ?_⟩
    exact hK _ ⟨s, rfl, hs⟩
  · rw [rngD_len]; simp; omega
  · rw [rngD_len]
    show c + 1 + 13 * (j + 1) ≤ _
    omega
  · obtain ⟨ks, rfl, hl, hks⟩ := all2_ex D.str (fun s => isNameL s.cps.toList = true) hys
    rw [rngD_len] at hl
    refine ⟨c + (1 + 13 * most), ?_, h ks (by omega) (by omega) hks⟩
    show c + 1 + 13 * (rngD 0 (j + 1)).length ≤ _
    rw [rngD_len]
    omega
-- @hash d4c79e00
-- @rec 13
structure ShA where
  ns : List Str
  many : Nat
  tall : Nat
def spn__law_shape (n : Nat) : DSp := fun ds mu c P PX => ∃ q : ShA, ds = [.pen, .lst (q.ns.map D.str), .int q.many, .int q.tall] ∧ q.tall < n ∧ q.tall ≤ 12 ∧ 1 ≤ q.many ∧ q.many ≤ 2 ^ q.tall ∧ 0 < q.ns.length ∧ q.ns.length ≤ 1000 ∧ (∀ s ∈ q.ns, isNameL s.cps.toList = true) ∧ c + (5 * q.many - 3) ≤ LIM ∧
  ∀ f : Fm, f.ok = true → f.depth ≤ q.tall → f.leaves.length = q.many → P f.toD mu (c + (5 * q.many - 3))
def sp__law_shape : DSp := spn__law_shape 13
theorem shape_sum {w : Str} {f1 f2 : Fm} {many left : Nat} (b1 : 1 ≤ left) (b3 : left ≤ many - 1) (h1 : f1.leaves.length = left) (h2 : f2.leaves.length = many - left) : (Fm.node w f1 f2).leaves.length = many := by
  show (f1.leaves ++ f2.leaves).length = many
  rw [List.length_append, h1, h2]
  omega
def m__law_shape (self : DSp) : MS := (mSeq (mIfS (mB (mOp eqD (mVar 2) (mC (.int 1)))) (mRet (mTup (mCons (mCall sp__law_pick (mCons (mVar 0) (mCons (mLst (mCons (mC (.str "good")) (mCons (mC (.str "counter")) mNil))) mNil))) (mCons (mCall sp__law_pick (mCons (mVar 0) (mCons (mVar 1) mNil))) mNil)))) mNext)
  (mSeq (mSet 4 (mOp shlD (mC (.int 1)) (mOp subtD (mVar 3) (mC (.int 1)))))
  (mSeq (mPar 5 6 (mCons (mCB maxD (mCons (mC (.int 1)) (mCons (mOp subtD (mVar 2) (mVar 4)) mNil))) (mCons (mCB minD (mCons (mOp subtD (mVar 2) (mC (.int 1))) (mCons (mVar 4) mNil))) mNil)))
  (mSeq (mSet 7 (mCall sp__law_draw (mCons (mVar 0) (mCons (mC (.int 5)) mNil))))
  (mSeq (mSet 8 (mOp addD (mVar 5) (mCall sp__law_draw (mCons (mVar 0) (mCons (mOp addD (mOp subtD (mVar 6) (mVar 5)) (mC (.int 1))) mNil)))))
  (mSeq (mIfS (mB (mOp ltD (mVar 7) (mC (.int 2)))) (mSet 8 (mIf (mB (mOp eqD (mVar 7) (mC (.int 0)))) (mVar 5) (mVar 6))) mNext)
  (mSeq (mSet 9 (mCall sp__law_pick (mCons (mVar 0) (mCons (mLst (mCons (mC (.str "both")) (mCons (mC (.str "between")) (mCons (mC (.str "offered")) (mCons (mC (.str "chosen")) mNil))))) mNil))))
  (mSeq (mSet 10 (mCall self (mCons (mVar 0) (mCons (mVar 1) (mCons (mVar 8) (mCons (mOp subtD (mVar 3) (mC (.int 1))) mNil))))))
  (mRet (mTup (mCons (mVar 9) (mCons (mVar 10) (mCons (mCall self (mCons (mVar 0) (mCons (mVar 1) (mCons (mOp subtD (mVar 2) (mVar 8)) (mCons (mOp subtD (mVar 3) (mC (.int 1))) mNil))))) mNil)))))))))))))
theorem rd__law_shape (n : Nat) (ds : List D) (mu : Mu) (c : Nat) (P : D → Mu → Nat → Prop) (PX : Ex → Mu → Nat → Prop) (h : spn__law_shape (n + 1) ds mu c P PX) : m__law_shape (spn__law_shape n) (S0 ["_law_pen", "_law_names_here", "_law_many", "_law_tall", "_law_room", "_law_low", "_law_high", "_law_way", "_law_left", "_law_word", "_law_one"] ["_law_pen", "_law_names_here", "_law_many", "_law_tall"] ds mu c) (EF P) (XF PX) := by
  obtain ⟨⟨ns, many, tall⟩, rfl, hn, ht, h1, h2, hns, hns2, hnm, hc, h⟩ := h
  simp only at hn ht h1 h2 hns hns2 hnm hc h
  have hL : LIM = 1152921504606846976 := rfl
  refine ⟨_, rfl, ceq_of (n := 0) (m := 0) rfl rfl, _, rfl, ?_⟩
  rw [show eqvD (.int (many : Int)) (.int 1) = decide (many = 1) by rw [eqv_int2, Bool.eq_iff_iff]; simp; omega]
  refine ite2 (fun c1 => ?_) (fun c1 => ?_)
  · have c1' : many = 1 := of_decide_eq_true c1
    subst c1'
    refine ⟨_, rfl, shortL 2 rfl, _, rfl, by show c < LIM; omega, Nat.succ_pos _, by show 2 < 1073741824; decide, fun w hw => ?_⟩
    refine ⟨_, rfl, _, rfl, _, rfl, by show c + 1 < LIM; omega, by rw [List.length_map]; exact hns, by rw [List.length_map]; show ns.length < 1073741824; omega, fun x hx => ?_⟩
    obtain ⟨s, hs, rfl⟩ := List.mem_map.mp hx
    have hw' : ∃ t : Str, w = .str t ∧ leafW (.str t) = true := by
      simp only [List.mem_cons, List.not_mem_nil, or_false] at hw
      rcases hw with rfl | rfl
      · exact ⟨_, rfl, by decide +kernel⟩
      · exact ⟨_, rfl, by decide +kernel⟩
    obtain ⟨t, rfl, ht'⟩ := hw'
    refine ⟨shortL 2 rfl, c + (5 * 1 - 3), Nat.le_refl _, h (.leaf t s) ?_ (Nat.zero_le _) rfl⟩
    exact Bool.and_eq_true_iff.mpr ⟨ht', hnm s hs⟩
  · have c1' : many ≠ 1 := fun z => c1 (decide_eq_true z)
    obtain ⟨tall, rfl⟩ : ∃ t, tall = t + 1 := by
      cases tall with
      | zero => simp at h2; omega
      | succ t => exact ⟨t, rfl⟩
    have hp : (2 : Nat) ^ (tall + 1) = 2 * 2 ^ tall := by rw [Nat.pow_succ, Nat.mul_comm]
    have hp2 : (2 : Nat) ^ tall ≤ 2 ^ 12 := Nat.pow_le_pow_right (by decide) (by omega)
    have hp3 : (2 : Nat) ^ 12 = 4096 := by decide
    obtain ⟨room, hr⟩ : ∃ r, r = 2 ^ tall := ⟨_, rfl⟩
    rw [hp] at h2
    rw [hp3] at hp2
    rw [← hr] at h2 hp2
    have er : (1 : Int) * 2 ^ ((((tall + 1 : Nat) : Int) - 1).toNat) = (room : Int) := by
      have : (((tall + 1 : Nat) : Int) - 1).toNat = tall := by omega
      rw [this, Int.one_mul, hr]
      push_cast
      rfl
    refine ⟨_, rfl, ⟨by show (0 : Int) ≤ ((tall + 1 : Nat) : Int) - 1; omega, by show ((tall + 1 : Nat) : Int) - 1 ≤ 1000000; omega, by decide⟩, ?_⟩
    dsimp only
    rw [er]
    have hlow : ∃ low : Nat, (if (many : Int) - room > 1 then (many : Int) - room else 1) = (low : Int) ∧ 1 ≤ low ∧ many ≤ low + room ∧ low ≤ many - 1 ∧ low ≤ room := by
      by_cases z : (many : Int) - room > 1
      · exact ⟨many - room, by rw [if_pos z]; omega, by omega, by omega, by omega, by omega⟩
      · exact ⟨1, by rw [if_neg z]; rfl, by omega, by omega, by omega, by omega⟩
    have hhigh : ∃ high : Nat, (if (room : Int) < (many : Int) - 1 then (room : Int) else (many : Int) - 1) = (high : Int) ∧ high ≤ many - 1 ∧ high ≤ room ∧ 1 ≤ high ∧ (high = room ∨ high = many - 1) := by
      by_cases z : (room : Int) < (many : Int) - 1
      · exact ⟨room, by rw [if_pos z], by omega, by omega, by omega, .inl rfl⟩
      · exact ⟨many - 1, by rw [if_neg z]; omega, by omega, by omega, by omega, .inr rfl⟩
    obtain ⟨low, el, l1, l2, l3, l4⟩ := hlow
    obtain ⟨high, eh, g1, g2, g3, g4⟩ := hhigh
    refine ⟨_, rfl, _, rfl, ?_⟩
    dsimp only [subtD, intD0, mNil, maxD]
    rw [el]
    refine ⟨_, rfl, _, rfl, ?_⟩
    dsimp only [subtD, intD0, mNil, minD]
    rw [eh]
    refine ⟨_, _, rfl, ?_⟩
    refine ⟨_, rfl, (5 : Int), rfl, by decide, by decide, by show c < LIM; omega, fun way w0 w1 => ?_⟩
    refine ⟨_, rfl, _, rfl, _, rfl, _, rfl, ((high : Int) - low + 1), rfl, by omega, by omega, by show c + 1 < LIM; omega, fun k k0 k1 => ?_⟩
    obtain ⟨k, rfl⟩ := Int.eq_ofNat_of_zero_le k0
    dsimp only [addD]
    rw [show (low : Int) + (k : Int) = ((low + k : Nat) : Int) by omega]
    have hk : k < high - low + 1 := by omega
    refine ⟨_, rfl, _, rfl, ?_⟩
    refine ite2 (fun c2 => ?_) (fun c2 => ?_)
    · refine ⟨_, rfl, ceq_of (n := 0) (m := 0) rfl rfl, _, rfl, ?_⟩
      refine ite2 (fun c3 => ?_) (fun c3 => ?_)
      · refine ⟨_, rfl, ?_⟩
        have b1 := l1
        have b2 := l2
        have b3 := l3
        have b4 := l4
        dsimp only
        revert b1 b2 b3 b4
        generalize low = left
        intro b1 b2 b3 b4
        refine ⟨_, rfl, shortL 4 rfl, _, rfl, by show c + 2 < LIM; omega, Nat.succ_pos _, by show 4 < 1073741824; decide, fun w hw => ?_⟩
        have hw' : ∃ t : Str, w = .str t ∧ halfW (.str t) = true := by
          simp only [List.mem_cons, List.not_mem_nil, or_false] at hw
          rcases hw with rfl | rfl | rfl | rfl <;> exact ⟨_, rfl, by decide +kernel⟩
        obtain ⟨t, rfl, ht'⟩ := hw'
        have et : (((tall + 1 : Nat) : Int) - 1) = (tall : Int) := by omega
        have em : (many : Int) - (left : Int) = ((many - left : Nat) : Int) := by omega
        refine ⟨_, rfl, _, rfl, _, rfl, _, rfl, ⟨ns, left, tall⟩, by show [D.pen, D.lst (ns.map D.str), D.int left, D.int (((tall + 1 : Nat) : Int) - 1)] = _; rw [et], by show tall < n; omega, by show tall ≤ 12; omega, b1, by show left ≤ 2 ^ tall; rw [← hr]; exact b4, hns, hns2, hnm, by show c + 3 + (5 * left - 3) ≤ LIM; omega, fun f1 f1o f1d f1l => ?_⟩
        refine ⟨_, rfl, _, rfl, _, rfl, _, rfl, _, rfl, _, rfl, _, rfl, ⟨ns, many - left, tall⟩, by show [D.pen, D.lst (ns.map D.str), D.int ((many : Int) - (left : Int)), D.int (((tall + 1 : Nat) : Int) - 1)] = _; rw [et, em], by show tall < n; omega, by show tall ≤ 12; omega, by show 1 ≤ many - left; omega, by show many - left ≤ 2 ^ tall; rw [← hr]; omega, hns, hns2, hnm, by show c + 3 + (5 * left - 3) + (5 * (many - left) - 3) ≤ LIM; omega, fun f2 f2o f2d f2l => ?_⟩
        refine ⟨shortL 3 rfl, c + (5 * many - 3), by show c + 3 + (5 * left - 3) + (5 * (many - left) - 3) ≤ c + (5 * many - 3); omega, h (.node t f1 f2) ?_ ?_ (shape_sum b1 b3 f1l f2l)⟩
        · exact Bool.and_eq_true_iff.mpr ⟨ht', Bool.and_eq_true_iff.mpr ⟨f1o, f2o⟩⟩
        · show max f1.depth f2.depth + 1 ≤ tall + 1
          have d1 : f1.depth ≤ tall := f1d
          have d2 : f2.depth ≤ tall := f2d
          omega
      · refine ⟨_, rfl, ?_⟩
        have b1 := g3
        have b2 : many ≤ high + room := by omega
        have b3 := g1
        have b4 := g2
        dsimp only
        revert b1 b2 b3 b4
        generalize high = left
        intro b1 b2 b3 b4
        refine ⟨_, rfl, shortL 4 rfl, _, rfl, by show c + 2 < LIM; omega, Nat.succ_pos _, by show 4 < 1073741824; decide, fun w hw => ?_⟩
        have hw' : ∃ t : Str, w = .str t ∧ halfW (.str t) = true := by
          simp only [List.mem_cons, List.not_mem_nil, or_false] at hw
          rcases hw with rfl | rfl | rfl | rfl <;> exact ⟨_, rfl, by decide +kernel⟩
        obtain ⟨t, rfl, ht'⟩ := hw'
        have et : (((tall + 1 : Nat) : Int) - 1) = (tall : Int) := by omega
        have em : (many : Int) - (left : Int) = ((many - left : Nat) : Int) := by omega
        refine ⟨_, rfl, _, rfl, _, rfl, _, rfl, ⟨ns, left, tall⟩, by show [D.pen, D.lst (ns.map D.str), D.int left, D.int (((tall + 1 : Nat) : Int) - 1)] = _; rw [et], by show tall < n; omega, by show tall ≤ 12; omega, b1, by show left ≤ 2 ^ tall; rw [← hr]; exact b4, hns, hns2, hnm, by show c + 3 + (5 * left - 3) ≤ LIM; omega, fun f1 f1o f1d f1l => ?_⟩
        refine ⟨_, rfl, _, rfl, _, rfl, _, rfl, _, rfl, _, rfl, _, rfl, ⟨ns, many - left, tall⟩, by show [D.pen, D.lst (ns.map D.str), D.int ((many : Int) - (left : Int)), D.int (((tall + 1 : Nat) : Int) - 1)] = _; rw [et, em], by show tall < n; omega, by show tall ≤ 12; omega, by show 1 ≤ many - left; omega, by show many - left ≤ 2 ^ tall; rw [← hr]; omega, hns, hns2, hnm, by show c + 3 + (5 * left - 3) + (5 * (many - left) - 3) ≤ LIM; omega, fun f2 f2o f2d f2l => ?_⟩
        refine ⟨shortL 3 rfl, c + (5 * many - 3), by show c + 3 + (5 * left - 3) + (5 * (many - left) - 3) ≤ c + (5 * many - 3); omega, h (.node t f1 f2) ?_ ?_ (shape_sum b1 b3 f1l f2l)⟩
        · exact Bool.and_eq_true_iff.mpr ⟨ht', Bool.and_eq_true_iff.mpr ⟨f1o, f2o⟩⟩
        · show max f1.depth f2.depth + 1 ≤ tall + 1
          have d1 : f1.depth ≤ tall := f1d
          have d2 : f2.depth ≤ tall := f2d
          omega
    · have b1 : 1 ≤ low + k := by omega
      have b2 : many ≤ low + k + room := by omega
      have b3 : low + k ≤ many - 1 := by omega
      have b4 : low + k ≤ room := by omega
      revert b1 b2 b3 b4
      generalize low + k = left
      intro b1 b2 b3 b4
      refine ⟨_, rfl, shortL 4 rfl, _, rfl, by show c + 2 < LIM; omega, Nat.succ_pos _, by show 4 < 1073741824; decide, fun w hw => ?_⟩
      have hw' : ∃ t : Str, w = .str t ∧ halfW (.str t) = true := by
        simp only [List.mem_cons, List.not_mem_nil, or_false] at hw
        rcases hw with rfl | rfl | rfl | rfl <;> exact ⟨_, rfl, by decide +kernel⟩
      obtain ⟨t, rfl, ht'⟩ := hw'
      have et : (((tall + 1 : Nat) : Int) - 1) = (tall : Int) := by omega
      have em : (many : Int) - (left : Int) = ((many - left : Nat) : Int) := by omega
      refine ⟨_, rfl, _, rfl, _, rfl, _, rfl, ⟨ns, left, tall⟩, by show [D.pen, D.lst (ns.map D.str), D.int left, D.int (((tall + 1 : Nat) : Int) - 1)] = _; rw [et], by show tall < n; omega, by show tall ≤ 12; omega, b1, by show left ≤ 2 ^ tall; rw [← hr]; exact b4, hns, hns2, hnm, by show c + 3 + (5 * left - 3) ≤ LIM; omega, fun f1 f1o f1d f1l => ?_⟩
      refine ⟨_, rfl, _, rfl, _, rfl, _, rfl, _, rfl, _, rfl, _, rfl, ⟨ns, many - left, tall⟩, by show [D.pen, D.lst (ns.map D.str), D.int ((many : Int) - (left : Int)), D.int (((tall + 1 : Nat) : Int) - 1)] = _; rw [et, em], by show tall < n; omega, by show tall ≤ 12; omega, by show 1 ≤ many - left; omega, by show many - left ≤ 2 ^ tall; rw [← hr]; omega, hns, hns2, hnm, by show c + 3 + (5 * left - 3) + (5 * (many - left) - 3) ≤ LIM; omega, fun f2 f2o f2d f2l => ?_⟩
      refine ⟨shortL 3 rfl, c + (5 * many - 3), by show c + 3 + (5 * left - 3) + (5 * (many - left) - 3) ≤ c + (5 * many - 3); omega, h (.node t f1 f2) ?_ ?_ (shape_sum b1 b3 f1l f2l)⟩
      · exact Bool.and_eq_true_iff.mpr ⟨ht', Bool.and_eq_true_iff.mpr ⟨f1o, f2o⟩⟩
      · show max f1.depth f2.depth + 1 ≤ tall + 1
        have d1 : f1.depth ≤ tall := f1d
        have d2 : f2.depth ≤ tall := f2d
        omega
-- @hash 3d44fb63
-- @rec 14
def spn__law_unforked (n : Nat) : DSp := fun ds mu c P PX => ∃ q : Fm × Int, ds = [q.1.toD, .int q.2] ∧ q.1.depth < n ∧ q.1.ok = true ∧ q.1.depth ≤ 12 ∧ ∀ (g : Fm) (b : Int), g.ok = true → g.depth = q.1.depth → g.leaves.length = q.1.leaves.length → P (.tup [g.toD, .int b]) mu c
def sp__law_unforked : DSp := spn__law_unforked 14
theorem unfork_look {w : Str} (h : w = "offered" ∨ w = "chosen") : ∃ w' : Str, look (mergeD [] [((.inr "offered" : Key), D.str "between"), (.inr "chosen", .str "both")]) (.inr w) = some (.str w') ∧ halfW (.str w') = true := by
  rcases h with rfl | rfl
  · exact ⟨"between", rfl, by decide +kernel⟩
  · exact ⟨"both", rfl, by decide +kernel⟩
def m__law_unforked (self : DSp) : MS := (mSeq (mIfS (mB (mOp eqD (mCB lenD (mCons (mVar 0) mNil)) (mC (.int 2)))) (mRet (mTup (mCons (mVar 0) (mCons (mVar 1) mNil)))) mNext)
  (mSeq (mSet 2 (mOp subD (mVar 0) (mC (.int 0))))
  (mSeq (mIfS (mB (mOp (inD id) (mVar 2) (mLst (mCons (mC (.str "offered")) (mCons (mC (.str "chosen")) mNil))))) (mSeq (mSet 2 (mIf (mB (mOp gtD (mVar 1) (mC (.int 0)))) (mVar 2) (mOp subD (mDisp [((mC (.str "offered")), (mC (.str "between"))), ((mC (.str "chosen")), (mC (.str "both")))]) (mVar 2))))
  (mSet 1 (mCB maxD (mCons (mC (.int 0)) (mCons (mOp subtD (mVar 1) (mC (.int 1))) mNil))))) mNext)
  (mSeq (mAsg (mCall self (mCons (mOp subD (mVar 0) (mC (.int 1))) (mCons (mVar 1) mNil))) (gT 2 (gsC (gN 3) (gsC (gN 1) gsN))))
  (mSeq (mAsg (mCall self (mCons (mOp subD (mVar 0) (mC (.int 2))) (mCons (mVar 1) mNil))) (gT 2 (gsC (gN 4) (gsC (gN 1) gsN))))
  (mRet (mTup (mCons (mTup (mCons (mVar 2) (mCons (mVar 3) (mCons (mVar 4) mNil)))) (mCons (mVar 1) mNil)))))))))
theorem rd__law_unforked (n : Nat) (ds : List D) (mu : Mu) (c : Nat) (P : D → Mu → Nat → Prop) (PX : Ex → Mu → Nat → Prop) (h : spn__law_unforked (n + 1) ds mu c P PX) : m__law_unforked (spn__law_unforked n) (S0 ["_law_form", "_law_branches", "_law_word", "_law_one", "_law_other"] ["_law_form", "_law_branches"] ds mu c) (EF P) (XF PX) := by
  obtain ⟨⟨f, b⟩, rfl, hn, ho, hd, h⟩ := h
  cases f with
  | leaf w x =>
    refine ⟨_, rfl, ceq_of (n := 0) (m := 0) rfl rfl, _, rfl, ?_⟩
    refine iteT ?_
    exact ⟨_, rfl, _, rfl, shortL 2 rfl, c, Nat.le_refl _, h (.leaf w x) b ho rfl rfl⟩
  | node w l r =>
    obtain ⟨hw, hab⟩ := Bool.and_eq_true_iff.mp ho
    obtain ⟨hl, hr⟩ := Bool.and_eq_true_iff.mp hab
    have hd' : max l.depth r.depth + 1 ≤ 12 := hd
    have hn' : max l.depth r.depth + 1 < n + 1 := hn
    have rest : ∀ (w' : Str) (b' : Int), halfW (.str w') = true →
        (mSeq (mAsg (mCall (spn__law_unforked n) (mCons (mOp subD (mVar 0) (mC (.int 1))) (mCons (mVar 1) mNil))) (gT 2 (gsC (gN 3) (gsC (gN 1) gsN))))
  (mSeq (mAsg (mCall (spn__law_unforked n) (mCons (mOp subD (mVar 0) (mC (.int 2))) (mCons (mVar 1) mNil))) (gT 2 (gsC (gN 4) (gsC (gN 1) gsN))))
  (mRet (mTup (mCons (mTup (mCons (mVar 2) (mCons (mVar 3) (mCons (mVar 4) mNil)))) (mCons (mVar 1) mNil))))) : MS) ⟨[some (Fm.node w l r).toD, some (.int b'), some (.str w'), none, none], mu, c⟩ (EF P) (XF PX) := by
      intro w' b' hw'
      refine ⟨_, rfl, _, rfl, _, rfl, (l, b'), rfl, by show l.depth < n; omega, hl, by show l.depth ≤ 12; omega, fun g1 b1 ho1 hd1 hl1 => ?_⟩
      refine ⟨_, rfl, rfl, _, _, rfl, _, _, rfl, rfl, ?_⟩
      refine ⟨_, rfl, _, rfl, _, rfl, (r, b1), rfl, by show r.depth < n; omega, hr, by show r.depth ≤ 12; omega, fun g2 b2 ho2 hd2 hl2 => ?_⟩
      refine ⟨_, rfl, rfl, _, _, rfl, _, _, rfl, rfl, ?_⟩
      have hd1 : g1.depth = l.depth := hd1
      have hd2 : g2.depth = r.depth := hd2
      have hl1 : g1.leaves.length = l.leaves.length := hl1
      have hl2 : g2.leaves.length = r.leaves.length := hl2
      refine ⟨_, rfl, _, rfl, _, rfl, shortL 3 rfl, _, rfl, shortL 2 rfl, c, Nat.le_refl _, h (.node w' g1 g2) b2 ?_ ?_ ?_⟩
      · exact Bool.and_eq_true_iff.mpr ⟨hw', Bool.and_eq_true_iff.mpr ⟨ho1, ho2⟩⟩
      · show max g1.depth g2.depth + 1 = max l.depth r.depth + 1
        rw [hd1, hd2]
      · show (g1.leaves ++ g2.leaves).length = (l.leaves ++ r.leaves).length
        rw [List.length_append, List.length_append, hl1, hl2]
    refine ⟨_, rfl, ceq_of (n := 0) (m := 0) rfl rfl, _, rfl, ?_⟩
    refine iteF ?_
    refine ⟨_, rfl, .str w, atI_nat (j := 0) rfl, ?_⟩
    refine ⟨_, rfl, shortL 2 rfl, ceq_of (word_ok (.inr hw) 64) forkLs_ok, _, rfl, ?_⟩
    have e0 : id ([D.str "offered", .str "chosen"].any fun z => eqvD z (.str w)) = forkW w := inFork hw
    rw [e0]
    rcases forkW_in hw with ⟨e, hf⟩ | ⟨e, hf⟩
    · refine iteTh e ?_
      refine ⟨_, rfl, _, rfl, ?_⟩
      refine ite2 (fun c1 => ?_) (fun c1 => ?_)
      · refine ⟨_, rfl, _, rfl, ?_⟩
        exact rest w _ hw
      · obtain ⟨w', hk, hw'⟩ := unfork_look hf
        refine ⟨_, rfl, by decide, _, rfl, _, _, rfl, hk, _, rfl, ?_⟩
        exact rest w' _ hw'
    · refine iteFh e ?_
      exact rest w b hw
-- @hash 22060441
-- @drop
def sp__law_some_ends : DSp := fun ds mu c P PX => ∃ q : Nat × Int, ds = [.pen, .int (q.1 : Int), .int q.2] ∧ 1 ≤ q.1 ∧ q.1 ≤ 40 ∧ c + 300 ≤ LIM ∧ ∀ fs : List Fm, fs ≠ [] → (∀ f ∈ fs, f.ok = true ∧ f.depth ≤ 12) → leafN fs ≤ q.1 → P (.lst (fs.map Fm.toD)) mu (c + 300)
structure EnSt where
  fs : List Fm
  l : Int
def m__law_some_ends : MS := (mSeq (mPar3 3 4 5 (mCons (mCall sp__law_names (mCons (mVar 0) (mCons (mC (.int 4)) mNil))) (mCons (mOp addD (mC (.int 1)) (mCall sp__law_draw (mCons (mVar 0) (mCons (mVar 1) mNil)))) (mCons (mNewL mNil) mNil))))
  (mSeq (mPar 6 7 (mCons (mCall sp__law_pick (mCons (mVar 0) (mCons (mLst (mCons (mC (.int 1)) (mCons (mC (.int 3)) (mCons (mC (.int 12)) mNil)))) mNil))) (mCons (mCall sp__law_pick (mCons (mVar 0) (mCons (mLst (mCons (mC (.int 1)) (mCons (mC (.int 4)) (mCons (mVar 1) mNil)))) mNil))) mNil)))
  (mSeq (mFor (mRng1 (mCons (mVar 1) mNil)) (gN 8) (mIfS (mB (mOp gtD (mVar 4) (mC (.int 0)))) (mSeq (mSet 9 (mOp addD (mC (.int 1)) (mCall sp__law_draw (mCons (mVar 0) (mCons (mCB minD (mCons (mLst (mCons (mVar 4) (mCons (mVar 7) (mCons (mOp shlD (mC (.int 1)) (mVar 6)) mNil)))) mNil)) mNil)))))
  (mSeq (mAsg (mCall sp__law_unforked (mCons (mCall sp__law_shape (mCons (mVar 0) (mCons (mVar 3) (mCons (mVar 9) (mCons (mVar 6) mNil))))) (mCons (mVar 2) mNil))) (gT 2 (gsC (gN 10) (gsC (gN 2) gsN))))
  (mSeq (mDrop (mApp (mVar 5) (mVar 10)))
  (mSet 4 (mOp subtD (mVar 4) (mVar 9)))))) mNext))
  (mRet (mFrz (mVar 5))))))
theorem ends_go {mu : Mu} {c0 : Nat} {la : Addr} {E : DEnds} {PX : PXT} {most : Nat} {ns : List Str} {t : Nat} {each : Int} (hns : 0 < ns.length) (hns2 : ns.length ≤ 1000) (hnm : ∀ s ∈ ns, isNameL s.cps.toList = true) (ht : t ≤ 12) (he : 1 ≤ each) (hm : most ≤ 40) (hc : c0 + 300 ≤ LIM) :
    ∀ (ks : List D) (fs : List Fm) (l : Int) (b : Int) (x y z : Option D) (c : Nat), (∀ f ∈ fs, f.ok = true ∧ f.depth ≤ 12) → (leafN fs : Int) + l ≤ most → 0 ≤ l → (fs ≠ [] ∨ (1 ≤ ks.length ∧ 1 ≤ l)) → c ≤ c0 + 60 + 5 * leafN fs →
    (∀ (gs : List Fm) (l b : Int) (x y z : Option D) (c : Nat), gs ≠ [] → (∀ f ∈ gs, f.ok = true ∧ f.depth ≤ 12) → leafN gs ≤ most → c ≤ c0 + 300 → E.nx ⟨[some .pen, some (.int (most : Int)), some (.int b), some (.lst (ns.map D.str)), some (.int l), some (.ref la), some (.int (t : Int)), some (.int each), x, y, z], muSet mu la (some (.lst (gs.map Fm.toD))), c⟩) →
    forGo (gN 8) (mIfS (mB (mOp gtD (mVar 4) (mC (.int 0)))) (mSeq (mSet 9 (mOp addD (mC (.int 1)) (mCall sp__law_draw (mCons (mVar 0) (mCons (mCB minD (mCons (mLst (mCons (mVar 4) (mCons (mVar 7) (mCons (mOp shlD (mC (.int 1)) (mVar 6)) mNil)))) mNil)) mNil)))))
  (mSeq (mAsg (mCall sp__law_unforked (mCons (mCall sp__law_shape (mCons (mVar 0) (mCons (mVar 3) (mCons (mVar 9) (mCons (mVar 6) mNil))))) (mCons (mVar 2) mNil))) (gT 2 (gsC (gN 10) (gsC (gN 2) gsN))))
  (mSeq (mDrop (mApp (mVar 5) (mVar 10)))
  (mSet 4 (mOp subtD (mVar 4) (mVar 9)))))) mNext) E PX ks ⟨[some .pen, some (.int (most : Int)), some (.int b), some (.lst (ns.map D.str)), some (.int l), some (.ref la), some (.int (t : Int)), some (.int each), x, y, z], muSet mu la (some (.lst (fs.map Fm.toD))), c⟩
  | [], fs, l, b, x, y, z, c, hok, hl, h0, hne, hcc, h => by
    have hne' : fs ≠ [] := by
      rcases hne with e | ⟨e, _⟩
      · exact e
      · exact absurd e (by simp)
    exact h fs l b x y z c hne' hok (by omega) (by omega)
  | k :: ks, fs, l, b, x, y, z, c, hok, hl, h0, hne, hcc, h => by
    have hL : LIM = 1152921504606846976 := rfl
    refine ⟨_, rfl, _, rfl, ?_⟩
    refine ite2 (fun c1 => ?_) (fun c1 => ?_)
    · have c1' : 0 < l := of_decide_eq_true c1
      have p1 : 1 ≤ 2 ^ t := Nat.one_le_two_pow
      have p2 : 2 ^ t ≤ 4096 := pow12 ht
      have ep : (1 : Int) * 2 ^ ((t : Int).toNat) = ((2 ^ t : Nat) : Int) := by rw [Int.one_mul, Int.toNat_natCast]; push_cast; rfl
      refine ⟨_, rfl, _, rfl, _, rfl, _, rfl, ⟨by show (0 : Int) ≤ (t : Int); omega, by show (t : Int) ≤ 1000000; omega, by decide⟩, shortL 3 rfl, [l, each, (1 : Int) * 2 ^ ((t : Int).toNat)], rfl, Nat.succ_pos _, fun m m1 m2 => ?_⟩
      rw [ep] at m1 m2
      have q1 : m ≤ l := m2 l (by simp)
      have q3 : m ≤ ((2 ^ t : Nat) : Int) := m2 _ (by simp)
      have q4 : 1 ≤ m := by
        simp only [List.mem_cons, List.not_mem_nil, or_false] at m1
        rcases m1 with rfl | rfl | rfl <;> omega
      refine ⟨m, rfl, by omega, by omega, by show c < LIM; omega, fun a a0 a1 => ?_⟩
      obtain ⟨many, em, hm1, hm2⟩ : ∃ many : Nat, (1 : Int) + a = (many : Int) ∧ 1 ≤ many ∧ (many : Int) ≤ m := ⟨1 + a.toNat, by omega, by omega, by omega⟩
      dsimp only [addD]
      rw [em]
      refine ⟨_, rfl, _, rfl, _, rfl, _, rfl, ⟨ns, many, t⟩, rfl, by show t < 13; omega, ht, hm1, by show many ≤ 2 ^ t; omega, hns, hns2, hnm, by show c + 1 + (5 * many - 3) ≤ LIM; omega, fun f fo fd fl => ?_⟩
      have fd : f.depth ≤ t := fd
      have fl : f.leaves.length = many := fl
      refine ⟨_, rfl, (f, b), rfl, by show f.depth < 14; omega, fo, by show f.depth ≤ 12; omega, fun g b2 go gd gl => ?_⟩
      have gd : g.depth = f.depth := gd
      have gl : g.leaves.length = f.leaves.length := gl
      refine ⟨_, rfl, rfl, _, _, rfl, _, _, rfl, rfl, ?_⟩
      have fle := leafN_len fs
      refine ⟨_, rfl, la, _, rfl, muSet_same, _, rfl, _, muSet_same, szl (by rw [List.length_map]; omega), ?_⟩
      refine ⟨_, rfl, _, rfl, ?_⟩
      have ea : leafN (fs ++ [g]) = leafN fs + many := by rw [leafN_app]; show leafN fs + (g.leaves.length + 0) = _; omega
      have e2 : (muSet (muSet mu la (some (.lst (fs.map Fm.toD)))) la (some (.lst (fs.map Fm.toD ++ [g.toD])))) = muSet mu la (some (.lst ((fs ++ [g]).map Fm.toD))) := by rw [muSet_set, List.map_append]; rfl
      have kk := ends_go (mu := mu) (c0 := c0) (la := la) (E := E) (PX := PX) (most := most) (ns := ns) (t := t) (each := each) hns hns2 hnm ht he hm hc ks (fs ++ [g]) (l - (many : Int)) b2 (some k) (some (.int (many : Int))) (some g.toD) (c + 1 + (5 * many - 3))
        (al_app hok (al_one ⟨go, by omega⟩)) (by rw [ea]; omega) (by omega) (.inl (by simp)) (by rw [ea]; omega) h
      rw [← e2] at kk
      exact kk
    · have c1' : ¬ 0 < l := fun z => c1 (decide_eq_true z)
      refine ends_go hns hns2 hnm ht he hm hc ks fs l b _ y z c hok hl h0 ?_ hcc h
      rcases hne with e | ⟨_, e⟩
      · exact .inl e
      · omega
theorem rd__law_some_ends (ds : List D) (mu : Mu) (c : Nat) (P : D → Mu → Nat → Prop) (PX : Ex → Mu → Nat → Prop) (h : sp__law_some_ends ds mu c P PX) : m__law_some_ends (S0 ["_law_pen", "_law_most", "_law_branches", "_law_names_here", "_law_left", "_law_ends", "_law_tall", "_law_each", "_law_k", "_law_many", "_law_form"] ["_law_pen", "_law_most", "_law_branches"] ds mu c) (EF (fg P)) (XF (fg PX)) := by
  obtain ⟨⟨most, b⟩, rfl, hm0, hm1, hc, h⟩ := h
  have hm0 : 1 ≤ most := hm0
  have hm1 : most ≤ 40 := hm1
  have hL : LIM = 1152921504606846976 := rfl
  refine ⟨_, rfl, 4, rfl, by decide, by decide, by show c + 53 ≤ LIM; omega, fun ns hn1 hn2 hns => ?_⟩
  have hn2 : ns.length ≤ 4 := hn2
  refine ⟨_, rfl, _, rfl, (most : Int), rfl, by omega, by omega, by show c + 53 < LIM; omega, fun a a0 a1 => ?_⟩
  refine ⟨shortL 0 rfl, fun la hla => ⟨_, _, _, rfl, ?_⟩⟩
  have hla : mu la = none := hla
  refine ⟨_, rfl, shortL 3 rfl, _, rfl, by show c + 54 < LIM; omega, Nat.succ_pos _, by show 3 < 1073741824; decide, fun x hx => ?_⟩
  obtain ⟨t, rfl, ht⟩ : ∃ t : Nat, x = .int (t : Int) ∧ t ≤ 12 := by
    simp only [List.mem_cons, List.not_mem_nil, or_false] at hx
    rcases hx with rfl | rfl | rfl
    · exact ⟨1, rfl, by decide⟩
    · exact ⟨3, rfl, by decide⟩
    · exact ⟨12, rfl, by decide⟩
  refine ⟨_, rfl, _, rfl, shortL 3 rfl, _, rfl, by show c + 55 < LIM; omega, Nat.succ_pos _, by show 3 < 1073741824; decide, fun x hx => ?_⟩
  obtain ⟨e, rfl, he⟩ : ∃ e : Int, x = .int e ∧ 1 ≤ e := by
    simp only [List.mem_cons, List.not_mem_nil, or_false] at hx
    rcases hx with rfl | rfl | rfl
    · exact ⟨1, rfl, by decide⟩
    · exact ⟨4, rfl, by decide⟩
    · exact ⟨most, rfl, by omega⟩
  refine ⟨_, _, rfl, ?_⟩
  refine ⟨_, rfl, (most : Int), rfl, by omega, by omega, ?_⟩
  rw [Int.toNat_natCast]
  refine ends_go (mu := mu) (c0 := c) (la := la) (most := most) (ns := ns) (t := t) (each := e) hn1 (by omega) hns ht he hm1 hc (rngD 0 most) [] (1 + a) b none none none (c + 56) (fun f hf => by cases hf) (by show (0 : Int) + (1 + a) ≤ most; omega) (by omega) (.inr ⟨by rw [rngD_len]; exact hm0, by omega⟩) (by show c + 56 ≤ c + 60 + 5 * 0; omega) fun gs l b x y z c1 hne hok hle hc1 => ?_
  refine ⟨_, rfl, la, _, rfl, muSet_same, c + 300, hc1, mu, ?_, h gs hne hok hle⟩
  show Less mu (muSet (muSet mu la _) la none)
  rw [muSet_set]
  exact fun u m eu => by
    have n1 : u ≠ la := fun z => by rw [z, hla] at eu; cases eu
    rw [muSet_ne n1]
    exact eu
-- @hash 60b2ce0f
-- @rec 32
def spn__law_tokens (n : Nat) : DSp := fun ds mu c P PX => ∃ q : FmB, ds = [q.f.toD, .bl q.h] ∧ q.f.depth < n ∧ q.f.ok = true ∧ q.f.leaves.length ≤ 5000 ∧ P (.lst ((q.f.toks q.h).map fun t => D.str (sL t))) mu c
def sp__law_tokens : DSp := spn__law_tokens 32
theorem toks_half (w : Str) (a b : Fm) : (Fm.node w a b).toks true = [40] :: ((Fm.node w a b).toks false ++ [[41]]) := by
  show (if true = true then _ else _) = [40] :: ((if false = true then _ else _) ++ [[41]])
  rw [if_pos rfl, if_neg Bool.false_ne_true]
theorem toks_node (w : Str) (a b : Fm) : (Fm.node w a b).toks false = a.toks true ++ [[markC w]] ++ b.toks true := by
  show (if false = true then _ else _) = _
  rw [if_neg Bool.false_ne_true]
theorem tk_line {n : Nat} (h : n ≤ 40000) : n ≤ LINE := by
  have e2 : (LINE : Nat) = 16777216 := rfl
  omega
def m__law_tokens (self : DSp) : MS := (mSeq (mIfS (mB (mOp eqD (mCB lenD (mCons (mVar 0) mNil)) (mC (.int 2)))) (mRet (mLst (mCons (mOp addD (mOp subD (mVar 0) (mC (.int 1))) (mOp mulD (mC (.str "~")) (mCB toIntD (mCons (mOp eqD (mOp subD (mVar 0) (mC (.int 0))) (mC (.str "counter"))) mNil)))) mNil))) mNext)
  (mSeq (mSet 2 (mOp subD (mDisp [((mC (.str "both")), (mC (.str "*"))), ((mC (.str "between")), (mC (.str "|"))), ((mC (.str "offered")), (mC (.str "&"))), ((mC (.str "chosen")), (mC (.str "+")))]) (mOp subD (mVar 0) (mC (.int 0)))))
  (mSeq (mSet 3 (mOp addD (mOp addD (mCall self (mCons (mOp subD (mVar 0) (mC (.int 1))) (mCons (mC (.bl true)) mNil))) (mLst (mCons (mVar 2) mNil))) (mCall self (mCons (mOp subD (mVar 0) (mC (.int 2))) (mCons (mC (.bl true)) mNil)))))
  (mRet (mIf (mB (mVar 1)) (mOp addD (mOp addD (mLst (mCons (mC (.str "(")) mNil)) (mVar 3)) (mLst (mCons (mC (.str ")")) mNil))) (mVar 3))))))
theorem rd__law_tokens (n : Nat) (ds : List D) (mu : Mu) (c : Nat) (P : D → Mu → Nat → Prop) (PX : Ex → Mu → Nat → Prop) (h : spn__law_tokens (n + 1) ds mu c P PX) : m__law_tokens (spn__law_tokens n) (S0 ["_law_form", "_law_is_half", "_law_sign", "_law_tokens_here"] ["_law_form", "_law_is_half"] ds mu c) (EF P) (XF PX) := by
  obtain ⟨⟨f, hb⟩, rfl, hn, ho, hd12, h⟩ := h
  simp only at hn ho hd12 h
  cases f with
  | leaf w x =>
    obtain ⟨h1, h2⟩ := Bool.and_eq_true_iff.mp ho
    refine ⟨_, rfl, ceq_of (n := 0) (m := 0) rfl rfl, _, rfl, iteT ?_⟩
    refine ⟨_, rfl, _, rfl, _, rfl, _, rfl, ceq_of (m := 0) (word_ok (.inl h1) 0) (by decide +kernel), ?_⟩
    rw [eqv_word]
    have hk : (0 : Int) ≤ (if decide (w = "counter") = true then (1 : Int) else 0) ∧ (if decide (w = "counter") = true then (1 : Int) else 0) ≤ 1 := by split <;> decide
    refine ⟨hk.1, by have := hk.2; omega, ?_, ?_⟩
    · have e1 : (Str.ofString "~").length = 1 := by decide +kernel
      rw [e1]
      have := hk.2
      have e2 : (LINE : Nat) = 16777216 := rfl
      omega
    rw [tilde_rep]
    have hl := (isNameL_len h2).2
    have := tilde_len w
    refine ⟨?_, shortL 1 rfl, c, Nat.le_refl _, ?_⟩
    · rw [sL_len, str_len]
      exact tk_line (by omega)
    · rw [app_sL]
      exact h
  | node w a b =>
    obtain ⟨hw, ho2⟩ := Bool.and_eq_true_iff.mp ho
    obtain ⟨hoa, hob⟩ := Bool.and_eq_true_iff.mp ho2
    have hd : max a.depth b.depth + 1 < n + 1 := hn
    have hd2 : (a.leaves ++ b.leaves).length ≤ 5000 := hd12
    rw [List.length_append] at hd2
    have la := toks_lv a
    have lb := toks_lv b
    have pa := leaves_pos a
    have pb := leaves_pos b
    refine ⟨_, rfl, ceq_of (n := 0) (m := 0) rfl rfl, _, rfl, iteF ?_⟩
    refine ⟨_, rfl, by decide, _, rfl, _, rfl, _, _, rfl, mark_look hw, ?_⟩
    refine ⟨_, rfl, _, rfl, ⟨a, true⟩, rfl, by show a.depth < n; omega, hoa, by show a.leaves.length ≤ 5000; omega, ?_⟩
    refine ⟨_, rfl, shortL 1 rfl, ?_, ?_⟩
    · exact tk_line (by simp only [List.length_map, List.length_cons, List.length_nil]; omega)
    refine ⟨_, rfl, _, rfl, ⟨b, true⟩, rfl, by show b.depth < n; omega, hob, by show b.leaves.length ≤ 5000; omega, ?_⟩
    refine ⟨?_, ?_⟩
    · exact tk_line (by simp only [List.length_map, List.length_cons, List.length_nil, List.length_append]; omega)
    have e3 : ((a.toks true).map fun t => D.str (sL t)) ++ [.str (sL [markC w])] ++ ((b.toks true).map fun t => D.str (sL t)) = ((Fm.node w a b).toks false).map fun t => D.str (sL t) := by rw [toks_node]; simp [List.append_assoc]
    have hl3 : (((Fm.node w a b).toks false).map fun t => D.str (sL t)).length ≤ 32800 := by
      rw [← e3]; simp only [List.length_map, List.length_cons, List.length_nil, List.length_append]; omega
    refine ⟨_, rfl, _, rfl, ?_⟩
    show if hb = true then _ else _
    cases hb with
    | true =>
      refine iteT ⟨shortL 1 rfl, _, rfl, ?_⟩
      dsimp only
      rw [e3]
      refine ⟨tk_line (by simp only [List.length_cons, List.length_nil]; omega), shortL 1 rfl, ?_, c, Nat.le_refl _, ?_⟩
      · exact tk_line (by simp only [List.length_cons, List.length_nil, List.length_append]; omega)
      rw [toks_half] at h
      have e4 : [D.str (Str.ofString "(")] ++ (((Fm.node w a b).toks false).map fun t => D.str (sL t)) ++ [D.str (Str.ofString ")")] = ([40] :: ((Fm.node w a b).toks false ++ [[41]])).map fun t => D.str (sL t) := by
        rw [lit_lp, lit_rp]; simp
      rw [e4]
      exact h
    | false =>
      refine iteF ⟨_, rfl, c, Nat.le_refl _, ?_⟩
      dsimp only
      rw [e3]
      exact h
-- @hash 0153c9e0
def sp__law_spaced : DSp := fun ds mu c P PX => ∃ q : List (List Nat), ds = [.pen, .lst (q.map fun t => D.str (sL t))] ∧ q.length ≤ 40000 ∧ (∀ t ∈ q, asc t) ∧ q.flatten.length + 4 * (q.length + 1) ≤ LN ∧ c + q.length + 2 ≤ LIM ∧
  ∀ l, Spd q l → asc l → l.length ≤ LN → l.length ≤ q.flatten.length + 4 * (q.length + 1) → P (.str (sL l)) mu (c + q.length + 2)
theorem rep_sp (k : Int) : (⟨(repD (Str.ofString " ").cps.toList k).toArray⟩ : Str) = sL (List.replicate k.toNat 32) := by
  rw [show (Str.ofString " ").cps.toList = [32] by decide +kernel]
  unfold repD sL
  congr 1
  congr 1
  generalize k.toNat = n
  induction n with
  | zero => rfl
  | succ n ih => rw [List.replicate_succ, List.flatten_cons, ih, List.replicate_succ]; rfl
theorem asc_rep (n : Nat) : asc (List.replicate n 32) := fun k hk => by
  have := (List.mem_replicate.mp hk).2
  omega
theorem Spd.more {ts : List (List Nat)} {l : List Nat} (h : Spd ts l) (n : Nat) (t : List Nat) : Spd (ts ++ [t]) (l ++ List.replicate n 32 ++ t) := by
  have := h.pre (Spd.cons n (t := t) (Spd.nil 0))
  simpa using this
theorem Spd.end_ {ts : List (List Nat)} {l : List Nat} (h : Spd ts l) (n : Nat) : Spd ts (l ++ List.replicate n 32) := by
  have := h.pre (Spd.nil n)
  simpa using this
def m__law_spaced : MS := (mSeq (mPar 2 3 (mCons (mCall sp__law_pick (mCons (mVar 0) (mCons (mLst (mCons (mC (.int 1)) (mCons (mC (.int 2)) (mCons (mC (.int 4)) mNil)))) mNil))) (mCons (mC (.str "")) mNil)))
  (mSeq (mFor (mItems (mVar 1)) (gN 4) (mSet 3 (mOp addD (mOp addD (mVar 3) (mOp mulD (mC (.str " ")) (mCall sp__law_draw (mCons (mVar 0) (mCons (mVar 2) mNil))))) (mVar 4))))
  (mRet (mOp addD (mVar 3) (mOp mulD (mC (.str " ")) (mCall sp__law_draw (mCons (mVar 0) (mCons (mVar 2) mNil))))))))
theorem rd__law_spaced (ds : List D) (mu : Mu) (c : Nat) (P : D → Mu → Nat → Prop) (PX : Ex → Mu → Nat → Prop) (h : sp__law_spaced ds mu c P PX) : m__law_spaced (S0 ["_law_pen", "_law_tokens_here", "_law_most", "_law_out", "_law_token"] ["_law_pen", "_law_tokens_here"] ds mu c) (EF P) (XF PX) := by
  obtain ⟨q, rfl, hq, ha, hl, hc, h⟩ := h
  have hL : LIM = 1152921504606846976 := rfl
  have hN : (LN : Nat) = 1000000 := rfl
  have hNL : (LINE : Nat) = 16777216 := rfl
  refine ⟨_, rfl, shortL 3 rfl, _, rfl, by show c < LIM; omega, Nat.succ_pos _, by show 3 < 1073741824; decide, fun x hx => ?_⟩
  obtain ⟨m, rfl, m1, m4⟩ : ∃ m : Int, x = .int m ∧ 0 < m ∧ m ≤ 4 := by
    simp only [List.mem_cons, List.not_mem_nil, or_false] at hx
    rcases hx with rfl | rfl | rfl <;> exact ⟨_, rfl, by decide, by decide⟩
  refine ⟨_, _, rfl, ?_⟩
  refine ⟨_, rfl, ?_⟩
  refine for_ind (fun ds st => ∃ (t1 t2 : List (List Nat)) (l : List Nat) (p4 : Option D), q = t1 ++ t2 ∧ ds = (t2.map fun t => D.str (sL t)) ∧ st = ⟨[some .pen, some (.lst (q.map fun t => D.str (sL t))), some (.int m), some (.str (sL l)), p4], mu, c + 1 + t1.length⟩ ∧ Spd t1 l ∧ asc l ∧ l.length ≤ t1.flatten.length + 4 * t1.length) _ _ ⟨[], q, [], none, rfl, rfl, rfl, .nil 0, asc_lit rfl, Nat.zero_le _⟩ ?_ ?_
  · rintro st ⟨t1, t2, l, p4, e1, e2, rfl, hs, hal, hll⟩
    have e2' : t2 = [] := List.map_eq_nil_iff.mp e2.symm
    subst e2'
    rw [List.append_nil] at e1
    subst e1
    refine ⟨_, rfl, _, rfl, _, rfl, m, rfl, m1, by omega, by show c + 1 + q.length < LIM; omega, fun k k0 k1 => ⟨k0, by omega, ?_, ?_⟩⟩
    · rw [show (Str.ofString " ").length = 1 by decide +kernel]
      omega
    rw [rep_sp]
    refine ⟨?_, c + q.length + 2, by show c + 1 + q.length + 1 ≤ _; omega, ?_⟩
    · rw [sL_len, sL_len, List.length_replicate]
      omega
    · rw [sL_app]
      have hll2 : (l ++ List.replicate k.toNat 32).length ≤ q.flatten.length + 4 * (q.length + 1) := by
        rw [List.length_append, List.length_replicate]
        omega
      exact h _ (hs.end_ _) (asc_app hal (asc_rep _)) (by omega) hll2
  · rintro d r st ⟨t1, t2, l, p4, e1, e2, rfl, hs, hal, hll⟩ K hK
    cases t2 with
    | nil => cases e2
    | cons t t2 =>
      rw [List.map_cons] at e2
      cases e2
      have hlen : t1.flatten.length + t.length + (t2.flatten).length = q.flatten.length := by rw [e1]; simp only [List.flatten_append, List.flatten_cons, List.length_append]; omega
      have hqn : t1.length + 1 + t2.length = q.length := by rw [e1]; simp only [List.length_append, List.length_cons]; omega
      refine ⟨_, rfl, _, rfl, _, rfl, m, rfl, m1, by omega, by show c + 1 + t1.length < LIM; omega, fun k k0 k1 => ⟨k0, by omega, ?_, ?_⟩⟩
      · rw [show (Str.ofString " ").length = 1 by decide +kernel]
        omega
      rw [rep_sp]
      refine ⟨?_, _, rfl, ?_, ?_⟩
      · rw [sL_len, sL_len, List.length_replicate]
        omega
      · rw [sL_app, sL_len, sL_len, List.length_append, List.length_replicate]
        omega
      rw [sL_app, sL_app]
      refine hK _ ⟨t1 ++ [t], t2, l ++ List.replicate k.toNat 32 ++ t, some (.str (sL t)), by rw [e1]; simp, rfl, ?_, hs.more k.toNat t, asc_app (asc_app hal (asc_rep _)) (ha t (by rw [e1]; simp)), ?_⟩
      · rw [List.length_append]
        rfl
      · simp only [List.flatten_append, List.flatten_cons, List.flatten_nil, List.append_nil, List.length_append, List.length_replicate, List.length_cons, List.length_nil]
        omega
-- @hash 05543a85
def sp__law_ends_tokens : DSp := fun ds mu c P PX => ∃ fs : List Fm, ds = [.lst (fs.map Fm.toD)] ∧ fs ≠ [] ∧ (∀ f ∈ fs, f.ok = true ∧ f.depth ≤ 30) ∧ leafN fs ≤ 5000 ∧ P (.lst ((rowToks fs).map fun t => D.str (sL t))) mu c
theorem toks_lv2 (f : Fm) : (f.toks false).length + 3 ≤ 4 * f.leaves.length := Nat.le_trans (Nat.add_le_add_right (toks_le f) 3) (toks_lv f)
def m__law_ends_tokens : MS := (mSeq (mSet 1 (mCall sp__law_tokens (mCons (mOp subD (mVar 0) (mC (.int 0))) (mCons (mC (.bl false)) mNil))))
  (mSeq (mFor (mItems (mSl (mVar 0) (mOSome (mC (.int 1))) mONone)) (gN 2) (mSet 1 (mOp addD (mOp addD (mVar 1) (mLst (mCons (mC (.str ",")) mNil))) (mCall sp__law_tokens (mCons (mVar 2) (mCons (mC (.bl false)) mNil))))))
  (mRet (mVar 1))))
theorem go__law_ends_tokens {d : D} {mu : Mu} {c : Nat} {E : DEnds} {PX : PXT} : ∀ (fs : List Fm) (A : List D) (x : Option D), (∀ f ∈ fs, f.ok = true ∧ f.depth ≤ 30) → A.length + 4 * leafN fs ≤ 30000 → leafN fs ≤ 5000 →
    (∀ x, E.nx ⟨[some d, some (.lst (A ++ (fs.map fun g => [44] :: g.toks false).flatten.map fun t => D.str (sL t))), x], mu, c⟩) →
    forGo (gN 2) (mSet 1 (mOp addD (mOp addD (mVar 1) (mLst (mCons (mC (.str ",")) mNil))) (mCall sp__law_tokens (mCons (mVar 2) (mCons (mC (.bl false)) mNil))))) E PX (fs.map Fm.toD) ⟨[some d, some (.lst A), x], mu, c⟩
  | [], A, x, _, _, _, h => by
    have h' := h x
    have e : A ++ ((([] : List Fm).map fun g => [44] :: g.toks false).flatten.map fun t => D.str (sL t)) = A := List.append_nil A
    rw [e] at h'
    exact h'
  | f :: fs, A, x, hf, hA, hl, h => by
    obtain ⟨ho, hd⟩ := hf f List.mem_cons_self
    have e0 : leafN (f :: fs) = f.leaves.length + leafN fs := rfl
    have tl := toks_lv2 f
    rw [e0] at hA hl
    refine ⟨_, rfl, shortL 1 rfl, two_lines (by omega) (by simp), _, rfl, ⟨f, false⟩, rfl, by show f.depth < 32; omega, ho, by show f.leaves.length ≤ 5000; omega, two_lines ?_ ?_, ?_⟩
    · simp only [List.length_append, List.length_cons, List.length_nil]; omega
    · rw [List.length_map]; show (f.toks false).length ≤ _; omega
    refine go__law_ends_tokens fs (A ++ [.str ","] ++ (f.toks false).map fun t => D.str (sL t)) _ (fun g hg => hf g (List.mem_cons_of_mem _ hg)) ?_ (by omega) fun x => ?_
    · simp only [List.length_append, List.length_cons, List.length_nil, List.length_map]; omega
    have h' := h x
    have e1 : D.str (sL [44]) = D.str (Str.ofString ",") := by rw [show sL [44] = Str.ofString "," by decide +kernel]
    simp only [List.map_cons, List.flatten_cons, List.cons_append, List.map_append, e1, List.append_assoc, List.nil_append, List.singleton_append] at h' ⊢
    exact h'
theorem rd__law_ends_tokens (ds : List D) (mu : Mu) (c : Nat) (P : D → Mu → Nat → Prop) (PX : Ex → Mu → Nat → Prop) (h : sp__law_ends_tokens ds mu c P PX) : m__law_ends_tokens (S0 ["_law_ends", "_law_tokens_here", "_law_form"] ["_law_ends"] ds mu c) (EF P) (XF PX) := by
  obtain ⟨fs, rfl, hne, hok, hl, h⟩ := h
  cases fs with
  | nil => exact absurd rfl hne
  | cons f fs =>
    obtain ⟨ho, hd⟩ := hok f List.mem_cons_self
    have e0 : leafN (f :: fs) = f.leaves.length + leafN fs := rfl
    rw [e0] at hl
    have tl := toks_lv2 f
    refine ⟨_, rfl, f.toD, atI_nat (j := 0) rfl, ⟨f, false⟩, rfl, by show f.depth < 32; omega, ho, by show f.leaves.length ≤ 5000; omega, ?_⟩
    have ec : cutD ((f :: fs).map Fm.toD) (some 1) none = fs.map Fm.toD := by
      unfold cutD
      rw [HT.sIx_none, show (some (1 : Int)) = some ((1 : Nat) : Int) from rfl, HT.sIx_nat, List.map_cons, List.length_cons, Nat.min_eq_left (by omega), List.drop_succ_cons, List.drop_zero]
      exact List.take_of_length_le (by omega)
    refine ⟨_, rfl, (1 : Int), rfl, ?_⟩
    show forGo _ _ _ _ (cutD ((f :: fs).map Fm.toD) (some 1) none) _
    rw [ec]
    refine go__law_ends_tokens fs _ none (fun g hg => hok g (List.mem_cons_of_mem _ hg)) (by rw [List.length_map]; show (f.toks false).length + 4 * leafN fs ≤ 30000; omega) (by omega) fun x => ⟨_, rfl, c, Nat.le_refl _, ?_⟩
    have e2 : ((f.toks false).map fun t => D.str (sL t)) ++ ((fs.map fun g => [44] :: g.toks false).flatten.map fun t => D.str (sL t)) = (rowToks (f :: fs)).map fun t => D.str (sL t) := by
      show _ = (f.toks false ++ (fs.map fun g => [44] :: g.toks false).flatten).map _
      rw [List.map_append]
    show P (.lst (((f.toks false).map fun t => D.str (sL t)) ++ ((fs.map fun g => [44] :: g.toks false).flatten.map fun t => D.str (sL t)))) mu c
    rw [e2]
    exact h
-- @hash 6a4aa217
-- @enums
-- @drop
def enumF : Nat → List Nat → List D
  | _, [] => []
  | n, k :: r => .tup [.int (n : Int), .str ⟨#[k]⟩] :: enumF (n + 1) r
theorem enumF_map : ∀ (n : Nat) (l : List Nat), enumF n l = (List.range l.length).map fun i => .tup [.int ((n + i : Nat) : Int), (l.map fun k => D.str ⟨#[k]⟩).getD i .non]
  | _, [] => rfl
  | n, k :: r => by
    unfold enumF
    rw [enumF_map (n + 1) r, List.length_cons, List.range_succ_eq_map, List.map_cons, List.map_map]
    congr 1
    refine List.map_congr_left fun i _ => ?_
    simp only [Function.comp, List.map_cons, List.getD_cons_succ]
    rw [show n + 1 + i = n + (i + 1) by omega]
theorem enumF_signs (z : Str) : enumD (signs z) = enumF 0 z.cps.toList := by
  rw [enumF_map]
  unfold enumD signs
  rw [List.length_map]
  refine List.map_congr_left fun i _ => ?_
  rw [Nat.zero_add]
def sp__law_longest : DSp := fun ds mu c P PX => ∃ q : Str × Bool, ds = [.str q.1, .bl q.2] ∧ asc q.1.cps.toList ∧ q.1.cps.toList.length ≤ LN ∧ P (.tup [.int ((auto q.2 ⟨[0], 0, false⟩ 0 q.1.cps.toList).1 : Int), .bl (auto q.2 ⟨[0], 0, false⟩ 0 q.1.cps.toList).2]) mu c
def lvs (lv : List Nat) : List D := lv.reverse.map fun k : Nat => D.int (k : Int)
structure LgSt (mu0 : Mu) (la : Addr) (mu : Mu) (lv : List Nat) : Prop where
  lv : mu la = some (.lst (lvs lv))
  old : ∀ x m, mu0 x = some m → mu x = some m ∧ x ≠ la
theorem LgSt.less {mu0 mu : Mu} {la : Addr} {lv : List Nat} (h : LgSt mu0 la mu lv) : Less mu0 mu := fun x m e => (h.old x m e).1
theorem LgSt.set {mu0 mu : Mu} {la : Addr} {lv : List Nat} (h : LgSt mu0 la mu lv) (lv' : List Nat) : LgSt mu0 la (muSet mu la (some (.lst (lvs lv')))) lv' :=
  ⟨muSet_same, fun x m e => by
    obtain ⟨e1, e2⟩ := h.old x m e
    exact ⟨by rw [muSet_ne e2]; exact e1, e2⟩⟩
theorem LgSt.new {mu0 mu : Mu} (h : Less mu0 mu) {la : Addr} (hl : mu la = none) (lv : List Nat) : LgSt mu0 la (muSet mu la (some (.lst (lvs lv)))) lv :=
  ⟨muSet_same, fun x m e => by
    have e1 := h x m e
    have : x ≠ la := fun z => by rw [z, hl] at e1; cases e1
    exact ⟨by rw [muSet_ne this]; exact e1, this⟩⟩
theorem lvs_cons (h : Nat) (t : List Nat) : lvs (h :: t) = lvs t ++ [.int (h : Int)] := by
  unfold lvs
  rw [List.reverse_cons, List.map_append]
  rfl
theorem lvs_len (t : List Nat) : (lvs t).length = t.length := by unfold lvs; rw [List.length_map, List.length_reverse]
theorem lvs_last (h : Nat) (t : List Nat) : atI (lvs (h :: t)) (-1) = some (.int (h : Int)) := by rw [lvs_cons]; exact atI_last _ _
theorem lvs_ix (h : Nat) (t : List Nat) : ixN (lvs (h :: t)).length (-1) = some t.length := by
  rw [lvs_len, List.length_cons]
  unfold ixN
  rw [if_neg (by omega), if_pos (by omega)]
  congr 1
  omega
theorem lvs_set (h g : Nat) (t : List Nat) : (lvs (h :: t)).set t.length (.int (g : Int)) = lvs (g :: t) := by
  rw [lvs_cons, lvs_cons, ← lvs_len t]
  simp [List.set_append]
theorem lvs_pop (h : Nat) (t : List Nat) : (lvs (h :: t)).dropLast = lvs t := by rw [lvs_cons]; simp
theorem lvs_lastx (h : Nat) (t : List Nat) : (lvs (h :: t))[(lvs (h :: t)).length - 1]? = some (.int (h : Int)) := by rw [lvs_cons]; simp
theorem eqv_one (k : Nat) {x : Str} {j : Nat} (h : x.cps.toList = [j]) : eqvD (.str ⟨#[k]⟩) (.str x) = decide (k = j) := by
  rw [eqv_word, Bool.eq_iff_iff]
  simp only [decide_eq_true_eq]
  rw [str_eq, h]
  simp
theorem eqv_nat (a b : Nat) : eqvD (.int (a : Int)) (.int (b : Int)) = decide (a = b) := by
  rw [eqv_int2, Bool.eq_iff_iff]
  simp only [beq_iff_eq, decide_eq_true_eq]
  omega
theorem in02 (h : Nat) : ([D.int 0, .int 2].any fun z => eqvD z (.int (h : Int))) = decide (h = 0 ∨ h = 2) := by
  simp only [List.any_cons, List.any_nil, Bool.or_false]
  rw [show (0 : Int) = ((0 : Nat) : Int) from rfl, show (2 : Int) = ((2 : Nat) : Int) from rfl, eqv_nat, eqv_nat, Bool.eq_iff_iff]
  simp only [Bool.or_eq_true, decide_eq_true_eq]
  omega
theorem one_ok {k : Nat} (h : k < 128) (n : Nat) : (D.str ⟨#[k]⟩).ok n = true := ok_asc (l := [k]) (fun j hj => by rw [List.mem_singleton.mp hj]; exact h) n
def m__law_longest : MS := (mSeq (mSet 2 (mC (.str "abcdefghijklmnopqrstuvwxyz")))
  (mSeq (mPar3 3 4 5 (mCons (mNewL (mCons (mC (.int 0)) mNil)) (mCons (mC (.int 0)) (mCons (mC (.bl false)) mNil))))
  (mSeq (mFor (mEnumS (mCons (mVar 0) mNil)) (gT 2 (gsC (gN 6) (gsC (gN 7) gsN))) (mSeq (mIfS (mAnd (mB (mOp gtD (mVar 4) (mC (.int 0)))) (mB (mOp (inD id) (mVar 7) (mOp addD (mVar 2) (mC (.str "0123456789")))))) (mSeq (mIfS (mB (mOp eqD (mVar 4) (mC (.int 12)))) (mRet (mTup (mCons (mVar 6) (mCons (mC (.bl false)) mNil)))) mNext)
  (mSeq (mSet 4 (mOp addD (mVar 4) (mC (.int 1))))
  mCont)) mNext)
  (mSeq (mIfS (mAnd (mB (mOp gtD (mVar 4) (mC (.int 0)))) (mB (mOp eqD (mVar 7) (mC (.str "~"))))) (mSeq (mSet 4 (mC (.int 0)))
  mCont) mNext)
  (mSeq (mPar 4 8 (mCons (mC (.int 0)) (mCons (mOp ixM (mVar 3) (mUn negD (mC (.int 1)))) mNil)))
  (mSeq (mIfS (mB (mOp eqD (mVar 7) (mC (.str " ")))) mCont mNext)
  (mIfS (mAnd (mB (mOp (inD id) (mVar 8) (mLst (mCons (mC (.int 0)) (mCons (mC (.int 2)) mNil))))) (mB (mOp eqD (mVar 7) (mC (.str "("))))) (mDrop (mApp (mVar 3) (mC (.int 0)))) (mIfS (mAnd (mB (mOp (inD id) (mVar 8) (mLst (mCons (mC (.int 0)) (mCons (mC (.int 2)) mNil))))) (mB (mOp (inD id) (mVar 7) (mVar 2)))) (mAsg (mTup (mCons (mOp addD (mVar 8) (mC (.int 1))) (mCons (mC (.int 1)) (mCons (mC (.bl true)) mNil)))) (gT 3 (gsC (gIxM (mVar 3) (mUn negD (mC (.int 1)))) (gsC (gN 4) (gsC (gN 5) gsN))))) (mIfS (mAnd (mB (mOp eqD (mVar 8) (mC (.int 1)))) (mB (mOp (inD id) (mVar 7) (mC (.str "*|&+"))))) (mAsg (mC (.int 2)) (gIxM (mVar 3) (mUn negD (mC (.int 1))))) (mIfS (mAnd (mB (mOp eqD (mVar 8) (mC (.int 3)))) (mAnd (mB (mOp gtD (mCB lenM (mCons (mVar 3) mNil)) (mC (.int 1)))) (mB (mOp eqD (mVar 7) (mC (.str ")")))))) (mSeq (mDrop (mPop (mVar 3)))
  (mAsg (mTup (mCons (mOp addD (mOp ixM (mVar 3) (mUn negD (mC (.int 1)))) (mC (.int 1))) (mCons (mC (.bl false)) mNil))) (gT 2 (gsC (gIxM (mVar 3) (mUn negD (mC (.int 1)))) (gsC (gN 5) gsN))))) (mIfS (mAnd (mB (mVar 1)) (mAnd (mB (mOp eqD (mVar 7) (mC (.str ",")))) (mAnd (mB (mOp eqD (mCB lenM (mCons (mVar 3) mNil)) (mC (.int 1)))) (mOr (mB (mOp eqD (mVar 8) (mC (.int 3)))) (mAnd (mB (mOp eqD (mVar 8) (mC (.int 1)))) (mB (mVar 5))))))) (mSet 3 (mNewL (mCons (mC (.int 0)) mNil))) (mRet (mTup (mCons (mVar 6) (mCons (mC (.bl false)) mNil))))))))))))))
  (mRet (mTup (mCons (mCB lenD (mCons (mVar 0) mNil)) (mCons (mAndV (mOp eqD (mCB lenM (mCons (mVar 3) mNil)) (mC (.int 1))) (mOrV (mOp eqD (mOp ixM (mVar 3) (mC (.int 0))) (mC (.int 3))) (mAndV (mOp eqD (mOp ixM (mVar 3) (mC (.int 0))) (mC (.int 1))) (mVar 5)))) mNil)))))))
theorem rd__law_longest (ds : List D) (mu : Mu) (c : Nat) (P : D → Mu → Nat → Prop) (PX : Ex → Mu → Nat → Prop) (h : sp__law_longest ds mu c P PX) : m__law_longest (S0 ["_law_text", "_law_is_row", "_law_letters", "_law_levels", "_law_name_here", "_law_is_leaf", "_law_at", "_law_sign", "_law_here"] ["_law_text", "_law_is_row"] ds mu c) (EF (fg P)) (XF (fg PX)) := by
  obtain ⟨⟨z, row⟩, rfl, ha, hl, h⟩ := h
  simp only at ha hl h
  have hl : z.cps.toList.length ≤ 1000000 := hl
  obtain ⟨out, hout⟩ : ∃ out, out = auto row ⟨[0], 0, false⟩ 0 z.cps.toList := ⟨_, rfl⟩
  rw [← hout] at h
  have eL : (LINE : Nat) = 16777216 := rfl
  have eS : (sizeLine : Nat) = 16777216 := sizeLine_eq
  refine ⟨shortL 1 rfl, fun la hla => ⟨_, _, _, rfl, ?_⟩⟩
  have hla : mu la = none := hla
  refine ⟨_, rfl, z, rfl, ?_⟩
  rw [enumF_signs]
  refine for_ind (fun ds st => ∃ (r : List Nat) (s : Au) (p : Nat) (la : Addr) (mu1 : Mu) (x6 x7 x8 : Option D), ds = enumF p r ∧ st = ⟨[some (.str z), some (.bl row), some (.str "abcdefghijklmnopqrstuvwxyz"), some (.ref la), some (.int (s.nm : Int)), some (.bl s.lf), x6, x7, x8], mu1, c⟩ ∧ LgSt mu la mu1 s.lv ∧ s.lv ≠ [] ∧ s.lv.length ≤ p + 1 ∧ p + r.length = z.cps.toList.length ∧ auto row s p r = out ∧ asc r) _ _ ⟨_, ⟨[0], 0, false⟩, 0, la, _, none, none, none, rfl, rfl, LgSt.new (Less.refl mu) hla [0], by simp, Nat.le_refl _, by omega, hout.symm, ha⟩ ?_ ?_
  · -- the end
    rintro _ ⟨r, s, p, la, mu1, x6, x7, x8, e, rfl, hS, hne, hlen, hp, ho, har⟩
    cases r with
    | cons k r => cases e
    | nil =>
      obtain ⟨lv, nm, lf⟩ := s
      cases lv with
      | nil => exact absurd rfl hne
      | cons h0 t =>
      have hlv : mu1 la = some (.lst (lvs (h0 :: t))) := hS.lv
      have ho : (p, auE ⟨h0 :: t, nm, lf⟩) = out := ho
      have hp : p = z.cps.toList.length := hp
      have hfst : atI (lvs (h0 :: t)) 0 = some ((lvs (h0 :: t)).headD .non) := by
        rw [lvs_cons]
        cases e : lvs t ++ [D.int (h0 : Int)] with
        | nil => simp at e
        | cons a b => exact atI_nat (j := 0) rfl
      refine ⟨_, rfl, by show z.length ≤ LINE; rw [str_len]; omega, _, rfl, _, hlv, ceq_of (n := 0) (m := 0) rfl rfl, _, rfl, ?_⟩
      have fin : ∀ b, b = auE ⟨h0 :: t, nm, lf⟩ → (2 ≤ sizeLine ∧ ∃ c', c ≤ c' ∧ fg P (.tup [.int (z.length : Int), .bl b]) mu1 c') := fun b hb => by
        refine ⟨by omega, c, Nat.le_refl _, _, hS.less, ?_⟩
        rw [← ho] at h
        rw [hb, show (z.length : Int) = (p : Int) by rw [str_len, hp]]
        exact h
      have el : eqvD (.int ((lvs (h0 :: t)).length : Int)) (.int 1) = decide ((h0 :: t).length = 1) := by
        rw [lvs_len, show (1 : Int) = ((1 : Nat) : Int) from rfl, eqv_nat]
      rw [el]
      by_cases c1 : (h0 :: t).length = 1
      · have ht : t = [] := List.length_eq_zero_iff.mp (by rw [List.length_cons] at c1; omega)
        subst ht
        have e0 : (lvs [h0]).headD .non = .int (h0 : Int) := rfl
        rw [e0] at hfst
        refine iteTh rfl ⟨_, rfl, _, _, hlv, hfst, ceq_of (n := 0) (m := 0) rfl rfl, _, rfl, ?_⟩
        rw [show (3 : Int) = ((3 : Nat) : Int) from rfl, eqv_nat]
        have eE : auE ⟨[h0], nm, lf⟩ = (decide (h0 = 3) || (decide (h0 = 1) && lf)) := by
          show (decide ([h0].length = 1) && (decide (h0 = 3) || (decide (h0 = 1) && lf))) = _
          rw [decide_eq_true (show [h0].length = 1 from rfl), Bool.true_and]
        by_cases c2 : h0 = 3
        · exact iteTh (decide_eq_true c2) (fin true (by rw [eE, decide_eq_true c2]; rfl))
        · refine iteFh (decide_eq_false c2) ⟨_, rfl, _, _, hlv, hfst, ceq_of (n := 0) (m := 0) rfl rfl, _, rfl, ?_⟩
          rw [show (1 : Int) = ((1 : Nat) : Int) from rfl, eqv_nat]
          by_cases c3 : h0 = 1
          · exact iteTh (decide_eq_true c3) ⟨_, rfl, fin lf (by rw [eE, decide_eq_false c2, decide_eq_true c3]; rfl)⟩
          · exact iteFh (decide_eq_false c3) (fin false (by rw [eE, decide_eq_false c2, decide_eq_false c3]; rfl))
      · refine iteFh (decide_eq_false c1) (fin false ?_)
        show false = (decide ((h0 :: t).length = 1) && _)
        rw [decide_eq_false c1]
        rfl
  · rintro _ _ _ ⟨r, ⟨lv, nm, lf⟩, p, la, mu1, x6, x7, x8, e, rfl, hS, hne, hlen, hp, ho, har⟩ K hK
    cases r with
    | nil => cases e
    | cons k r =>
      injection e with e1 e2
      subst e1
      subst e2
      cases lv with
      | nil => exact absurd rfl hne
      | cons h0 t =>
      have hk : k < 128 := har k List.mem_cons_self
      have har' : asc r := fun j hj => har j (List.mem_cons_of_mem _ hj)
      have hlv : mu1 la = some (.lst (lvs (h0 :: t))) := hS.lv
      have hp : p + (r.length + 1) = z.cps.toList.length := hp
      have hlen : t.length + 1 ≤ p + 1 := hlen
      have hS : LgSt mu la mu1 (h0 :: t) := hS
      rw [auto_cons] at ho
      -- how a turn ends
      have stop : auS row ⟨h0 :: t, nm, lf⟩ k = none → (2 ≤ sizeLine ∧ ∃ c', c ≤ c' ∧ fg P (.tup [.int (p : Int), .bl false]) mu1 c') := fun hau => by
        rw [hau] at ho
        rw [← ho] at h
        exact ⟨by omega, c, Nat.le_refl _, _, hS.less, h⟩
      have next : ∀ (s' : Au) (la : Addr) (mu2 : Mu) (y6 y7 y8 : Option D), auS row ⟨h0 :: t, nm, lf⟩ k = some s' → LgSt mu la mu2 s'.lv → s'.lv ≠ [] → s'.lv.length ≤ p + 2 →
          K ⟨[some (.str z), some (.bl row), some (.str "abcdefghijklmnopqrstuvwxyz"), some (.ref la), some (.int (s'.nm : Int)), some (.bl s'.lf), y6, y7, y8], mu2, c⟩ := fun s' la mu2 y6 y7 y8 hau h1 h2 h3 => by
        rw [hau] at ho
        exact hK _ ⟨r, s', p + 1, la, mu2, y6, y7, y8, rfl, rfl, h1, h2, by omega, by omega, ho, har'⟩
      have osp : (D.str (Str.ofString " ")).ok 0 = true := by decide +kernel
      have olp : (D.str (Str.ofString "(")).ok 0 = true := by decide +kernel
      have orp : (D.str (Str.ofString ")")).ok 0 = true := by decide +kernel
      have oti : (D.str (Str.ofString "~")).ok 0 = true := by decide +kernel
      have oco : (D.str (Str.ofString ",")).ok 0 = true := by decide +kernel
      have csp : (Str.ofString " ").cps.toList = [32] := by decide +kernel
      have clp : (Str.ofString "(").cps.toList = [40] := by decide +kernel
      have crp : (Str.ofString ")").cps.toList = [41] := by decide +kernel
      have cti : (Str.ofString "~").cps.toList = [126] := by decide +kernel
      have cco : (Str.ofString ",").cps.toList = [44] := by decide +kernel
      have e1 : eqvD (.int (h0 : Int)) (.int 1) = decide (h0 = 1) := eqv_nat h0 1
      have e3 : eqvD (.int (h0 : Int)) (.int 3) = decide (h0 = 3) := eqv_nat h0 3
      have e12 : eqvD (.int (nm : Int)) (.int 12) = decide (nm = 12) := eqv_nat nm 12
      have el1 : eqvD (.int ((lvs (h0 :: t)).length : Int)) (.int 1) = decide ((h0 :: t).length = 1) := by rw [lvs_len]; exact eqv_nat _ 1
      -- the last of the tests
      have t5 : ∀ bk, auS row ⟨h0 :: t, nm, lf⟩ k = (if row = true ∧ k = 44 ∧ t = [] ∧ (h0 = 3 ∨ (h0 = 1 ∧ lf = true)) then some ⟨[0], 0, lf⟩ else none) →
          (mIfS (mAnd (mB (mVar 1)) (mAnd (mB (mOp eqD (mVar 7) (mC (.str ",")))) (mAnd (mB (mOp eqD (mCB lenM (mCons (mVar 3) mNil)) (mC (.int 1)))) (mOr (mB (mOp eqD (mVar 8) (mC (.int 3)))) (mAnd (mB (mOp eqD (mVar 8) (mC (.int 1)))) (mB (mVar 5))))))) (mSet 3 (mNewL (mCons (mC (.int 0)) mNil))) (mRet (mTup (mCons (mVar 6) (mCons (mC (.bl false)) mNil)))) : MS)
          ⟨[some (.str z), some (.bl row), some (.str "abcdefghijklmnopqrstuvwxyz"), some (.ref la), some (.int 0), some (.bl lf), some (.int (p : Int)), some (.str ⟨#[k]⟩), some (.int (h0 : Int))], mu1, c⟩ ⟨K, (EF (fg P)).rt, bk, K⟩ (XF (fg PX)) := by
        intro bk hau
        have no : ¬ (row = true ∧ k = 44 ∧ t = [] ∧ (h0 = 3 ∨ (h0 = 1 ∧ lf = true))) → ((mRet (mTup (mCons (mVar 6) (mCons (mC (.bl false)) mNil))) : MS) ⟨[some (.str z), some (.bl row), some (.str "abcdefghijklmnopqrstuvwxyz"), some (.ref la), some (.int 0), some (.bl lf), some (.int (p : Int)), some (.str ⟨#[k]⟩), some (.int (h0 : Int))], mu1, c⟩ ⟨K, (EF (fg P)).rt, bk, K⟩ (XF (fg PX))) := fun hn => by
          rw [if_neg hn] at hau
          exact ⟨_, rfl, stop hau⟩
        have yes : (row = true ∧ k = 44 ∧ t = [] ∧ (h0 = 3 ∨ (h0 = 1 ∧ lf = true))) → ((mSet 3 (mNewL (mCons (mC (.int 0)) mNil)) : MS) ⟨[some (.str z), some (.bl row), some (.str "abcdefghijklmnopqrstuvwxyz"), some (.ref la), some (.int 0), some (.bl lf), some (.int (p : Int)), some (.str ⟨#[k]⟩), some (.int (h0 : Int))], mu1, c⟩ ⟨K, (EF (fg P)).rt, bk, K⟩ (XF (fg PX))) := fun hy => by
          rw [if_pos hy] at hau
          refine ⟨shortL 1 rfl, fun lb hlb => ?_⟩
          exact next ⟨[0], 0, lf⟩ lb _ _ _ _ hau (LgSt.new hS.less hlb [0]) (by simp) (by simp)
        refine ⟨_, rfl, _, rfl, ?_⟩
        cases row with
        | false =>
          refine iteF ?_
          walk_at "ff"
          exact no (fun y => by cases y.1)
        | true =>
        refine iteT ⟨_, rfl, ceq_of (n := 0) (m := 0) (one_ok hk 0) oco, _, rfl, ?_⟩
        rw [eqv_one k cco]
        by_cases k44 : k = 44
        · refine iteTh (decide_eq_true k44) ⟨_, rfl, _, hlv, ceq_of (n := 0) (m := 0) rfl rfl, _, rfl, ?_⟩
          rw [el1]
          by_cases ht : t = []
          · subst ht
            refine iteTh rfl ⟨_, rfl, ceq_of (n := 0) (m := 0) rfl rfl, _, rfl, ?_⟩
            rw [e3]
            by_cases h3 : h0 = 3
            · exact iteTh (decide_eq_true h3) (iteT (yes ⟨rfl, k44, rfl, .inl h3⟩))
            · refine iteFh (decide_eq_false h3) ⟨_, rfl, ceq_of (n := 0) (m := 0) rfl rfl, _, rfl, ?_⟩
              rw [e1]
              by_cases h1 : h0 = 1
              · refine iteTh (decide_eq_true h1) ⟨_, rfl, _, rfl, ?_⟩
                cases lf with
                | true => exact iteT (yes ⟨rfl, k44, rfl, .inr ⟨h1, rfl⟩⟩)
                | false => exact iteF (no fun y => by rcases y.2.2.2 with y | y; exact h3 y; cases y.2)
              · refine iteFh (decide_eq_false h1) ?_
                walk_at "ff"
                exact no fun y => by rcases y.2.2.2 with y | y; exact h3 y; exact h1 y.1
          · refine iteFh (decide_eq_false fun y => ht (List.length_eq_zero_iff.mp (by rw [List.length_cons] at y; omega))) ?_
            walk_at "ff"
            exact no fun y => ht y.2.2.1
        · refine iteFh (decide_eq_false k44) ?_
          walk_at "ff"
          exact no fun y => k44 y.2.1
      -- behind the name
      have rest : ∀ bk, ¬ (0 < nm ∧ k ∈ alnum) → ¬ (0 < nm ∧ k = 126) →
          ((mSeq (mPar 4 8 (mCons (mC (.int 0)) (mCons (mOp ixM (mVar 3) (mUn negD (mC (.int 1)))) mNil)))
  (mSeq (mIfS (mB (mOp eqD (mVar 7) (mC (.str " ")))) mCont mNext)
  (mIfS (mAnd (mB (mOp (inD id) (mVar 8) (mLst (mCons (mC (.int 0)) (mCons (mC (.int 2)) mNil))))) (mB (mOp eqD (mVar 7) (mC (.str "("))))) (mDrop (mApp (mVar 3) (mC (.int 0)))) (mIfS (mAnd (mB (mOp (inD id) (mVar 8) (mLst (mCons (mC (.int 0)) (mCons (mC (.int 2)) mNil))))) (mB (mOp (inD id) (mVar 7) (mVar 2)))) (mAsg (mTup (mCons (mOp addD (mVar 8) (mC (.int 1))) (mCons (mC (.int 1)) (mCons (mC (.bl true)) mNil)))) (gT 3 (gsC (gIxM (mVar 3) (mUn negD (mC (.int 1)))) (gsC (gN 4) (gsC (gN 5) gsN))))) (mIfS (mAnd (mB (mOp eqD (mVar 8) (mC (.int 1)))) (mB (mOp (inD id) (mVar 7) (mC (.str "*|&+"))))) (mAsg (mC (.int 2)) (gIxM (mVar 3) (mUn negD (mC (.int 1))))) (mIfS (mAnd (mB (mOp eqD (mVar 8) (mC (.int 3)))) (mAnd (mB (mOp gtD (mCB lenM (mCons (mVar 3) mNil)) (mC (.int 1)))) (mB (mOp eqD (mVar 7) (mC (.str ")")))))) (mSeq (mDrop (mPop (mVar 3)))
  (mAsg (mTup (mCons (mOp addD (mOp ixM (mVar 3) (mUn negD (mC (.int 1)))) (mC (.int 1))) (mCons (mC (.bl false)) mNil))) (gT 2 (gsC (gIxM (mVar 3) (mUn negD (mC (.int 1)))) (gsC (gN 5) gsN))))) (mIfS (mAnd (mB (mVar 1)) (mAnd (mB (mOp eqD (mVar 7) (mC (.str ",")))) (mAnd (mB (mOp eqD (mCB lenM (mCons (mVar 3) mNil)) (mC (.int 1)))) (mOr (mB (mOp eqD (mVar 8) (mC (.int 3)))) (mAnd (mB (mOp eqD (mVar 8) (mC (.int 1)))) (mB (mVar 5))))))) (mSet 3 (mNewL (mCons (mC (.int 0)) mNil))) (mRet (mTup (mCons (mVar 6) (mCons (mC (.bl false)) mNil))))))))))) : MS)
          ⟨[some (.str z), some (.bl row), some (.str "abcdefghijklmnopqrstuvwxyz"), some (.ref la), some (.int (nm : Int)), some (.bl lf), some (.int (p : Int)), some (.str ⟨#[k]⟩), x8], mu1, c⟩ ⟨K, (EF (fg P)).rt, bk, K⟩ (XF (fg PX)) := by
        intro bk hna hn126
        have eS0 : auS row ⟨h0 :: t, nm, lf⟩ k = if k = 32 then some ⟨h0 :: t, 0, lf⟩ else auL row h0 t lf k := by
          unfold auS
          rw [if_neg hna, if_neg hn126]
          rfl
        refine ⟨_, rfl, _, _, hlv, lvs_last h0 t, _, _, rfl, ?_⟩
        refine ⟨_, rfl, ceq_of (n := 0) (m := 0) (one_ok hk 0) osp, _, rfl, ?_⟩
        rw [eqv_one k csp]
        by_cases k32 : k = 32
        · refine iteTh (decide_eq_true k32) ?_
          rw [if_pos k32] at eS0
          exact next ⟨h0 :: t, 0, lf⟩ la mu1 _ _ _ eS0 hS (by simp) (by show t.length + 1 ≤ p + 2; omega)
        refine iteFh (decide_eq_false k32) ?_
        rw [if_neg k32] at eS0
        unfold auL at eS0
        refine ⟨_, rfl, shortL 2 rfl, ceq_of (n := 0) (m := 2) rfl (by decide +kernel), _, rfl, ?_⟩
        rw [in02]
        by_cases hh : h0 = 0 ∨ h0 = 2
        · have h1 : h0 ≠ 1 := by omega
          have h3 : h0 ≠ 3 := by omega
          refine iteTh (decide_eq_true hh) ⟨_, rfl, ceq_of (n := 0) (m := 0) (one_ok hk 0) olp, _, rfl, ?_⟩
          rw [eqv_one k clp]
          by_cases k40 : k = 40
          · rw [if_pos ⟨hh, k40⟩] at eS0
            refine iteTh (decide_eq_true k40) ⟨_, rfl, la, _, rfl, hlv, _, hlv, by rw [lvs_len, List.length_cons]; omega, ?_⟩
            have := hS.set (0 :: h0 :: t)
            rw [lvs_cons] at this
            exact next ⟨0 :: h0 :: t, 0, lf⟩ la _ _ _ _ eS0 this (by simp) (by show t.length + 1 + 1 ≤ p + 2; omega)
          refine iteFh (decide_eq_false k40) ?_
          walk_at "ff"
          refine ⟨_, rfl, shortL 2 rfl, ceq_of (n := 0) (m := 2) rfl (by decide +kernel), _, rfl, ?_⟩
          rw [if_neg (fun y => k40 y.2)] at eS0
          rw [in02]
          refine iteTh (decide_eq_true hh) ⟨_, rfl, _, rfl, _, rfl, ?_⟩
          rw [show hasStr ⟨#[k]⟩ (Str.ofString "abcdefghijklmnopqrstuvwxyz") = decide (k ∈ letters) from hasStr_one k _]
          by_cases kl : k ∈ letters
          · rw [if_pos ⟨hh, kl⟩] at eS0
            refine iteTh (decide_eq_true kl) ⟨_, rfl, shortL 3 rfl, _, rfl, rfl, _, _, rfl, _, rfl, la, _, _, _, rfl, rfl, hlv, lvs_ix h0 t, _, _, rfl, _, _, rfl, rfl, ?_⟩
            have := hS.set ((h0 + 1) :: t)
            rw [← lvs_set h0 (h0 + 1) t] at this
            exact next ⟨(h0 + 1) :: t, 1, true⟩ la _ _ _ _ eS0 this (by simp) (by show t.length + 1 ≤ p + 2; omega)
          · rw [if_neg (fun y => kl y.2), if_neg (fun y => h1 y.1), if_neg (fun y => h3 y.1)] at eS0
            refine iteFh (decide_eq_false kl) ?_
            walk_at "ff"
            refine ⟨_, rfl, ceq_of (n := 0) (m := 0) rfl rfl, _, rfl, ?_⟩
            rw [e1]
            refine iteFh (decide_eq_false h1) ?_
            walk_at "ff"
            refine ⟨_, rfl, ceq_of (n := 0) (m := 0) rfl rfl, _, rfl, ?_⟩
            rw [e3]
            refine iteFh (decide_eq_false h3) ?_
            walk_at "ff"
            exact t5 bk eS0
        · refine iteFh (decide_eq_false hh) ?_
          walk_at "ff"
          refine ⟨_, rfl, shortL 2 rfl, ceq_of (n := 0) (m := 2) rfl (by decide +kernel), _, rfl, ?_⟩
          rw [if_neg (fun y => hh y.1), if_neg (fun y => hh y.1)] at eS0
          rw [in02]
          refine iteFh (decide_eq_false hh) ?_
          walk_at "ff"
          refine ⟨_, rfl, ceq_of (n := 0) (m := 0) rfl rfl, _, rfl, ?_⟩
          rw [e1]
          by_cases h1 : h0 = 1
          · have h3 : h0 ≠ 3 := by omega
            refine iteTh (decide_eq_true h1) ⟨_, rfl, _, rfl, ?_⟩
            have em : hasStr ⟨#[k]⟩ (Str.ofString "*|&+") = decide (isMark k) := by
              rw [hasStr_one, show (Str.ofString "*|&+").cps.toList = [42, 124, 38, 43] by decide +kernel]
              refine decide_eq_decide.mpr ?_
              simp only [List.mem_cons, List.not_mem_nil, or_false]
              exact Iff.rfl
            rw [em]
            by_cases hm : isMark k
            · rw [if_pos ⟨h1, hm⟩] at eS0
              refine iteTh (decide_eq_true hm) ⟨_, rfl, la, _, _, _, rfl, rfl, hlv, lvs_ix h0 t, ?_⟩
              have := hS.set (2 :: t)
              rw [← lvs_set h0 2 t] at this
              exact next ⟨2 :: t, 0, lf⟩ la _ _ _ _ eS0 this (by simp) (by show t.length + 1 ≤ p + 2; omega)
            · rw [if_neg (fun y => hm y.2), if_neg (fun y => h3 y.1)] at eS0
              refine iteFh (decide_eq_false hm) ?_
              walk_at "ff"
              refine ⟨_, rfl, ceq_of (n := 0) (m := 0) rfl rfl, _, rfl, ?_⟩
              rw [e3]
              refine iteFh (decide_eq_false h3) ?_
              walk_at "ff"
              exact t5 bk eS0
          · refine iteFh (decide_eq_false h1) ?_
            walk_at "ff"
            refine ⟨_, rfl, ceq_of (n := 0) (m := 0) rfl rfl, _, rfl, ?_⟩
            rw [if_neg (fun y => h1 y.1)] at eS0
            rw [e3]
            by_cases h3 : h0 = 3
            · refine iteTh (decide_eq_true h3) ⟨_, rfl, _, hlv, _, rfl, ?_⟩
              rw [show decide ((1 : Int) < ((lvs (h0 :: t)).length : Int)) = decide (t ≠ []) by
                rw [lvs_len, List.length_cons, Bool.eq_iff_iff]
                simp only [decide_eq_true_eq]
                rw [ne_eq, ← List.length_eq_zero_iff]
                omega]
              by_cases ht : t = []
              · rw [if_neg (fun y => y.2.1 ht)] at eS0
                refine iteFh (decide_eq_false fun y => y ht) ?_
                walk_at "ff"
                exact t5 bk eS0
              refine iteTh (decide_eq_true ht) ⟨_, rfl, ceq_of (n := 0) (m := 0) (one_ok hk 0) orp, _, rfl, ?_⟩
              rw [eqv_one k crp]
              by_cases k41 : k = 41
              · rw [if_pos ⟨h3, ht, k41⟩] at eS0
                cases t with
                | nil => exact absurd rfl ht
                | cons g t =>
                have hR1 : LgSt mu la (muSet mu1 la (some (.lst (lvs (g :: t))))) (g :: t) := hS.set (g :: t)
                have e2 : (lvs (h0 :: g :: t)).dropLast = lvs (g :: t) := lvs_pop _ _
                refine iteTh (decide_eq_true k41) ⟨_, rfl, la, _, _, rfl, hlv, lvs_lastx _ _, ?_⟩
                rw [e2]
                refine ⟨_, rfl, _, _, muSet_same, lvs_last g t, shortL 2 rfl, _, rfl, rfl, _, _, rfl, _, rfl, la, _, _, _, rfl, rfl, muSet_same, lvs_ix g t, _, _, rfl, rfl, ?_⟩
                have := hR1.set ((g + 1) :: t)
                rw [← lvs_set g (g + 1) t] at this
                exact next ⟨(g + 1) :: t, 0, false⟩ la _ _ _ _ eS0 this (by simp) (by show t.length + 1 ≤ p + 2; rw [List.length_cons] at hlen; omega)
              · rw [if_neg (fun y => k41 y.2.2)] at eS0
                refine iteFh (decide_eq_false k41) ?_
                walk_at "ff"
                exact t5 bk eS0
            · rw [if_neg (fun y => h3 y.1)] at eS0
              refine iteFh (decide_eq_false h3) ?_
              walk_at "ff"
              exact t5 bk eS0
      refine ⟨_, rfl, rfl, _, _, rfl, _, _, rfl, rfl, ?_⟩
      refine ⟨_, rfl, _, rfl, ?_⟩
      rw [gt0]
      by_cases n0 : 0 < nm
      · refine iteTh (decide_eq_true n0) ⟨_, rfl, _, rfl, by decide +kernel, _, rfl, ?_⟩
        rw [show hasStr ⟨#[k]⟩ ((Str.ofString "abcdefghijklmnopqrstuvwxyz") ++ (Str.ofString "0123456789")) = decide (k ∈ alnum) by rw [hasStr_one]; rfl]
        by_cases ka : k ∈ alnum
        · refine iteTh (decide_eq_true ka) ⟨_, rfl, ceq_of (n := 0) (m := 0) rfl rfl, _, rfl, ?_⟩
          rw [e12]
          have eS0 : auS row ⟨h0 :: t, nm, lf⟩ k = if nm = 12 then none else some ⟨h0 :: t, nm + 1, lf⟩ := by
            unfold auS
            rw [if_pos ⟨n0, ka⟩]
          by_cases n12 : nm = 12
          · rw [if_pos n12] at eS0
            exact iteTh (decide_eq_true n12) ⟨_, rfl, stop eS0⟩
          · rw [if_neg n12] at eS0
            exact iteFh (decide_eq_false n12) ⟨_, rfl, next ⟨h0 :: t, nm + 1, lf⟩ la mu1 _ _ _ eS0 hS (by simp) (by show t.length + 1 ≤ p + 2; omega)⟩
        · refine iteFh (decide_eq_false ka) ?_
          walk_at "ff"
          refine ⟨_, rfl, _, rfl, ?_⟩
          rw [gt0]
          refine iteTh (decide_eq_true n0) ⟨_, rfl, ceq_of (n := 0) (m := 0) (one_ok hk 0) oti, _, rfl, ?_⟩
          rw [eqv_one k cti]
          by_cases k126 : k = 126
          · have eS0 : auS row ⟨h0 :: t, nm, lf⟩ k = some ⟨h0 :: t, 0, lf⟩ := by
              unfold auS
              rw [if_neg (fun y => ka y.2), if_pos ⟨n0, k126⟩]
            exact iteTh (decide_eq_true k126) (next ⟨h0 :: t, 0, lf⟩ la mu1 _ _ _ eS0 hS (by simp) (by show t.length + 1 ≤ p + 2; omega))
          · refine iteFh (decide_eq_false k126) ?_
            walk_at "ff"
            exact rest _ (fun y => ka y.2) (fun y => k126 y.2)
      · refine iteFh (decide_eq_false n0) ?_
        walk_at "ff"
        refine ⟨_, rfl, _, rfl, ?_⟩
        rw [gt0]
        refine iteFh (decide_eq_false n0) ?_
        walk_at "ff"
        exact rest _ (fun y => n0 y.1) (fun y => n0 y.1)
-- @hash b44f9c36
structure FoQ where
  f : Fm
  d : Nat
  w : Str
  g : Fm
  e : Nat
def sp__law_folded : DSp := fun ds mu c P PX => ∃ q : FoQ × Bool, ds = [.lst (if q.2 = true then [foD q.1.f q.1.d] else [foD q.1.f q.1.d, .str q.1.w, foD q.1.g q.1.e])] ∧ (q.2 = true → P (foD q.1.f q.1.d) mu c) ∧ (q.2 = false → P (foD (.node q.1.w q.1.f q.1.g) (max q.1.d q.1.e + 1)) mu c)
def m__law_folded : MS := (mSeq (mIfS (mB (mOp eqD (mCB lenD (mCons (mVar 0) mNil)) (mC (.int 1)))) (mRet (mOp subD (mVar 0) (mC (.int 0)))) mNext)
  (mRet (mTup (mCons (mTup (mCons (mOp subD (mVar 0) (mC (.int 1))) (mCons (mOp subD (mOp subD (mVar 0) (mC (.int 0))) (mC (.int 0))) (mCons (mOp subD (mOp subD (mVar 0) (mC (.int 2))) (mC (.int 0))) mNil)))) (mCons (mOp addD (mC (.int 1)) (mCB maxD (mCons (mLst (mCons (mOp subD (mOp subD (mVar 0) (mC (.int 0))) (mC (.int 1))) (mCons (mOp subD (mOp subD (mVar 0) (mC (.int 2))) (mC (.int 1))) mNil))) mNil))) mNil)))))
theorem rd__law_folded (ds : List D) (mu : Mu) (c : Nat) (P : D → Mu → Nat → Prop) (PX : Ex → Mu → Nat → Prop) (h : sp__law_folded ds mu c P PX) : m__law_folded (S0 ["_law_level"] ["_law_level"] ds mu c) (EF P) (XF PX) := by
  obtain ⟨⟨⟨f, d, w, g, e⟩, b⟩, rfl, h1, h2⟩ := h
  cases b with
  | true =>
    refine ⟨_, rfl, ceq_of (n := 0) (m := 0) rfl rfl, _, rfl, ?_⟩
    exact iteT ⟨_, rfl, _, atI_nat (j := 0) rfl, c, Nat.le_refl _, h1 rfl⟩
  | false =>
    refine ⟨_, rfl, ceq_of (n := 0) (m := 0) rfl rfl, _, rfl, ?_⟩
    refine iteF ?_
    refine ⟨_, rfl, _, atI_nat (j := 1) rfl, _, rfl, _, atI_nat (j := 0) rfl, _, atI_nat (j := 0) rfl, _, rfl, _, atI_nat (j := 2) rfl, _, atI_nat (j := 0) rfl, shortL 3 rfl, ?_⟩
    refine ⟨_, rfl, _, atI_nat (j := 0) rfl, _, atI_nat (j := 1) rfl, _, rfl, _, atI_nat (j := 2) rfl, _, atI_nat (j := 1) rfl, shortL 2 rfl, [(d : Int), (e : Int)], rfl, Nat.succ_pos _, fun m hm hm2 => ?_⟩
    refine ⟨shortL 2 rfl, c, Nat.le_refl _, ?_⟩
    have ee : (1 : Int) + m = ((max d e + 1 : Nat) : Int) := by
      have y1 := hm2 d (by simp)
      have y2 := hm2 e (by simp)
      simp only [List.mem_cons, List.not_mem_nil, or_false] at hm
      omega
    show P (.tup [.tup [.str w, f.toD, g.toD], .int (1 + m)]) mu c
    rw [ee]
    exact h2 rfl
-- @hash 38895993
-- @nest _law_levels
-- @drop
def llD : LL → List D
  | .emp => []
  | .one f d => [foD f d]
  | .two f d w => [foD f d, .str w]
  | .three f d w g e => [foD f d, .str w, foD g e]
theorem llD_len (l : LL) : (llD l).length ≤ 3 := by cases l <;> (show _ ≤ 3; simp [llD])
theorem llD_push {l l' : LL} {p : Fm × Nat} (h : l.push p = some l') : llD l' = llD l ++ [foD p.1 p.2] := by
  cases l <;> (first | (cases h; rfl) | cases h)
theorem llD_word {l l' : LL} {w : Str} (h : l.word w = some l') : llD l' = llD l ++ [.str w] := by
  cases l <;> (first | (cases h; rfl) | cases h)
theorem folded_of {l : LL} {p : Fm × Nat} (h : l.fold = some p) {mu : Mu} {c : Nat} {P : D → Mu → Nat → Prop} {PX : Ex → Mu → Nat → Prop} (hP : P (foD p.1 p.2) mu c) : sp__law_folded [.lst (llD l)] mu c P PX := by
  cases l with
  | emp => cases h
  | two _ _ _ => cases h
  | one f d => cases h; exact ⟨(⟨f, d, "", f, d⟩, true), rfl, fun _ => hP, fun z => by cases z⟩
  | three f d w g e => cases h; exact ⟨(⟨f, d, w, g, e⟩, false), rfl, fun z => (by cases z), fun _ => hP⟩
def outD (out : List (Fm × Nat)) : List D := out.map fun p => foD p.1 p.2
inductive LLAll (mu : Mu) : List Addr → List LL → Prop
  | nil : LLAll mu [] []
  | cons {b : Addr} {bs : List Addr} {l : LL} {st : List LL} : mu b = some (.lst (llD l)) → b ∉ bs → LLAll mu bs st → LLAll mu (b :: bs) (l :: st)
theorem LLAll.set {mu : Mu} {bs : List Addr} {st : List LL} (h : LLAll mu bs st) {x : Addr} (hx : x ∉ bs) (o : Option MO) : LLAll (muSet mu x o) bs st := by
  induction h with
  | nil => exact .nil
  | @cons b bs l st h1 h2 _ ih =>
    have hb : b ≠ x := fun z => hx (by rw [z]; exact List.mem_cons_self)
    exact .cons (by rw [muSet_ne hb]; exact h1) h2 (ih fun z => hx (List.mem_cons_of_mem _ z))
theorem LLAll.some {mu : Mu} {bs : List Addr} {st : List LL} (h : LLAll mu bs st) : ∀ b ∈ bs, mu b ≠ none := by
  induction h with
  | nil => intro b hb; cases hb
  | cons h1 _ _ ih =>
    intro x hx z
    rcases List.mem_cons.mp hx with e | e
    · rw [e, h1] at z; cases z
    · exact ih x e z
structure LrSt (mu0 : Mu) (la lo : Addr) (mu : Mu) (bs : List Addr) (st : List LL) (out : List (Fm × Nat)) : Prop where
  lv : mu la = some (.lst (bs.reverse.map D.ref))
  all : LLAll mu bs st
  out : mu lo = some (.lst (outD out))
  nl : la ∉ bs
  no : lo ∉ bs
  nlo : la ≠ lo
  old : ∀ x m, mu0 x = some m → mu x = some m ∧ x ≠ la ∧ x ≠ lo ∧ x ∉ bs
section
variable {mu0 mu : Mu} {la lo : Addr} {bs : List Addr} {st : List LL} {out : List (Fm × Nat)}
theorem LrSt.push (h : LrSt mu0 la lo mu bs st out) {b : Addr} (hb : mu b = none) : LrSt mu0 la lo (muSet (muSet mu b (some (.lst []))) la (some (.lst (bs.reverse.map D.ref ++ [.ref b])))) (b :: bs) (.emp :: st) out := by
  have n1 : b ≠ lo := fun z => by rw [z, h.out] at hb; cases hb
  have n2 : b ≠ la := fun z => by rw [z, h.lv] at hb; cases hb
  have n3 : b ∉ bs := fun z => h.all.some b z hb
  refine ⟨?_, .cons ?_ n3 ((h.all.set n3 _).set h.nl _), ?_, ?_, ?_, h.nlo, fun x m e => ?_⟩
  · rw [muSet_same, List.reverse_cons, List.map_append]; rfl
  · rw [muSet_ne n2, muSet_same]; rfl
  · rw [muSet_ne h.nlo.symm, muSet_ne n1.symm]; exact h.out
  · simp only [List.mem_cons, not_or]; exact ⟨n2.symm, h.nl⟩
  · simp only [List.mem_cons, not_or]; exact ⟨n1.symm, h.no⟩
  · obtain ⟨e1, e2, e3, e4⟩ := h.old x m e
    have n4 : x ≠ b := fun z => by rw [z, hb] at e1; cases e1
    exact ⟨by rw [muSet_ne e2, muSet_ne n4]; exact e1, e2, e3, by simp only [List.mem_cons, not_or]; exact ⟨n4, e4⟩⟩
theorem LrSt.pop {b : Addr} {l : LL} (h : LrSt mu0 la lo mu (b :: bs) (l :: st) out) : LrSt mu0 la lo (muSet (muSet mu la (some (.lst (bs.reverse.map D.ref)))) b none) bs st out := by
  have hall := h.all
  cases hall with
  | cons h1 h2 h3 =>
    have n1 : b ≠ lo := fun z => h.no (by rw [z]; exact List.mem_cons_self)
    have n2 : b ≠ la := fun z => h.nl (by rw [z]; exact List.mem_cons_self)
    have n3 : la ∉ bs := fun z => h.nl (List.mem_cons_of_mem _ z)
    refine ⟨?_, (h3.set n3 _).set h2 _, ?_, n3, fun z => h.no (List.mem_cons_of_mem _ z), h.nlo, fun x m e => ?_⟩
    · rw [muSet_ne n2.symm, muSet_same]
    · rw [muSet_ne n1.symm, muSet_ne h.nlo.symm]; exact h.out
    · obtain ⟨e1, e2, e3, e4⟩ := h.old x m e
      have n4 : x ≠ b := fun z => e4 (by rw [z]; exact List.mem_cons_self)
      exact ⟨by rw [muSet_ne n4, muSet_ne e2]; exact e1, e2, e3, fun z => e4 (List.mem_cons_of_mem _ z)⟩
theorem LrSt.put {b : Addr} {l l' : LL} (h : LrSt mu0 la lo mu (b :: bs) (l :: st) out) : LrSt mu0 la lo (muSet mu b (some (.lst (llD l')))) (b :: bs) (l' :: st) out := by
  have hall := h.all
  cases hall with
  | cons h1 h2 h3 =>
    have n1 : b ≠ lo := fun z => h.no (by rw [z]; exact List.mem_cons_self)
    have n2 : b ≠ la := fun z => h.nl (by rw [z]; exact List.mem_cons_self)
    refine ⟨?_, .cons muSet_same h2 (h3.set h2 _), ?_, h.nl, h.no, h.nlo, fun x m e => ?_⟩
    · rw [muSet_ne n2.symm]; exact h.lv
    · rw [muSet_ne n1.symm]; exact h.out
    · obtain ⟨e1, e2, e3, e4⟩ := h.old x m e
      have n4 : x ≠ b := fun z => e4 (by rw [z]; exact List.mem_cons_self)
      exact ⟨by rw [muSet_ne n4]; exact e1, e2, e3, e4⟩
theorem LrSt.add (h : LrSt mu0 la lo mu bs st out) (p : Fm × Nat) : LrSt mu0 la lo (muSet mu lo (some (.lst (outD out ++ [foD p.1 p.2])))) bs st (out ++ [p]) := by
  refine ⟨?_, h.all.set h.no _, ?_, h.nl, h.no, h.nlo, fun x m e => ?_⟩
  · rw [muSet_ne h.nlo]; exact h.lv
  · rw [muSet_same]; unfold outD; rw [List.map_append]; rfl
  · obtain ⟨e1, e2, e3, e4⟩ := h.old x m e
    exact ⟨by rw [muSet_ne e3]; exact e1, e2, e3, e4⟩
theorem LrSt.less (h : LrSt mu0 la lo mu bs st out) : Less mu0 mu := fun x m e => (h.old x m e).1
end
def okC : List Nat := alnum ++ signs7 ++ [126, 32]
theorem okC_space : ∀ k ∈ okC, Unicode.isSpace k = decide (k = 32) := by decide +kernel
theorem okC_asc : ∀ k ∈ okC, k < 128 := by decide +kernel
theorem spd_chars {ts : List (List Nat)} {l : List Nat} (h : Spd ts l) : (∀ t ∈ ts, ∀ k ∈ t, k ∈ okC) → ∀ k ∈ l, k ∈ okC := by
  induction h with
  | nil n => intro _ k hk; rw [List.eq_of_mem_replicate hk]; decide +kernel
  | cons n _ ih =>
    intro ht k hk
    rcases List.mem_append.mp hk with z | z
    · rw [List.eq_of_mem_replicate z]; decide +kernel
    · rcases List.mem_append.mp z with z | z
      · exact ht _ List.mem_cons_self k z
      · exact ih (fun t h => ht t (List.mem_cons_of_mem _ h)) k z
theorem toks_chars : ∀ (f : Fm) (b : Bool), f.ok = true → ∀ t ∈ f.toks b, ∀ k ∈ t, k ∈ okC
  | .leaf w n, b, ho, t, ht, k, hk => by
    obtain ⟨h1, h2⟩ := Bool.and_eq_true_iff.mp ho
    rw [List.mem_singleton.mp ht] at hk
    rcases List.mem_append.mp hk with z | z
    · exact List.mem_append_left _ (List.mem_append_left _ (isNameL_all h2 k z))
    · unfold tilde at z
      split at z
      · rw [List.mem_singleton.mp z]; decide +kernel
      · cases z
  | .node w l r, b, ho, t, ht, k, hk => by
    obtain ⟨hw, ho2⟩ := Bool.and_eq_true_iff.mp ho
    obtain ⟨hl, hr⟩ := Bool.and_eq_true_iff.mp ho2
    have sg : ∀ j ∈ signs7, j ∈ okC := fun j hj => List.mem_append_left _ (List.mem_append_right _ hj)
    have core : t ∈ l.toks true ++ [[markC w]] ++ r.toks true → k ∈ okC := fun z => by
      rcases List.mem_append.mp z with z | z
      · rcases List.mem_append.mp z with z | z
        · exact toks_chars l true hl t z k hk
        · rw [List.mem_singleton.mp z] at hk
          obtain ⟨j, hj, e⟩ := markC_sign hw
          rw [List.mem_singleton.mp hk]
          have : markC w = j := by simpa using e
          rw [this]
          exact sg j hj
      · exact toks_chars r true hr t z k hk
    cases b with
    | false => exact core ht
    | true =>
      have ht : t ∈ [40] :: (l.toks true ++ [[markC w]] ++ r.toks true ++ [[41]]) := ht
      rcases List.mem_cons.mp ht with z | z
      · rw [z] at hk; rw [List.mem_singleton.mp hk]; decide +kernel
      · rcases List.mem_append.mp z with z | z
        · exact core z
        · rw [List.mem_singleton.mp z] at hk; rw [List.mem_singleton.mp hk]; decide +kernel
theorem row_chars {fs : List Fm} (h : ∀ f ∈ fs, f.ok = true) : ∀ t ∈ rowToks fs, ∀ k ∈ t, k ∈ okC := by
  cases fs with
  | nil => intro t ht; cases ht
  | cons f fs =>
    intro t ht k hk
    rcases List.mem_append.mp ht with z | z
    · exact toks_chars f false (h f List.mem_cons_self) t z k hk
    · obtain ⟨l, hl, z⟩ := List.mem_flatten.mp z
      obtain ⟨g, hg, rfl⟩ := List.mem_map.mp hl
      rcases List.mem_cons.mp z with z | z
      · rw [z] at hk; rw [List.mem_singleton.mp hk]; decide +kernel
      · exact toks_chars g false (h g (List.mem_cons_of_mem _ hg)) t z k hk
theorem spcs_mem {cs l : List Nat} : ∀ k ∈ spcs cs l, k = 32 ∨ k ∈ l := by
  intro k hk
  obtain ⟨j, hj, z⟩ := List.mem_flatMap.mp hk
  split at z
  · simp only [List.mem_cons, List.not_mem_nil, or_false] at z
    rcases z with z | z | z
    · exact .inl z
    · exact .inr (z ▸ hj)
    · exact .inl z
  · exact .inr (by rw [List.mem_singleton.mp z]; exact hj)
theorem eqv_tok (t : List Nat) {x : Str} {l : List Nat} (h : x.cps.toList = l) : eqvD (.str (sL t)) (.str x) = decide (t = l) := by
  rw [eqv_word, Bool.eq_iff_iff]
  simp only [decide_eq_true_eq]
  rw [str_eq, h, sL_cps]
def marksE : List (Key × D) := mergeD [] [((.inr "*" : Key), D.str "both"), (.inr "|", .str "between"), (.inr "&", .str "offered"), (.inr "+", .str "chosen")]
theorem marksE_is : marksE = [((.inr "*" : Key), D.str "both"), (.inr "|", .str "between"), (.inr "&", .str "offered"), (.inr "+", .str "chosen")] := by rfl
theorem look_marks (t : List Nat) : look marksE (.inr (sL t)) = (markT t).map D.str := by
  rw [marksE_is]
  unfold look markT
  have e : ∀ (x : Str) (j : Nat), x.cps.toList = [j] → decide ((Sum.inr x : Key) = .inr (sL t)) = decide (t = [j]) := fun x j hx => by
    rw [Bool.eq_iff_iff]
    simp only [decide_eq_true_eq, Sum.inr.injEq]
    rw [str_eq, hx, sL_cps]
    exact eq_comm
  simp only [List.find?_cons, List.find?_nil]
  rw [e _ 42 (by decide +kernel), e _ 124 (by decide +kernel), e _ 38 (by decide +kernel), e _ 43 (by decide +kernel)]
  by_cases h1 : t = [42]
  · rw [decide_eq_true h1, if_pos h1]; rfl
  rw [decide_eq_false h1, if_neg h1]
  by_cases h2 : t = [124]
  · rw [decide_eq_true h2, if_pos h2]; rfl
  rw [decide_eq_false h2, if_neg h2]
  by_cases h3 : t = [38]
  · rw [decide_eq_true h3, if_pos h3]; rfl
  rw [decide_eq_false h3, if_neg h3]
  by_cases h4 : t = [43]
  · rw [decide_eq_true h4, if_pos h4]; rfl
  rw [decide_eq_false h4, if_neg h4]; rfl
theorem cut_init (l : List Nat) (h : l ≠ []) : cutD l none (some (-1)) = l.dropLast := by
  have hl : 1 ≤ l.length := by cases l with | nil => exact absurd rfl h | cons _ _ => exact Nat.succ_pos _
  unfold cutD
  rw [HT.sIx_none]
  have e : HT.sIx l.length l.length (some (-1)) = l.length - 1 := by
    unfold HT.sIx
    first
      | (simp only; split <;> omega)
      | (simp; omega)
  rw [e, List.drop_zero, Nat.sub_zero, List.dropLast_eq_take]
def sp__law_read : DSp := fun ds mu c P PX => ∃ q : Str × List Fm, ds = [.str q.1] ∧ q.2 ≠ [] ∧ (∀ f ∈ q.2, f.ok = true) ∧ Spd (rowToks q.2) q.1.cps.toList ∧ q.1.cps.toList.length ≤ LN ∧ P (.lst (q.2.map fun f => foD f f.depth)) mu c
theorem muNe {mu : Mu} {a b : Addr} {m : MO} (h1 : mu a = some m) (h2 : mu b = none) : a ≠ b := fun z => by
  rw [z, h2] at h1
  cases h1
theorem mem_sum : ∀ {l : List Nat} {n : Nat}, n ∈ l → n ≤ l.sum
  | m :: l, n, h => by
    rw [List.sum_cons]
    rcases List.mem_cons.mp h with e | e
    · omega
    · have := mem_sum e; omega
def m__law_read : MS := (mSeq (mRepl 1 0 (Str.ofString "()*|&+,").cps.toList)
  (mSeq (mPar3 2 3 4 (mCons (mDisp [((mC (.str "*")), (mC (.str "both"))), ((mC (.str "|")), (mC (.str "between"))), ((mC (.str "&")), (mC (.str "offered"))), ((mC (.str "+")), (mC (.str "chosen")))]) (mCons (mNewL (mCons (mNewL mNil) mNil)) (mCons (mNewL mNil) mNil))))
  (mSeq (mFor (mItems (mWords (mVar 0))) (gN 5) (mIfS (mB (mOp eqD (mVar 5) (mC (.str "(")))) (mDrop (mApp (mVar 3) (mNewL mNil))) (mIfS (mB (mOp eqD (mVar 5) (mC (.str ")")))) (mSeq (mSet 6 (mCall sp__law_folded (mCons (mFrz (mPop (mVar 3))) mNil)))
  (mDrop (mApp (mOp ixM (mVar 3) (mUn negD (mC (.int 1)))) (mVar 6)))) (mIfS (mB (mOp eqD (mVar 5) (mC (.str ",")))) (mSeq (mDrop (mApp (mVar 4) (mCall sp__law_folded (mCons (mFrz (mPop (mVar 3))) mNil))))
  (mDrop (mApp (mVar 3) (mNewL mNil)))) (mIfS (mB (mOp (inD id) (mVar 5) (mVar 2))) (mDrop (mApp (mOp ixM (mVar 3) (mUn negD (mC (.int 1)))) (mOp subD (mVar 2) (mVar 5)))) (mIfS (mB (mOp eqD (mOp subD (mVar 5) (mUn negD (mC (.int 1)))) (mC (.str "~")))) (mDrop (mApp (mOp ixM (mVar 3) (mUn negD (mC (.int 1)))) (mTup (mCons (mTup (mCons (mC (.str "counter")) (mCons (mSl (mVar 5) mONone (mOSome (mUn negD (mC (.int 1))))) mNil))) (mCons (mC (.int 0)) mNil))))) (mDrop (mApp (mOp ixM (mVar 3) (mUn negD (mC (.int 1)))) (mTup (mCons (mTup (mCons (mC (.str "good")) (mCons (mVar 5) mNil))) (mCons (mC (.int 0)) mNil)))))))))))
  (mRet (mOp addD (mFrz (mVar 4)) (mLst (mCons (mCall sp__law_folded (mCons (mFrz (mPop (mVar 3))) mNil)) mNil)))))))
theorem rd__law_read (ds : List D) (mu : Mu) (c : Nat) (P : D → Mu → Nat → Prop) (PX : Ex → Mu → Nat → Prop) (h : sp__law_read ds mu c P PX) : m__law_read (S0 ["_law_text", "_law_sign", "_law_words", "_law_levels", "_law_out", "_law_token", "_law_part"] ["_law_text"] ds mu c) (EF (fg P)) (XF (fg PX)) := by
  obtain ⟨⟨z, fs⟩, rfl, hne, hok, hspd, hl, h⟩ := h
  simp only at hne hok hspd hl h
  have hl : z.cps.toList.length ≤ 1000000 := hl
  have eL : (LINE : Nat) = 16777216 := rfl
  have eS : (sizeLine : Nat) = 16777216 := sizeLine_eq
  have hch := spd_chars hspd (row_chars hok)
  have htl : (rowToks fs).length ≤ 3 * z.cps.toList.length + 1 := by
    have e := spd_wd hspd (alt_row hok)
    have e2 := words_wd (sL (spcs signs7 z.cps.toList)) (fun k hk => by
      rw [sL_cps] at hk
      rcases spcs_mem k hk with y | y
      · rw [y]; decide +kernel
      · exact okC_space k (hch k y))
    have e3 := StrLaws.words_weight (sL (spcs signs7 z.cps.toList))
    rw [e2, sL_cps, e] at e3
    rw [List.length_map] at e3
    have e4 := spcs_len signs7 z.cps.toList
    rw [sL_len] at e3
    omega
  have begin_ : ∀ (rest : List (Option D)) (K : S → Prop), (∀ y, K ⟨some (.str (sL (spcs signs7 z.cps.toList))) :: y :: rest, mu, c⟩) → replD 1 0 signs7 ⟨some (.str z) :: none :: rest, mu, c⟩ K := fun rest K k => by
    have e := replD_all hl signs7 [] none (by decide) (by decide) k
    rw [spcs_nil, sL_self] at e
    exact e
  have ecs : (Str.ofString "()*|&+,").cps.toList = signs7 := by decide +kernel
  show replD 1 0 (Str.ofString "()*|&+,").cps.toList ⟨some (.str z) :: none :: [none, none, none, none, none], mu, c⟩ _
  rw [ecs]
  refine begin_ _ _ fun y1 => ?_
  refine ⟨_, rfl, by decide, Nat.zero_le _, fun b hb => ⟨shortL 1 rfl, fun la hla => ⟨Nat.zero_le _, fun lo hlo => ⟨_, _, _, rfl, ?_⟩⟩⟩⟩
  have hb : mu b = none := hb
  have hla : muSet mu b (some (.lst [])) la = none := hla
  have hlo : muSet (muSet mu b (some (.lst []))) la (some (.lst [.ref b])) lo = none := hlo
  have n1 : la ≠ b := fun y => by rw [y, muSet_same] at hla; cases hla
  have n2 : lo ≠ la := fun y => by rw [y, muSet_same] at hlo; cases hlo
  rw [muSet_ne n1] at hla
  rw [muSet_ne n2] at hlo
  have n3 : lo ≠ b := fun y => by rw [y, muSet_same] at hlo; cases hlo
  rw [muSet_ne n3] at hlo
  have R0 : LrSt mu la lo (muSet (muSet (muSet mu b (some (.lst []))) la (some (.lst [.ref b]))) lo (some (.lst []))) [b] [.emp] [] := by
    refine ⟨?_, .cons ?_ (by simp) .nil, muSet_same, by simpa using n1, by simpa using n3, n2.symm, fun x m e => ?_⟩
    · rw [muSet_ne n2.symm, muSet_same]; rfl
    · rw [muSet_ne n3.symm, muSet_ne n1.symm, muSet_same]; rfl
    · have m1 : x ≠ b := fun y => by rw [y, hb] at e; cases e
      have m2 : x ≠ la := fun y => by rw [y, hla] at e; cases e
      have m3 : x ≠ lo := fun y => by rw [y, hlo] at e; cases e
      exact ⟨by rw [muSet_ne m3, muSet_ne m2, muSet_ne m1]; exact e, m2, m3, by simpa using m1⟩
  have ew : (Txt.words (sL (spcs signs7 z.cps.toList))).map D.str = (rowToks fs).map fun t => D.str (sL t) := by
    rw [words_wd _ (fun k hk => by
      rw [sL_cps] at hk
      rcases spcs_mem k hk with y | y
      · rw [y]; decide +kernel
      · exact okC_space k (hch k y)), sL_cps, spd_wd hspd (alt_row hok), List.map_map]
    rfl
  refine ⟨_, rfl, _, rfl, by rw [sL_len]; have := spcs_len signs7 z.cps.toList; omega, ?_⟩
  show forGo _ _ _ _ ((Txt.words (sL (spcs signs7 z.cps.toList))).map D.str) _
  rw [ew]
  obtain ⟨T, hT⟩ : ∃ T, T = rowToks fs := ⟨_, rfl⟩
  have hrun := tk_row hne hok
  have hchT := row_chars hok
  have hnT : ∀ t ∈ rowToks fs, t ≠ [] ∧ t.length ≤ 1000000 := fun t ht => by
    have h1 := hspd.flat_le
    have h2 : t.length ≤ (rowToks fs).flatten.length := by
      rw [List.length_flatten]
      exact mem_sum (List.mem_map.mpr ⟨t, ht, rfl⟩)
    refine ⟨?_, by omega⟩
    have alt_ne : ∀ ts : List (List Nat), Alt ts → ∀ t ∈ ts, t ≠ [] := by
      intro ts
      induction ts with
      | nil => intro _ t ht; cases ht
      | cons u us ih =>
        rintro ⟨h1, h2⟩ t ht
        rcases List.mem_cons.mp ht with e | e
        · rw [e]
          rcases h1 with ⟨k, _, rfl⟩ | ⟨⟨h, _⟩, _⟩
          · simp
          · exact h
        · exact ih h2 t e
    exact alt_ne _ (alt_row hok) t ht
  rw [← hT] at htl hrun hchT hnT ⊢
  refine for_ind (fun ds st => ∃ (ts : List (List Nat)) (st1 : List LL) (out : List (Fm × Nat)) (mu1 : Mu) (bs : List Addr) (x5 x6 : Option D), ds = (ts.map fun t => D.str (sL t)) ∧ st = ⟨[some (.str (sL (spcs signs7 z.cps.toList))), y1, some (.dct marksE), some (.ref la), some (.ref lo), x5, x6], mu1, c⟩ ∧ LrSt mu la lo mu1 bs st1 out ∧ tkRun st1 out ts = some (fs.map fun f => (f, f.depth)) ∧ (∀ t ∈ ts, (∀ k ∈ t, k ∈ okC) ∧ t ≠ [] ∧ t.length ≤ 1000000) ∧ bs.length + ts.length ≤ T.length + 1 ∧ out.length + ts.length ≤ T.length) _ _
    ⟨T, [.emp], [], _, [b], none, none, rfl, rfl, R0, hrun, fun t ht => ⟨hchT t ht, hnT t ht⟩, by simp only [List.length_cons, List.length_nil]; omega, by simp only [List.length_nil]; omega⟩ ?_ ?_
  · rintro _ ⟨ts, st1, out, mu1, bs, x5, x6, e, rfl, hR, hr, -, hb1, hb2⟩
    cases ts with
    | cons t ts => cases e
    | nil =>
      have hall := hR.all
      cases hall with
      | nil => cases hr
      | @cons b bs l st1 g1 g2 g3 =>
        have hr : (l.fold).map (fun p => out ++ [p]) = some (fs.map fun f => (f, f.depth)) := hr
        cases ef : l.fold with
        | none => rw [ef] at hr; cases hr
        | some p =>
          rw [ef] at hr
          have hr : out ++ [p] = fs.map fun f => (f, f.depth) := Option.some.inj hr
          obtain ⟨rl1, rl2, rl3⟩ := refs_last b bs
          have nlo : la ≠ lo := hR.nlo
          have nbl : b ≠ lo := fun y => hR.no (by rw [y]; exact List.mem_cons_self)
          have nbla : b ≠ la := fun y => hR.nl (by rw [y]; exact List.mem_cons_self)
          refine ⟨_, rfl, lo, _, rfl, hR.out, _, rfl, la, _, _, rfl, (muSet_ne nlo).trans hR.lv, rl1, b, _, rfl, (muSet_ne nbla).trans ((muSet_ne nbl).trans g1), ?_⟩
          walk_at "c"
          refine folded_of ef ?_
          refine ⟨shortL 1 rfl, ?_, c, Nat.le_refl _, mu, ?_, ?_⟩
          · have := hb2
            unfold outD
            rw [List.length_map, List.length_cons, List.length_nil]
            simp only [List.length_nil] at hb2
            omega
          · rw [rl2]
            intro x m e
            obtain ⟨o1, o2, o3, o4⟩ := hR.old x m e
            have o5 : x ≠ b := fun y => o4 (by rw [y]; exact List.mem_cons_self)
            refine (muSet_ne o5).trans ((muSet_ne o2).trans ((muSet_ne o3).trans o1))
          · have e5 : outD out ++ [foD p.1 p.2] = fs.map fun f => foD f f.depth := by
              have := congrArg (fun l => l.map fun q : Fm × Nat => foD q.1 q.2) hr
              simp only [List.map_append, List.map_cons, List.map_nil, List.map_map] at this
              exact this
            rw [e5]
            exact h
  · rintro _ _ _ ⟨ts, st1, out, mu1, bs, x5, x6, e, rfl, hR, hr, htk, hb1, hb2⟩ K hK
    cases ts with
    | nil => cases e
    | cons t ts =>
      obtain ⟨hc, hne1, hlen1⟩ := htk t List.mem_cons_self
      have htk' : ∀ u ∈ ts, (∀ k ∈ u, k ∈ okC) ∧ u ≠ [] ∧ u.length ≤ 1000000 := fun u hu => htk u (List.mem_cons_of_mem _ hu)
      have hasc : asc t := fun k hk => okC_asc k (hc k hk)
      injection e with e1 e2
      subst e1
      subst e2
      have htok : ∀ n, (D.str (sL t)).ok n = true := fun n => ok_asc hasc n
      rw [List.length_cons] at hb1 hb2
      have e40 : eqvD (.str (sL t)) (.str (Str.ofString "(")) = decide (t = [40]) := eqv_tok t (by decide +kernel)
      have e41 : eqvD (.str (sL t)) (.str (Str.ofString ")")) = decide (t = [41]) := eqv_tok t (by decide +kernel)
      have e44 : eqvD (.str (sL t)) (.str (Str.ofString ",")) = decide (t = [44]) := eqv_tok t (by decide +kernel)
      have o40 : (D.str (Str.ofString "(")).ok 0 = true := by decide +kernel
      have o41 : (D.str (Str.ofString ")")).ok 0 = true := by decide +kernel
      have o44 : (D.str (Str.ofString ",")).ok 0 = true := by decide +kernel
      have o126 : (D.str (Str.ofString "~")).ok 0 = true := by decide +kernel
      have hall := hR.all
      cases hall with
      | nil => cases hr
      | @cons b bs l st1 g1 g2 g3 =>
      obtain ⟨rl1, rl2, rl3⟩ := refs_last b bs
      have hbl : (b :: bs).length = bs.length + 1 := rfl
      have next : ∀ {mu2 : Mu} {bs2 : List Addr} {st2 : List LL} {out2 : List (Fm × Nat)} {y5 y6 : Option D}, LrSt mu la lo mu2 bs2 st2 out2 → tkRun st2 out2 ts = some (fs.map fun f => (f, f.depth)) → bs2.length ≤ (b :: bs).length + 1 → out2.length ≤ out.length + 1 →
          K ⟨[some (.str (sL (spcs signs7 z.cps.toList))), y1, some (.dct marksE), some (.ref la), some (.ref lo), y5, y6], mu2, c⟩ := fun h1 h2 h3 h4 => hK _ ⟨ts, _, _, _, _, _, _, rfl, rfl, h1, h2, htk', by omega, by omega⟩
      refine ⟨_, rfl, ceq_of (n := 0) (m := 0) (htok 0) o40, _, rfl, ?_⟩
      rw [e40]
      by_cases c40 : t = [40]
      · subst c40
        rw [tk_40] at hr
        refine iteTh rfl ⟨_, rfl, la, _, rfl, hR.lv, Nat.zero_le _, fun b2 hb2 => ?_⟩
        have hb2 : mu1 b2 = none := hb2
        have nla : la ≠ b2 := fun y => by rw [← y, hR.lv] at hb2; cases hb2
        refine ⟨_, (muSet_ne nla).trans hR.lv, ?_, ?_⟩
        · rw [List.length_map, List.length_reverse, eS]; omega
        · exact next (hR.push hb2) hr (by simp) (by omega)
      refine iteFh (decide_eq_false c40) ⟨_, rfl, ceq_of (n := 0) (m := 0) (htok 0) o41, _, rfl, ?_⟩
      rw [e41]
      have hpop := hR.pop
      by_cases c41 : t = [41]
      · subst c41
        cases st1 with
        | nil => cases hr
        | cons m s =>
        cases ef : l.fold with
        | none => unfold tkRun at hr; rw [if_neg (by decide), if_pos rfl] at hr; simp only [ef] at hr; cases hr
        | some p =>
        cases ep : m.push p with
        | none => unfold tkRun at hr; rw [if_neg (by decide), if_pos rfl] at hr; simp only [ef, ep] at hr; cases hr
        | some m' =>
        rw [tk_41 ef ep] at hr
        cases g3 with
        | @cons b2 bs _ _ k1 k2 k3 =>
        obtain ⟨sl1, sl2, sl3⟩ := refs_last b2 bs
        have nbla : b ≠ la := fun y => hR.nl (by rw [y]; exact List.mem_cons_self)
        refine iteTh rfl ⟨_, rfl, la, _, _, rfl, hR.lv, rl1, b, _, rfl, (muSet_ne nbla).trans g1, ?_⟩
        walk_at "c"
        refine folded_of ef ?_
        rw [rl2]
        have hpa := hpop.all
        cases hpa with
        | cons j1 j2 j3 =>
        refine ⟨_, rfl, _, _, hpop.lv, sl3, _, _, rfl, j1, _, rfl, _, j1, by have := llD_len m; omega, ?_⟩
        rw [← llD_push ep]
        exact next hpop.put hr (by simp) (by omega)
      refine iteFh (decide_eq_false c41) ⟨_, rfl, ceq_of (n := 0) (m := 0) (htok 0) o44, _, rfl, ?_⟩
      rw [e44]
      by_cases c44 : t = [44]
      · subst c44
        cases ef : l.fold with
        | none => unfold tkRun at hr; rw [if_neg (by decide), if_neg (by decide), if_pos rfl] at hr; simp only [ef] at hr; cases hr
        | some p =>
        rw [tk_44 ef] at hr
        have nbla : b ≠ la := fun y => hR.nl (by rw [y]; exact List.mem_cons_self)
        refine iteTh rfl ⟨_, rfl, lo, _, rfl, hR.out, _, rfl, la, _, _, rfl, hR.lv, rl1, b, _, rfl, (muSet_ne nbla).trans g1, ?_⟩
        walk_at "c"
        refine folded_of ef ?_
        rw [rl2]
        refine ⟨_, hpop.out, by unfold outD; rw [List.length_map, eS]; omega, ?_⟩
        have hadd := hpop.add p
        refine ⟨_, rfl, la, _, rfl, hadd.lv, Nat.zero_le _, fun b2 hb2 => ?_⟩
        have nla : la ≠ b2 := muNe hadd.lv hb2
        refine ⟨_, (muSet_ne nla).trans hadd.lv, ?_, ?_⟩
        · rw [List.length_map, List.length_reverse, eS]; omega
        · exact next (hadd.push hb2) hr (by simp) (by simp)
      refine iteFh (decide_eq_false c44) ⟨_, rfl, _, rfl, .inr (sL t), rfl, _, rfl, ?_⟩
      rw [show id (look marksE (.inr (sL t))).isSome = ((markT t).map D.str).isSome by rw [look_marks]; rfl]
      cases em : markT t with
      | some w =>
        cases ew : l.word w with
        | none => unfold tkRun at hr; rw [if_neg c40, if_neg c41, if_neg c44] at hr; simp only [em, ew] at hr; cases hr
        | some l' =>
        have hr2 : tkRun (l' :: st1) out ts = some (fs.map fun f => (f, f.depth)) := by
          unfold tkRun at hr; rw [if_neg c40, if_neg c41, if_neg c44] at hr; simp only [em, ew] at hr; exact hr
        refine iteTh rfl ⟨_, rfl, _, _, hR.lv, rl3, _, _, rfl, g1, _, rfl, _, rfl, .inr (sL t), .str w, rfl, by rw [look_marks, em]; rfl, _, g1, by have := llD_len l; omega, ?_⟩
        rw [← llD_word ew]
        exact next hR.put hr2 (by omega) (by omega)
      | none =>
        cases ep : l.push (leafT t, 0) with
        | none => unfold tkRun at hr; rw [if_neg c40, if_neg c41, if_neg c44] at hr; simp only [em, ep] at hr; cases hr
        | some l' =>
        have hr2 : tkRun (l' :: st1) out ts = some (fs.map fun f => (f, f.depth)) := by
          unfold tkRun at hr; rw [if_neg c40, if_neg c41, if_neg c44] at hr; simp only [em, ep] at hr; exact hr
        have elst := llD_push ep
        obtain ⟨k, hk⟩ : ∃ k, t.getLast? = some k := by
          cases e : t.getLast? with
          | none => exact absurd (List.getLast?_eq_none_iff.mp e) hne1
          | some k => exact ⟨k, rfl⟩
        have hat : atI t (-1) = some k := by
          obtain ⟨u, rfl⟩ := List.getLast?_eq_some_iff.mp hk
          exact atI_last _ _
        refine iteFh rfl ⟨_, rfl, by rw [sL_len]; omega, k, by rw [sL_cps]; exact hat, ceq_of (n := 0) (m := 0) (one_ok (hasc k (List.mem_of_getLast? hk)) 0) o126, _, rfl, ?_⟩
        rw [eqv_one k (x := Str.ofString "~") (j := 126) (by decide +kernel)]
        by_cases c126 : k = 126
        · have el : leafT t = .leaf "counter" (sL t.dropLast) := by unfold leafT; rw [if_pos (by rw [hk, c126])]
          rw [el] at elst
          refine iteTh (decide_eq_true c126) ⟨_, rfl, _, _, hR.lv, rl3, _, _, rfl, g1, _, rfl, _, rfl, by show (sL t).length ≤ LINE; rw [sL_len]; omega, shortL 2 rfl, shortL 2 rfl, _, g1, by have := llD_len l; omega, ?_⟩
          have e3 : (⟨(cutD (sL t).cps.toList none (some (-1))).toArray⟩ : Str) = sL t.dropLast := by rw [sL_cps, cut_init t hne1]; rfl
          rw [e3]
          have e4 : llD l ++ [D.tup [D.tup [.str (Str.ofString "counter"), .str (sL t.dropLast)], .int 0]] = llD l' := elst.symm
          rw [e4]
          exact next hR.put hr2 (by omega) (by omega)
        · have el : leafT t = .leaf "good" (sL t) := by unfold leafT; rw [if_neg (by rw [hk]; intro y; cases y; exact c126 rfl)]
          rw [el] at elst
          refine iteFh (decide_eq_false c126) ⟨_, rfl, _, _, hR.lv, rl3, _, _, rfl, g1, _, rfl, shortL 2 rfl, shortL 2 rfl, _, g1, by have := llD_len l; omega, ?_⟩
          have e4 : llD l ++ [D.tup [D.tup [.str (Str.ofString "good"), .str (sL t)], .int 0]] = llD l' := elst.symm
          rw [e4]
          exact next hR.put hr2 (by omega) (by omega)
-- @hash 64676e53
/-- how a text is read: a row of forms, or one form -/
def ReadR : Bool → List Nat → RR → Prop
  | true, l, res => RowR l res
  | false, l, res => ∃ n fr, mach n (.A [none] l) = some fr ∧ res = match fr with
    | .err r1 => .err r1
    | .ok f d r1 => .ok [(f, d)] (skp r1)
def readE (n : Nat) : RR → Nat × Bool
  | .err r1 => (n - r1.length, false)
  | .ok _ r1 => (n - r1.length, decide (r1 = []))
theorem read_auto {row : Bool} {l : List Nat} {res : RR} (h : ReadR row l res) (lf : Bool) : auto row ⟨[0], 0, lf⟩ 0 l = readE l.length res := by
  cases row with
  | true =>
    have e := auto_row h 0 lf
    cases res with
    | err r1 => rw [e]; simp [readE]
    | ok ps r1 => rw [e]; simp [readE]
  | false =>
    obtain ⟨n, fr, hm, rfl⟩ := h
    have e := auto_form hm 0 lf
    cases fr with
    | err r1 => rw [e]; simp [readE]
    | ok f d r1 => rw [e]; simp [readE]
theorem read_suf {row : Bool} {l : List Nat} {res : RR} (h : ReadR row l res) : res.rest <:+ l := by
  cases row with
  | true => exact row_suf h
  | false =>
    obtain ⟨n, fr, hm, rfl⟩ := h
    cases fr with
    | err r1 => exact mach_suf _ _ _ hm
    | ok f d r1 => exact (skp_suf r1).trans (mach_suf _ _ _ hm)
theorem readR_ok {row : Bool} {l : List Nat} {ps : List (Fm × Nat)} {r1 : List Nat} (h : ReadR row l (.ok ps r1)) : ps ≠ [] ∧ (∀ p ∈ ps, p.1.ok = true ∧ p.2 = p.1.depth) ∧ (row = false → ∃ p, ps = [p]) := by
  cases row with
  | true =>
    obtain ⟨h1, h2⟩ := row_ok h _ _ rfl
    exact ⟨h1, h2, fun z => by cases z⟩
  | false =>
    obtain ⟨n, fr, hm, e⟩ := h
    cases fr with
    | err r1 => cases e
    | ok f d r1 =>
      cases e
      exact ⟨by simp, fun p hp => by rw [List.mem_singleton.mp hp]; exact mach_ok _ _ _ _ _ hm none_good, fun _ => ⟨_, rfl⟩⟩
theorem read_toks {row : Bool} {l : List Nat} {ps : List (Fm × Nat)} (h : ReadR row l (.ok ps [])) : Spd (rowToks (ps.map (·.1))) l := by
  cases row with
  | true =>
    obtain ⟨p, e1, e2⟩ := row_toks h _ _ rfl
    rw [List.append_nil] at e1
    rw [e1]
    exact e2
  | false =>
    obtain ⟨n, fr, hm, e⟩ := h
    cases fr with
    | err r1 => cases e
    | ok f d r1 =>
      have e : RR.ok ps [] = .ok [(f, d)] (skp r1) := e
      have e1 : ps = [(f, d)] ∧ [] = skp r1 := by injection e with y1 y2; exact ⟨y1, y2⟩
      obtain ⟨rfl, e2⟩ := e1
      obtain ⟨p, e3, e4⟩ := form_toks hm
      have e5 := e4.pre (Spd.nil (skipN r1))
      have e6 := skp_split r1
      rw [← e2, List.append_nil] at e6
      rw [e3, e6]
      exact e5
theorem readR_len {row : Bool} {l : List Nat} {ps : List (Fm × Nat)} {r1 : List Nat} (h : ReadR row l (.ok ps r1)) : ps.length ≤ l.length + 1 := by
  cases row with
  | true => exact row_len h _ _ rfl
  | false =>
    obtain ⟨n, fr, hm, e⟩ := h
    cases fr with
    | err r1 => cases e
    | ok f d r1 =>
      have e : RR.ok ps _ = .ok [(f, d)] (skp r1) := e
      injection e with y1 y2
      rw [y1]
      simp
def dueD (row : Bool) (n : Nat) : RR → D
  | .err r1 => .tup [.str "text", .int ((n - r1.length : Nat) : Int)]
  | .ok ps r1 => if r1 = [] then (if ps.any (fun p => decide (12 < p.2)) = true then .tup [.str "deep", .int 12] else if row = true ∧ 40 < leafN (ps.map (·.1)) then .tup [.str "many", .int 40]
      else .tup [.str "told", if row = true then .lst ((ps.map (·.1)).map Fm.toD) else ((ps.map (·.1)).map Fm.toD).headD .non]) else .tup [.str "text", .int ((n - r1.length : Nat) : Int)]
def sp__law_read_due : DSp := fun ds mu c P PX => ∃ q : Str × Bool × RR, ds = [.str q.1, .bl q.2.1] ∧ asc q.1.cps.toList ∧ q.1.cps.toList.length ≤ LN ∧ ReadR q.2.1 q.1.cps.toList q.2.2 ∧ P (dueD q.2.1 q.1.cps.toList.length q.2.2) mu c
theorem lc_eachP {α : Type} {body : D → S → (Option D → S → Prop) → Prop} (e F : α → D) {st : S} {P : List D → S → Prop} : ∀ (ps : List α) (acc : List D), (∀ p ∈ ps, ∀ K, K (some (F p)) st → body (e p) st K) → acc.length + ps.length ≤ LINE → P (acc ++ ps.map F) st → lcGo body (ps.map e) acc st P
  | [], acc, _, _, h => by rw [List.map_nil, List.append_nil] at h; exact h
  | d :: ds, acc, hb, hl, h => by
    rw [List.length_cons] at hl
    refine hb d List.mem_cons_self _ ⟨by omega, ?_⟩
    refine lc_eachP e F ds (acc ++ [F d]) (fun x hx => hb x (List.mem_cons_of_mem _ hx)) (by rw [List.length_append, List.length_cons, List.length_nil]; omega) ?_
    rw [List.append_assoc]
    exact h
theorem intsOf_genP {α : Type} (ps : List α) (g : α → Int) : intsOf (ps.map fun p => .int (g p)) = some (ps.map g) := by
  induction ps with
  | nil => rfl
  | cons f fs ih => simp [intsOf, ih]
def m__law_read_due : MS := (mSeq (mAsg (mCall sp__law_longest (mCons (mVar 0) (mCons (mVar 1) mNil))) (gT 2 (gsC (gN 2) (gsC (gN 3) gsN))))
  (mSeq (mIfS (mNot (mB (mVar 3))) (mRet (mTup (mCons (mC (.str "text")) (mCons (mVar 2) mNil)))) mNext)
  (mSeq (mSet 4 (mCall sp__law_read (mCons (mVar 0) mNil)))
  (mSeq (mIfS (mB (mOp gtD (mCB maxD (mCons (mLc (mItems (mVar 4)) [6, 7] (gT 2 (gsC (gN 6) (gsC (gN 7) gsN))) mYes (mVar 7)) mNil)) (mC (.int 12)))) (mRet (mTup (mCons (mC (.str "deep")) (mCons (mC (.int 12)) mNil)))) mNext)
  (mSeq (mSet 5 (mLc (mItems (mVar 4)) [6, 7] (gT 2 (gsC (gN 6) (gsC (gN 7) gsN))) mYes (mVar 6)))
  (mSeq (mIfS (mAnd (mB (mVar 1)) (mB (mOp gtD (mCall sp__law_leaf_many (mCons (mVar 5) mNil)) (mC (.int 40))))) (mRet (mTup (mCons (mC (.str "many")) (mCons (mC (.int 40)) mNil)))) mNext)
  (mRet (mTup (mCons (mC (.str "told")) (mCons (mIf (mB (mVar 1)) (mVar 5) (mOp subD (mVar 5) (mC (.int 0)))) mNil))))))))))
theorem rd__law_read_due (ds : List D) (mu : Mu) (c : Nat) (P : D → Mu → Nat → Prop) (PX : Ex → Mu → Nat → Prop) (h : sp__law_read_due ds mu c P PX) : m__law_read_due (S0 ["_law_text", "_law_is_row", "_law_at", "_law_is_whole", "_law_forms", "_law_ends", "_law_form", "_law_tall"] ["_law_text", "_law_is_row"] ds mu c) (EF P) (XF PX) := by
  obtain ⟨⟨z, row, res⟩, rfl, ha, hl, hR, h⟩ := h
  simp only at ha hl hR h
  have hL : (LINE : Nat) = 16777216 := rfl
  refine ⟨_, rfl, _, rfl, (z, row), rfl, ha, hl, ?_⟩
  rw [read_auto hR false]
  have text : ∀ (n : Nat), dueD row z.cps.toList.length res = .tup [.str "text", .int (n : Int)] → ∀ st : S, st.r[2]? = some (some (.int (n : Int))) → st.mu = mu → st.c = c → (mRet (mTup (mCons (mC (.str "text")) (mCons (mVar 2) mNil))) : MS) st (EF P) (XF PX) := fun n e st h1 h2 h3 => by
    obtain ⟨r, m1, c1⟩ := st
    subst h2
    subst h3
    refine ⟨_, h1, shortL 2 rfl, c1, Nat.le_refl _, ?_⟩
    rw [← e]
    exact h
  cases res with
  | err r1 =>
    refine ⟨_, rfl, rfl, _, _, rfl, _, _, rfl, rfl, ?_⟩
    refine ⟨_, rfl, _, rfl, ?_⟩
    exact iteT (text _ rfl _ rfl rfl rfl)
  | ok ps r1 =>
    refine ⟨_, rfl, rfl, _, _, rfl, _, _, rfl, rfl, ?_⟩
    refine ⟨_, rfl, _, rfl, ?_⟩
    by_cases c1 : r1 = []
    · subst c1
      obtain ⟨hne, hok, hone⟩ := readR_ok hR
      have htoks := read_toks hR
      have hn : ps.length ≤ 1000001 := by
        have := readR_len hR
        have : (LN : Nat) = 1000000 := rfl
        omega
      refine iteFh rfl ⟨_, rfl, (z, ps.map (·.1)), rfl, by simpa using hne, fun f hf => ?_, htoks, hl, ?_⟩
      · obtain ⟨p, hp, rfl⟩ := List.mem_map.mp hf
        exact (hok p hp).1
      have e1 : ((ps.map (·.1)).map fun f => foD f f.depth) = ps.map fun p => foD p.1 p.2 := by
        rw [List.map_map]
        exact List.map_congr_left fun p hp => by show foD p.1 p.1.depth = _; rw [(hok p hp).2]
      have hl0 : ([] : List D).length + ps.length ≤ LINE := by rw [List.length_nil]; omega
      have hpos : 0 < (ps.map fun p => (p.2 : Int)).length := by rw [List.length_map]; cases ps with | nil => exact absurd rfl hne | cons _ _ => exact Nat.succ_pos _
      rw [e1]
      refine ⟨_, rfl, ?_⟩
      refine lc_eachP (fun p : Fm × Nat => foD p.1 p.2) (fun p => .int (p.2 : Int)) ps [] (fun p hp K hK => ⟨_, rfl, rfl, _, _, rfl, _, _, rfl, rfl, _, rfl, hK⟩) hl0 ?_
      refine ⟨_, intsOf_genP ps _, hpos, fun m m1 m2 => ?_⟩
      obtain ⟨p, hp, rfl⟩ := List.mem_map.mp m1
      refine ⟨_, rfl, ?_⟩
      have hany : (ps.any fun p => decide (12 < p.2)) = decide (12 < p.2) := by
        rw [Bool.eq_iff_iff, List.any_eq_true]
        simp only [decide_eq_true_eq]
        constructor
        · rintro ⟨q, hq, h1⟩
          have := m2 (q.2 : Int) (List.mem_map.mpr ⟨q, hq, rfl⟩)
          omega
        · intro h1
          exact ⟨p, hp, h1⟩
      have hdue : dueD row z.cps.toList.length (.ok ps []) = if ps.any (fun p => decide (12 < p.2)) = true then .tup [.str "deep", .int 12] else if row = true ∧ 40 < leafN (ps.map (·.1)) then .tup [.str "many", .int 40]
          else .tup [.str "told", if row = true then .lst ((ps.map (·.1)).map Fm.toD) else ((ps.map (·.1)).map Fm.toD).headD .non] := by
        unfold dueD
        exact if_pos rfl
      rw [hdue, hany] at h
      rw [show decide ((12 : Int) < (p.2 : Int)) = decide (12 < p.2) by rw [Bool.eq_iff_iff]; simp only [decide_eq_true_eq]; omega]
      by_cases c2 : 12 < p.2
      · rw [if_pos (decide_eq_true c2)] at h
        exact iteTh (decide_eq_true c2) ⟨shortL 2 rfl, c, Nat.le_refl _, h⟩
      rw [if_neg (fun y => c2 (of_decide_eq_true y))] at h
      refine iteFh (decide_eq_false c2) ⟨_, rfl, ?_⟩
      refine lc_eachP (fun p : Fm × Nat => foD p.1 p.2) (fun p => p.1.toD) ps [] (fun p hp K hK => ⟨_, rfl, rfl, _, _, rfl, _, _, rfl, rfl, _, rfl, hK⟩) hl0 ?_
      have e3 : [] ++ ps.map (fun p : Fm × Nat => p.1.toD) = (ps.map (·.1)).map Fm.toD := by rw [List.nil_append, List.map_map]; rfl
      rw [e3]
      have told : ∀ d, (row = true → d = .lst ((ps.map (·.1)).map Fm.toD)) → (row = false → d = ((ps.map (·.1)).map Fm.toD).headD .non) → ¬ (row = true ∧ 40 < leafN (ps.map (·.1))) → (2 ≤ sizeLine ∧ ∃ c', c ≤ c' ∧ P (.tup [.str "told", d]) mu c') := fun d h1 h2 h3 => by
        rw [if_neg h3] at h
        refine ⟨shortL (l := [D.non, .non]) 2 rfl, c, Nat.le_refl _, ?_⟩
        cases row with
        | true => rw [h1 rfl]; exact h
        | false => rw [h2 rfl]; exact h
      refine ⟨_, rfl, _, rfl, ?_⟩
      cases row with
      | false =>
        refine iteF (iteF ⟨_, rfl, _, rfl, iteF ?_⟩)
        obtain ⟨p0, rfl⟩ := hone rfl
        exact ⟨_, rfl, p0.1.toD, atI_nat (j := 0) rfl, told p0.1.toD (fun y => by cases y) (fun _ => rfl) (fun y => by cases y.1)⟩
      | true =>
        refine iteT ⟨_, rfl, ps.map (·.1), rfl, by rw [List.length_map]; exact hn, fun f hf => ?_, _, rfl, ?_⟩
        · obtain ⟨q, hq, rfl⟩ := List.mem_map.mp hf
          have := m2 (q.2 : Int) (List.mem_map.mpr ⟨q, hq, rfl⟩)
          have := (hok q hq).2
          omega
        rw [show decide ((40 : Int) < (leafN (ps.map (·.1)) : Int)) = decide (40 < leafN (ps.map (·.1))) by rw [Bool.eq_iff_iff]; simp only [decide_eq_true_eq]; omega]
        by_cases c3 : 40 < leafN (ps.map (·.1))
        · rw [if_pos ⟨rfl, c3⟩] at h
          exact iteTh (decide_eq_true c3) ⟨shortL 2 rfl, c, Nat.le_refl _, h⟩
        · refine iteFh (decide_eq_false c3) ⟨_, rfl, _, rfl, iteT ⟨_, rfl, told _ (fun _ => rfl) (fun y => by cases y) (fun y => c3 y.2)⟩⟩
    · have hd : dueD row z.cps.toList.length (.ok ps r1) = .tup [.str "text", .int ((z.cps.toList.length - r1.length : Nat) : Int)] := by
        unfold dueD
        exact if_neg c1
      refine iteTh ?_ (text _ hd _ rfl rfl rfl)
      show (!(decide (r1 = []))) = true
      rw [decide_eq_false c1]
      rfl
-- @hash 55dc5249
-- @drop
def sp__law_read_right : DSp := fun ds mu c P PX => ∃ s : Str, ds = [.str s] ∧ asc s.cps.toList ∧ s.cps.toList.length ≤ LN ∧ P (.bl true) mu c
theorem due_cases (row : Bool) (n : Nat) (res : RR) : (∃ k : Nat, dueD row n res = .tup [.str "text", .int (k : Int)]) ∨ dueD row n res = .tup [.str "deep", .int 12] ∨ dueD row n res = .tup [.str "many", .int 40] ∨ ∃ d, dueD row n res = .tup [.str "told", d] := by
  cases res with
  | err r1 => exact .inl ⟨_, rfl⟩
  | ok ps r1 =>
    unfold dueD
    simp only
    by_cases c1 : r1 = []
    · rw [if_pos c1]
      by_cases c2 : (ps.any fun p => decide (12 < p.2)) = true
      · rw [if_pos c2]; exact .inr (.inl rfl)
      · rw [if_neg c2]
        by_cases c3 : row = true ∧ 40 < leafN (ps.map (·.1))
        · rw [if_pos c3]; exact .inr (.inr (.inl rfl))
        · rw [if_neg c3]; exact .inr (.inr (.inr ⟨_, rfl⟩))
    · rw [if_neg c1]; exact .inl ⟨_, rfl⟩
/-- the exceptions that a due tells -/
def DueX (w : Str) (x : D) (ex : Ex) : Prop := (ex.cls = "NotAText" ∧ ex.fs = [(("at" : Str), x)] ∧ w = "text") ∨ (ex.cls = "TooDeep" ∧ ex.fs = [(("most" : Str), x)] ∧ w = "deep") ∨ (ex.cls = "TooMany" ∧ ex.fs = [(("most" : Str), x)] ∧ w = "many")
theorem due_thin (row : Bool) (n : Nat) (res : RR) {w : Str} {x : D} (h : dueD row n res = .tup [.str w, x]) (hw : w ≠ "told") : (D.tup [.str w, x]).thin 59 = true := by
  rcases due_cases row n res with ⟨k, e⟩ | e | e | ⟨d, e⟩
  · rw [← h, e]; exact thin_tup (al_cons (by decide +kernel) (al_one rfl))
  · rw [← h, e]; decide +kernel
  · rw [← h, e]; decide +kernel
  · rw [e] at h
    injection h with h
    injection h with h1 _
    injection h1 with h1
    exact absurd h1.symm hw
/-- read_form at any text -/
theorem form_any {s : Str} (ha : asc s.cps.toList) (hl : s.cps.toList.length ≤ LN) {n : Nat} {fr : FR} (hm : mach n (.A [none] s.cps.toList) = some fr) {mu : Mu} {c : Nat} {P : D → Mu → Nat → Prop} {PX : Ex → Mu → Nat → Prop}
    (k : readEnd s.cps.toList fr mu c P PX) : sp_read_form [.str s] mu c P PX :=
  ⟨_, rfl, rfl, fun z => absurd (show true = false from z) (by decide), fun _ => ⟨s, rfl, ha, hl, n, fr, hm, k⟩⟩
theorem ends_any {s : Str} (ha : asc s.cps.toList) (hl : s.cps.toList.length ≤ LN) {res : RR} (hm : RowR s.cps.toList res) {mu : Mu} {c : Nat} {P : D → Mu → Nat → Prop} {PX : Ex → Mu → Nat → Prop}
    (k : rowEnd s.cps.toList res mu c P PX) : sp_read_ends [.str s] mu c P PX :=
  ⟨_, rfl, rfl, fun z => absurd (show true = false from z) (by decide), fun _ => ⟨s, rfl, ha, hl, res, hm, k⟩⟩
def rrOf : FR → RR
  | .err r1 => .err r1
  | .ok f d r1 => .ok [(f, d)] (skp r1)
theorem rrOf_read {n : Nat} {l : List Nat} {fr : FR} (h : mach n (.A [none] l) = some fr) : ReadR false l (rrOf fr) := ⟨n, fr, h, by cases fr <;> rfl⟩
/-- read_form does what is due -/
theorem form_due {l : List Nat} {n : Nat} {fr : FR} (hm : mach n (.A [none] l) = some fr) {mu : Mu} {c : Nat} {P : D → Mu → Nat → Prop} {PX : Ex → Mu → Nat → Prop}
    (h1 : ∀ f : Fm, f.ok = true → f.depth ≤ 12 → dueD false l.length (rrOf fr) = .tup [.str "told", f.toD] → P f.toD mu c)
    (h2 : ∀ (w : Str) (x : D) (ex : Ex), w ≠ "told" → dueD false l.length (rrOf fr) = .tup [.str w, x] → DueX w x ex → PX ex mu c) : readEnd l fr mu c P PX := by
  cases fr with
  | err r1 => exact h2 "text" (.int ((l.length - r1.length : Nat) : Int)) _ (by decide +kernel) rfl (.inl ⟨rfl, rfl, rfl⟩)
  | ok f d r1 =>
    obtain ⟨hok, hd⟩ := mach_ok _ _ _ _ _ hm none_good
    unfold readEnd
    simp only
    by_cases c1 : skp r1 = []
    · rw [if_pos c1]
      by_cases c2 : d ≤ 12
      · rw [if_pos c2]
        refine h1 f hok (by omega) ?_
        show dueD false l.length (.ok [(f, d)] (skp r1)) = _
        unfold dueD
        simp only
        rw [if_pos c1, if_neg (by simp; omega), if_neg (fun z => by cases z.1), if_neg Bool.false_ne_true]
        rfl
      · rw [if_neg c2]
        refine h2 "deep" (.int 12) _ (by decide +kernel) ?_ (.inr (.inl ⟨rfl, rfl, rfl⟩))
        show dueD false l.length (.ok [(f, d)] (skp r1)) = _
        unfold dueD
        simp only
        rw [if_pos c1, if_pos (by simp; omega)]
    · rw [if_neg c1]
      refine h2 "text" (.int ((l.length - (skp r1).length : Nat) : Int)) _ (by decide +kernel) ?_ (.inl ⟨rfl, rfl, rfl⟩)
      show dueD false l.length (.ok [(f, d)] (skp r1)) = _
      unfold dueD
      simp only
      rw [if_neg c1]
/-- read_ends does what is due -/
theorem ends_due {l : List Nat} {res : RR} (hm : RowR l res) {mu : Mu} {c : Nat} {P : D → Mu → Nat → Prop} {PX : Ex → Mu → Nat → Prop}
    (h1 : ∀ fs : List Fm, (∀ f ∈ fs, f.ok = true ∧ f.depth ≤ 12) → dueD true l.length res = .tup [.str "told", .lst (fs.map Fm.toD)] → ∀ a, mu a = none → P (.ref a) (muSet mu a (some (.lst (fs.map Fm.toD)))) c)
    (h2 : ∀ (w : Str) (x : D) (ex : Ex), w ≠ "told" → dueD true l.length res = .tup [.str w, x] → DueX w x ex → PX ex mu c) : rowEnd l res mu c P PX := by
  cases res with
  | err r1 => exact h2 "text" (.int ((l.length - r1.length : Nat) : Int)) _ (by decide +kernel) rfl (.inl ⟨rfl, rfl, rfl⟩)
  | ok ps r1 =>
    obtain ⟨_, hok⟩ := row_ok hm _ _ rfl
    unfold rowEnd
    simp only
    by_cases c1 : r1 = []
    · rw [if_pos c1]
      have e : dueD true l.length (.ok ps r1) = if ps.any (fun p => decide (12 < p.2)) = true then .tup [.str "deep", .int 12] else if true = true ∧ 40 < leafN (ps.map (·.1)) then .tup [.str "many", .int 40]
          else .tup [.str "told", if true = true then .lst ((ps.map (·.1)).map Fm.toD) else ((ps.map (·.1)).map Fm.toD).headD .non] := by
        unfold dueD
        exact if_pos c1
      rw [e] at h1 h2
      refine ⟨fun ⟨p, hp, z⟩ => ?_, fun z1 z2 => ?_, fun z1 z2 => ?_⟩
      · rw [if_pos (List.any_eq_true.mpr ⟨p, hp, decide_eq_true z⟩)] at h2
        exact h2 "deep" (.int 12) _ (by decide +kernel) rfl (.inr (.inl ⟨rfl, rfl, rfl⟩))
      · have na : ¬ (ps.any fun p => decide (12 < p.2)) = true := fun y => by
          obtain ⟨p, hp, y⟩ := List.any_eq_true.mp y
          have := z1 p hp
          have := of_decide_eq_true y
          omega
        rw [if_neg na, if_pos ⟨rfl, z2⟩] at h2
        exact h2 "many" (.int 40) _ (by decide +kernel) rfl (.inr (.inr ⟨rfl, rfl, rfl⟩))
      · have na : ¬ (ps.any fun p => decide (12 < p.2)) = true := fun y => by
          obtain ⟨p, hp, y⟩ := List.any_eq_true.mp y
          have := z1 p hp
          have := of_decide_eq_true y
          omega
        rw [if_neg na, if_neg (fun y => by have := y.2; omega), if_pos rfl] at h1
        exact h1 _ (fun f hf => by
          obtain ⟨p, hp, rfl⟩ := List.mem_map.mp hf
          exact ⟨(hok p hp).1, by rw [← (hok p hp).2]; exact z1 p hp⟩) rfl
    · rw [if_neg c1]
      refine h2 "text" (.int ((l.length - r1.length : Nat) : Int)) _ (by decide +kernel) ?_ (.inl ⟨rfl, rfl, rfl⟩)
      unfold dueD
      simp only
      rw [if_neg c1]
def m__law_read_right : MS := (mSeq (mPar 1 2 (mCons (mCall sp__law_read_due (mCons (mVar 0) (mCons (mC (.bl false)) mNil))) (mCons (mCall sp__law_read_due (mCons (mVar 0) (mCons (mC (.bl true)) mNil))) mNil)))
  (mSeq (mIfS (mB (mOp eqD (mOp subD (mVar 1) (mC (.int 0))) (mC (.str "told")))) (mIfS (mNot (mB (mCall sp__law_same (mCons (mCall sp_read_form (mCons (mVar 0) mNil)) (mCons (mOp subD (mVar 1) (mC (.int 1))) mNil))))) (mRet (mC (.bl false))) mNext) (mIfS (mNot (mB (mLamC csp__law_faults (mCall sp_read_form (mCons (mVar 0) mNil)) (mCons (mVar 1) mNil)))) (mRet (mC (.bl false))) mNext))
  (mSeq (mIfS (mB (mOp eqD (mOp subD (mVar 2) (mC (.int 0))) (mC (.str "told")))) (mRet (mCall sp__law_same (mCons (mFrz (mCall sp_read_ends (mCons (mVar 0) mNil))) (mCons (mOp subD (mVar 2) (mC (.int 1))) mNil)))) mNext)
  (mRet (mLamC csp__law_faults (mFrz (mCall sp_read_ends (mCons (mVar 0) mNil))) (mCons (mVar 2) mNil))))))
theorem rd__law_read_right (ds : List D) (mu : Mu) (c : Nat) (P : D → Mu → Nat → Prop) (PX : Ex → Mu → Nat → Prop) (h : sp__law_read_right ds mu c P PX) : m__law_read_right (S0 ["_law_text", "_law_one", "_law_all_ends"] ["_law_text"] ds mu c) (EF (fg P)) (XF (fg PX)) := by
  obtain ⟨s, rfl, ha, hl, h⟩ := h
  obtain ⟨fr, hm⟩ := mach_ends (s.cps.toList.length + 1) (.A [none] s.cps.toList) (Nat.lt_succ_self _) (by simp)
  obtain ⟨res, hr⟩ := row_ends (s.cps.toList.length + 1) s.cps.toList (Nat.lt_succ_self _)
  refine ⟨_, rfl, (s, false, rrOf fr), rfl, ha, hl, rrOf_read hm, ?_⟩
  refine ⟨_, rfl, (s, true, res), rfl, ha, hl, hr, _, _, rfl, ?_⟩
  obtain ⟨d1, e1⟩ : ∃ d1, d1 = dueD false s.cps.toList.length (rrOf fr) := ⟨_, rfl⟩
  obtain ⟨d2, e2⟩ : ∃ d2, d2 = dueD true s.cps.toList.length res := ⟨_, rfl⟩
  rw [← e1, ← e2]
  have fd := due_cases false s.cps.toList.length (rrOf fr)
  have rd := due_cases true s.cps.toList.length res
  rw [← e1] at fd
  rw [← e2] at rd
  -- a due that is no told
  have nt : ∀ {b : Bool} {r : RR} {d : D}, d = dueD b s.cps.toList.length r → (∀ x, d ≠ .tup [.str "told", x]) → ((∃ k : Nat, d = .tup [.str "text", .int (k : Int)]) ∨ d = .tup [.str "deep", .int 12] ∨ d = .tup [.str "many", .int 40] ∨ ∃ x, d = .tup [.str "told", x]) →
      ∃ w x, d = .tup [.str w, x] ∧ w ≠ "told" ∧ (D.str w).ok 0 = true ∧ (D.tup [.str w, x]).thin 59 = true := fun {b r d} e hn hc => by
    rcases hc with ⟨k, z⟩ | z | z | ⟨x, z⟩
    · exact ⟨"text", _, z, by decide +kernel, by decide +kernel, thin_tup (al_cons (by decide +kernel) (al_one rfl))⟩
    · exact ⟨"deep", _, z, by decide +kernel, by decide +kernel, by decide +kernel⟩
    · exact ⟨"many", _, z, by decide +kernel, by decide +kernel, by decide +kernel⟩
    · exact absurd z (hn x)
  have ow : (D.str (Str.ofString "told")).ok 0 = true := by decide +kernel
  have xw : ∀ {w : Str} {x : D} {ex : Ex}, DueX w x ex → (ex.cls = "BadValue" ∧ ex.fs = [(("value" : Str), x)] ∧ w = "value") ∨ (ex.cls = "NotAText" ∧ ex.fs = [(("at" : Str), x)] ∧ w = "text") ∨ (ex.cls = "TooDeep" ∧ ex.fs = [(("most" : Str), x)] ∧ w = "deep") ∨ (ex.cls = "TooMany" ∧ ex.fs = [(("most" : Str), x)] ∧ w = "many") := fun h => .inr h
  -- the second half
  have second : ∀ (x1 : Option D), ((mSeq (mIfS (mB (mOp eqD (mOp subD (mVar 2) (mC (.int 0))) (mC (.str "told")))) (mRet (mCall sp__law_same (mCons (mFrz (mCall sp_read_ends (mCons (mVar 0) mNil))) (mCons (mOp subD (mVar 2) (mC (.int 1))) mNil)))) mNext)
  (mRet (mLamC csp__law_faults (mFrz (mCall sp_read_ends (mCons (mVar 0) mNil))) (mCons (mVar 2) mNil)))) : MS) ⟨[some (.str s), x1, some d2], mu, c⟩ (EF (fg P)) (XF (fg PX)) := by
    intro x1
    by_cases ht : ∃ x, d2 = .tup [.str "told", x]
    · obtain ⟨x, hx⟩ := ht
      subst hx
      refine ⟨_, rfl, _, atI_nat (j := 0) rfl, ceq_of (n := 0) (m := 0) ow ow, _, rfl, ?_⟩
      rw [show eqvD (.str (Str.ofString "told")) (.str (Str.ofString "told")) = true by decide +kernel]
      refine iteT ⟨_, rfl, ?_⟩
      walk_at "c"
      refine ends_any ha hl hr (ends_due hr (fun fs hfs hd a hma => ?_) fun w x ex hw hd _ => ?_)
      · rw [← e2] at hd
        injection hd with hd
        injection hd with _ hd
        injection hd with hd _
        subst hd
        have hma : mu a = none := hma
        refine ⟨a, _, rfl, muSet_same, _, rfl, _, atI_nat (j := 1) rfl, _, rfl, by decide, ?_, by decide, c, Nat.le_refl _, _, ((Less.refl mu).over hma).over hma, h⟩
        exact thin_lst fun d hd => by
          obtain ⟨f, hf, rfl⟩ := List.mem_map.mp hd
          exact D.ok_thin _ _ (Fm.thin_ok (hfs f hf).1 (by have := (hfs f hf).2; omega))
      · rw [← e2] at hd
        injection hd with hd
        injection hd with hd _
        injection hd with hd
        exact absurd hd.symm hw
    · obtain ⟨w, x, hx, hw, how, hth⟩ := nt e2 (fun x z => ht ⟨x, z⟩) rd
      subst hx
      refine ⟨_, rfl, _, atI_nat (j := 0) rfl, ceq_of (n := 0) (m := 0) how ow, _, rfl, ?_⟩
      rw [show eqvD (.str w) (.str (Str.ofString "told")) = false by rw [eqv_word]; exact decide_eq_false hw]
      refine iteF ⟨_, rfl, (w, x), rfl, hth, fun _ _ => False, fun ex st => st = ⟨[some (.str s), x1, some (.tup [.str w, x])], mu, c⟩ ∧ DueX w x ex, ⟨_, rfl, ?_⟩, fun _ _ z => z.elim, fun ex st ⟨hs, hz⟩ => ?_⟩
      · walk_at "c"
        refine ends_any ha hl hr (ends_due hr (fun fs hfs hd a hma => ?_) fun w' x' ex hw' hd hx' => ?_)
        · rw [← e2] at hd
          injection hd with hd
          injection hd with hd _
          injection hd with hd
          exact absurd hd hw
        · rw [← e2] at hd
          injection hd with hd
          injection hd with hd1 hd
          injection hd1 with hd1
          injection hd with hd2 _
          subst hd1
          subst hd2
          exact ⟨rfl, hx'⟩
      · subst hs
        exact ⟨⟨c, Nat.le_refl _, mu, Less.refl _, h⟩, xw hz⟩
  -- the first half
  by_cases ht : ∃ x, d1 = .tup [.str "told", x]
  · obtain ⟨x, hx⟩ := ht
    subst hx
    refine ⟨_, rfl, _, atI_nat (j := 0) rfl, ceq_of (n := 0) (m := 0) ow ow, _, rfl, ?_⟩
    rw [show eqvD (.str (Str.ofString "told")) (.str (Str.ofString "told")) = true by decide +kernel]
    refine iteT ⟨_, rfl, ?_⟩
    walk_at "c"
    refine form_any ha hl hm (form_due hm (fun f hf hd hdu => ?_) fun w x ex hw hd _ => ?_)
    · rw [← e1] at hdu
      injection hdu with hdu
      injection hdu with _ hdu
      injection hdu with hdu _
      subst hdu
      refine ⟨_, rfl, _, atI_nat (j := 1) rfl, _, rfl, by decide, D.ok_thin _ _ (Fm.thin_ok hf (by omega)), by decide, _, rfl, iteF (second _)⟩
    · rw [← e1] at hd
      injection hd with hd
      injection hd with hd _
      injection hd with hd
      exact absurd hd.symm hw
  · obtain ⟨w, x, hx, hw, how, hth⟩ := nt e1 (fun x z => ht ⟨x, z⟩) fd
    subst hx
    refine ⟨_, rfl, _, atI_nat (j := 0) rfl, ceq_of (n := 0) (m := 0) how ow, _, rfl, ?_⟩
    rw [show eqvD (.str w) (.str (Str.ofString "told")) = false by rw [eqv_word]; exact decide_eq_false hw]
    refine iteF ⟨_, rfl, (w, x), rfl, hth, fun _ _ => False, fun ex st => st = ⟨[some (.str s), some (.tup [.str w, x]), some d2], mu, c⟩ ∧ DueX w x ex, ⟨_, rfl, ?_⟩, fun _ _ z => z.elim, fun ex st ⟨hs, hz⟩ => ?_⟩
    · walk_at "c"
      refine form_any ha hl hm (form_due hm (fun f hf hd hdu => ?_) fun w' x' ex hw' hd hx' => ?_)
      · rw [← e1] at hdu
        injection hdu with hdu
        injection hdu with hdu _
        injection hdu with hdu
        exact absurd hdu hw
      · rw [← e1] at hd
        injection hd with hd
        injection hd with hd1 hd
        injection hd1 with hd1
        injection hd with hd2 _
        subst hd1
        subst hd2
        exact ⟨rfl, hx'⟩
    · subst hs
      exact ⟨⟨true, rfl, iteF (second _)⟩, xw hz⟩
-- @hash 7f1fba7c
def sp__law_spoilt : DSp := fun ds mu c P PX => ∃ s : Str, ds = [.pen, .str s] ∧ asc s.cps.toList ∧ s.cps.toList.length ≤ 900000 ∧ c + 10 ≤ LIM ∧ ∀ l, asc l → l.length ≤ s.cps.toList.length + 16 → P (.str (sL l)) mu (c + 10)
theorem cutl_asc {l : List Nat} (h : asc l) (a b : Option Int) : asc (cutD l a b) := asc_take (asc_drop h _) _
theorem cutl_le (l : List Nat) (a b : Option Int) : (cutD l a b).length ≤ l.length := by
  unfold cutD
  rw [List.length_take, List.length_drop]
  omega
theorem cutl_two {l : List Nat} {k : Nat} (h : k ≤ l.length) (j : Nat) : (cutD l none (some (k : Int))).length + (cutD l (some ((k : Int) + (j : Int))) none).length ≤ l.length := by
  unfold cutD
  rw [HT.sIx_none, HT.sIx_none, HT.sIx_nat, show (k : Int) + (j : Int) = ((k + j : Nat) : Int) by omega, HT.sIx_nat]
  rw [List.length_take, List.length_drop, List.length_take, List.length_drop]
  omega
def m__law_spoilt : MS := (mSeq (mSet 2 (mC (.str "ab0z9~~()()*|&+, ,A_-.\n\t")))
  (mSeq (mPar3 3 4 5 (mCons (mCall sp__law_draw (mCons (mVar 0) (mCons (mOp addD (mCB lenD (mCons (mVar 1) mNil)) (mC (.int 1))) mNil))) (mCons (mCall sp__law_pick (mCons (mVar 0) (mCons (mVar 2) mNil))) (mCons (mCall sp__law_draw (mCons (mVar 0) (mCons (mC (.int 8)) mNil))) mNil))))
  (mSeq (mIfS (mB (mOp ltD (mVar 5) (mC (.int 2)))) (mRet (mOp addD (mOp addD (mSl (mVar 1) mONone (mOSome (mVar 3))) (mVar 4)) (mSl (mVar 1) (mOSome (mVar 3)) mONone))) mNext)
  (mSeq (mIfS (mB (mOp ltD (mVar 5) (mC (.int 4)))) (mRet (mOp addD (mSl (mVar 1) mONone (mOSome (mVar 3))) (mSl (mVar 1) (mOSome (mOp addD (mVar 3) (mC (.int 1)))) mONone))) mNext)
  (mSeq (mIfS (mB (mOp eqD (mVar 5) (mC (.int 4)))) (mRet (mSl (mVar 1) mONone (mOSome (mVar 3)))) mNext)
  (mSeq (mIfS (mB (mOp eqD (mVar 5) (mC (.int 5)))) (mRet (mOp addD (mOp addD (mSl (mVar 1) mONone (mOSome (mVar 3))) (mSl (mC (.str "abcdefghijklmno")) mONone (mOSome (mOp addD (mC (.int 11)) (mCall sp__law_draw (mCons (mVar 0) (mCons (mC (.int 4)) mNil))))))) (mSl (mVar 1) (mOSome (mVar 3)) mONone))) mNext)
  (mSeq (mIfS (mB (mOp eqD (mVar 5) (mC (.int 6)))) (mRet (mOp addD (mOp addD (mSl (mVar 1) mONone (mOSome (mVar 3))) (mSl (mVar 1) (mOSome (mVar 3)) (mOSome (mOp addD (mVar 3) (mC (.int 3)))))) (mSl (mVar 1) (mOSome (mVar 3)) mONone))) mNext)
  (mRet (mOp addD (mOp addD (mSl (mVar 1) mONone (mOSome (mVar 3))) (mVar 4)) (mSl (mVar 1) (mOSome (mOp addD (mVar 3) (mC (.int 1)))) mONone))))))))))
theorem rd__law_spoilt (ds : List D) (mu : Mu) (c : Nat) (P : D → Mu → Nat → Prop) (PX : Ex → Mu → Nat → Prop) (h : sp__law_spoilt ds mu c P PX) : m__law_spoilt (S0 ["_law_pen", "_law_text", "_law_signs", "_law_at", "_law_sign", "_law_way"] ["_law_pen", "_law_text"] ds mu c) (EF P) (XF PX) := by
  obtain ⟨s, rfl, ha, hl, hc, h⟩ := h
  have hL : (LINE : Nat) = 16777216 := rfl
  have hM : LIM = 1152921504606846976 := rfl
  have hsl : s.length = s.cps.toList.length := by rw [str_len]
  refine ⟨_, rfl, _, rfl, by rw [hsl]; omega, (s.length + 1 : Int), rfl, by omega, by omega, by show c < LIM; omega, fun i i0 i1 => ?_⟩
  obtain ⟨k, rfl⟩ : ∃ k : Nat, i = (k : Int) := ⟨i.toNat, by omega⟩
  have hk : k ≤ s.cps.toList.length := by omega
  refine ⟨_, rfl, _, rfl, _, rfl, by show c + 1 < LIM; omega, by decide +kernel, by decide +kernel, fun g hg => ?_⟩
  have hg128 : g < 128 := by
    have : ∀ j ∈ (Str.ofString "ab0z9~~()()*|&+, ,A_-.\n\t").cps.toList, j < 128 := by decide +kernel
    exact this g hg
  have hga : asc [g] := fun j hj => by rw [List.mem_singleton.mp hj]; exact hg128
  refine ⟨_, rfl, (8 : Int), rfl, by decide, by decide, by show c + 1 + 1 < LIM; omega, fun way w0 w1 => ?_⟩
  refine ⟨_, _, _, rfl, ?_⟩
  have len1 := cutl_le s.cps.toList none (some (k : Int))
  have two0 : (cutD s.cps.toList none (some (k : Int))).length + (cutD s.cps.toList (some (k : Int)) none).length ≤ s.cps.toList.length := by
    have := cutl_two hk 0
    simpa using this
  have two1 := cutl_two hk 1
  have aL := cutl_asc ha none (some (k : Int))
  have aR := cutl_asc ha (some (k : Int)) none
  have aR1 := cutl_asc ha (some ((k : Int) + 1)) none
  have cutStr : ∀ (a b : Option Int), (⟨(cutD s.cps.toList a b).toArray⟩ : Str) = sL (cutD s.cps.toList a b) := fun _ _ => rfl
  have eg : (⟨#[g]⟩ : Str) = sL [g] := rfl
  have fin : ∀ (d : D) (l : List Nat) (c1 : Nat), d = .str (sL l) → asc l → l.length ≤ s.cps.toList.length + 16 → c1 ≤ c + 10 → ∃ c', c1 ≤ c' ∧ P d mu c' := fun d l c1 e h1 h2 h3 => ⟨c + 10, h3, by rw [e]; exact h l h1 h2⟩
  have szS : s.length ≤ LINE := by rw [hsl]; omega
  have add3 : ∀ {x y z : List Nat}, (sL x ++ sL y ++ sL z) = sL (x ++ y ++ z) := by intro x y z; rw [sL_app, sL_app]
  refine ⟨_, rfl, _, rfl, ?_⟩
  obtain ⟨L, hL0⟩ : ∃ L, L = cutD s.cps.toList none (some (k : Int)) := ⟨_, rfl⟩
  obtain ⟨R0, hR0⟩ : ∃ R0, R0 = cutD s.cps.toList (some (k : Int)) none := ⟨_, rfl⟩
  obtain ⟨R1, hR1⟩ : ∃ R1, R1 = cutD s.cps.toList (some ((k : Int) + 1)) none := ⟨_, rfl⟩
  have eL : (⟨(cutD s.cps.toList none (some (k : Int))).toArray⟩ : Str) = sL L := by rw [hL0]; rfl
  have eR0 : (⟨(cutD s.cps.toList (some (k : Int)) none).toArray⟩ : Str) = sL R0 := by rw [hR0]; rfl
  have eR1 : (⟨(cutD s.cps.toList (some ((k : Int) + 1)) none).toArray⟩ : Str) = sL R1 := by rw [hR1]; rfl
  rw [← hL0] at len1 two0 two1 aL
  rw [← hR0] at two0 aR
  rw [← hR1] at aR1
  have two1 : L.length + R1.length ≤ s.cps.toList.length := by rw [hR1]; exact two1
  have sz : ∀ {x y : List Nat}, x.length ≤ 1000000 → y.length ≤ 1000000 → (sL x).length + (sL y).length ≤ LINE := by
    intro x y h1 h2
    rw [sL_len, sL_len]
    omega
  have mid : ∀ (m R : List Nat) (c1 : Nat), asc m → m.length ≤ 16 → asc R → L.length + R.length ≤ s.cps.toList.length → c1 ≤ c + 10 → (sL L).length + (sL m).length ≤ LINE ∧ (sL L ++ sL m).length + (sL R).length ≤ LINE ∧ ∃ c', c1 ≤ c' ∧ P (.str (sL L ++ sL m ++ sL R)) mu c' := fun m R c1 h1 h2 h3 h4 h5 => by
    refine ⟨sz (by omega) (by omega), ?_, c + 10, h5, ?_⟩
    · rw [sL_app]; exact sz (by rw [List.length_append]; omega) (by omega)
    · rw [add3]
      exact h _ (asc_app (asc_app aL h1) h3) (by simp only [List.length_append]; omega)
  refine ite2 (fun c1 => ?_) (fun c1 => ?_)
  · obtain ⟨y1, y2, y3⟩ := mid [g] R0 (c + 1 + 1 + 1) hga (by simp) aR two0 (by omega)
    refine ⟨_, rfl, _, rfl, (k : Int), rfl, szS, _, rfl, ?_, _, rfl, _, rfl, (k : Int), rfl, szS, ?_⟩
    · rw [eL, eg]; exact y1
    · rw [eL, eg, eR0]; exact ⟨y2, y3⟩
  refine ⟨_, rfl, _, rfl, ?_⟩
  refine ite2 (fun c2 => ?_) (fun c2 => ?_)
  · refine ⟨_, rfl, _, rfl, (k : Int), rfl, szS, _, rfl, _, rfl, (k : Int) + 1, rfl, szS, ?_⟩
    rw [eL, eR1]
    refine ⟨sz (by omega) (by omega), c + 10, by show c + 1 + 1 + 1 ≤ c + 10; omega, ?_⟩
    dsimp only
    rw [sL_app]
    exact h _ (asc_app aL aR1) (by rw [List.length_append]; omega)
  refine ⟨_, rfl, ceq_of (n := 0) (m := 0) rfl rfl, _, rfl, ?_⟩
  refine ite2 (fun c3 => ?_) (fun c3 => ?_)
  · refine ⟨_, rfl, _, rfl, (k : Int), rfl, szS, c + 10, by show c + 1 + 1 + 1 ≤ c + 10; omega, ?_⟩
    rw [eL]
    exact h _ aL (by omega)
  refine ⟨_, rfl, ceq_of (n := 0) (m := 0) rfl rfl, _, rfl, ?_⟩
  refine ite2 (fun c4 => ?_) (fun c4 => ?_)
  · refine ⟨_, rfl, _, rfl, (k : Int), rfl, szS, _, rfl, (4 : Int), rfl, by decide, by decide, by show c + 1 + 1 + 1 < LIM; omega, fun j j0 j1 => ⟨(11 : Int) + j, rfl, by decide +kernel, ?_⟩⟩
    obtain ⟨m, hm⟩ : ∃ m, m = cutD (Str.ofString "abcdefghijklmno").cps.toList none (some ((11 : Int) + j)) := ⟨_, rfl⟩
    have em : (⟨(cutD (Str.ofString "abcdefghijklmno").cps.toList none (some ((11 : Int) + j))).toArray⟩ : Str) = sL m := by rw [hm]; rfl
    have am : asc m := by rw [hm]; exact cutl_asc (asc_lit (by decide +kernel)) _ _
    have lm : m.length ≤ 15 := by rw [hm]; exact Nat.le_trans (cutl_le _ _ _) (by decide +kernel)
    obtain ⟨y1, y2, y3⟩ := mid m R0 (c + 1 + 1 + 1 + 1) am (by omega) aR two0 (by omega)
    rw [em]
    refine ⟨by rw [eL]; exact y1, _, rfl, _, rfl, (k : Int), rfl, szS, ?_⟩
    rw [eL, eR0]; exact ⟨y2, y3⟩
  refine ⟨_, rfl, ceq_of (n := 0) (m := 0) rfl rfl, _, rfl, ?_⟩
  refine ite2 (fun c5 => ?_) (fun c5 => ?_)
  · obtain ⟨m, hm⟩ : ∃ m, m = cutD s.cps.toList (some (k : Int)) (some ((k : Int) + 3)) := ⟨_, rfl⟩
    have em : (⟨(cutD s.cps.toList (some (k : Int)) (some ((k : Int) + 3))).toArray⟩ : Str) = sL m := by rw [hm]; rfl
    have am : asc m := by rw [hm]; exact cutl_asc ha _ _
    have lm : m.length ≤ 3 := by
      rw [hm]
      unfold cutD
      rw [HT.sIx_nat, show (k : Int) + 3 = ((k + 3 : Nat) : Int) by omega, HT.sIx_nat, List.length_take]
      omega
    obtain ⟨y1, y2, y3⟩ := mid m R0 (c + 1 + 1 + 1) am (by omega) aR two0 (by omega)
    refine ⟨_, rfl, _, rfl, (k : Int), rfl, szS, _, rfl, _, rfl, (k : Int), rfl, _, rfl, (k : Int) + 3, rfl, szS, ?_⟩
    rw [eL, em]
    refine ⟨y1, _, rfl, _, rfl, (k : Int), rfl, szS, ?_⟩
    rw [eR0]; exact ⟨y2, y3⟩
  · obtain ⟨y1, y2, y3⟩ := mid [g] R1 (c + 1 + 1 + 1) hga (by simp) aR1 two1 (by omega)
    refine ⟨_, rfl, _, rfl, (k : Int), rfl, szS, _, rfl, ?_, _, rfl, _, rfl, (k : Int) + 1, rfl, szS, ?_⟩
    · rw [eL, eg]; exact y1
    · rw [eL, eg, eR1]; exact ⟨y2, y3⟩
-- @hash 9e231026
def sp__law_loose : DSp := fun ds mu c P PX => ∃ _u : Unit, ds = [.pen] ∧ c + 20 ≤ LIM ∧ ∀ l, asc l → l.length ≤ 200 → P (.str (sL l)) mu (c + 20)
def looseW : List Str := ["a", "b~", "(", ")", "*", "+", "|", "&", ",", " ", "c1", "a * b", "(a & b)", "1"]
theorem looseW_ok : ∀ x ∈ looseW, (x.cps.toList.all fun k => decide (k < 128)) = true ∧ x.length ≤ 7 := by decide +kernel
theorem loose_join : ∀ {ys : List D}, (∀ y ∈ ys, ∃ x ∈ looseW, y = .str x) → ∃ l : List (List Nat), strsOf ys = some (l.map sL) ∧ l.length = ys.length ∧ ∀ t ∈ l, asc t ∧ t.length ≤ 7
  | [], _ => ⟨[], rfl, rfl, fun t ht => by cases ht⟩
  | y :: ys, h => by
    obtain ⟨x, hx, rfl⟩ := h y List.mem_cons_self
    obtain ⟨l, h1, h2, h3⟩ := loose_join fun z hz => h z (List.mem_cons_of_mem _ hz)
    obtain ⟨a1, a2⟩ := looseW_ok x hx
    refine ⟨x.cps.toList :: l, ?_, by simp [h2], fun t ht => ?_⟩
    · show (strsOf ys).map (x :: ·) = _
      rw [h1]
      simp [sL_self]
    · rcases List.mem_cons.mp ht with e | e
      · rw [e]; exact ⟨asc_lit a1, by rw [str_len] at a2; exact a2⟩
      · exact h3 t e
theorem All2.right {α β : Type} {R : β → Prop} {a : List α} {b : List β} (h : All2 (fun _ y => R y) a b) : ∀ y ∈ b, R y := by
  induction h with
  | nil => intro y hy; cases hy
  | cons h1 _ ih =>
    intro y hy
    rcases List.mem_cons.mp hy with e | e
    · rw [e]; exact h1
    · exact ih y e
def m__law_loose : MS := (mSeq (mSet 1 (mLst (mCons (mC (.str "a")) (mCons (mC (.str "b~")) (mCons (mC (.str "(")) (mCons (mC (.str ")")) (mCons (mC (.str "*")) (mCons (mC (.str "+")) (mCons (mC (.str "|")) (mCons (mC (.str "&")) (mCons (mC (.str ",")) (mCons (mC (.str " ")) (mCons (mC (.str "c1")) (mCons (mC (.str "a * b")) (mCons (mC (.str "(a & b)")) (mCons (mC (.str "1")) mNil))))))))))))))))
  (mRet (mM1 joinD (mC (.str "")) (mLc (mRng1 (mCons (mOp addD (mC (.int 1)) (mCall sp__law_draw (mCons (mVar 0) (mCons (mC (.int 12)) mNil)))) mNil)) [2] (gN 2) mYes (mCall sp__law_pick (mCons (mVar 0) (mCons (mVar 1) mNil)))))))
theorem rd__law_loose (ds : List D) (mu : Mu) (c : Nat) (P : D → Mu → Nat → Prop) (PX : Ex → Mu → Nat → Prop) (h : sp__law_loose ds mu c P PX) : m__law_loose (S0 ["_law_pen", "_law_words", "_law_k"] ["_law_pen"] ds mu c) (EF P) (XF PX) := by
  obtain ⟨_, rfl, hc, h⟩ := h
  have hL : (LINE : Nat) = 16777216 := rfl
  have hM : LIM = 1152921504606846976 := rfl
  refine ⟨shortL 14 rfl, ⟨_, rfl⟩, _, rfl, (12 : Int), rfl, by decide, by decide, by show c < LIM; omega, fun n n0 n1 => ⟨1 + n, rfl, by omega, by omega, ?_⟩⟩
  obtain ⟨m, hm, hm2⟩ : ∃ m : Nat, ((1 : Int) + n).toNat = m ∧ m ≤ 12 := ⟨_, rfl, by omega⟩
  rw [hm]
  refine lc_rel (fun _ y => ∃ x ∈ looseW, y = .str x) 1 (c + 1 + m) _ _ _ (fun d _ c1 K hc1 hK => ?_) (by rw [rngD_len]; simp; omega) (by rw [rngD_len]; show c + 1 + 1 * m ≤ _; omega) (fun ys hys => ?_)
  · refine ⟨_, rfl, _, rfl, _, rfl, by show c1 < LIM; omega, Nat.succ_pos _, by show 14 < 1073741824; decide, fun x hx => ?_⟩
    refine hK _ ?_
    simp only [List.mem_cons, List.not_mem_nil, or_false] at hx
    rcases hx with rfl | rfl | rfl | rfl | rfl | rfl | rfl | rfl | rfl | rfl | rfl | rfl | rfl | rfl <;> exact ⟨_, by decide +kernel, rfl⟩
  · have hlen : ys.length = m := by
      have e := hys.length
      rw [rngD_len] at e
      exact e.symm
    have hmem : ∀ y ∈ ys, ∃ x ∈ looseW, y = .str x := hys.right
    obtain ⟨l, h1, h2, h3⟩ := loose_join hmem
    have hfl : l.flatten.length ≤ 7 * l.length := by
      clear h1 h2
      induction l with
      | nil => exact Nat.le_refl _
      | cons t l ih =>
        have := (h3 t List.mem_cons_self).2
        have := ih fun u hu => h3 u (List.mem_cons_of_mem _ hu)
        rw [List.flatten_cons, List.length_append, List.length_cons]
        omega
    refine ⟨_, h1, ?_, c + 20, ?_, ?_⟩
    · rw [sum_toks, List.length_map, show (Str.ofString "").length = 0 by decide +kernel]
      omega
    · show c + 1 + 1 * (rngD 0 m).length ≤ c + 20
      rw [rngD_len]
      omega
    · rw [join_toks]
      refine h _ (fun k hk => ?_) (by omega)
      obtain ⟨t, ht, hk⟩ := List.mem_flatten.mp hk
      exact (h3 t ht).1 k hk
-- @hash 9d5f778c
def sp__law_brackets : DSp := fun ds mu c P PX => ∃ _u : Unit, ds = [.pen] ∧ c + 10 ≤ LIM ∧ ∀ l, asc l → l.length ≤ 10000 → P (.str (sL l)) mu (c + 10)
theorem rep_asc {l : List Nat} (h : asc l) (k : Int) : asc (repD l k) := fun j hj => by
  obtain ⟨t, ht, hj⟩ := List.mem_flatten.mp hj
  rw [List.eq_of_mem_replicate ht] at hj
  exact h j hj
def m__law_brackets : MS := (mSeq (mPar 1 2 (mCons (mCall sp__law_pick (mCons (mVar 0) (mCons (mLst (mCons (mC (.int 1)) (mCons (mC (.int 2)) (mCons (mC (.int 10)) (mCons (mC (.int 11)) (mCons (mC (.int 12)) (mCons (mC (.int 13)) (mCons (mC (.int 60)) (mCons (mC (.int 1200)) mNil))))))))) mNil))) (mCons (mCall sp__law_pick (mCons (mVar 0) (mCons (mLst (mCons (mC (.str "*")) (mCons (mC (.str "|")) (mCons (mC (.str "&")) (mCons (mC (.str "+")) mNil))))) mNil))) mNil)))
  (mSeq (mSet 3 (mOp addD (mOp addD (mOp mulD (mC (.str "(")) (mVar 1)) (mC (.str "a"))) (mOp mulD (mOp addD (mVar 2) (mC (.str "b)"))) (mOp subtD (mVar 1) (mCall sp__law_draw (mCons (mVar 0) (mCons (mC (.int 2)) mNil)))))))
  (mRet (mOp addD (mVar 3) (mCall sp__law_pick (mCons (mVar 0) (mCons (mLst (mCons (mC (.str "")) (mCons (mOp addD (mVar 2) (mC (.str "c"))) (mCons (mC (.str ")")) (mCons (mVar 2) (mCons (mC (.str " , d")) (mCons (mC (.str "~")) mNil))))))) mNil)))))))
theorem rd__law_brackets (ds : List D) (mu : Mu) (c : Nat) (P : D → Mu → Nat → Prop) (PX : Ex → Mu → Nat → Prop) (h : sp__law_brackets ds mu c P PX) : m__law_brackets (S0 ["_law_pen", "_law_many", "_law_mark", "_law_text"] ["_law_pen"] ds mu c) (EF P) (XF PX) := by
  obtain ⟨_, rfl, hc, h⟩ := h
  have hL : (LINE : Nat) = 16777216 := rfl
  have hM : LIM = 1152921504606846976 := rfl
  refine ⟨_, rfl, shortL 8 rfl, _, rfl, by show c < LIM; omega, Nat.succ_pos _, by show 8 < 1073741824; decide, fun x hx => ?_⟩
  obtain ⟨n, rfl, n1, n2⟩ : ∃ n : Nat, x = .int (n : Int) ∧ 1 ≤ n ∧ n ≤ 1200 := by
    simp only [List.mem_cons, List.not_mem_nil, or_false] at hx
    rcases hx with rfl | rfl | rfl | rfl | rfl | rfl | rfl | rfl
    · exact ⟨1, rfl, by decide, by decide⟩
    · exact ⟨2, rfl, by decide, by decide⟩
    · exact ⟨10, rfl, by decide, by decide⟩
    · exact ⟨11, rfl, by decide, by decide⟩
    · exact ⟨12, rfl, by decide, by decide⟩
    · exact ⟨13, rfl, by decide, by decide⟩
    · exact ⟨60, rfl, by decide, by decide⟩
    · exact ⟨1200, rfl, by decide, by decide⟩
  refine ⟨_, rfl, shortL 4 rfl, _, rfl, by show c + 1 < LIM; omega, Nat.succ_pos _, by show 4 < 1073741824; decide, fun y hy => ?_⟩
  obtain ⟨g, rfl, hg⟩ : ∃ g : Nat, y = .str (sL [g]) ∧ g < 128 := by
    simp only [List.mem_cons, List.not_mem_nil, or_false] at hy
    rcases hy with rfl | rfl | rfl | rfl
    · exact ⟨42, by rw [show sL [42] = Str.ofString "*" by decide +kernel], by decide⟩
    · exact ⟨124, by rw [show sL [124] = Str.ofString "|" by decide +kernel], by decide⟩
    · exact ⟨38, by rw [show sL [38] = Str.ofString "&" by decide +kernel], by decide⟩
    · exact ⟨43, by rw [show sL [43] = Str.ofString "+" by decide +kernel], by decide⟩
  have hga : asc [g] := fun j hj => by rw [List.mem_singleton.mp hj]; exact hg
  refine ⟨_, _, rfl, ?_⟩
  have e1 : (Str.ofString "(").cps.toList = [40] := by decide +kernel
  have ea : (Str.ofString "a") = sL [97] := by decide +kernel
  have eb : (Str.ofString "b)") = sL [98, 41] := by decide +kernel
  have l1 : (Str.ofString "(").length = 1 := by decide +kernel
  obtain ⟨A, hA⟩ : ∃ A, A = repD (Str.ofString "(").cps.toList (n : Int) := ⟨_, rfl⟩
  have lA : A.length ≤ 1200 := by rw [hA, e1, rep_len, Int.toNat_natCast]; show n * 1 ≤ 1200; omega
  have aA : asc A := by rw [hA, e1]; exact rep_asc (asc_lit rfl) _
  have eA : (⟨(repD (Str.ofString "(").cps.toList (n : Int)).toArray⟩ : Str) = sL A := by rw [hA]; rfl
  refine ⟨_, rfl, by omega, by omega, by rw [l1, Int.toNat_natCast]; omega, ?_⟩
  rw [eA]
  refine ⟨by rw [ea, sL_len, sL_len]; show A.length + 1 ≤ LINE; omega, ?_⟩
  rw [ea, sL_app]
  refine ⟨_, rfl, by rw [eb, sL_len, sL_len]; show 1 + 2 ≤ LINE; omega, _, rfl, _, rfl, (2 : Int), rfl, by decide, by decide, by show c + 1 + 1 < LIM; omega, fun j j0 j1 => ?_⟩
  have e3 : sL [g] ++ Str.ofString "b)" = sL [g, 98, 41] := by rw [eb, sL_app]; rfl
  rw [e3]
  obtain ⟨k, hk, hk2⟩ : ∃ k : Nat, (n : Int) - j = (k : Int) ∧ k ≤ 1200 := ⟨((n : Int) - j).toNat, by omega, by omega⟩
  refine ⟨by show (0 : Int) ≤ (n : Int) - j; omega, by show (n : Int) - j < 2 ^ 62; omega, by rw [sL_len]; show 3 * ((n : Int) - j).toNat ≤ LINE; omega, ?_⟩
  obtain ⟨B, hB⟩ : ∃ B, B = repD (sL [g, 98, 41]).cps.toList ((n : Int) - j) := ⟨_, rfl⟩
  have lB : B.length ≤ 3600 := by rw [hB, sL_cps, rep_len]; show ((n : Int) - j).toNat * 3 ≤ 3600; omega
  have aB : asc B := by rw [hB, sL_cps]; exact rep_asc (asc_cons hg (asc_lit rfl)) _
  have eB : (⟨(repD (sL [g, 98, 41]).cps.toList ((n : Int) - j)).toArray⟩ : Str) = sL B := by rw [hB]; rfl
  show (sL (A ++ [97])).length + (⟨(repD (sL [g, 98, 41]).cps.toList ((n : Int) - j)).toArray⟩ : Str).length ≤ LINE ∧ _
  rw [eB]
  refine ⟨by rw [sL_len, sL_len, List.length_append]; show A.length + 1 + B.length ≤ LINE; omega, ?_⟩
  rw [sL_app]
  obtain ⟨C, hC⟩ : ∃ C, C = A ++ [97] ++ B := ⟨_, rfl⟩
  rw [← hC]
  have lC : C.length ≤ 4801 := by rw [hC]; simp only [List.length_append, List.length_cons, List.length_nil]; omega
  have aC : asc C := by rw [hC]; exact asc_app (asc_app aA (asc_lit rfl)) aB
  refine ⟨_, rfl, _, rfl, _, rfl, by rw [sL_len]; show 1 + _ ≤ LINE; rw [show (Str.ofString "c").length = 1 by decide +kernel]; omega, _, rfl, shortL 6 rfl, _, rfl, by show c + 1 + 1 + 1 < LIM; omega, Nat.succ_pos _, by show 6 < 1073741824; decide, fun z hz => ?_⟩
  obtain ⟨t, rfl, at_, lt⟩ : ∃ t : List Nat, z = .str (sL t) ∧ asc t ∧ t.length ≤ 4 := by
    simp only [List.mem_cons, List.not_mem_nil, or_false] at hz
    rcases hz with rfl | rfl | rfl | rfl | rfl | rfl
    · exact ⟨[], by rw [show sL [] = Str.ofString "" by decide +kernel], asc_lit rfl, by simp⟩
    · exact ⟨[g, 99], by rw [show Str.ofString "c" = sL [99] by decide +kernel, sL_app]; rfl, asc_cons hg (asc_lit rfl), by simp⟩
    · exact ⟨[41], by rw [show sL [41] = Str.ofString ")" by decide +kernel], asc_lit rfl, by simp⟩
    · exact ⟨[g], rfl, hga, by simp⟩
    · exact ⟨[32, 44, 32, 100], by rw [show sL [32, 44, 32, 100] = Str.ofString " , d" by decide +kernel], asc_lit rfl, by simp⟩
    · exact ⟨[126], by rw [show sL [126] = Str.ofString "~" by decide +kernel], asc_lit rfl, by simp⟩
  refine ⟨by rw [sL_len, sL_len]; omega, c + 10, by show c + 1 + 1 + 1 + 1 ≤ c + 10; omega, ?_⟩
  rw [sL_app]
  exact h _ (asc_app aC at_) (by rw [List.length_append]; omega)
-- @hash 58e20649
def m_law : MS := (mSeq (mSet 2 (mCall sp__law_some_ends (mCons (mVar 1) (mCons (mC (.int 12)) (mCons (mC (.int 12)) mNil)))))
  (mSeq (mSet 3 (mCall sp__law_spaced (mCons (mVar 1) (mCons (mCall sp__law_ends_tokens (mCons (mVar 2) mNil)) mNil))))
  (mSeq (mSet 4 (mCall sp__law_spaced (mCons (mVar 1) (mCons (mCall sp__law_tokens (mCons (mOp subD (mVar 2) (mC (.int 0))) (mCons (mC (.bl false)) mNil))) mNil))))
  (mSeq (mSet 5 (mLc (mItems (mLst (mCons (mVar 3) (mCons (mVar 4) (mCons (mVar 3) mNil))))) [6] (gN 6) mYes (mCall sp__law_spoilt (mCons (mVar 1) (mCons (mVar 6) mNil)))))
  (mSeq (mSet 5 (mOp addD (mVar 5) (mLst (mCons (mCall sp__law_spoilt (mCons (mVar 1) (mCons (mOp subD (mVar 5) (mC (.int 0))) mNil))) (mCons (mCall sp__law_loose (mCons (mVar 1) mNil)) (mCons (mCall sp__law_brackets (mCons (mVar 1) mNil)) (mCons (mVar 3) (mCons (mVar 4) mNil))))))))
  (mRet (mCB allD (mCons (mLc (mItems (mVar 5)) [6] (gN 6) mYes (mCall sp__law_read_right (mCons (mVar 6) mNil))) mNil))))))))
theorem rd_law (mu : Mu) : m_law ⟨none :: some .pen :: List.replicate 5 none, mu, 0⟩ lawEnd PX0 := by
  have hM : LIM = 1152921504606846976 := rfl
  have hN : (LN : Nat) = 1000000 := rfl
  have hL : (LINE : Nat) = 16777216 := rfl
  refine ⟨_, rfl, (12, 12), rfl, by decide, by decide, by show 0 + 300 ≤ LIM; omega, fun fs hne hok hle => ?_⟩
  have hle : leafN fs ≤ 12 := hle
  have hlen := leafN_len fs
  have hok1 : ∀ f ∈ fs, f.ok = true := fun f hf => (hok f hf).1
  have htk := rowToks_len fs
  have hfl := rowFlat_len hok1
  have htasc := rowToks_asc hok1
  refine ⟨_, rfl, _, rfl, fs, rfl, hne, fun f hf => ⟨hok1 f hf, by have := (hok f hf).2; omega⟩, by omega, ?_⟩
  refine ⟨rowToks fs, rfl, by omega, htasc, by omega, by show 0 + 300 + _ + 2 ≤ LIM; omega, fun l1 _ a1 _ n1 => ?_⟩
  cases fs with
  | nil => exact absurd rfl hne
  | cons f fs =>
  obtain ⟨ho, hd⟩ := hok f List.mem_cons_self
  have e0 : leafN (f :: fs) = f.leaves.length + leafN fs := rfl
  have tk1 := toks_lv f
  have tk2 := toks_le f
  have tf := (txt_spd f false).flat_le
  have tx1 := txt_lv f ho
  have tx2 := txt_le f
  have fasc := toks_asc f false ho
  refine ⟨_, rfl, _, rfl, f.toD, atI_nat (j := 0) rfl, ⟨f, false⟩, rfl, by show f.depth < 32; omega, ho, by show f.leaves.length ≤ 5000; omega, ?_⟩
  have h60 : (rowToks (f :: fs)).length ≤ 60 := by omega
  have h61 : (f.toks false).length ≤ 60 := by omega
  refine ⟨f.toks false, rfl, by omega, fasc, by omega, by show 0 + 300 + (rowToks (f :: fs)).length + 2 + _ + 2 ≤ LIM; omega, fun l2 _ a2 _ n2 => ?_⟩
  have g1 : l1.length ≤ 1000 := by omega
  have g2 : l2.length ≤ 1000 := by omega
  obtain ⟨c1, hc1, hc2⟩ : ∃ c1, c1 = 0 + 300 + (rowToks (f :: fs)).length + 2 + (f.toks false).length + 2 ∧ c1 ≤ 500 := ⟨_, rfl, by omega⟩
  refine ⟨_, rfl, _, rfl, _, rfl, shortL 3 rfl, ?_⟩
  show lcGo _ _ _ ⟨_, mu, 0 + 300 + (rowToks (f :: fs)).length + 2 + (f.toks false).length + 2⟩ _
  rw [← hc1]
  refine lc_rel (fun _ y => ∃ l, y = .str (sL l) ∧ asc l ∧ l.length ≤ 1100) 10 1000 _ _ _ (fun d hd c2 K hc2 hK => ?_) (by show 3 ≤ LINE; decide) (by show c1 + 10 * 3 ≤ 1000; omega) (fun ys hys => ?_)
  · obtain ⟨l, rfl, ha, hl⟩ : ∃ l, d = .str (sL l) ∧ asc l ∧ l.length ≤ 1000 := by
      simp only [List.mem_cons, List.not_mem_nil, or_false] at hd
      rcases hd with rfl | rfl | rfl
      · exact ⟨l1, rfl, a1, g1⟩
      · exact ⟨l2, rfl, a2, g2⟩
      · exact ⟨l1, rfl, a1, g1⟩
    refine ⟨_, rfl, _, rfl, sL l, rfl, by rw [sL_cps]; exact ha, by rw [sL_cps]; omega, by show c2 + 10 ≤ LIM; omega, fun l' ha' hl' => hK _ ⟨l', rfl, ha', by rw [sL_cps] at hl'; omega⟩⟩
  cases hys with
  | cons h1 t1 =>
  cases t1 with
  | cons h2 t2 =>
  cases t2 with
  | cons h3 t3 =>
  cases t3
  obtain ⟨m1, rfl, b1, s1⟩ := h1
  obtain ⟨m2, rfl, b2, s2⟩ := h2
  obtain ⟨m3, rfl, b3, s3⟩ := h3
  refine ⟨_, rfl, _, rfl, _, rfl, _, atI_nat (j := 0) rfl, sL m1, rfl, by rw [sL_cps]; exact b1, by rw [sL_cps]; omega, by show c1 + 10 * 3 + 10 ≤ LIM; omega, fun m4 b4 s4 => ?_⟩
  rw [sL_cps] at s4
  refine ⟨_, rfl, (), rfl, by show c1 + 10 * 3 + 10 + 20 ≤ LIM; omega, fun m5 b5 s5 => ?_⟩
  refine ⟨_, rfl, (), rfl, by show c1 + 10 * 3 + 10 + 20 + 10 ≤ LIM; omega, fun m6 b6 s6 => ?_⟩
  refine ⟨_, rfl, _, rfl, shortL 5 rfl, by show 3 + 5 ≤ LINE; decide, ?_⟩
  refine ⟨_, rfl, ?_⟩
  refine lc_rel (fun _ y => y = .bl true) 0 1000 _ _ _ (fun d hd c2 K hc2 hK => ?_) (by show 8 ≤ LINE; decide) (by show c1 + 10 * 3 + 10 + 20 + 10 + 0 * 8 ≤ 1000; omega) (fun ys hys => ?_)
  · obtain ⟨l, rfl, ha, hl⟩ : ∃ l, d = .str (sL l) ∧ asc l ∧ l.length ≤ 10000 := by
      simp only [List.cons_append, List.nil_append, List.mem_cons, List.not_mem_nil, or_false] at hd
      rcases hd with rfl | rfl | rfl | rfl | rfl | rfl | rfl | rfl
      · exact ⟨_, rfl, b1, by omega⟩
      · exact ⟨_, rfl, b2, by omega⟩
      · exact ⟨_, rfl, b3, by omega⟩
      · exact ⟨_, rfl, b4, by omega⟩
      · exact ⟨_, rfl, b5, by omega⟩
      · exact ⟨_, rfl, b6, by omega⟩
      · exact ⟨_, rfl, a1, by omega⟩
      · exact ⟨_, rfl, a2, by omega⟩
    exact ⟨_, rfl, sL l, rfl, by rw [sL_cps]; exact ha, by rw [sL_cps]; omega, hK _ rfl⟩
  · obtain ⟨bs, e1, e2⟩ := all_rel hys
    refine ⟨bs, e1, ?_⟩
    rw [e2]
    rfl
end DL
namespace DL
open PySem L2
local macro_rules | `(tactic| walk_at "st") => `(tactic| repeat (first | refine ⟨_, rfl, ?_⟩ | refine iteT ?_ | refine iteF ?_ | refine ⟨rfl, ?_⟩ | refine ⟨ceq_of (n := 0) (m := 0) rfl rfl, ?_⟩ | refine ⟨shortL _ rfl, ?_⟩))
local macro_rules | `(tactic| walk_at "c") => `(tactic| dsimp only [mNil])
local macro_rules | `(tactic| walk_at "ff") => `(tactic| first | (show if false = true then _ else _; refine iteF ?_) | skip)
def top (i : Nat) : Stmt := PySem.Challenge.pw_alldeeds_k05_whole_longest_beginnings.main.body.getD i (.Pass ⟨0, 0, 0, 0⟩)
structure Tx (P : Program) (K : PySem.W.Frag) (mg : Str → Option Value) : Prop where
  e_BadValue : ∃ C fI, OwnErr P K mg "BadValue" "value" C fI
  e_NotAText : ∃ C fI, OwnErr P K mg "NotAText" "at" C fI
  e_TooDeep : ∃ C fI, OwnErr P K mg "TooDeep" "most" C fI
  e_TooMany : ∃ C fI, OwnErr P K mg "TooMany" "most" C fI
  n_NotAText_BadValue : Miss K mg "NotAText" "BadValue"
  n_TooDeep_BadValue : Miss K mg "TooDeep" "BadValue"
  n_TooDeep_NotAText : Miss K mg "TooDeep" "NotAText"
  n_TooMany_BadValue : Miss K mg "TooMany" "BadValue"
  n_TooMany_NotAText : Miss K mg "TooMany" "NotAText"
  n_TooMany_TooDeep : Miss K mg "TooMany" "TooDeep"
  i_MARKS : GlobT K mg "MARKS" ["*", "|", "&", "+"]
  c_Scan : ClsD K mg "Scan" ["string", "place"]
  g_HALVED_WORDS : GlobD K mg "HALVED_WORDS" (.tup [(.str "both"), (.str "between"), (.str "offered"), (.str "chosen")])
  g_LEAF_WORDS : GlobD K mg "LEAF_WORDS" (.tup [(.str "good"), (.str "counter")])
  g_LETTERS : GlobD K mg "LETTERS" (.str "abcdefghijklmnopqrstuvwxyz")
  g_MARKS : GlobD K mg "MARKS" (.tup [(.str "*"), (.str "|"), (.str "&"), (.str "+")])
  g_MOST_DEPTH : GlobD K mg "MOST_DEPTH" (.int 12)
  g_MOST_LEAVES : GlobD K mg "MOST_LEAVES" (.int 40)
  g_MOST_SIGNS : GlobD K mg "MOST_SIGNS" (.int 12)
  g_SIGNS : GlobD K mg "SIGNS" (.str "abcdefghijklmnopqrstuvwxyz0123456789")
  b_abs : mg "abs" = none
  b_all : mg "all" = none
  b_bool : mg "bool" = none
  b_enumerate : mg "enumerate" = none
  b_int : mg "int" = none
  b_isinstance : mg "isinstance" = none
  b_len : mg "len" = none
  b_list : mg "list" = none
  b_max : mg "max" = none
  b_min : mg "min" = none
  b_range : mg "range" = none
  b_str : mg "str" = none
  b_sum : mg "sum" = none
  b_tuple : mg "tuple" = none
  b_zip : mg "zip" = none
section
variable {P : Program} {w : World} {K : PySem.W.Frag} {mg : Str → Option Value} {Tb : List (Addr × Str)} {base : Heap}
abbrev s__law_begin : Stmt := top 31
theorem sc__law_begin : FnScope ["_law_script"] ["_law_script"] (defScope s__law_begin) := ⟨rfl, rfl, rfl, by decide +kernel, rfl, by decide +kernel, by decide +kernel⟩
theorem ok__law_begin {f : Addr} {fd : FuncData} (F : Fun K "_law_begin" "_law_begin" s__law_begin f fd) (T : Tx P K mg) : FnOk P w K mg base (L2.CX P w) 1 f fd ["_law_script"] (spBegin0 K) := by
  refine F.okX sc__law_begin (fun vs H Q E h => ?_) (fun cdv A outer s H vs Q E hr h => ?_)
  · obtain ⟨a, ns, rfl, _⟩ := h
    rfl
  · refine ⟨_, pss_one (ps_ret (pe_disp (pps_cons pe_str (pe_callTy call_list_of (by rfl) T.b_list (by decide +kernel) (pa_cons (pe_slice sl_list (pv 0) po_none (po_some pe_int)) pa_nil)) (pps_cons pe_str pe_int (pps_cons pe_str pe_int pps_nil))) (by rfl) (by rfl) (fun z => by cases z) (by decide))), ?_⟩
    obtain ⟨a, ns, rfl, hS, hl, k⟩ := h
    intro p hp
    have hS1 : SqL K (upd H p (.dK [])) a (ns.map V.int) := by
      rcases hS with (h | ⟨o, h⟩) | h
      · exact .inl (.inl (by rw [upd_ne (ne_of_none h hp)]; exact h))
      · exact .inl (.inr ⟨o, by rw [upd_ne (ne_of_none h hp)]; exact h⟩)
      · exact .inr h
    have hcut : cutV (ns.map V.int) none (some 63) = ns.map V.int := by
      refine cutV_all ⟨rfl, ?_⟩
      rw [List.length_map]
      have := HT.sIx_nat ns.length ns.length 63
      rw [show ((63 : Nat) : Int) = 63 from rfl] at this
      rw [this]
      omega
    refine ⟨_, rfl, _, rfl, _, _, rfl, hS1, fun q hq => ?_⟩
    have npq : p ≠ q := ne_of_none upd_same hq
    refine ⟨_, _, rfl, .inl (SqL.of upd_same), fun ca hca => ?_⟩
    have npc : p ≠ ca := ne_of_none (by rw [upd_ne npq]; exact upd_same) hca
    have nqc : q ≠ ca := ne_of_none upd_same hca
    refine ⟨by rw [upd_ne npc, upd_ne npq]; exact upd_same, penKvs ca 0 0, rfl, (by show 3 ≤ 15; decide), ?_⟩
    have em : mergeK [] (penKvs ca 0 0) = penKvs ca 0 0 := by
      show putK (putK (putK [] (.inr "cells" : Key) (.ref ca)) (.inr "begun" : Key) (.int 0)) (.inr "left" : Key) (.int 0) = _
      have e1 : putK [] (.inr "cells" : Key) (.ref ca) = [((.inr "cells" : Key), .ref ca)] := rfl
      have e2 : putK [((.inr "cells" : Key), V.ref ca)] (.inr "begun" : Key) (.int 0) = [((.inr "cells" : Key), .ref ca), ((.inr "begun" : Key), .int 0)] := putK_new _ (by rw [valV_neg k_cb]; rfl)
      have e3 : putK [((.inr "cells" : Key), V.ref ca), ((.inr "begun" : Key), .int 0)] (.inr "left" : Key) (.int 0) = penKvs ca 0 0 := putK_new _ (by rw [valV_neg k_cl, valV_neg k_bl]; rfl)
      rw [e1, e2, e3]
    rw [em]
    refine k p ca _ hp ?_ npc upd_same (by rw [upd_ne npc.symm, upd_same, hcut]) fun b o e => ?_
    · rw [upd_ne nqc.symm, upd_ne npc.symm] at hca
      exact hca
    · have n1 := ne_of_none e hp
      rw [upd_ne n1]
      have e1 : (upd H p (.dK [])) b = some o := by rw [upd_ne n1]; exact e
      have n2 := ne_of_none e1 hq
      have e2 : (upd (upd H p (.dK [])) q (.lst (cutV (ns.map V.int) none (some 63)))) b = some o := by rw [upd_ne n2]; exact e1
      rw [upd_ne (ne_of_none e2 hca)]
      exact e2
abbrev s__law_draw : Stmt := top 32
theorem sc__law_draw : FnScope ["_law_pen", "_law_span", "_law_digit", "_law_at", "_law_cell", "_law_n"] ["_law_pen", "_law_span"] (defScope s__law_draw) := ⟨rfl, rfl, rfl, by decide +kernel, rfl, by decide +kernel, by decide +kernel⟩
theorem ok__law_draw {f : Addr} {fd : FuncData} (F : Fun K "_law_draw" "_law_draw" s__law_draw f fd) (T : Tx P K mg) : FnOk P w K mg base (L2.CX P w) 1 f fd ["_law_pen", "_law_span"] spDraw0 := by
  refine F.okX sc__law_draw (fun vs H Q E h => ?_) (fun cdv A outer s H vs Q E hr h => ?_)
  · obtain ⟨p, ca, n, b, l, ns, rfl, _⟩ := h
    rfl
  · have hu := u1 hr
    have nd := sc__law_draw.nd
    have getL : ∀ {X : Cx} {x : Str} {p1 p2 p3 : Pos} {j : Nat} (hu : X.A.units + 1 < cLine) (hN : X.N[(0 : Nat)]? = some (Str.ofString "_law_pen")) (hv : Vis X.env.scope (Str.ofString "_law_pen")), PE X (.Subscript (.Name (Str.ofString "_law_pen") p1) (.Constant (.str x) j p2) p3) (tDGet (tVar 0) (tC (.str x))) :=
      fun hu hN hv => pe_dget hu (pe_var hN hv) pe_str (fun _ _ => rfl)
    refine ⟨_, pss_cons (ps_if (pt_cmpR op_gt (getL hu rfl (Or.inl rfl)) pe_int (nomark _))
        (pss_cons (ps_set (i := 2) nd rfl (Or.inl rfl) (pe_op op_mod (pe_callTy call_int1 (by rfl) T.b_int PyProof.Rows.boot_int (pa_cons (getL hu rfl (Or.inl rfl)) pa_nil)) (pv 1)))
        (pss_cons (ps_dput hu (pv 0) pe_str (pe_op op_fdiv (getL hu rfl (Or.inl rfl)) (pv 1)) rfl)
        (pss_one (ps_ret (pv 2))))) pss_nil)
      (pss_cons (ps_set (i := 3) nd rfl (Or.inl rfl) (getL hu rfl (Or.inl rfl)))
      (pss_cons (ps_dput hu (pv 0) pe_str (pe_op op_add (pv 3) pe_int) rfl)
      (pss_cons (ps_set (i := 4) nd rfl (Or.inl rfl) (pe_op op_add (pe_op op_mul pe_int (pv 3)) pe_int))
      (pss_cons (ps_if (pt_cmpR (op_neD hr.units) (getL hu rfl (Or.inl rfl)) (pe_lst pa_nil) (nomark _))
        (pss_one (ps_set (i := 4) nd rfl (Or.inl rfl) (pe_ix ix_list (getL hu rfl (Or.inl rfl)) (pe_op op_mod (pe_callTy call_int1 (by rfl) T.b_int PyProof.Rows.boot_int (pa_cons (pv 3) pa_nil)) (pe_callB call_len_seq (by rfl) T.b_len boot_len (pa_cons (getL hu rfl (Or.inl rfl)) pa_nil))) (fun _ _ => rfl)))) pss_nil)
      (pss_cons (ps_if (PW.pt (pw_and (pt_cmpR op_lt (pv 3) (pe_callB call_len_seq (by rfl) T.b_len boot_len (pa_cons (getL hu rfl (Or.inl rfl)) pa_nil)) (nomark _))
          (pw_and1 (pt_cmpR op_ge (pe_callB call_abs (by rfl) T.b_abs (by decide +kernel) (pa_cons (pv 4) pa_nil)) (pe_op op_pow pe_int pe_int) (nomark _)))))
        (pss_cons (ps_dput hu (pv 0) pe_str (pe_op op_fdiv (pe_op op_sub (pe_callB call_abs (by rfl) T.b_abs (by decide +kernel) (pa_cons (pv 4) pa_nil)) (pe_op op_pow pe_int pe_int)) (pv 1)) rfl)
        (pss_one (ps_ret (pe_op op_mod (pe_callTy call_int1 (by rfl) T.b_int PyProof.Rows.boot_int (pa_cons (pe_op op_sub (pe_callB call_abs (by rfl) T.b_abs (by decide +kernel) (pa_cons (pv 4) pa_nil)) (pe_op op_pow pe_int pe_int)) pa_nil)) (pv 1))))) pss_nil)
      (pss_cons (ps_set (i := 5) nd rfl (Or.inl rfl) (pe_op op_add (pe_op op_mul (pe_op op_mod (pe_callTy call_int1 (by rfl) T.b_int PyProof.Rows.boot_int (pa_cons (pv 4) pa_nil)) pe_int) pe_int) (pe_op op_mul (pe_op op_mul pe_int (pv 3)) (pv 3))))
      (pss_cons (ps_set (i := 5) nd rfl (Or.inl rfl) (pe_op op_mod (pe_callTy call_int1 (by rfl) T.b_int PyProof.Rows.boot_int (pa_cons (pe_op op_add (pe_op op_add (pv 5) (pe_op op_mul pe_int (pv 3))) pe_int) pa_nil)) pe_int))
      (pss_cons (ps_set (i := 5) nd rfl (Or.inl rfl) (pe_op op_mod (pe_callTy call_int1 (by rfl) T.b_int PyProof.Rows.boot_int (pa_cons (pe_op op_add (pe_op op_add (pe_op op_add (pe_op op_mul (pv 5) (pv 5)) (pe_op op_mul pe_int (pv 5))) (pe_op op_mul pe_int (pv 3))) pe_int) pa_nil)) pe_int))
      (pss_cons (ps_set (i := 5) nd rfl (Or.inl rfl) (pe_op op_mod (pe_callTy call_int1 (by rfl) T.b_int PyProof.Rows.boot_int (pa_cons (pe_op op_add (pe_op op_add (pe_op op_mul (pv 5) (pv 5)) (pe_op op_mul pe_int (pv 5))) (pv 3)) pa_nil)) pe_int))
      (pss_one (ps_ret (pe_op op_mod (pe_callTy call_int1 (by rfl) T.b_int PyProof.Rows.boot_int (pa_cons (pe_op op_fdiv (pe_op op_mod (pe_callTy call_int1 (by rfl) T.b_int PyProof.Rows.boot_int (pa_cons (pe_op op_mul (pv 5) (pe_op op_add (pv 5) pe_int)) pa_nil)) pe_int) pe_int) pa_nil)) (pv 1))))))))))))), ?_⟩
    obtain ⟨p, ca, n, b, l, ns, rfl, hn0, hn1, hp, hca, hns, hb0, hb1, hl0, k⟩ := h
    refine ⟨_, rfl, _, _, rfl, pen_left hp, _, _, rfl, rfl, _, rfl, ?_⟩
    have npc : ca ≠ p := fun z => by rw [z, hp] at hca; cases hca
    refine ite2 (fun c0 => ?_) (fun c0 => ?_)
    · refine ⟨_, rfl, _, _, rfl, pen_left hp, .inl ⟨_, rfl, _, rfl, _, _, rfl, rfl, hn0, ?_⟩⟩
      refine ⟨_, rfl, _, _, rfl, pen_left hp, _, rfl, _, _, rfl, rfl, ⟨hn0, hn1⟩, _, rfl, _, _, rfl, pen_left_put _ hp, _, rfl, ?_⟩
      exact k _ b _ _ (fmod_nn hn0).1 (fmod_nn hn0).2 (Int.le_refl _) (by omega) (Int.ediv_nonneg hl0 (by omega)) upd_same fun a o h1 h2 => by rw [upd_ne h2]; exact h1
    · refine ⟨_, rfl, _, _, rfl, pen_begun hp, ?_⟩
      refine ⟨_, rfl, _, _, rfl, rfl, _, rfl, _, _, rfl, pen_begun_put _ hp, ?_⟩
      have hp1 : (upd H p (.dK (penKvs ca (b + 1) l))) p = some (.dK (penKvs ca (b + 1) l)) := upd_same
      have hc1 : (upd H p (.dK (penKvs ca (b + 1) l))) ca = some (.lst (ns.map V.int)) := by rw [upd_ne npc]; exact hca
      have fr1 : ∀ a o, H a = some o → a ≠ p → (upd H p (.dK (penKvs ca (b + 1) l))) a = some o := fun a o h1 h2 => by rw [upd_ne h2]; exact h1
      generalize upd H p (.dK (penKvs ca (b + 1) l)) = H1 at hp1 hc1 fr1
      refine ⟨_, rfl, _, _, rfl, rfl, .inl (by decide), _, _, rfl, rfl, ?_⟩
      refine ⟨_, rfl, _, _, rfl, pen_cells hp1, Nat.zero_le _, fun q hq => ?_⟩
      have hp2 : (upd H1 q (.lst [])) p = some (.dK (penKvs ca (b + 1) l)) := by rw [upd_ne (ne_of_none hp1 hq)]; exact hp1
      have hc2 : (upd H1 q (.lst [])) ca = some (.lst (ns.map V.int)) := by rw [upd_ne (ne_of_none hc1 hq)]; exact hc1
      have fr2 : ∀ a o, H a = some o → a ≠ p → (upd H1 q (.lst [])) a = some o := fun a o h1 h2 => by rw [upd_ne (ne_of_none (fr1 a o h1 h2) hq)]; exact fr1 a o h1 h2
      have hq2 : (upd H1 q (.lst [])) q = some (.lst []) := upd_same
      generalize upd H1 q (.lst []) = H2 at hp2 hc2 fr2 hq2
      refine ⟨.list (ns.map PyData.int), .list [], dp_ints hc2, .lst (SqL.of hq2) .nil, shaped_ints ns, rfl, _, rfl, ?_⟩
      have two : ∀ {A B : Prop}, (ns = [] → B) → (ns ≠ [] → A) → if (!(PyData.list (ns.map PyData.int)).eqv (PyData.list [])) = true then A else B := by
        intro A B h1 h2
        cases ns with
        | nil => exact h1 rfl
        | cons x r => exact h2 (List.cons_ne_nil _ _)
      have hlen : (ns.map V.int).length = ns.length := List.length_map ..
      refine two (fun hne => ?_) (fun hne => ?_)
      case' refine_2 =>
        have hpos : 0 < ns.length := List.length_pos_iff.mpr hne
        have hb' : (0 : Int) < ((ns.map V.int).length : Nat) := by rw [hlen]; omega
        obtain ⟨j, hj, hjl⟩ : ∃ j : Nat, b % (((ns.map V.int).length : Nat) : Int) = (j : Int) ∧ j < ns.length := by
          have h1 := fmod_nn (a := b) hb'
          refine ⟨(b % (((ns.map V.int).length : Nat) : Int)).toNat, (Int.toNat_of_nonneg h1.1).symm, ?_⟩
          have h2 := h1.2
          rw [hlen] at h2 ⊢
          omega
        refine ⟨_, rfl, _, _, rfl, pen_cells hp2, _, rfl, .inl ⟨_, rfl, _, rfl, _, _, rfl, pen_cells hp2, _, _, rfl, .inl (SqL.of hc2), _, _, rfl, rfl, hb', _, _, _, V.int (ns[j]), rfl, rfl, SqL.of hc2, by rw [hj]; exact atI_nat (by simp [hjl]), ?_⟩⟩
        generalize ns[j] = cell
      case' refine_1 =>
        refine (?_ : L2.tNext _ _ _)
        show L2.tSeq _ _ _ [some (V.ref p), some (V.int n), none, some (V.int b), some (V.int (101 * b + 47)), none] H2
        generalize 101 * b + 47 = cell
      case' refine_2 =>
        show L2.tSeq _ _ _ [some (V.ref p), some (V.int n), none, some (V.int b), some (V.int cell), none] H2
      all_goals
        refine ⟨_, rfl, _, rfl, _, _, rfl, pen_cells hp2, _, _, rfl, .inl (SqL.of hc2), _, _, rfl, rfl, _, rfl, ?_⟩
        have tail : ∀ {A : Prop}, (∀ n1 : Int, 0 ≤ n1 → n1 < n → A) → A := fun h => h 0 (Int.le_refl _) hn0
        have last : ∀ (a m : Int), 0 < m → 0 ≤ a % m ∧ a % m < m := fun a m hm => fmod_nn hm
        have pw : CPow 10 18 := ⟨by decide, by decide, by decide⟩
        refine ite2 (fun c1 => ?_) (fun c1 => ?_)
        · refine ⟨_, rfl, _, rfl, _, _, rfl, rfl, pw, _, _, rfl, rfl, _, rfl, ?_⟩
          refine ite2 (fun c2 => ?_) (fun c2 => ?_)
          · refine ⟨_, rfl, _, rfl, _, _, rfl, rfl, pw, _, _, rfl, rfl, _, rfl, _, _, rfl, rfl, ⟨hn0, hn1⟩, _, rfl, _, _, rfl, pen_left_put _ hp2, ?_⟩
            refine ⟨_, rfl, _, rfl, _, _, rfl, rfl, pw, _, _, rfl, rfl, .inl ⟨_, rfl, _, rfl, _, _, rfl, rfl, hn0, ?_⟩⟩
            have c3 : (10 : Int) ^ (18 : Int).toNat ≤ (if cell < 0 then -cell else cell) := of_decide_eq_true c2
            refine k _ (b + 1) _ _ (last _ _ hn0).1 (last _ _ hn0).2 (by omega) (Int.le_refl _) (Int.ediv_nonneg (by omega) (by omega)) upd_same fun a o h1 h2 => by rw [upd_ne h2]; exact fr2 a o h1 h2
          · refine ⟨_, rfl, .inl ⟨_, rfl, _, _, rfl, rfl, (by show (0 : Int) < _; decide), _, _, rfl, rfl, .inr ⟨by decide, by decide⟩, _, rfl, _, _, rfl, rfl, .inl ⟨by decide, by decide⟩, _, rfl, _, _, rfl, rfl, .inr ⟨by omega, by omega⟩, _, _, rfl, rfl, ?_⟩⟩
            generalize (cell % 2147483423 * 48611 + 29501 * b * b) = n1
            refine ⟨_, rfl, _, rfl, _, _, rfl, rfl, .inl ⟨by decide, by decide⟩, _, _, rfl, rfl, _, _, rfl, rfl, .inl ⟨_, rfl, _, _, rfl, rfl, (by show (0 : Int) < _; decide), ?_⟩⟩
            have b2 := last (n1 + 811 * b + 53) 2147483399 (by decide)
            generalize (n1 + 811 * b + 53) % 2147483399 = n2 at b2
            refine ⟨_, rfl, _, rfl, _, _, rfl, rfl, .inl ⟨by omega, by omega⟩, _, rfl, _, _, rfl, rfl, .inl ⟨by decide, by decide⟩, _, _, rfl, rfl, _, rfl, _, _, rfl, rfl, .inl ⟨by decide, by decide⟩, _, _, rfl, rfl, _, _, rfl, rfl, .inl ⟨_, rfl, _, _, rfl, rfl, (by show (0 : Int) < _; decide), ?_⟩⟩
            have b3 := last (n2 * n2 + 37813 * n2 + 71 * b + 23) 2147483353 (by decide)
            generalize (n2 * n2 + 37813 * n2 + 71 * b + 23) % 2147483353 = n3 at b3
            refine ⟨_, rfl, _, rfl, _, _, rfl, rfl, .inl ⟨by omega, by omega⟩, _, rfl, _, _, rfl, rfl, .inl ⟨by decide, by decide⟩, _, _, rfl, rfl, _, rfl, _, _, rfl, rfl, .inl ⟨_, rfl, _, _, rfl, rfl, (by show (0 : Int) < _; decide), ?_⟩⟩
            have b4 := last (n3 * n3 + 31181 * n3 + b) 2147483323 (by decide)
            generalize (n3 * n3 + 31181 * n3 + b) % 2147483323 = n4 at b4
            refine ⟨_, rfl, _, rfl, _, _, rfl, rfl, _, _, rfl, rfl, .inl ⟨by omega, by omega⟩, .inl ⟨_, rfl, _, _, rfl, rfl, (by show (0 : Int) < _; decide), _, _, rfl, rfl, ⟨by decide, by decide⟩, .inl ⟨_, rfl, _, rfl, _, _, rfl, rfl, hn0, ?_⟩⟩⟩
            exact k _ (b + 1) _ _ (last _ _ hn0).1 (last _ _ hn0).2 (by omega) (Int.le_refl _) hl0 hp2 fr2
        · refine ⟨_, rfl, .inl ⟨_, rfl, _, _, rfl, rfl, (by show (0 : Int) < _; decide), _, _, rfl, rfl, .inr ⟨by decide, by decide⟩, _, rfl, _, _, rfl, rfl, .inl ⟨by decide, by decide⟩, _, rfl, _, _, rfl, rfl, .inr ⟨by omega, by omega⟩, _, _, rfl, rfl, ?_⟩⟩
          generalize (cell % 2147483423 * 48611 + 29501 * b * b) = n1
          refine ⟨_, rfl, _, rfl, _, _, rfl, rfl, .inl ⟨by decide, by decide⟩, _, _, rfl, rfl, _, _, rfl, rfl, .inl ⟨_, rfl, _, _, rfl, rfl, (by show (0 : Int) < _; decide), ?_⟩⟩
          have b2 := last (n1 + 811 * b + 53) 2147483399 (by decide)
          generalize (n1 + 811 * b + 53) % 2147483399 = n2 at b2
          refine ⟨_, rfl, _, rfl, _, _, rfl, rfl, .inl ⟨by omega, by omega⟩, _, rfl, _, _, rfl, rfl, .inl ⟨by decide, by decide⟩, _, _, rfl, rfl, _, rfl, _, _, rfl, rfl, .inl ⟨by decide, by decide⟩, _, _, rfl, rfl, _, _, rfl, rfl, .inl ⟨_, rfl, _, _, rfl, rfl, (by show (0 : Int) < _; decide), ?_⟩⟩
          have b3 := last (n2 * n2 + 37813 * n2 + 71 * b + 23) 2147483353 (by decide)
          generalize (n2 * n2 + 37813 * n2 + 71 * b + 23) % 2147483353 = n3 at b3
          refine ⟨_, rfl, _, rfl, _, _, rfl, rfl, .inl ⟨by omega, by omega⟩, _, rfl, _, _, rfl, rfl, .inl ⟨by decide, by decide⟩, _, _, rfl, rfl, _, rfl, _, _, rfl, rfl, .inl ⟨_, rfl, _, _, rfl, rfl, (by show (0 : Int) < _; decide), ?_⟩⟩
          have b4 := last (n3 * n3 + 31181 * n3 + b) 2147483323 (by decide)
          generalize (n3 * n3 + 31181 * n3 + b) % 2147483323 = n4 at b4
          refine ⟨_, rfl, _, rfl, _, _, rfl, rfl, _, _, rfl, rfl, .inl ⟨by omega, by omega⟩, .inl ⟨_, rfl, _, _, rfl, rfl, (by show (0 : Int) < _; decide), _, _, rfl, rfl, ⟨by decide, by decide⟩, .inl ⟨_, rfl, _, rfl, _, _, rfl, rfl, hn0, ?_⟩⟩⟩
          exact k _ (b + 1) _ _ (last _ _ hn0).1 (last _ _ hn0).2 (by omega) (Int.le_refl _) hl0 hp2 fr2
theorem fn__law_draw {f : Addr} {fd : FuncData} (F : Fun K "_law_draw" "_law_draw" s__law_draw f fd) (hmg : mg "_law_draw" = some (.ref f)) (b : Binds K fd ["_law_pen", "_law_span"] []) (T : Tx P K mg) : FnD P w K mg Tb base 1 "_law_draw" ["_law_pen", "_law_span"] sp__law_draw :=
  .raw (ok__law_draw F T) hmg F.kp b fun _ => draw_of
abbrev s_need_any_string : Stmt := top 8
abbrev N_need_any_string : List Str := ["value"]
theorem sc_need_any_string : FnScope N_need_any_string ["value"] (defScope s_need_any_string) := ⟨rfl, rfl, rfl, by decide +kernel, rfl, by decide +kernel, by decide +kernel⟩
theorem fn_need_any_string {f : Addr} {fd : FuncData} (F : Fun K "need_any_string" "need_any_string" s_need_any_string f fd) (hmg : mg "need_any_string" = some (.ref f)) (b : Binds K fd ["value"] []) (T : Tx P K mg) : FnD P w K mg Tb base 1 "need_any_string" ["value"] sp_need_any_string := by
  obtain ⟨C_BadValue, f_BadValue, E_BadValue⟩ := T.e_BadValue
  refine fnD (k := 0) F hmg b sc_need_any_string (fun _ _ _ _ _ h => by obtain ⟨_, rfl, _⟩ := h; rfl) ?_
  rintro _ q W ⟨cdv, A, outer, s, H, E, rfl⟩ tk hr hp
  have nd := sc_need_any_string.nd
  exact ⟨m_need_any_string, (dss_one (ds_if (dt_not (dt_val (de_isi rfl rfl T.b_isinstance (de_var (i := 0)) rfl T.b_str bb_str kits_str))) (dss_one (ds_raise rfl E_BadValue rfl hr tk (de_var (i := 0)) rfl)) dss_nil)), rd_need_any_string⟩
abbrev s_is_leaf : Stmt := top 16
abbrev N_is_leaf : List Str := ["form"]
theorem sc_is_leaf : FnScope N_is_leaf ["form"] (defScope s_is_leaf) := ⟨rfl, rfl, rfl, by decide +kernel, rfl, by decide +kernel, by decide +kernel⟩
theorem fn_is_leaf {f : Addr} {fd : FuncData} (F : Fun K "is_leaf" "is_leaf" s_is_leaf f fd) (hmg : mg "is_leaf" = some (.ref f)) (b : Binds K fd ["form"] []) (T : Tx P K mg) : FnD P w K mg Tb base 1 "is_leaf" ["form"] sp_is_leaf := by
  refine fnD (k := 0) F hmg b sc_is_leaf (fun _ _ _ _ _ h => by obtain ⟨_, rfl, _⟩ := h; rfl) ?_
  rintro _ q W ⟨cdv, A, outer, s, H, E, rfl⟩ tk hr hp
  have nd := sc_is_leaf.nd
  exact ⟨m_is_leaf, (dss_one (ds_ret (de_cmp (od_in rfl (u65 hr)) (de_sub rfl (u1 hr) (de_var (i := 0)) de_int) (de_gl T.g_LEAF_WORDS rfl rfl)))), rd_is_leaf⟩
abbrev s_Scan_seen : Stmt := inClass (top 19) 1
abbrev N_Scan_seen : List Str := ["self"]
theorem sc_Scan_seen : FnScope N_Scan_seen ["self"] (defScope s_Scan_seen) := ⟨rfl, rfl, rfl, by decide +kernel, rfl, by decide +kernel, by decide +kernel⟩
theorem fn_Scan_seen {C f : Addr} {fd : FuncData} (F : Fun K "seen" "Scan.seen" s_Scan_seen f fd) (gC : mg "Scan" = some (.ref C)) (cl : Cls K C) (hm : Meth K C "seen" f) (b : Binds K fd ["self"] []) (T : Tx P K mg) : FnM P w K mg Tb base 1 "Scan" "seen" ["self"] sp_Scan_seen := by
  refine ⟨C, f, gC, cl, hm, ?_⟩
  refine fnF (k := 0) F b sc_Scan_seen (fun _ _ _ _ _ h => by obtain ⟨_, rfl, _⟩ := h; rfl) ?_
  rintro _ q W ⟨cdv, A, outer, s, H, E, rfl⟩ tk hr hp
  have nd := sc_Scan_seen.nd
  exact ⟨m_Scan_seen, (dss_one (ds_ret (de_sl rfl (de_fldN rfl T.c_Scan List.mem_cons_self (de_var (i := 0))) (do_some (de_fldN rfl T.c_Scan (List.mem_cons_of_mem _ List.mem_cons_self) (de_var (i := 0)))) (do_some (de_op (od_add rfl) (de_fldN rfl T.c_Scan (List.mem_cons_of_mem _ List.mem_cons_self) (de_var (i := 0))) de_int))))), rd_Scan_seen⟩
abbrev s_Scan_sees : Stmt := inClass (top 19) 4
abbrev N_Scan_sees : List Str := ["self", "sign"]
theorem sc_Scan_sees : FnScope N_Scan_sees ["self", "sign"] (defScope s_Scan_sees) := ⟨rfl, rfl, rfl, by decide +kernel, rfl, by decide +kernel, by decide +kernel⟩
theorem fn_Scan_sees {C f : Addr} {fd : FuncData} (F : Fun K "sees" "Scan.sees" s_Scan_sees f fd) (gC : mg "Scan" = some (.ref C)) (cl : Cls K C) (hm : Meth K C "sees" f) (b : Binds K fd ["self", "sign"] []) (T : Tx P K mg) (F_Scan_seen : FnM P w K mg Tb base 1 "Scan" "seen" ["self"] sp_Scan_seen) : FnM P w K mg Tb base 2 "Scan" "sees" ["self", "sign"] sp_Scan_sees := by
  refine ⟨C, f, gC, cl, hm, ?_⟩
  refine fnF (k := 1) F b sc_Scan_sees (fun _ _ _ _ _ h => by obtain ⟨_, rfl, _⟩ := h; rfl) ?_
  rintro _ q W ⟨cdv, A, outer, s, H, E, rfl⟩ tk hr hp
  have nd := sc_Scan_sees.nd
  exact ⟨m_Scan_sees, (dss_cons (ds_if (dt_cmp (od_ne rfl hr.units) (de_methN0 F_Scan_seen tk (hr.mono (by omega)) (de_var (i := 0))) (de_var (i := 1))) (dss_one (ds_ret de_bl)) dss_nil)
  (dss_cons (ds_fldN rfl T.c_Scan (List.mem_cons_of_mem _ List.mem_cons_self) (de_var (i := 0)) (de_op (od_add rfl) (de_fldN rfl T.c_Scan (List.mem_cons_of_mem _ List.mem_cons_self) (de_var (i := 0))) de_int))
  (dss_one (ds_ret de_bl)))), rd_Scan_sees⟩
abbrev s_Scan_take_name : Stmt := inClass (top 19) 7
abbrev N_Scan_take_name : List Str := ["self", "first"]
theorem sc_Scan_take_name : FnScope N_Scan_take_name ["self"] (defScope s_Scan_take_name) := ⟨rfl, rfl, rfl, by decide +kernel, rfl, by decide +kernel, by decide +kernel⟩
theorem fn_Scan_take_name {C f : Addr} {fd : FuncData} (F : Fun K "take_name" "Scan.take_name" s_Scan_take_name f fd) (gC : mg "Scan" = some (.ref C)) (cl : Cls K C) (hm : Meth K C "take_name" f) (b : Binds K fd ["self"] []) (T : Tx P K mg) (F_Scan_seen : FnM P w K mg Tb base 1 "Scan" "seen" ["self"] sp_Scan_seen) : FnM P w K mg Tb base 2 "Scan" "take_name" ["self"] sp_Scan_take_name := by
  obtain ⟨C_NotAText, f_NotAText, E_NotAText⟩ := T.e_NotAText
  refine ⟨C, f, gC, cl, hm, ?_⟩
  refine fnF (k := 1) F b sc_Scan_take_name (fun _ _ _ _ _ h => by obtain ⟨_, rfl, _⟩ := h; rfl) ?_
  rintro _ q W ⟨cdv, A, outer, s, H, E, rfl⟩ tk hr hp
  have nd := sc_Scan_take_name.nd
  exact ⟨m_Scan_take_name, (dss_cons (ds_set (i := 1) nd rfl (Or.inl rfl) (de_fldN rfl T.c_Scan (List.mem_cons_of_mem _ List.mem_cons_self) (de_var (i := 0))))
  (dss_cons (ds_if (dt_bool (dw_or (dt_cmp (od_eq rfl hr.units) (de_methN0 F_Scan_seen tk (hr.mono (by omega)) (de_var (i := 0))) de_str) (dw_or1 (dt_cmp (od_notIn rfl (u65 hr)) (de_methN0 F_Scan_seen tk (hr.mono (by omega)) (de_var (i := 0))) (de_gl T.g_LETTERS rfl rfl))))) (dss_one (ds_raise rfl E_NotAText rfl hr tk (de_fldN rfl T.c_Scan (List.mem_cons_of_mem _ List.mem_cons_self) (de_var (i := 0))) rfl)) dss_nil)
  (dss_cons (ds_while hp (dt_bool (dw_and (dt_cmp (od_ne rfl hr.units) (de_methN0 F_Scan_seen tk (hr.mono (by omega)) (de_var (i := 0))) de_str) (dw_and1 (dt_cmp (od_in rfl (u65 hr)) (de_methN0 F_Scan_seen tk (hr.mono (by omega)) (de_var (i := 0))) (de_gl T.g_SIGNS rfl rfl))))) (dss_cons (ds_if (dt_cmp (od_eq rfl hr.units) (de_fldN rfl T.c_Scan (List.mem_cons_of_mem _ List.mem_cons_self) (de_var (i := 0))) (de_op (od_add rfl) (de_var (i := 1)) (de_gl T.g_MOST_SIGNS rfl rfl))) (dss_one (ds_raise rfl E_NotAText rfl hr tk (de_fldN rfl T.c_Scan (List.mem_cons_of_mem _ List.mem_cons_self) (de_var (i := 0))) rfl)) dss_nil)
  (dss_one (ds_fldN rfl T.c_Scan (List.mem_cons_of_mem _ List.mem_cons_self) (de_var (i := 0)) (de_op (od_add rfl) (de_fldN rfl T.c_Scan (List.mem_cons_of_mem _ List.mem_cons_self) (de_var (i := 0))) de_int)))))
  (dss_one (ds_ret (de_sl rfl (de_fldN rfl T.c_Scan List.mem_cons_self (de_var (i := 0))) (do_some (de_var (i := 1))) (do_some (de_fldN rfl T.c_Scan (List.mem_cons_of_mem _ List.mem_cons_self) (de_var (i := 0)))))))))), rd_Scan_take_name⟩
abbrev s_leaf_read : Stmt := top 22
abbrev N_leaf_read : List Str := ["scan", "name"]
theorem sc_leaf_read : FnScope N_leaf_read ["scan"] (defScope s_leaf_read) := ⟨rfl, rfl, rfl, by decide +kernel, rfl, by decide +kernel, by decide +kernel⟩
theorem fn_leaf_read {f : Addr} {fd : FuncData} (F : Fun K "leaf_read" "leaf_read" s_leaf_read f fd) (hmg : mg "leaf_read" = some (.ref f)) (b : Binds K fd ["scan"] []) (T : Tx P K mg) (F_Scan_sees : FnM P w K mg Tb base 2 "Scan" "sees" ["self", "sign"] sp_Scan_sees) (F_Scan_take_name : FnM P w K mg Tb base 2 "Scan" "take_name" ["self"] sp_Scan_take_name) : FnD P w K mg Tb base 3 "leaf_read" ["scan"] sp_leaf_read := by
  refine fnD (k := 2) F hmg b sc_leaf_read (fun _ _ _ _ _ h => by obtain ⟨_, rfl, _⟩ := h; rfl) ?_
  rintro _ q W ⟨cdv, A, outer, s, H, E, rfl⟩ tk hr hp
  have nd := sc_leaf_read.nd
  exact ⟨m_leaf_read, (dss_cons (ds_set (i := 1) nd rfl (Or.inl rfl) (de_methN0 F_Scan_take_name tk (hr.mono (by omega)) (de_var (i := 0))))
  (dss_one (ds_ret (de_tup (da_cons (de_tup (da_cons (de_if (dt_val (de_methN F_Scan_sees tk (hr.mono (by omega)) (de_var (i := 0)) (da_cons de_str da_nil))) de_str de_str) (da_cons (de_var (i := 1)) da_nil))) (da_cons de_int da_nil)))))), rd_leaf_read⟩
abbrev s_Scan_need : Stmt := inClass (top 19) 5
abbrev N_Scan_need : List Str := ["self", "sign"]
theorem sc_Scan_need : FnScope N_Scan_need ["self", "sign"] (defScope s_Scan_need) := ⟨rfl, rfl, rfl, by decide +kernel, rfl, by decide +kernel, by decide +kernel⟩
theorem fn_Scan_need {C f : Addr} {fd : FuncData} (F : Fun K "need" "Scan.need" s_Scan_need f fd) (gC : mg "Scan" = some (.ref C)) (cl : Cls K C) (hm : Meth K C "need" f) (b : Binds K fd ["self", "sign"] []) (T : Tx P K mg) (F_Scan_sees : FnM P w K mg Tb base 2 "Scan" "sees" ["self", "sign"] sp_Scan_sees) : FnM P w K mg Tb base 3 "Scan" "need" ["self", "sign"] sp_Scan_need := by
  obtain ⟨C_NotAText, f_NotAText, E_NotAText⟩ := T.e_NotAText
  refine ⟨C, f, gC, cl, hm, ?_⟩
  refine fnF (k := 2) F b sc_Scan_need (fun _ _ _ _ _ h => by obtain ⟨_, rfl, _⟩ := h; rfl) ?_
  rintro _ q W ⟨cdv, A, outer, s, H, E, rfl⟩ tk hr hp
  have nd := sc_Scan_need.nd
  exact ⟨m_Scan_need, (dss_one (ds_if (dt_not (dt_val (de_methN F_Scan_sees tk (hr.mono (by omega)) (de_var (i := 0)) (da_cons (de_var (i := 1)) da_nil)))) (dss_one (ds_raise rfl E_NotAText rfl hr tk (de_fldN rfl T.c_Scan (List.mem_cons_of_mem _ List.mem_cons_self) (de_var (i := 0))) rfl)) dss_nil)), rd_Scan_need⟩
abbrev s_Scan_skip : Stmt := inClass (top 19) 3
abbrev N_Scan_skip : List Str := ["self"]
theorem sc_Scan_skip : FnScope N_Scan_skip ["self"] (defScope s_Scan_skip) := ⟨rfl, rfl, rfl, by decide +kernel, rfl, by decide +kernel, by decide +kernel⟩
theorem fn_Scan_skip {C f : Addr} {fd : FuncData} (F : Fun K "skip" "Scan.skip" s_Scan_skip f fd) (gC : mg "Scan" = some (.ref C)) (cl : Cls K C) (hm : Meth K C "skip" f) (b : Binds K fd ["self"] []) (T : Tx P K mg) (F_Scan_seen : FnM P w K mg Tb base 1 "Scan" "seen" ["self"] sp_Scan_seen) : FnM P w K mg Tb base 2 "Scan" "skip" ["self"] sp_Scan_skip := by
  refine ⟨C, f, gC, cl, hm, ?_⟩
  refine fnF (k := 1) F b sc_Scan_skip (fun _ _ _ _ _ h => by obtain ⟨_, rfl, _⟩ := h; rfl) ?_
  rintro _ q W ⟨cdv, A, outer, s, H, E, rfl⟩ tk hr hp
  have nd := sc_Scan_skip.nd
  exact ⟨m_Scan_skip, (dss_one (ds_while hp (dt_cmp (od_eq rfl hr.units) (de_methN0 F_Scan_seen tk (hr.mono (by omega)) (de_var (i := 0))) de_str) (dss_one (ds_fldN rfl T.c_Scan (List.mem_cons_of_mem _ List.mem_cons_self) (de_var (i := 0)) (de_op (od_add rfl) (de_fldN rfl T.c_Scan (List.mem_cons_of_mem _ List.mem_cons_self) (de_var (i := 0))) de_int))))), rd_Scan_skip⟩
abbrev s_form_read : Stmt := top 23
abbrev N_form_read : List Str := ["scan", "levels", "part", "left", "word"]
theorem sc_form_read : FnScope N_form_read ["scan"] (defScope s_form_read) := ⟨rfl, rfl, rfl, by decide +kernel, rfl, by decide +kernel, by decide +kernel⟩
theorem fn_form_read {f : Addr} {fd : FuncData} (F : Fun K "form_read" "form_read" s_form_read f fd) (hmg : mg "form_read" = some (.ref f)) (b : Binds K fd ["scan"] []) (T : Tx P K mg) (F_Scan_need : FnM P w K mg Tb base 3 "Scan" "need" ["self", "sign"] sp_Scan_need) (F_Scan_seen : FnM P w K mg Tb base 1 "Scan" "seen" ["self"] sp_Scan_seen) (F_Scan_sees : FnM P w K mg Tb base 2 "Scan" "sees" ["self", "sign"] sp_Scan_sees) (F_Scan_skip : FnM P w K mg Tb base 2 "Scan" "skip" ["self"] sp_Scan_skip) (F_leaf_read : FnD P w K mg Tb base 3 "leaf_read" ["scan"] sp_leaf_read) : FnD P w K mg Tb base 4 "form_read" ["scan"] sp_form_read := by
  obtain ⟨C_NotAText, f_NotAText, E_NotAText⟩ := T.e_NotAText
  refine FnD.forget (sp := sp_form_read) ?_
  refine fnD (k := 3) F hmg b sc_form_read (fun _ _ _ _ _ h => by obtain ⟨_, _, ⟨_, rfl, _⟩, _⟩ := h; rfl) ?_
  rintro _ q W ⟨cdv, A, outer, s, H, E, rfl⟩ tk hr hp
  have nd := sc_form_read.nd
  exact ⟨m_form_read, (dss_cons (ds_set (i := 1) nd rfl (Or.inl rfl) (de_newL (da_cons (de_newL da_nil) da_nil)))
  (dss_one (ds_while hp (dt_val de_bl) (dss_cons (ds_expr (de_methN0 F_Scan_skip tk (hr.mono (by omega)) (de_var (i := 0))))
  (dss_cons (ds_if (dt_val (de_methN F_Scan_sees tk (hr.mono (by omega)) (de_var (i := 0)) (da_cons de_str da_nil))) (dss_cons (ds_expr (de_app (de_var (i := 1)) (de_newL da_nil)))
  (dss_one ds_continue)) dss_nil)
  (dss_cons (ds_set (i := 2) nd rfl (Or.inl rfl) (de_call (F_leaf_read.mono (by omega)) tk hr rfl (da_cons (de_var (i := 0)) da_nil)))
  (dss_cons (ds_while hp (dt_cmp od_gt (de_callB cd_lenM rfl T.b_len boot_len (da_cons (de_ixM (de_var (i := 1)) (de_un ud_neg de_int)) da_nil)) de_int) (dss_cons (ds_asg (de_frz (de_pop (de_var (i := 1)))) (dg_un rfl rfl (dgs_cons (dg_name (i := 3) nd rfl (Or.inl rfl)) (dgs_cons (dg_name (i := 4) nd rfl (Or.inl rfl)) dgs_nil))))
  (dss_cons (ds_set (i := 2) nd rfl (Or.inl rfl) (de_tup (da_cons (de_tup (da_cons (de_var (i := 4)) (da_cons (de_sub rfl (u1 hr) (de_var (i := 3)) de_int) (da_cons (de_sub rfl (u1 hr) (de_var (i := 2)) de_int) da_nil)))) (da_cons (de_op (od_add rfl) (de_callB (cd_max rfl) rfl T.b_max bb_max (da_cons (de_sub rfl (u1 hr) (de_var (i := 3)) de_int) (da_cons (de_sub rfl (u1 hr) (de_var (i := 2)) de_int) da_nil))) de_int) da_nil))))
  (dss_cons (ds_if (dt_cmp (od_eq rfl hr.units) (de_callB cd_lenM rfl T.b_len boot_len (da_cons (de_var (i := 1)) da_nil)) de_int) (dss_one (ds_ret (de_var (i := 2)))) dss_nil)
  (dss_cons (ds_expr (de_methN0 F_Scan_skip tk (hr.mono (by omega)) (de_var (i := 0))))
  (dss_one (ds_expr (de_methN F_Scan_need tk (hr.mono (by omega)) (de_var (i := 0)) (da_cons de_str da_nil)))))))))
  (dss_cons (ds_expr (de_methN0 F_Scan_skip tk (hr.mono (by omega)) (de_var (i := 0))))
  (dss_cons (ds_if (dt_bool (dw_or (dt_cmp (od_eq rfl hr.units) (de_methN0 F_Scan_seen tk (hr.mono (by omega)) (de_var (i := 0))) de_str) (dw_or1 (dt_cmp (od_notIn rfl (u65 hr)) (de_methN0 F_Scan_seen tk (hr.mono (by omega)) (de_var (i := 0))) (de_gl T.g_MARKS rfl rfl))))) (dss_cons (ds_if (dt_bool (dw_or (dt_cmp od_gt (de_callB cd_lenM rfl T.b_len boot_len (da_cons (de_var (i := 1)) da_nil)) de_int) (dw_or1 (dt_cmp od_gt (de_sub rfl (u1 hr) (de_var (i := 2)) de_int) de_int)))) (dss_one (ds_raise rfl E_NotAText rfl hr tk (de_fldN rfl T.c_Scan (List.mem_cons_of_mem _ List.mem_cons_self) (de_var (i := 0))) rfl)) dss_nil)
  (dss_one (ds_ret (de_var (i := 2))))) dss_nil)
  (dss_cons (ds_expr (de_ext (de_ixM (de_var (i := 1)) (de_un ud_neg de_int)) (de_lst (da_cons (de_var (i := 2)) (da_cons (de_sub rfl (u1 hr) (de_gl T.g_HALVED_WORDS rfl rfl) (de_indexG T.i_MARKS rfl (de_methN0 F_Scan_seen tk (hr.mono (by omega)) (de_var (i := 0))))) da_nil)))))
  (dss_one (ds_expr (de_methN F_Scan_need tk (hr.mono (by omega)) (de_var (i := 0)) (da_cons (de_methN0 F_Scan_seen tk (hr.mono (by omega)) (de_var (i := 0))) da_nil)))))))))))))), fun ds mu c P1 PX1 ⟨P, PX, h, e1, e2⟩ => e1 ▸ e2 ▸ rd_form_read ds mu c P PX h⟩
abbrev s_need_depth : Stmt := top 24
abbrev N_need_depth : List Str := ["many"]
theorem sc_need_depth : FnScope N_need_depth ["many"] (defScope s_need_depth) := ⟨rfl, rfl, rfl, by decide +kernel, rfl, by decide +kernel, by decide +kernel⟩
theorem fn_need_depth {f : Addr} {fd : FuncData} (F : Fun K "need_depth" "need_depth" s_need_depth f fd) (hmg : mg "need_depth" = some (.ref f)) (b : Binds K fd ["many"] []) (T : Tx P K mg) : FnD P w K mg Tb base 1 "need_depth" ["many"] sp_need_depth := by
  obtain ⟨C_TooDeep, f_TooDeep, E_TooDeep⟩ := T.e_TooDeep
  refine fnD (k := 0) F hmg b sc_need_depth (fun _ _ _ _ _ h => by obtain ⟨_, rfl, _⟩ := h; rfl) ?_
  rintro _ q W ⟨cdv, A, outer, s, H, E, rfl⟩ tk hr hp
  have nd := sc_need_depth.nd
  exact ⟨m_need_depth, (dss_one (ds_if (dt_cmp od_gt (de_var (i := 0)) (de_gl T.g_MOST_DEPTH rfl rfl)) (dss_one (ds_raise rfl E_TooDeep rfl hr tk (de_gl T.g_MOST_DEPTH rfl rfl) rfl)) dss_nil)), rd_need_depth⟩
abbrev s_Scan___init__ : Stmt := inClass (top 19) 0
abbrev N_Scan___init__ : List Str := ["self", "string"]
theorem sc_Scan___init__ : FnScope N_Scan___init__ ["self", "string"] (defScope s_Scan___init__) := ⟨rfl, rfl, rfl, by decide +kernel, rfl, by decide +kernel, by decide +kernel⟩
theorem fn_Scan___init__ {C f : Addr} {fd : FuncData} (F : Fun K "__init__" "Scan.__init__" s_Scan___init__ f fd) (gC : mg "Scan" = some (.ref C)) (M : Mk K C f) (b : Binds K fd ["self", "string"] []) (T : Tx P K mg) : FnI P w K mg Tb base 1 "Scan" ["self", "string"] sp_Scan___init__ := by
  refine ⟨C, f, gC, M, ?_⟩
  refine fnF (k := 0) F b sc_Scan___init__ (fun _ _ _ _ _ h => by obtain ⟨_, rfl, _⟩ := h; rfl) ?_
  rintro _ q W ⟨cdv, A, outer, s, H, E, rfl⟩ tk hr hp
  have nd := sc_Scan___init__.nd
  exact ⟨m_Scan___init__, (dss_one (ds_asg (de_tup (da_cons (de_var (i := 1)) (da_cons de_int da_nil))) (dg_tup rfl rfl (dgs_cons (dg_fld rfl T.c_Scan List.mem_cons_self (de_var (i := 0))) (dgs_cons (dg_fld rfl T.c_Scan (List.mem_cons_of_mem _ List.mem_cons_self) (de_var (i := 0))) dgs_nil))))), rd_Scan___init__⟩
abbrev s_Scan_is_done : Stmt := inClass (top 19) 2
abbrev N_Scan_is_done : List Str := ["self"]
theorem sc_Scan_is_done : FnScope N_Scan_is_done ["self"] (defScope s_Scan_is_done) := ⟨rfl, rfl, rfl, by decide +kernel, rfl, by decide +kernel, by decide +kernel⟩
theorem fn_Scan_is_done {C f : Addr} {fd : FuncData} (F : Fun K "is_done" "Scan.is_done" s_Scan_is_done f fd) (gC : mg "Scan" = some (.ref C)) (cl : Cls K C) (hm : Meth K C "is_done" f) (b : Binds K fd ["self"] []) (T : Tx P K mg) : FnM P w K mg Tb base 1 "Scan" "is_done" ["self"] sp_Scan_is_done := by
  refine ⟨C, f, gC, cl, hm, ?_⟩
  refine fnF (k := 0) F b sc_Scan_is_done (fun _ _ _ _ _ h => by obtain ⟨_, rfl, _⟩ := h; rfl) ?_
  rintro _ q W ⟨cdv, A, outer, s, H, E, rfl⟩ tk hr hp
  have nd := sc_Scan_is_done.nd
  exact ⟨m_Scan_is_done, (dss_one (ds_ret (de_cmp (od_eq rfl hr.units) (de_fldN rfl T.c_Scan (List.mem_cons_of_mem _ List.mem_cons_self) (de_var (i := 0))) (de_callB (cd_len rfl) rfl T.b_len boot_len (da_cons (de_fldN rfl T.c_Scan List.mem_cons_self (de_var (i := 0))) da_nil))))), rd_Scan_is_done⟩
abbrev s_read_form : Stmt := top 25
abbrev N_read_form : List Str := ["text", "scan", "form", "many"]
theorem sc_read_form : FnScope N_read_form ["text"] (defScope s_read_form) := ⟨rfl, rfl, rfl, by decide +kernel, rfl, by decide +kernel, by decide +kernel⟩
theorem fn_read_form {f : Addr} {fd : FuncData} (F : Fun K "read_form" "read_form" s_read_form f fd) (hmg : mg "read_form" = some (.ref f)) (b : Binds K fd ["text"] []) (T : Tx P K mg) (F_Scan___init__ : FnI P w K mg Tb base 1 "Scan" ["self", "string"] sp_Scan___init__) (F_Scan_is_done : FnM P w K mg Tb base 1 "Scan" "is_done" ["self"] sp_Scan_is_done) (F_Scan_skip : FnM P w K mg Tb base 2 "Scan" "skip" ["self"] sp_Scan_skip) (F_form_read : FnD P w K mg Tb base 4 "form_read" ["scan"] sp_form_read) (F_need_any_string : FnD P w K mg Tb base 1 "need_any_string" ["value"] sp_need_any_string) (F_need_depth : FnD P w K mg Tb base 1 "need_depth" ["many"] sp_need_depth) : FnD P w K mg Tb base 5 "read_form" ["text"] sp_read_form := by
  obtain ⟨C_NotAText, f_NotAText, E_NotAText⟩ := T.e_NotAText
  refine FnD.forget (sp := sp_read_form) ?_
  refine fnD (k := 4) F hmg b sc_read_form (fun _ _ _ _ _ h => by obtain ⟨_, _, ⟨_, rfl, _⟩, _⟩ := h; rfl) ?_
  rintro _ q W ⟨cdv, A, outer, s, H, E, rfl⟩ tk hr hp
  have nd := sc_read_form.nd
  exact ⟨m_read_form, (dss_cons (ds_expr (de_call (F_need_any_string.mono (by omega)) tk hr rfl (da_cons (de_var (i := 0)) da_nil)))
  (dss_cons (ds_set (i := 1) nd rfl (Or.inl rfl) (de_makeN F_Scan___init__ tk (hr.mono (by omega)) rfl (da_cons (de_var (i := 0)) da_nil)))
  (dss_cons (ds_asg (de_call (F_form_read.mono (by omega)) tk hr rfl (da_cons (de_var (i := 1)) da_nil)) (dg_tup rfl rfl (dgs_cons (dg_name (i := 2) nd rfl (Or.inl rfl)) (dgs_cons (dg_name (i := 3) nd rfl (Or.inl rfl)) dgs_nil))))
  (dss_cons (ds_expr (de_methN0 F_Scan_skip tk (hr.mono (by omega)) (de_var (i := 1))))
  (dss_cons (ds_if (dt_not (dt_val (de_methN0 F_Scan_is_done tk (hr.mono (by omega)) (de_var (i := 1))))) (dss_one (ds_raise rfl E_NotAText rfl hr tk (de_fldN rfl T.c_Scan (List.mem_cons_of_mem _ List.mem_cons_self) (de_var (i := 1))) rfl)) dss_nil)
  (dss_cons (ds_expr (de_call (F_need_depth.mono (by omega)) tk hr rfl (da_cons (de_var (i := 3)) da_nil)))
  (dss_one (ds_ret (de_var (i := 2)))))))))), fun ds mu c P1 PX1 ⟨P, PX, h, e1, e2⟩ => e1 ▸ e2 ▸ rd_read_form ds mu c P PX h⟩
abbrev s_leaves_in : Stmt := top 26
abbrev N_leaves_in : List Str := ["form"]
theorem sc_leaves_in : FnScope N_leaves_in ["form"] (defScope s_leaves_in) := ⟨rfl, rfl, rfl, by decide +kernel, rfl, by decide +kernel, by decide +kernel⟩
theorem fnn_leaves_in {f : Addr} {fd : FuncData} (F : Fun K "leaves_in" "leaves_in" s_leaves_in f fd) (hmg : mg "leaves_in" = some (.ref f)) (b : Binds K fd ["form"] []) (T : Tx P K mg) (F_is_leaf : FnD P w K mg Tb base 1 "is_leaf" ["form"] sp_is_leaf) : ∀ n, FnD P w K mg Tb base (2 + n) "leaves_in" ["form"] (spn_leaves_in n)
  | 0 => FnD.none F hmg b sc_leaves_in fun _ _ _ _ _ h => by obtain ⟨_, _, h0, _⟩ := h; exact Nat.not_lt_zero _ h0
  | n + 1 => by
    have Fself := fnn_leaves_in F hmg b T F_is_leaf n
    refine fnD (k := 2 + n) F hmg b sc_leaves_in (fun _ _ _ _ _ h => by obtain ⟨_, rfl, _⟩ := h; rfl) ?_
    rintro _ q W ⟨cdv, A, outer, s, H, E, rfl⟩ tk hr hp
    have nd := sc_leaves_in.nd
    exact ⟨m_leaves_in (spn_leaves_in n), (dss_one (ds_ret (de_if (dt_val (de_call (F_is_leaf.mono (by omega)) tk hr rfl (da_cons (de_var (i := 0)) da_nil))) de_int (de_op (od_add rfl) (de_call Fself tk hr rfl (da_cons (de_sub rfl (u1 hr) (de_var (i := 0)) de_int) da_nil)) (de_call Fself tk hr rfl (da_cons (de_sub rfl (u1 hr) (de_var (i := 0)) de_int) da_nil)))))), rd_leaves_in n⟩
theorem fn_leaves_in {f : Addr} {fd : FuncData} (F : Fun K "leaves_in" "leaves_in" s_leaves_in f fd) (hmg : mg "leaves_in" = some (.ref f)) (b : Binds K fd ["form"] []) (T : Tx P K mg) (F_is_leaf : FnD P w K mg Tb base 1 "is_leaf" ["form"] sp_is_leaf) : FnD P w K mg Tb base 34 "leaves_in" ["form"] sp_leaves_in := fnn_leaves_in F hmg b T F_is_leaf 32
abbrev s_ends_read : Stmt := top 27
abbrev N_ends_read : List Str := ["scan", "told"]
theorem sc_ends_read : FnScope N_ends_read ["scan"] (defScope s_ends_read) := ⟨rfl, rfl, rfl, by decide +kernel, rfl, by decide +kernel, by decide +kernel⟩
theorem fn_ends_read {f : Addr} {fd : FuncData} (F : Fun K "ends_read" "ends_read" s_ends_read f fd) (hmg : mg "ends_read" = some (.ref f)) (b : Binds K fd ["scan"] []) (T : Tx P K mg) (F_Scan_sees : FnM P w K mg Tb base 2 "Scan" "sees" ["self", "sign"] sp_Scan_sees) (F_Scan_skip : FnM P w K mg Tb base 2 "Scan" "skip" ["self"] sp_Scan_skip) (F_form_read : FnD P w K mg Tb base 4 "form_read" ["scan"] sp_form_read) : FnD P w K mg Tb base 5 "ends_read" ["scan"] sp_ends_read := by
  refine FnD.forget (sp := sp_ends_read) ?_
  refine fnD (k := 4) F hmg b sc_ends_read (fun _ _ _ _ _ h => by obtain ⟨_, _, ⟨_, rfl, _⟩, _⟩ := h; rfl) ?_
  rintro _ q W ⟨cdv, A, outer, s, H, E, rfl⟩ tk hr hp
  have nd := sc_ends_read.nd
  exact ⟨m_ends_read, (dss_cons (ds_set (i := 1) nd rfl (Or.inl rfl) (de_newL da_nil))
  (dss_cons (ds_while hp (dt_bool (dw_or (dt_cmp (od_eq rfl hr.units) (de_callB cd_lenM rfl T.b_len boot_len (da_cons (de_var (i := 1)) da_nil)) de_int) (dw_or1 (dt_val (de_methN F_Scan_sees tk (hr.mono (by omega)) (de_var (i := 0)) (da_cons de_str da_nil)))))) (dss_cons (ds_expr (de_app (de_var (i := 1)) (de_call (F_form_read.mono (by omega)) tk hr rfl (da_cons (de_var (i := 0)) da_nil))))
  (dss_one (ds_expr (de_methN0 F_Scan_skip tk (hr.mono (by omega)) (de_var (i := 0)))))))
  (dss_one (ds_ret (de_frz (de_var (i := 1))))))), fun ds mu c P1 PX1 ⟨P, PX, h, e1, e2⟩ => e1 ▸ e2 ▸ rd_ends_read ds mu c P PX h⟩
abbrev s_ends_from : Stmt := top 28
abbrev N_ends_from : List Str := ["told", "form", "many"]
theorem sc_ends_from : FnScope N_ends_from ["told"] (defScope s_ends_from) := ⟨rfl, rfl, rfl, by decide +kernel, rfl, by decide +kernel, by decide +kernel⟩
theorem fn_ends_from {f : Addr} {fd : FuncData} (F : Fun K "ends_from" "ends_from" s_ends_from f fd) (hmg : mg "ends_from" = some (.ref f)) (b : Binds K fd ["told"] []) (T : Tx P K mg) (F_leaves_in : FnD P w K mg Tb base 34 "leaves_in" ["form"] sp_leaves_in) (F_need_depth : FnD P w K mg Tb base 1 "need_depth" ["many"] sp_need_depth) : FnD P w K mg Tb base 35 "ends_from" ["told"] sp_ends_from := by
  obtain ⟨C_TooMany, f_TooMany, E_TooMany⟩ := T.e_TooMany
  refine fnD (k := 34) F hmg b sc_ends_from (fun _ _ _ _ _ h => by obtain ⟨_, rfl, _⟩ := h; rfl) ?_
  rintro _ q W ⟨cdv, A, outer, s, H, E, rfl⟩ tk hr hp
  have nd := sc_ends_from.nd
  exact ⟨m_ends_from, (dss_cons (ds_expr (de_call (F_need_depth.mono (by omega)) tk hr rfl (da_cons (de_callB (cd_max rfl) rfl T.b_max bb_max (da_cons (de_lc (own := [("form", 1), ("many", 2)]) rfl nd (di_any rfl (de_var (i := 0))) (blkOk_by (own := [("form", 1), ("many", 2)]) (N := N_ends_from) (sc := defScope s_ends_from) (by decide +kernel)) (gw_tup rfl (gws_cons (gw_name (i := 1) (by decide)) (gws_cons (gw_name (i := 2) (by decide)) gws_nil))) (fun _ _ _ _ _ => pg_tup rfl (pgs_cons (pg_name (i := 1) nd rfl (Or.inl rfl)) (pgs_cons (pg_name (i := 2) nd rfl (Or.inl rfl)) pgs_nil))) (fun _ _ _ _ _ => dts_nil) (fun _ _ _ _ _ => (de_var (i := 2)))) da_nil)) da_nil)))
  (dss_cons (ds_if (dt_cmp od_gt (de_callB (cd_sum rfl) rfl T.b_sum bb_sum (da_cons (de_lc (own := [("form", 1), ("many", 2)]) rfl nd (di_any rfl (de_var (i := 0))) (blkOk_by (own := [("form", 1), ("many", 2)]) (N := N_ends_from) (sc := defScope s_ends_from) (by decide +kernel)) (gw_tup rfl (gws_cons (gw_name (i := 1) (by decide)) (gws_cons (gw_name (i := 2) (by decide)) gws_nil))) (fun _ _ _ _ _ => pg_tup rfl (pgs_cons (pg_name (i := 1) nd rfl (Or.inl rfl)) (pgs_cons (pg_name (i := 2) nd rfl (Or.inl rfl)) pgs_nil))) (fun _ _ _ _ _ => dts_nil) (fun _ _ _ _ _ => (de_call (F_leaves_in.mono (by omega)) takes0 hr rfl (da_cons (de_var (i := 1)) da_nil)))) da_nil)) (de_gl T.g_MOST_LEAVES rfl rfl)) (dss_one (ds_raise rfl E_TooMany rfl hr tk (de_gl T.g_MOST_LEAVES rfl rfl) rfl)) dss_nil)
  (dss_one (ds_ret (de_lcM (own := [("form", 1), ("many", 2)]) rfl nd (di_any rfl (de_var (i := 0))) (blkOk_by (own := [("form", 1), ("many", 2)]) (N := N_ends_from) (sc := defScope s_ends_from) (by decide +kernel)) (gw_tup rfl (gws_cons (gw_name (i := 1) (by decide)) (gws_cons (gw_name (i := 2) (by decide)) gws_nil))) (fun _ _ _ _ _ => pg_tup rfl (pgs_cons (pg_name (i := 1) nd rfl (Or.inl rfl)) (pgs_cons (pg_name (i := 2) nd rfl (Or.inl rfl)) pgs_nil))) (fun _ _ _ _ _ => dts_nil) (fun _ _ _ _ _ => (de_var (i := 1)))))))), rd_ends_from⟩
abbrev s_read_ends : Stmt := top 29
abbrev N_read_ends : List Str := ["text", "scan", "told"]
theorem sc_read_ends : FnScope N_read_ends ["text"] (defScope s_read_ends) := ⟨rfl, rfl, rfl, by decide +kernel, rfl, by decide +kernel, by decide +kernel⟩
theorem fn_read_ends {f : Addr} {fd : FuncData} (F : Fun K "read_ends" "read_ends" s_read_ends f fd) (hmg : mg "read_ends" = some (.ref f)) (b : Binds K fd ["text"] []) (T : Tx P K mg) (F_Scan___init__ : FnI P w K mg Tb base 1 "Scan" ["self", "string"] sp_Scan___init__) (F_Scan_is_done : FnM P w K mg Tb base 1 "Scan" "is_done" ["self"] sp_Scan_is_done) (F_ends_from : FnD P w K mg Tb base 35 "ends_from" ["told"] sp_ends_from) (F_ends_read : FnD P w K mg Tb base 5 "ends_read" ["scan"] sp_ends_read) (F_need_any_string : FnD P w K mg Tb base 1 "need_any_string" ["value"] sp_need_any_string) : FnD P w K mg Tb base 36 "read_ends" ["text"] sp_read_ends := by
  obtain ⟨C_NotAText, f_NotAText, E_NotAText⟩ := T.e_NotAText
  refine FnD.forget (sp := sp_read_ends) ?_
  refine fnD (k := 35) F hmg b sc_read_ends (fun _ _ _ _ _ h => by obtain ⟨_, _, ⟨_, rfl, _⟩, _⟩ := h; rfl) ?_
  rintro _ q W ⟨cdv, A, outer, s, H, E, rfl⟩ tk hr hp
  have nd := sc_read_ends.nd
  exact ⟨m_read_ends, (dss_cons (ds_expr (de_call (F_need_any_string.mono (by omega)) tk hr rfl (da_cons (de_var (i := 0)) da_nil)))
  (dss_cons (ds_set (i := 1) nd rfl (Or.inl rfl) (de_makeN F_Scan___init__ tk (hr.mono (by omega)) rfl (da_cons (de_var (i := 0)) da_nil)))
  (dss_cons (ds_set (i := 2) nd rfl (Or.inl rfl) (de_call (F_ends_read.mono (by omega)) tk hr rfl (da_cons (de_var (i := 1)) da_nil)))
  (dss_cons (ds_if (dt_not (dt_val (de_methN0 F_Scan_is_done tk (hr.mono (by omega)) (de_var (i := 1))))) (dss_one (ds_raise rfl E_NotAText rfl hr tk (de_fldN rfl T.c_Scan (List.mem_cons_of_mem _ List.mem_cons_self) (de_var (i := 1))) rfl)) dss_nil)
  (dss_one (ds_ret (de_call (F_ends_from.mono (by omega)) tk hr rfl (da_cons (de_var (i := 2)) da_nil)))))))), fun ds mu c P1 PX1 ⟨P, PX, h, e1, e2⟩ => e1 ▸ e2 ▸ rd_read_ends ds mu c P PX h⟩
abbrev s__law_pick : Stmt := top 33
abbrev N__law_pick : List Str := ["_law_pen", "_law_some"]
theorem sc__law_pick : FnScope N__law_pick ["_law_pen", "_law_some"] (defScope s__law_pick) := ⟨rfl, rfl, rfl, by decide +kernel, rfl, by decide +kernel, by decide +kernel⟩
theorem fn__law_pick {f : Addr} {fd : FuncData} (F : Fun K "_law_pick" "_law_pick" s__law_pick f fd) (hmg : mg "_law_pick" = some (.ref f)) (b : Binds K fd ["_law_pen", "_law_some"] []) (T : Tx P K mg) (F__law_draw : FnD P w K mg Tb base 1 "_law_draw" ["_law_pen", "_law_span"] sp__law_draw) : FnD P w K mg Tb base 2 "_law_pick" ["_law_pen", "_law_some"] sp__law_pick := by
  refine fnD (k := 1) F hmg b sc__law_pick (fun _ _ _ _ _ h => by obtain ⟨_, rfl, _⟩ := h; rfl) ?_
  rintro _ q W ⟨cdv, A, outer, s, H, E, rfl⟩ tk hr hp
  have nd := sc__law_pick.nd
  exact ⟨m__law_pick, (dss_one (ds_ret (de_sub rfl (u1 hr) (de_var (i := 1)) (de_call (F__law_draw.mono (by omega)) tk hr rfl (da_cons (de_var (i := 0)) (da_cons (de_callB (cd_len rfl) rfl T.b_len boot_len (da_cons (de_var (i := 1)) da_nil)) da_nil)))))), rd__law_pick⟩
abbrev s__law_leaves : Stmt := top 34
abbrev N__law_leaves : List Str := ["_law_form"]
theorem sc__law_leaves : FnScope N__law_leaves ["_law_form"] (defScope s__law_leaves) := ⟨rfl, rfl, rfl, by decide +kernel, rfl, by decide +kernel, by decide +kernel⟩
theorem fnn__law_leaves {f : Addr} {fd : FuncData} (F : Fun K "_law_leaves" "_law_leaves" s__law_leaves f fd) (hmg : mg "_law_leaves" = some (.ref f)) (b : Binds K fd ["_law_form"] []) (T : Tx P K mg) : ∀ n, FnD P w K mg Tb base (1 + n) "_law_leaves" ["_law_form"] (spn__law_leaves n)
  | 0 => FnD.none F hmg b sc__law_leaves fun _ _ _ _ _ h => by obtain ⟨_, _, h0, _⟩ := h; exact Nat.not_lt_zero _ h0
  | n + 1 => by
    have Fself := fnn__law_leaves F hmg b T n
    refine fnD (k := 1 + n) F hmg b sc__law_leaves (fun _ _ _ _ _ h => by obtain ⟨_, rfl, _⟩ := h; rfl) ?_
    rintro _ q W ⟨cdv, A, outer, s, H, E, rfl⟩ tk hr hp
    have nd := sc__law_leaves.nd
    exact ⟨m__law_leaves (spn__law_leaves n), (dss_one (ds_ret (de_if (dt_cmp (od_eq rfl hr.units) (de_callB (cd_len rfl) rfl T.b_len boot_len (da_cons (de_var (i := 0)) da_nil)) de_int) (de_lst (da_cons (de_var (i := 0)) da_nil)) (de_op (od_add rfl) (de_call Fself tk hr rfl (da_cons (de_sub rfl (u1 hr) (de_var (i := 0)) de_int) da_nil)) (de_call Fself tk hr rfl (da_cons (de_sub rfl (u1 hr) (de_var (i := 0)) de_int) da_nil)))))), rd__law_leaves n⟩
theorem fn__law_leaves {f : Addr} {fd : FuncData} (F : Fun K "_law_leaves" "_law_leaves" s__law_leaves f fd) (hmg : mg "_law_leaves" = some (.ref f)) (b : Binds K fd ["_law_form"] []) (T : Tx P K mg) : FnD P w K mg Tb base 33 "_law_leaves" ["_law_form"] sp__law_leaves := fnn__law_leaves F hmg b T 32
abbrev s__law_leaf_many : Stmt := top 35
abbrev N__law_leaf_many : List Str := ["_law_ends", "_law_form"]
theorem sc__law_leaf_many : FnScope N__law_leaf_many ["_law_ends"] (defScope s__law_leaf_many) := ⟨rfl, rfl, rfl, by decide +kernel, rfl, by decide +kernel, by decide +kernel⟩
theorem fn__law_leaf_many {f : Addr} {fd : FuncData} (F : Fun K "_law_leaf_many" "_law_leaf_many" s__law_leaf_many f fd) (hmg : mg "_law_leaf_many" = some (.ref f)) (b : Binds K fd ["_law_ends"] []) (T : Tx P K mg) (F__law_leaves : FnD P w K mg Tb base 33 "_law_leaves" ["_law_form"] sp__law_leaves) : FnD P w K mg Tb base 34 "_law_leaf_many" ["_law_ends"] sp__law_leaf_many := by
  refine fnD (k := 33) F hmg b sc__law_leaf_many (fun _ _ _ _ _ h => by obtain ⟨_, rfl, _⟩ := h; rfl) ?_
  rintro _ q W ⟨cdv, A, outer, s, H, E, rfl⟩ tk hr hp
  have nd := sc__law_leaf_many.nd
  exact ⟨m__law_leaf_many, (dss_one (ds_ret (de_callB (cd_sum rfl) rfl T.b_sum bb_sum (da_cons (de_lc (own := [("_law_form", 1)]) rfl nd (di_any rfl (de_var (i := 0))) (blkOk_by (own := [("_law_form", 1)]) (N := N__law_leaf_many) (sc := defScope s__law_leaf_many) (by decide +kernel)) (gw_name (i := 1) (by decide)) (fun _ _ _ _ _ => pg_name (i := 1) nd rfl (Or.inl rfl)) (fun _ _ _ _ _ => dts_nil) (fun _ _ _ _ _ => (de_callB (cd_len rfl) rfl T.b_len boot_len (da_cons (de_call (F__law_leaves.mono (by omega)) takes0 hr rfl (da_cons (de_var (i := 1)) da_nil)) da_nil)))) da_nil)))), rd__law_leaf_many⟩
abbrev s__law_same : Stmt := top 36
abbrev N__law_same : List Str := ["_law_told", "_law_due", "_law_one", "_law_other"]
theorem sc__law_same : FnScope N__law_same ["_law_told", "_law_due"] (defScope s__law_same) := ⟨rfl, rfl, rfl, by decide +kernel, rfl, by decide +kernel, by decide +kernel⟩
theorem fnn__law_same {f : Addr} {fd : FuncData} (F : Fun K "_law_same" "_law_same" s__law_same f fd) (hmg : mg "_law_same" = some (.ref f)) (b : Binds K fd ["_law_told", "_law_due"] []) (T : Tx P K mg) : ∀ n, FnD P w K mg Tb base (1 + n) "_law_same" ["_law_told", "_law_due"] (spn__law_same n)
  | 0 => FnD.none F hmg b sc__law_same fun _ _ _ _ _ h => by obtain ⟨_, _, h0, _⟩ := h; exact Nat.not_lt_zero _ h0
  | n + 1 => by
    have Fself := fnn__law_same F hmg b T n
    refine fnD (k := 1 + n) F hmg b sc__law_same (fun _ _ _ _ _ h => by obtain ⟨_, rfl, _⟩ := h; rfl) ?_
    rintro _ q W ⟨cdv, A, outer, s, H, E, rfl⟩ tk hr hp
    have nd := sc__law_same.nd
    exact ⟨m__law_same (spn__law_same n), (dss_cons (ds_if (dt_val (de_isi2 rfl rfl T.b_isinstance (de_var (i := 1)) rfl T.b_tuple bb_tuple kits_tuple rfl T.b_list bb_list kits_list)) (dss_cons (ds_if (dt_bool (dw_or (dt_cmp (od_ne rfl hr.units) (de_isi rfl rfl T.b_isinstance (de_var (i := 0)) rfl T.b_tuple bb_tuple kits_tuple) (de_isi rfl rfl T.b_isinstance (de_var (i := 1)) rfl T.b_tuple bb_tuple kits_tuple)) (dw_or1 (dt_cmp (od_ne rfl hr.units) (de_isi rfl rfl T.b_isinstance (de_var (i := 0)) rfl T.b_list bb_list kits_list) (de_isi rfl rfl T.b_isinstance (de_var (i := 1)) rfl T.b_list bb_list kits_list))))) (dss_one (ds_ret de_bl)) dss_nil)
  (dss_one (ds_ret (de_and (de_cmp (od_eqK rfl hr.units) (de_callB (cd_len rfl) rfl T.b_len boot_len (da_cons (de_var (i := 0)) da_nil)) (de_callB (cd_len rfl) rfl T.b_len boot_len (da_cons (de_var (i := 1)) da_nil))) (de_one (de_callB (cd_all rfl) rfl T.b_all bb_all (da_cons (de_lc (own := [("_law_one", 2), ("_law_other", 3)]) rfl nd (di_zip rfl rfl T.b_zip (da_cons (de_ln rfl (de_var (i := 0))) (da_cons (de_ln rfl (de_var (i := 1))) da_nil))) (blkOk_by (own := [("_law_one", 2), ("_law_other", 3)]) (N := N__law_same) (sc := defScope s__law_same) (by decide +kernel)) (gw_tup rfl (gws_cons (gw_name (i := 2) (by decide)) (gws_cons (gw_name (i := 3) (by decide)) gws_nil))) (fun _ _ _ _ _ => pg_tup rfl (pgs_cons (pg_name (i := 2) nd rfl (Or.inl rfl)) (pgs_cons (pg_name (i := 3) nd rfl (Or.inl rfl)) pgs_nil))) (fun _ _ _ _ _ => dts_nil) (fun _ _ _ _ _ => (de_call Fself takes0 hr rfl (da_cons (de_var (i := 2)) (da_cons (de_var (i := 3)) da_nil))))) da_nil))))))) dss_nil)
  (dss_one (ds_ret (de_and (de_cmp (od_eqK rfl hr.units) (de_isi rfl rfl T.b_isinstance (de_var (i := 0)) rfl T.b_bool bb_bool kits_bool) (de_isi rfl rfl T.b_isinstance (de_var (i := 1)) rfl T.b_bool bb_bool kits_bool)) (de_one (de_cmp (od_eqK rfl hr.units) (de_var (i := 0)) (de_var (i := 1)))))))), rd__law_same n⟩
theorem fn__law_same {f : Addr} {fd : FuncData} (F : Fun K "_law_same" "_law_same" s__law_same f fd) (hmg : mg "_law_same" = some (.ref f)) (b : Binds K fd ["_law_told", "_law_due"] []) (T : Tx P K mg) : FnD P w K mg Tb base 61 "_law_same" ["_law_told", "_law_due"] sp__law_same := fnn__law_same F hmg b T 60
abbrev s__law_fault : Stmt := top 37
abbrev N__law_fault : List Str := ["_law_deed", "_law_told", "e"]
theorem sc__law_fault : FnScope N__law_fault ["_law_deed"] (defScope s__law_fault) := ⟨rfl, rfl, rfl, by decide +kernel, rfl, by decide +kernel, by decide +kernel⟩
theorem clo__law_fault {f : Addr} {fd : FuncData} (F : Fun K "_law_fault" "_law_fault" s__law_fault f fd) (hmg : mg "_law_fault" = some (.ref f)) (b : Binds K fd ["_law_deed"] []) (T : Tx P K mg) : CFn P w K mg Tb base 1 "_law_fault" csp__law_fault := by
  obtain ⟨C_BadValue, f_BadValue, E_BadValue⟩ := T.e_BadValue
  obtain ⟨C_NotAText, f_NotAText, E_NotAText⟩ := T.e_NotAText
  obtain ⟨C_TooDeep, f_TooDeep, E_TooDeep⟩ := T.e_TooDeep
  obtain ⟨C_TooMany, f_TooMany, E_TooMany⟩ := T.e_TooMany
  refine cFn F hmg b sc__law_fault m__law_fault ?_ rd__law_fault
  rintro _ q W g kB B hB ⟨cdv, A, outer, s, H, E, rfl⟩ hclo tk hr hp
  have nd := sc__law_fault.nd
  exact (dss_cons (ds_set (i := 1) nd rfl (Or.inl rfl) de_non)
  (dss_cons (ds_tryM rfl rfl rfl nd (fun W pn xe tk hp => (dss_one (ds_expr (de_act hclo tk (hr.mono (by omega)) rfl (by first | exact .inl rfl | exact .inr (.inl rfl)))))) (.named E_BadValue.gC E_BadValue.te rfl rfl rfl rfl (fun a oe dd pn hz hd => (dss_one (ds_set (i := 1) nd rfl (Or.inl rfl) (de_tup (da_cons de_str (da_cons (de_by E_BadValue hz hd (de_var (i := 2))) da_nil)))))) (al_cons T.n_NotAText_BadValue (al_cons T.n_TooDeep_BadValue (al_cons T.n_TooMany_BadValue al_nil))) (.named E_NotAText.gC E_NotAText.te rfl rfl rfl rfl (fun a oe dd pn hz hd => (dss_one (ds_set (i := 1) nd rfl (Or.inl rfl) (de_tup (da_cons de_str (da_cons (de_by E_NotAText hz hd (de_var (i := 2))) da_nil)))))) (al_cons T.n_TooDeep_NotAText (al_cons T.n_TooMany_NotAText al_nil)) (.named E_TooDeep.gC E_TooDeep.te rfl rfl rfl rfl (fun a oe dd pn hz hd => (dss_one (ds_set (i := 1) nd rfl (Or.inl rfl) (de_tup (da_cons de_str (da_cons (de_by E_TooDeep hz hd (de_var (i := 2))) da_nil)))))) (al_cons T.n_TooMany_TooDeep al_nil) (.named E_TooMany.gC E_TooMany.te rfl rfl rfl rfl (fun a oe dd pn hz hd => (dss_one (ds_set (i := 1) nd rfl (Or.inl rfl) (de_tup (da_cons de_str (da_cons (de_by E_TooMany hz hd (de_var (i := 2))) da_nil)))))) al_nil .nil)))))
  (dss_one (ds_ret (de_var (i := 1))))))
abbrev s__law_faults : Stmt := top 38
abbrev N__law_faults : List Str := ["_law_deed", "_law_due", "_law_told"]
theorem sc__law_faults : FnScope N__law_faults ["_law_deed", "_law_due"] (defScope s__law_faults) := ⟨rfl, rfl, rfl, by decide +kernel, rfl, by decide +kernel, by decide +kernel⟩
theorem clo__law_faults {f : Addr} {fd : FuncData} (F : Fun K "_law_faults" "_law_faults" s__law_faults f fd) (hmg : mg "_law_faults" = some (.ref f)) (b : Binds K fd ["_law_deed", "_law_due"] []) (T : Tx P K mg) (F__law_same : FnD P w K mg Tb base 61 "_law_same" ["_law_told", "_law_due"] sp__law_same) (CF__law_fault : CFn P w K mg Tb base 1 "_law_fault" csp__law_fault) : CFn P w K mg Tb base 61 "_law_faults" csp__law_faults := by
  refine cFn F hmg b sc__law_faults m__law_faults ?_ rd__law_faults
  rintro _ q W g kB B hB ⟨cdv, A, outer, s, H, E, rfl⟩ hclo tk hr hp
  have nd := sc__law_faults.nd
  exact (dss_cons (ds_set (i := 2) nd rfl (Or.inl rfl) (de_passC CF__law_fault hB tk rfl rfl rfl rfl hclo (hr.mono (by omega)) rfl (by first | exact .inl rfl | exact .inr (.inl rfl)) da_nil))
  (dss_one (ds_ret (de_and (de_cmp od_notN (de_var (i := 2)) de_non) (de_one (de_call (F__law_same.mono (by omega)) tk hr rfl (da_cons (de_var (i := 2)) (da_cons (de_var (i := 1)) da_nil))))))))
abbrev s__law_name : Stmt := top 39
abbrev N__law_name : List Str := ["_law_pen", "_law_letters", "_law_many", "_law_rest", "_law_k"]
theorem sc__law_name : FnScope N__law_name ["_law_pen"] (defScope s__law_name) := ⟨rfl, rfl, rfl, by decide +kernel, rfl, by decide +kernel, by decide +kernel⟩
theorem fn__law_name {f : Addr} {fd : FuncData} (F : Fun K "_law_name" "_law_name" s__law_name f fd) (hmg : mg "_law_name" = some (.ref f)) (b : Binds K fd ["_law_pen"] []) (T : Tx P K mg) (F__law_pick : FnD P w K mg Tb base 2 "_law_pick" ["_law_pen", "_law_some"] sp__law_pick) : FnD P w K mg Tb base 3 "_law_name" ["_law_pen"] sp__law_name := by
  refine fnD (k := 2) F hmg b sc__law_name (fun _ _ _ _ _ h => by obtain ⟨_, rfl, _⟩ := h; rfl) ?_
  rintro _ q W ⟨cdv, A, outer, s, H, E, rfl⟩ tk hr hp
  have nd := sc__law_name.nd
  exact ⟨m__law_name, (dss_cons (ds_set (i := 1) nd rfl (Or.inr rfl) de_str)
  (dss_cons (ds_set (i := 2) nd rfl (Or.inl rfl) (de_call (F__law_pick.mono (by omega)) tk hr rfl (da_cons (de_var (i := 0)) (da_cons (de_lst (da_cons de_int (da_cons de_int (da_cons de_int (da_cons de_int (da_cons de_int (da_cons de_int (da_cons de_int da_nil)))))))) da_nil))))
  (dss_cons (ds_setLc (i := 3) (own := [("_law_k", 4)]) rfl nd rfl rfl (sw_true rfl rfl rfl (by decide +kernel)) (di_rng1 rfl T.b_range (da_cons (de_var (i := 2)) da_nil)) (blkOk_by (own := [("_law_k", 4)]) (N := N__law_name) (sc := defScope s__law_name) (by decide +kernel)) (gw_name (i := 4) (by decide)) (fun _ _ _ _ _ => pg_name (i := 4) nd rfl (Or.inl rfl)) (fun _ _ _ _ _ => dts_nil) (fun _ _ _ _ _ => (de_call (F__law_pick.mono (by omega)) takes0 hr rfl (da_cons (de_var (i := 0)) (da_cons (de_op (od_add rfl) (de_var (i := 1)) de_str) da_nil)))))
  (dss_one (ds_ret (de_join rfl de_str (de_op (od_add rfl) (de_lst (da_cons (de_call (F__law_pick.mono (by omega)) tk hr rfl (da_cons (de_var (i := 0)) (da_cons (de_var (i := 1)) da_nil))) da_nil)) (de_var (i := 3))))))))), rd__law_name⟩
abbrev s__law_names : Stmt := top 40
abbrev N__law_names : List Str := ["_law_pen", "_law_most", "_law_k"]
theorem sc__law_names : FnScope N__law_names ["_law_pen", "_law_most"] (defScope s__law_names) := ⟨rfl, rfl, rfl, by decide +kernel, rfl, by decide +kernel, by decide +kernel⟩
theorem fn__law_names {f : Addr} {fd : FuncData} (F : Fun K "_law_names" "_law_names" s__law_names f fd) (hmg : mg "_law_names" = some (.ref f)) (b : Binds K fd ["_law_pen", "_law_most"] []) (T : Tx P K mg) (F__law_draw : FnD P w K mg Tb base 1 "_law_draw" ["_law_pen", "_law_span"] sp__law_draw) (F__law_name : FnD P w K mg Tb base 3 "_law_name" ["_law_pen"] sp__law_name) : FnD P w K mg Tb base 4 "_law_names" ["_law_pen", "_law_most"] sp__law_names := by
  refine fnD (k := 3) F hmg b sc__law_names (fun _ _ _ _ _ h => by obtain ⟨_, rfl, _⟩ := h; rfl) ?_
  rintro _ q W ⟨cdv, A, outer, s, H, E, rfl⟩ tk hr hp
  have nd := sc__law_names.nd
  exact ⟨m__law_names, (dss_one (ds_ret (de_lc (own := [("_law_k", 2)]) rfl nd (di_rng1 rfl T.b_range (da_cons (de_op (od_add rfl) de_int (de_call (F__law_draw.mono (by omega)) tk hr rfl (da_cons (de_var (i := 0)) (da_cons (de_var (i := 1)) da_nil)))) da_nil)) (blkOk_by (own := [("_law_k", 2)]) (N := N__law_names) (sc := defScope s__law_names) (by decide +kernel)) (gw_name (i := 2) (by decide)) (fun _ _ _ _ _ => pg_name (i := 2) nd rfl (Or.inl rfl)) (fun _ _ _ _ _ => dts_nil) (fun _ _ _ _ _ => (de_call (F__law_name.mono (by omega)) takes0 hr rfl (da_cons (de_var (i := 0)) da_nil)))))), rd__law_names⟩
abbrev s__law_shape : Stmt := top 41
abbrev N__law_shape : List Str := ["_law_pen", "_law_names_here", "_law_many", "_law_tall", "_law_room", "_law_low", "_law_high", "_law_way", "_law_left", "_law_word", "_law_one"]
theorem sc__law_shape : FnScope N__law_shape ["_law_pen", "_law_names_here", "_law_many", "_law_tall"] (defScope s__law_shape) := ⟨rfl, rfl, rfl, by decide +kernel, rfl, by decide +kernel, by decide +kernel⟩
theorem fnn__law_shape {f : Addr} {fd : FuncData} (F : Fun K "_law_shape" "_law_shape" s__law_shape f fd) (hmg : mg "_law_shape" = some (.ref f)) (b : Binds K fd ["_law_pen", "_law_names_here", "_law_many", "_law_tall"] []) (T : Tx P K mg) (F__law_draw : FnD P w K mg Tb base 1 "_law_draw" ["_law_pen", "_law_span"] sp__law_draw) (F__law_pick : FnD P w K mg Tb base 2 "_law_pick" ["_law_pen", "_law_some"] sp__law_pick) : ∀ n, FnD P w K mg Tb base (3 + n) "_law_shape" ["_law_pen", "_law_names_here", "_law_many", "_law_tall"] (spn__law_shape n)
  | 0 => FnD.none F hmg b sc__law_shape fun _ _ _ _ _ h => by obtain ⟨_, _, h0, _⟩ := h; exact Nat.not_lt_zero _ h0
  | n + 1 => by
    have Fself := fnn__law_shape F hmg b T F__law_draw F__law_pick n
    refine fnD (k := 3 + n) F hmg b sc__law_shape (fun _ _ _ _ _ h => by obtain ⟨_, rfl, _⟩ := h; rfl) ?_
    rintro _ q W ⟨cdv, A, outer, s, H, E, rfl⟩ tk hr hp
    have nd := sc__law_shape.nd
    exact ⟨m__law_shape (spn__law_shape n), (dss_cons (ds_if (dt_cmp (od_eq rfl hr.units) (de_var (i := 2)) de_int) (dss_one (ds_ret (de_tup (da_cons (de_call (F__law_pick.mono (by omega)) tk hr rfl (da_cons (de_var (i := 0)) (da_cons (de_lst (da_cons de_str (da_cons de_str da_nil))) da_nil))) (da_cons (de_call (F__law_pick.mono (by omega)) tk hr rfl (da_cons (de_var (i := 0)) (da_cons (de_var (i := 1)) da_nil))) da_nil))))) dss_nil)
  (dss_cons (ds_set (i := 4) nd rfl (Or.inl rfl) (de_op od_shl de_int (de_op od_sub (de_var (i := 3)) de_int)))
  (dss_cons (ds_par (i := 5) (j := 6) rfl nd rfl rfl (by decide) rfl rfl (da_cons (de_callB (cd_max rfl) rfl T.b_max bb_max (da_cons de_int (da_cons (de_op od_sub (de_var (i := 2)) (de_var (i := 4))) da_nil))) (da_cons (de_callB (cd_min rfl) rfl T.b_min bb_min (da_cons (de_op od_sub (de_var (i := 2)) de_int) (da_cons (de_var (i := 4)) da_nil))) da_nil)))
  (dss_cons (ds_set (i := 7) nd rfl (Or.inl rfl) (de_call (F__law_draw.mono (by omega)) tk hr rfl (da_cons (de_var (i := 0)) (da_cons de_int da_nil))))
  (dss_cons (ds_set (i := 8) nd rfl (Or.inl rfl) (de_op (od_add rfl) (de_var (i := 5)) (de_call (F__law_draw.mono (by omega)) tk hr rfl (da_cons (de_var (i := 0)) (da_cons (de_op (od_add rfl) (de_op od_sub (de_var (i := 6)) (de_var (i := 5))) de_int) da_nil)))))
  (dss_cons (ds_if (dt_cmp od_lt (de_var (i := 7)) de_int) (dss_one (ds_set (i := 8) nd rfl (Or.inl rfl) (de_if (dt_cmp (od_eq rfl hr.units) (de_var (i := 7)) de_int) (de_var (i := 5)) (de_var (i := 6))))) dss_nil)
  (dss_cons (ds_set (i := 9) nd rfl (Or.inl rfl) (de_call (F__law_pick.mono (by omega)) tk hr rfl (da_cons (de_var (i := 0)) (da_cons (de_lst (da_cons de_str (da_cons de_str (da_cons de_str (da_cons de_str da_nil))))) da_nil))))
  (dss_cons (ds_set (i := 10) nd rfl (Or.inl rfl) (de_call Fself tk hr rfl (da_cons (de_var (i := 0)) (da_cons (de_var (i := 1)) (da_cons (de_var (i := 8)) (da_cons (de_op od_sub (de_var (i := 3)) de_int) da_nil))))))
  (dss_one (ds_ret (de_tup (da_cons (de_var (i := 9)) (da_cons (de_var (i := 10)) (da_cons (de_call Fself tk hr rfl (da_cons (de_var (i := 0)) (da_cons (de_var (i := 1)) (da_cons (de_op od_sub (de_var (i := 2)) (de_var (i := 8))) (da_cons (de_op od_sub (de_var (i := 3)) de_int) da_nil))))) da_nil)))))))))))))), rd__law_shape n⟩
theorem fn__law_shape {f : Addr} {fd : FuncData} (F : Fun K "_law_shape" "_law_shape" s__law_shape f fd) (hmg : mg "_law_shape" = some (.ref f)) (b : Binds K fd ["_law_pen", "_law_names_here", "_law_many", "_law_tall"] []) (T : Tx P K mg) (F__law_draw : FnD P w K mg Tb base 1 "_law_draw" ["_law_pen", "_law_span"] sp__law_draw) (F__law_pick : FnD P w K mg Tb base 2 "_law_pick" ["_law_pen", "_law_some"] sp__law_pick) : FnD P w K mg Tb base 16 "_law_shape" ["_law_pen", "_law_names_here", "_law_many", "_law_tall"] sp__law_shape := fnn__law_shape F hmg b T F__law_draw F__law_pick 13
abbrev s__law_unforked : Stmt := top 42
abbrev N__law_unforked : List Str := ["_law_form", "_law_branches", "_law_word", "_law_one", "_law_other"]
theorem sc__law_unforked : FnScope N__law_unforked ["_law_form", "_law_branches"] (defScope s__law_unforked) := ⟨rfl, rfl, rfl, by decide +kernel, rfl, by decide +kernel, by decide +kernel⟩
theorem fnn__law_unforked {f : Addr} {fd : FuncData} (F : Fun K "_law_unforked" "_law_unforked" s__law_unforked f fd) (hmg : mg "_law_unforked" = some (.ref f)) (b : Binds K fd ["_law_form", "_law_branches"] []) (T : Tx P K mg) : ∀ n, FnD P w K mg Tb base (1 + n) "_law_unforked" ["_law_form", "_law_branches"] (spn__law_unforked n)
  | 0 => FnD.none F hmg b sc__law_unforked fun _ _ _ _ _ h => by obtain ⟨_, _, h0, _⟩ := h; exact Nat.not_lt_zero _ h0
  | n + 1 => by
    have Fself := fnn__law_unforked F hmg b T n
    refine fnD (k := 1 + n) F hmg b sc__law_unforked (fun _ _ _ _ _ h => by obtain ⟨_, rfl, _⟩ := h; rfl) ?_
    rintro _ q W ⟨cdv, A, outer, s, H, E, rfl⟩ tk hr hp
    have nd := sc__law_unforked.nd
    exact ⟨m__law_unforked (spn__law_unforked n), (dss_cons (ds_if (dt_cmp (od_eq rfl hr.units) (de_callB (cd_len rfl) rfl T.b_len boot_len (da_cons (de_var (i := 0)) da_nil)) de_int) (dss_one (ds_ret (de_tup (da_cons (de_var (i := 0)) (da_cons (de_var (i := 1)) da_nil))))) dss_nil)
  (dss_cons (ds_set (i := 2) nd rfl (Or.inl rfl) (de_sub rfl (u1 hr) (de_var (i := 0)) de_int))
  (dss_cons (ds_if (dt_cmp (od_in rfl (u65 hr)) (de_var (i := 2)) (de_lst (da_cons de_str (da_cons de_str da_nil)))) (dss_cons (ds_set (i := 2) nd rfl (Or.inl rfl) (de_if (dt_cmp od_gt (de_var (i := 1)) de_int) (de_var (i := 2)) (de_sub rfl (u1 hr) (de_disp (.cons de_str de_str (.cons de_str de_str .nil))) (de_var (i := 2)))))
  (dss_one (ds_set (i := 1) nd rfl (Or.inl rfl) (de_callB (cd_max rfl) rfl T.b_max bb_max (da_cons de_int (da_cons (de_op od_sub (de_var (i := 1)) de_int) da_nil)))))) dss_nil)
  (dss_cons (ds_asg (de_call Fself tk hr rfl (da_cons (de_sub rfl (u1 hr) (de_var (i := 0)) de_int) (da_cons (de_var (i := 1)) da_nil))) (dg_tup rfl rfl (dgs_cons (dg_name (i := 3) nd rfl (Or.inl rfl)) (dgs_cons (dg_name (i := 1) nd rfl (Or.inl rfl)) dgs_nil))))
  (dss_cons (ds_asg (de_call Fself tk hr rfl (da_cons (de_sub rfl (u1 hr) (de_var (i := 0)) de_int) (da_cons (de_var (i := 1)) da_nil))) (dg_tup rfl rfl (dgs_cons (dg_name (i := 4) nd rfl (Or.inl rfl)) (dgs_cons (dg_name (i := 1) nd rfl (Or.inl rfl)) dgs_nil))))
  (dss_one (ds_ret (de_tup (da_cons (de_tup (da_cons (de_var (i := 2)) (da_cons (de_var (i := 3)) (da_cons (de_var (i := 4)) da_nil)))) (da_cons (de_var (i := 1)) da_nil)))))))))), rd__law_unforked n⟩
theorem fn__law_unforked {f : Addr} {fd : FuncData} (F : Fun K "_law_unforked" "_law_unforked" s__law_unforked f fd) (hmg : mg "_law_unforked" = some (.ref f)) (b : Binds K fd ["_law_form", "_law_branches"] []) (T : Tx P K mg) : FnD P w K mg Tb base 15 "_law_unforked" ["_law_form", "_law_branches"] sp__law_unforked := fnn__law_unforked F hmg b T 14
abbrev s__law_some_ends : Stmt := top 43
abbrev N__law_some_ends : List Str := ["_law_pen", "_law_most", "_law_branches", "_law_names_here", "_law_left", "_law_ends", "_law_tall", "_law_each", "_law_k", "_law_many", "_law_form"]
theorem sc__law_some_ends : FnScope N__law_some_ends ["_law_pen", "_law_most", "_law_branches"] (defScope s__law_some_ends) := ⟨rfl, rfl, rfl, by decide +kernel, rfl, by decide +kernel, by decide +kernel⟩
theorem fn__law_some_ends {f : Addr} {fd : FuncData} (F : Fun K "_law_some_ends" "_law_some_ends" s__law_some_ends f fd) (hmg : mg "_law_some_ends" = some (.ref f)) (b : Binds K fd ["_law_pen", "_law_most", "_law_branches"] []) (T : Tx P K mg) (F__law_draw : FnD P w K mg Tb base 1 "_law_draw" ["_law_pen", "_law_span"] sp__law_draw) (F__law_names : FnD P w K mg Tb base 4 "_law_names" ["_law_pen", "_law_most"] sp__law_names) (F__law_pick : FnD P w K mg Tb base 2 "_law_pick" ["_law_pen", "_law_some"] sp__law_pick) (F__law_shape : FnD P w K mg Tb base 16 "_law_shape" ["_law_pen", "_law_names_here", "_law_many", "_law_tall"] sp__law_shape) (F__law_unforked : FnD P w K mg Tb base 15 "_law_unforked" ["_law_form", "_law_branches"] sp__law_unforked) : FnD P w K mg Tb base 17 "_law_some_ends" ["_law_pen", "_law_most", "_law_branches"] sp__law_some_ends := by
  refine FnD.forget (sp := sp__law_some_ends) ?_
  refine fnD (k := 16) F hmg b sc__law_some_ends (fun _ _ _ _ _ h => by obtain ⟨_, _, ⟨_, rfl, _⟩, _⟩ := h; rfl) ?_
  rintro _ q W ⟨cdv, A, outer, s, H, E, rfl⟩ tk hr hp
  have nd := sc__law_some_ends.nd
  exact ⟨m__law_some_ends, (dss_cons (ds_par3 (i := 3) (j := 4) (l := 5) rfl nd rfl rfl rfl (by decide) (by decide) (by decide) rfl rfl rfl (da_cons (de_call (F__law_names.mono (by omega)) tk hr rfl (da_cons (de_var (i := 0)) (da_cons de_int da_nil))) (da_cons (de_op (od_add rfl) de_int (de_call (F__law_draw.mono (by omega)) tk hr rfl (da_cons (de_var (i := 0)) (da_cons (de_var (i := 1)) da_nil)))) (da_cons (de_newL da_nil) da_nil))))
  (dss_cons (ds_par (i := 6) (j := 7) rfl nd rfl rfl (by decide) rfl rfl (da_cons (de_call (F__law_pick.mono (by omega)) tk hr rfl (da_cons (de_var (i := 0)) (da_cons (de_lst (da_cons de_int (da_cons de_int (da_cons de_int da_nil)))) da_nil))) (da_cons (de_call (F__law_pick.mono (by omega)) tk hr rfl (da_cons (de_var (i := 0)) (da_cons (de_lst (da_cons de_int (da_cons de_int (da_cons (de_var (i := 1)) da_nil)))) da_nil))) da_nil)))
  (dss_cons (ds_for hp rfl (di_rng1 rfl T.b_range (da_cons (de_var (i := 1)) da_nil)) (dg_name (i := 8) nd rfl (Or.inl rfl)) (dss_one (ds_if (dt_cmp od_gt (de_var (i := 4)) de_int) (dss_cons (ds_set (i := 9) nd rfl (Or.inl rfl) (de_op (od_add rfl) de_int (de_call (F__law_draw.mono (by omega)) tk hr rfl (da_cons (de_var (i := 0)) (da_cons (de_callB (cd_min rfl) rfl T.b_min bb_min (da_cons (de_lst (da_cons (de_var (i := 4)) (da_cons (de_var (i := 7)) (da_cons (de_op od_shl de_int (de_var (i := 6))) da_nil)))) da_nil)) da_nil)))))
  (dss_cons (ds_asg (de_call (F__law_unforked.mono (by omega)) tk hr rfl (da_cons (de_call (F__law_shape.mono (by omega)) tk hr rfl (da_cons (de_var (i := 0)) (da_cons (de_var (i := 3)) (da_cons (de_var (i := 9)) (da_cons (de_var (i := 6)) da_nil))))) (da_cons (de_var (i := 2)) da_nil))) (dg_tup rfl rfl (dgs_cons (dg_name (i := 10) nd rfl (Or.inl rfl)) (dgs_cons (dg_name (i := 2) nd rfl (Or.inl rfl)) dgs_nil))))
  (dss_cons (ds_expr (de_app (de_var (i := 5)) (de_var (i := 10))))
  (dss_one (ds_set (i := 4) nd rfl (Or.inl rfl) (de_op od_sub (de_var (i := 4)) (de_var (i := 9)))))))) dss_nil)))
  (dss_one (ds_ret (de_frz (de_var (i := 5)))))))), fun ds mu c P1 PX1 ⟨P, PX, h, e1, e2⟩ => e1 ▸ e2 ▸ rd__law_some_ends ds mu c P PX h⟩
abbrev s__law_tokens : Stmt := top 44
abbrev N__law_tokens : List Str := ["_law_form", "_law_is_half", "_law_sign", "_law_tokens_here"]
theorem sc__law_tokens : FnScope N__law_tokens ["_law_form", "_law_is_half"] (defScope s__law_tokens) := ⟨rfl, rfl, rfl, by decide +kernel, rfl, by decide +kernel, by decide +kernel⟩
theorem fnn__law_tokens {f : Addr} {fd : FuncData} (F : Fun K "_law_tokens" "_law_tokens" s__law_tokens f fd) (hmg : mg "_law_tokens" = some (.ref f)) (b : Binds K fd ["_law_form", "_law_is_half"] []) (T : Tx P K mg) : ∀ n, FnD P w K mg Tb base (1 + n) "_law_tokens" ["_law_form", "_law_is_half"] (spn__law_tokens n)
  | 0 => FnD.none F hmg b sc__law_tokens fun _ _ _ _ _ h => by obtain ⟨_, _, h0, _⟩ := h; exact Nat.not_lt_zero _ h0
  | n + 1 => by
    have Fself := fnn__law_tokens F hmg b T n
    refine fnD (k := 1 + n) F hmg b sc__law_tokens (fun _ _ _ _ _ h => by obtain ⟨_, rfl, _⟩ := h; rfl) ?_
    rintro _ q W ⟨cdv, A, outer, s, H, E, rfl⟩ tk hr hp
    have nd := sc__law_tokens.nd
    exact ⟨m__law_tokens (spn__law_tokens n), (dss_cons (ds_if (dt_cmp (od_eq rfl hr.units) (de_callB (cd_len rfl) rfl T.b_len boot_len (da_cons (de_var (i := 0)) da_nil)) de_int) (dss_one (ds_ret (de_lst (da_cons (de_op (od_add rfl) (de_sub rfl (u1 hr) (de_var (i := 0)) de_int) (de_op od_mul de_str (de_callTy cd_int rfl T.b_int PyProof.Rows.boot_int (da_cons (de_cmp (od_eq rfl hr.units) (de_sub rfl (u1 hr) (de_var (i := 0)) de_int) de_str) da_nil)))) da_nil)))) dss_nil)
  (dss_cons (ds_set (i := 2) nd rfl (Or.inl rfl) (de_sub rfl (u1 hr) (de_disp (.cons de_str de_str (.cons de_str de_str (.cons de_str de_str (.cons de_str de_str .nil))))) (de_sub rfl (u1 hr) (de_var (i := 0)) de_int)))
  (dss_cons (ds_set (i := 3) nd rfl (Or.inl rfl) (de_op (od_add rfl) (de_op (od_add rfl) (de_call Fself tk hr rfl (da_cons (de_sub rfl (u1 hr) (de_var (i := 0)) de_int) (da_cons de_bl da_nil))) (de_lst (da_cons (de_var (i := 2)) da_nil))) (de_call Fself tk hr rfl (da_cons (de_sub rfl (u1 hr) (de_var (i := 0)) de_int) (da_cons de_bl da_nil)))))
  (dss_one (ds_ret (de_if (dt_val (de_var (i := 1))) (de_op (od_add rfl) (de_op (od_add rfl) (de_lst (da_cons de_str da_nil)) (de_var (i := 3))) (de_lst (da_cons de_str da_nil))) (de_var (i := 3)))))))), rd__law_tokens n⟩
theorem fn__law_tokens {f : Addr} {fd : FuncData} (F : Fun K "_law_tokens" "_law_tokens" s__law_tokens f fd) (hmg : mg "_law_tokens" = some (.ref f)) (b : Binds K fd ["_law_form", "_law_is_half"] []) (T : Tx P K mg) : FnD P w K mg Tb base 33 "_law_tokens" ["_law_form", "_law_is_half"] sp__law_tokens := fnn__law_tokens F hmg b T 32
abbrev s__law_spaced : Stmt := top 45
abbrev N__law_spaced : List Str := ["_law_pen", "_law_tokens_here", "_law_most", "_law_out", "_law_token"]
theorem sc__law_spaced : FnScope N__law_spaced ["_law_pen", "_law_tokens_here"] (defScope s__law_spaced) := ⟨rfl, rfl, rfl, by decide +kernel, rfl, by decide +kernel, by decide +kernel⟩
theorem fn__law_spaced {f : Addr} {fd : FuncData} (F : Fun K "_law_spaced" "_law_spaced" s__law_spaced f fd) (hmg : mg "_law_spaced" = some (.ref f)) (b : Binds K fd ["_law_pen", "_law_tokens_here"] []) (T : Tx P K mg) (F__law_draw : FnD P w K mg Tb base 1 "_law_draw" ["_law_pen", "_law_span"] sp__law_draw) (F__law_pick : FnD P w K mg Tb base 2 "_law_pick" ["_law_pen", "_law_some"] sp__law_pick) : FnD P w K mg Tb base 3 "_law_spaced" ["_law_pen", "_law_tokens_here"] sp__law_spaced := by
  refine fnD (k := 2) F hmg b sc__law_spaced (fun _ _ _ _ _ h => by obtain ⟨_, rfl, _⟩ := h; rfl) ?_
  rintro _ q W ⟨cdv, A, outer, s, H, E, rfl⟩ tk hr hp
  have nd := sc__law_spaced.nd
  exact ⟨m__law_spaced, (dss_cons (ds_par (i := 2) (j := 3) rfl nd rfl rfl (by decide) rfl rfl (da_cons (de_call (F__law_pick.mono (by omega)) tk hr rfl (da_cons (de_var (i := 0)) (da_cons (de_lst (da_cons de_int (da_cons de_int (da_cons de_int da_nil)))) da_nil))) (da_cons de_str da_nil)))
  (dss_cons (ds_for hp rfl (di_any rfl (de_var (i := 1))) (dg_name (i := 4) nd rfl (Or.inl rfl)) (dss_one (ds_set (i := 3) nd rfl (Or.inl rfl) (de_op (od_add rfl) (de_op (od_add rfl) (de_var (i := 3)) (de_op od_mul de_str (de_call (F__law_draw.mono (by omega)) tk hr rfl (da_cons (de_var (i := 0)) (da_cons (de_var (i := 2)) da_nil))))) (de_var (i := 4))))))
  (dss_one (ds_ret (de_op (od_add rfl) (de_var (i := 3)) (de_op od_mul de_str (de_call (F__law_draw.mono (by omega)) tk hr rfl (da_cons (de_var (i := 0)) (da_cons (de_var (i := 2)) da_nil))))))))), rd__law_spaced⟩
abbrev s__law_ends_tokens : Stmt := top 46
abbrev N__law_ends_tokens : List Str := ["_law_ends", "_law_tokens_here", "_law_form"]
theorem sc__law_ends_tokens : FnScope N__law_ends_tokens ["_law_ends"] (defScope s__law_ends_tokens) := ⟨rfl, rfl, rfl, by decide +kernel, rfl, by decide +kernel, by decide +kernel⟩
theorem fn__law_ends_tokens {f : Addr} {fd : FuncData} (F : Fun K "_law_ends_tokens" "_law_ends_tokens" s__law_ends_tokens f fd) (hmg : mg "_law_ends_tokens" = some (.ref f)) (b : Binds K fd ["_law_ends"] []) (T : Tx P K mg) (F__law_tokens : FnD P w K mg Tb base 33 "_law_tokens" ["_law_form", "_law_is_half"] sp__law_tokens) : FnD P w K mg Tb base 34 "_law_ends_tokens" ["_law_ends"] sp__law_ends_tokens := by
  refine fnD (k := 33) F hmg b sc__law_ends_tokens (fun _ _ _ _ _ h => by obtain ⟨_, rfl, _⟩ := h; rfl) ?_
  rintro _ q W ⟨cdv, A, outer, s, H, E, rfl⟩ tk hr hp
  have nd := sc__law_ends_tokens.nd
  exact ⟨m__law_ends_tokens, (dss_cons (ds_set (i := 1) nd rfl (Or.inl rfl) (de_call (F__law_tokens.mono (by omega)) tk hr rfl (da_cons (de_sub rfl (u1 hr) (de_var (i := 0)) de_int) (da_cons de_bl da_nil))))
  (dss_cons (ds_for hp rfl (di_any rfl (de_sl rfl (de_var (i := 0)) (do_some de_int) do_none)) (dg_name (i := 2) nd rfl (Or.inl rfl)) (dss_one (ds_set (i := 1) nd rfl (Or.inl rfl) (de_op (od_add rfl) (de_op (od_add rfl) (de_var (i := 1)) (de_lst (da_cons de_str da_nil))) (de_call (F__law_tokens.mono (by omega)) tk hr rfl (da_cons (de_var (i := 2)) (da_cons de_bl da_nil)))))))
  (dss_one (ds_ret (de_var (i := 1)))))), rd__law_ends_tokens⟩
abbrev s__law_longest : Stmt := top 47
abbrev N__law_longest : List Str := ["_law_text", "_law_is_row", "_law_letters", "_law_levels", "_law_name_here", "_law_is_leaf", "_law_at", "_law_sign", "_law_here"]
theorem sc__law_longest : FnScope N__law_longest ["_law_text", "_law_is_row"] (defScope s__law_longest) := ⟨rfl, rfl, rfl, by decide +kernel, rfl, by decide +kernel, by decide +kernel⟩
theorem fn__law_longest {f : Addr} {fd : FuncData} (F : Fun K "_law_longest" "_law_longest" s__law_longest f fd) (hmg : mg "_law_longest" = some (.ref f)) (b : Binds K fd ["_law_text", "_law_is_row"] []) (T : Tx P K mg) : FnD P w K mg Tb base 1 "_law_longest" ["_law_text", "_law_is_row"] sp__law_longest := by
  refine FnD.forget (sp := sp__law_longest) ?_
  refine fnD (k := 0) F hmg b sc__law_longest (fun _ _ _ _ _ h => by obtain ⟨_, _, ⟨_, rfl, _⟩, _⟩ := h; rfl) ?_
  rintro _ q W ⟨cdv, A, outer, s, H, E, rfl⟩ tk hr hp
  have nd := sc__law_longest.nd
  exact ⟨m__law_longest, (dss_cons (ds_set (i := 2) nd rfl (Or.inl rfl) de_str)
  (dss_cons (ds_par3 (i := 3) (j := 4) (l := 5) rfl nd rfl rfl rfl (by decide) (by decide) (by decide) rfl rfl rfl (da_cons (de_newL (da_cons de_int da_nil)) (da_cons de_int (da_cons de_bl da_nil))))
  (dss_cons (ds_for hp rfl (di_enumS rfl T.b_enumerate (da_cons (de_var (i := 0)) da_nil)) (dg_tup rfl rfl (dgs_cons (dg_name (i := 6) nd rfl (Or.inl rfl)) (dgs_cons (dg_name (i := 7) nd rfl (Or.inl rfl)) dgs_nil))) (dss_cons (ds_if (dt_bool (dw_and (dt_cmp od_gt (de_var (i := 4)) de_int) (dw_and1 (dt_cmp (od_in rfl (u65 hr)) (de_var (i := 7)) (de_op (od_add rfl) (de_var (i := 2)) de_str))))) (dss_cons (ds_if (dt_cmp (od_eq rfl hr.units) (de_var (i := 4)) de_int) (dss_one (ds_ret (de_tup (da_cons (de_var (i := 6)) (da_cons de_bl da_nil))))) dss_nil)
  (dss_cons (ds_set (i := 4) nd rfl (Or.inl rfl) (de_op (od_add rfl) (de_var (i := 4)) de_int))
  (dss_one ds_continue))) dss_nil)
  (dss_cons (ds_if (dt_bool (dw_and (dt_cmp od_gt (de_var (i := 4)) de_int) (dw_and1 (dt_cmp (od_eq rfl hr.units) (de_var (i := 7)) de_str)))) (dss_cons (ds_set (i := 4) nd rfl (Or.inl rfl) de_int)
  (dss_one ds_continue)) dss_nil)
  (dss_cons (ds_par (i := 4) (j := 8) rfl nd rfl rfl (by decide) rfl rfl (da_cons de_int (da_cons (de_ixM (de_var (i := 3)) (de_un ud_neg de_int)) da_nil)))
  (dss_cons (ds_if (dt_cmp (od_eq rfl hr.units) (de_var (i := 7)) de_str) (dss_one ds_continue) dss_nil)
  (dss_one (ds_if (dt_bool (dw_and (dt_cmp (od_in rfl (u65 hr)) (de_var (i := 8)) (de_lst (da_cons de_int (da_cons de_int da_nil)))) (dw_and1 (dt_cmp (od_eq rfl hr.units) (de_var (i := 7)) de_str)))) (dss_one (ds_expr (de_app (de_var (i := 3)) de_int))) (dss_one (ds_if (dt_bool (dw_and (dt_cmp (od_in rfl (u65 hr)) (de_var (i := 8)) (de_lst (da_cons de_int (da_cons de_int da_nil)))) (dw_and1 (dt_cmp (od_in rfl (u65 hr)) (de_var (i := 7)) (de_var (i := 2)))))) (dss_one (ds_asg (de_tup (da_cons (de_op (od_add rfl) (de_var (i := 8)) de_int) (da_cons de_int (da_cons de_bl da_nil)))) (dg_tup rfl rfl (dgs_cons (dg_ixM (de_var (i := 3)) (de_un ud_neg de_int)) (dgs_cons (dg_name (i := 4) nd rfl (Or.inl rfl)) (dgs_cons (dg_name (i := 5) nd rfl (Or.inl rfl)) dgs_nil)))))) (dss_one (ds_if (dt_bool (dw_and (dt_cmp (od_eq rfl hr.units) (de_var (i := 8)) de_int) (dw_and1 (dt_cmp (od_in rfl (u65 hr)) (de_var (i := 7)) de_str)))) (dss_one (ds_asg de_int (dg_ixM (de_var (i := 3)) (de_un ud_neg de_int)))) (dss_one (ds_if (dt_bool (dw_and (dt_cmp (od_eq rfl hr.units) (de_var (i := 8)) de_int) (dw_and (dt_cmp od_gt (de_callB cd_lenM rfl T.b_len boot_len (da_cons (de_var (i := 3)) da_nil)) de_int) (dw_and1 (dt_cmp (od_eq rfl hr.units) (de_var (i := 7)) de_str))))) (dss_cons (ds_expr (de_pop (de_var (i := 3))))
  (dss_one (ds_asg (de_tup (da_cons (de_op (od_add rfl) (de_ixM (de_var (i := 3)) (de_un ud_neg de_int)) de_int) (da_cons de_bl da_nil))) (dg_tup rfl rfl (dgs_cons (dg_ixM (de_var (i := 3)) (de_un ud_neg de_int)) (dgs_cons (dg_name (i := 5) nd rfl (Or.inl rfl)) dgs_nil)))))) (dss_one (ds_if (dt_bool (dw_and (dt_val (de_var (i := 1))) (dw_and (dt_cmp (od_eq rfl hr.units) (de_var (i := 7)) de_str) (dw_and (dt_cmp (od_eq rfl hr.units) (de_callB cd_lenM rfl T.b_len boot_len (da_cons (de_var (i := 3)) da_nil)) de_int) (dw_and1 (dt_bool (dw_or (dt_cmp (od_eq rfl hr.units) (de_var (i := 8)) de_int) (dw_or1 (dt_bool (dw_and (dt_cmp (od_eq rfl hr.units) (de_var (i := 8)) de_int) (dw_and1 (dt_val (de_var (i := 5)))))))))))))) (dss_one (ds_set (i := 3) nd rfl (Or.inl rfl) (de_newL (da_cons de_int da_nil)))) (dss_one (ds_ret (de_tup (da_cons (de_var (i := 6)) (da_cons de_bl da_nil))))))))))))))))))))
  (dss_one (ds_ret (de_tup (da_cons (de_callB (cd_len rfl) rfl T.b_len boot_len (da_cons (de_var (i := 0)) da_nil)) (da_cons (de_and (de_cmp (od_eq rfl hr.units) (de_callB cd_lenM rfl T.b_len boot_len (da_cons (de_var (i := 3)) da_nil)) de_int) (de_one (de_or (de_cmp (od_eq rfl hr.units) (de_ixM (de_var (i := 3)) de_int) de_int) (de_one (de_and (de_cmp (od_eq rfl hr.units) (de_ixM (de_var (i := 3)) de_int) de_int) (de_one (de_var (i := 5)))))))) da_nil)))))))), fun ds mu c P1 PX1 ⟨P, PX, h, e1, e2⟩ => e1 ▸ e2 ▸ rd__law_longest ds mu c P PX h⟩
abbrev s__law_folded : Stmt := top 48
abbrev N__law_folded : List Str := ["_law_level"]
theorem sc__law_folded : FnScope N__law_folded ["_law_level"] (defScope s__law_folded) := ⟨rfl, rfl, rfl, by decide +kernel, rfl, by decide +kernel, by decide +kernel⟩
theorem fn__law_folded {f : Addr} {fd : FuncData} (F : Fun K "_law_folded" "_law_folded" s__law_folded f fd) (hmg : mg "_law_folded" = some (.ref f)) (b : Binds K fd ["_law_level"] []) (T : Tx P K mg) : FnD P w K mg Tb base 1 "_law_folded" ["_law_level"] sp__law_folded := by
  refine fnD (k := 0) F hmg b sc__law_folded (fun _ _ _ _ _ h => by obtain ⟨_, rfl, _⟩ := h; rfl) ?_
  rintro _ q W ⟨cdv, A, outer, s, H, E, rfl⟩ tk hr hp
  have nd := sc__law_folded.nd
  exact ⟨m__law_folded, (dss_cons (ds_if (dt_cmp (od_eq rfl hr.units) (de_callB (cd_len rfl) rfl T.b_len boot_len (da_cons (de_var (i := 0)) da_nil)) de_int) (dss_one (ds_ret (de_sub rfl (u1 hr) (de_var (i := 0)) de_int))) dss_nil)
  (dss_one (ds_ret (de_tup (da_cons (de_tup (da_cons (de_sub rfl (u1 hr) (de_var (i := 0)) de_int) (da_cons (de_sub rfl (u1 hr) (de_sub rfl (u1 hr) (de_var (i := 0)) de_int) de_int) (da_cons (de_sub rfl (u1 hr) (de_sub rfl (u1 hr) (de_var (i := 0)) de_int) de_int) da_nil)))) (da_cons (de_op (od_add rfl) de_int (de_callB (cd_max rfl) rfl T.b_max bb_max (da_cons (de_lst (da_cons (de_sub rfl (u1 hr) (de_sub rfl (u1 hr) (de_var (i := 0)) de_int) de_int) (da_cons (de_sub rfl (u1 hr) (de_sub rfl (u1 hr) (de_var (i := 0)) de_int) de_int) da_nil))) da_nil))) da_nil)))))), rd__law_folded⟩
abbrev s__law_read : Stmt := top 49
abbrev N__law_read : List Str := ["_law_text", "_law_sign", "_law_words", "_law_levels", "_law_out", "_law_token", "_law_part"]
theorem sc__law_read : FnScope N__law_read ["_law_text"] (defScope s__law_read) := ⟨rfl, rfl, rfl, by decide +kernel, rfl, by decide +kernel, by decide +kernel⟩
theorem fn__law_read {f : Addr} {fd : FuncData} (F : Fun K "_law_read" "_law_read" s__law_read f fd) (hmg : mg "_law_read" = some (.ref f)) (b : Binds K fd ["_law_text"] []) (T : Tx P K mg) (F__law_folded : FnD P w K mg Tb base 1 "_law_folded" ["_law_level"] sp__law_folded) : FnD P w K mg Tb base 2 "_law_read" ["_law_text"] sp__law_read := by
  refine FnD.forget (sp := sp__law_read) ?_
  refine fnD (k := 1) F hmg b sc__law_read (fun _ _ _ _ _ h => by obtain ⟨_, _, ⟨_, rfl, _⟩, _⟩ := h; rfl) ?_
  rintro _ q W ⟨cdv, A, outer, s, H, E, rfl⟩ tk hr hp
  have nd := sc__law_read.nd
  exact ⟨m__law_read, (dss_cons (ds_repl (i := 1) (j := 0) hp rfl nd rfl rfl (by decide) rfl rfl (by decide +kernel))
  (dss_cons (ds_par3 (i := 2) (j := 3) (l := 4) rfl nd rfl rfl rfl (by decide) (by decide) (by decide) rfl rfl rfl (da_cons (de_disp (.cons de_str de_str (.cons de_str de_str (.cons de_str de_str (.cons de_str de_str .nil))))) (da_cons (de_newL (da_cons (de_newL da_nil) da_nil)) (da_cons (de_newL da_nil) da_nil))))
  (dss_cons (ds_for hp rfl (di_any rfl (de_words (de_var (i := 0)))) (dg_name (i := 5) nd rfl (Or.inl rfl)) (dss_one (ds_if (dt_cmp (od_eq rfl hr.units) (de_var (i := 5)) de_str) (dss_one (ds_expr (de_app (de_var (i := 3)) (de_newL da_nil)))) (dss_one (ds_if (dt_cmp (od_eq rfl hr.units) (de_var (i := 5)) de_str) (dss_cons (ds_set (i := 6) nd rfl (Or.inl rfl) (de_call (F__law_folded.mono (by omega)) tk hr rfl (da_cons (de_frz (de_pop (de_var (i := 3)))) da_nil)))
  (dss_one (ds_expr (de_app (de_ixM (de_var (i := 3)) (de_un ud_neg de_int)) (de_var (i := 6)))))) (dss_one (ds_if (dt_cmp (od_eq rfl hr.units) (de_var (i := 5)) de_str) (dss_cons (ds_expr (de_app (de_var (i := 4)) (de_call (F__law_folded.mono (by omega)) tk hr rfl (da_cons (de_frz (de_pop (de_var (i := 3)))) da_nil))))
  (dss_one (ds_expr (de_app (de_var (i := 3)) (de_newL da_nil))))) (dss_one (ds_if (dt_cmp (od_in rfl (u65 hr)) (de_var (i := 5)) (de_var (i := 2))) (dss_one (ds_expr (de_app (de_ixM (de_var (i := 3)) (de_un ud_neg de_int)) (de_sub rfl (u1 hr) (de_var (i := 2)) (de_var (i := 5)))))) (dss_one (ds_if (dt_cmp (od_eq rfl hr.units) (de_sub rfl (u1 hr) (de_var (i := 5)) (de_un ud_neg de_int)) de_str) (dss_one (ds_expr (de_app (de_ixM (de_var (i := 3)) (de_un ud_neg de_int)) (de_tup (da_cons (de_tup (da_cons de_str (da_cons (de_sl rfl (de_var (i := 5)) do_none (do_some (de_un ud_neg de_int))) da_nil))) (da_cons de_int da_nil)))))) (dss_one (ds_expr (de_app (de_ixM (de_var (i := 3)) (de_un ud_neg de_int)) (de_tup (da_cons (de_tup (da_cons de_str (da_cons (de_var (i := 5)) da_nil))) (da_cons de_int da_nil)))))))))))))))))
  (dss_one (ds_ret (de_op (od_add rfl) (de_frz (de_var (i := 4))) (de_lst (da_cons (de_call (F__law_folded.mono (by omega)) tk hr rfl (da_cons (de_frz (de_pop (de_var (i := 3)))) da_nil)) da_nil)))))))), fun ds mu c P1 PX1 ⟨P, PX, h, e1, e2⟩ => e1 ▸ e2 ▸ rd__law_read ds mu c P PX h⟩
abbrev s__law_read_due : Stmt := top 50
abbrev N__law_read_due : List Str := ["_law_text", "_law_is_row", "_law_at", "_law_is_whole", "_law_forms", "_law_ends", "_law_form", "_law_tall"]
theorem sc__law_read_due : FnScope N__law_read_due ["_law_text", "_law_is_row"] (defScope s__law_read_due) := ⟨rfl, rfl, rfl, by decide +kernel, rfl, by decide +kernel, by decide +kernel⟩
theorem fn__law_read_due {f : Addr} {fd : FuncData} (F : Fun K "_law_read_due" "_law_read_due" s__law_read_due f fd) (hmg : mg "_law_read_due" = some (.ref f)) (b : Binds K fd ["_law_text", "_law_is_row"] []) (T : Tx P K mg) (F__law_leaf_many : FnD P w K mg Tb base 34 "_law_leaf_many" ["_law_ends"] sp__law_leaf_many) (F__law_longest : FnD P w K mg Tb base 1 "_law_longest" ["_law_text", "_law_is_row"] sp__law_longest) (F__law_read : FnD P w K mg Tb base 2 "_law_read" ["_law_text"] sp__law_read) : FnD P w K mg Tb base 35 "_law_read_due" ["_law_text", "_law_is_row"] sp__law_read_due := by
  refine fnD (k := 34) F hmg b sc__law_read_due (fun _ _ _ _ _ h => by obtain ⟨_, rfl, _⟩ := h; rfl) ?_
  rintro _ q W ⟨cdv, A, outer, s, H, E, rfl⟩ tk hr hp
  have nd := sc__law_read_due.nd
  exact ⟨m__law_read_due, (dss_cons (ds_asg (de_call (F__law_longest.mono (by omega)) tk hr rfl (da_cons (de_var (i := 0)) (da_cons (de_var (i := 1)) da_nil))) (dg_tup rfl rfl (dgs_cons (dg_name (i := 2) nd rfl (Or.inl rfl)) (dgs_cons (dg_name (i := 3) nd rfl (Or.inl rfl)) dgs_nil))))
  (dss_cons (ds_if (dt_not (dt_val (de_var (i := 3)))) (dss_one (ds_ret (de_tup (da_cons de_str (da_cons (de_var (i := 2)) da_nil))))) dss_nil)
  (dss_cons (ds_set (i := 4) nd rfl (Or.inl rfl) (de_call (F__law_read.mono (by omega)) tk hr rfl (da_cons (de_var (i := 0)) da_nil)))
  (dss_cons (ds_if (dt_cmp od_gt (de_callB (cd_max rfl) rfl T.b_max bb_max (da_cons (de_lc (own := [("_law_form", 6), ("_law_tall", 7)]) rfl nd (di_any rfl (de_var (i := 4))) (blkOk_by (own := [("_law_form", 6), ("_law_tall", 7)]) (N := N__law_read_due) (sc := defScope s__law_read_due) (by decide +kernel)) (gw_tup rfl (gws_cons (gw_name (i := 6) (by decide)) (gws_cons (gw_name (i := 7) (by decide)) gws_nil))) (fun _ _ _ _ _ => pg_tup rfl (pgs_cons (pg_name (i := 6) nd rfl (Or.inl rfl)) (pgs_cons (pg_name (i := 7) nd rfl (Or.inl rfl)) pgs_nil))) (fun _ _ _ _ _ => dts_nil) (fun _ _ _ _ _ => (de_var (i := 7)))) da_nil)) de_int) (dss_one (ds_ret (de_tup (da_cons de_str (da_cons de_int da_nil))))) dss_nil)
  (dss_cons (ds_setLc (i := 5) (own := [("_law_form", 6), ("_law_tall", 7)]) rfl nd rfl rfl (sw_true rfl rfl rfl (by decide +kernel)) (di_any rfl (de_var (i := 4))) (blkOk_by (own := [("_law_form", 6), ("_law_tall", 7)]) (N := N__law_read_due) (sc := defScope s__law_read_due) (by decide +kernel)) (gw_tup rfl (gws_cons (gw_name (i := 6) (by decide)) (gws_cons (gw_name (i := 7) (by decide)) gws_nil))) (fun _ _ _ _ _ => pg_tup rfl (pgs_cons (pg_name (i := 6) nd rfl (Or.inl rfl)) (pgs_cons (pg_name (i := 7) nd rfl (Or.inl rfl)) pgs_nil))) (fun _ _ _ _ _ => dts_nil) (fun _ _ _ _ _ => (de_var (i := 6))))
  (dss_cons (ds_if (dt_bool (dw_and (dt_val (de_var (i := 1))) (dw_and1 (dt_cmp od_gt (de_call (F__law_leaf_many.mono (by omega)) tk hr rfl (da_cons (de_var (i := 5)) da_nil)) de_int)))) (dss_one (ds_ret (de_tup (da_cons de_str (da_cons de_int da_nil))))) dss_nil)
  (dss_one (ds_ret (de_tup (da_cons de_str (da_cons (de_if (dt_val (de_var (i := 1))) (de_var (i := 5)) (de_sub rfl (u1 hr) (de_var (i := 5)) de_int)) da_nil))))))))))), rd__law_read_due⟩
abbrev s__law_read_right : Stmt := top 51
abbrev N__law_read_right : List Str := ["_law_text", "_law_one", "_law_all_ends"]
theorem sc__law_read_right : FnScope N__law_read_right ["_law_text"] (defScope s__law_read_right) := ⟨rfl, rfl, rfl, by decide +kernel, rfl, by decide +kernel, by decide +kernel⟩
theorem fn__law_read_right {f : Addr} {fd : FuncData} (F : Fun K "_law_read_right" "_law_read_right" s__law_read_right f fd) (hmg : mg "_law_read_right" = some (.ref f)) (b : Binds K fd ["_law_text"] []) (T : Tx P K mg) (F__law_read_due : FnD P w K mg Tb base 35 "_law_read_due" ["_law_text", "_law_is_row"] sp__law_read_due) (F__law_same : FnD P w K mg Tb base 61 "_law_same" ["_law_told", "_law_due"] sp__law_same) (F_read_ends : FnD P w K mg Tb base 36 "read_ends" ["text"] sp_read_ends) (F_read_form : FnD P w K mg Tb base 5 "read_form" ["text"] sp_read_form) (CF__law_faults : CFn P w K mg Tb base 61 "_law_faults" csp__law_faults) {c__law_read_right p__law_read_right : Addr} (hc : fd.code = .ref c__law_read_right) (TBc : LamX.TabB base mg c__law_read_right p__law_read_right) (hmT : (p__law_read_right, ("_law_read_right" : Str) ++ ".<locals>." ++ "<lambda>") ∈ Tb) (hu : ∀ p ∈ Tb, p.1 = p__law_read_right → p.2 = ("_law_read_right" : Str) ++ ".<locals>." ++ "<lambda>") : FnD P w K mg Tb base 99 "_law_read_right" ["_law_text"] sp__law_read_right := by
  refine FnD.forget (sp := sp__law_read_right) ?_
  refine fnDc (k := 98) F hc hmg b sc__law_read_right (fun _ _ _ _ _ h => by obtain ⟨_, _, ⟨_, rfl, _⟩, _⟩ := h; rfl) ?_
  rintro _ q W ⟨A, outer, s, H, E, rfl⟩ tk hr hp
  have nd := sc__law_read_right.nd
  exact ⟨m__law_read_right, (dss_cons (ds_par (i := 1) (j := 2) rfl nd rfl rfl (by decide) rfl rfl (da_cons (de_call (F__law_read_due.mono (by omega)) tk hr rfl (da_cons (de_var (i := 0)) (da_cons de_bl da_nil))) (da_cons (de_call (F__law_read_due.mono (by omega)) tk hr rfl (da_cons (de_var (i := 0)) (da_cons de_bl da_nil))) da_nil)))
  (dss_cons (ds_if (dt_cmp (od_eq rfl hr.units) (de_sub rfl (u1 hr) (de_var (i := 1)) de_int) de_str) (dss_one (ds_if (dt_not (dt_val (de_call (F__law_same.mono (by omega)) tk hr rfl (da_cons (de_call (F_read_form.mono (by omega)) tk hr rfl (da_cons (de_var (i := 0)) da_nil)) (da_cons (de_sub rfl (u1 hr) (de_var (i := 1)) de_int) da_nil))))) (dss_one (ds_ret de_bl)) dss_nil)) (dss_one (ds_if (dt_not (dt_val (de_lamC (k := 36) CF__law_faults tk rfl rfl rfl TBc rfl hmT hu (hr.mono (by omega)) (LamX.lamS_by (by show LamX.lamSB (defScope s__law_read_right) _ = true; decide +kernel)) rfl (fun _ _ _ _ _ => rfl) (fun A outer s H E f c0 hr tk => (de_call (F_read_form.mono (by omega)) tk hr rfl (da_cons (de_var (i := 0)) da_nil))) (da_cons (de_var (i := 1)) da_nil)))) (dss_one (ds_ret de_bl)) dss_nil)))
  (dss_cons (ds_if (dt_cmp (od_eq rfl hr.units) (de_sub rfl (u1 hr) (de_var (i := 2)) de_int) de_str) (dss_one (ds_ret (de_call (F__law_same.mono (by omega)) tk hr rfl (da_cons (de_frz (de_call (F_read_ends.mono (by omega)) tk hr rfl (da_cons (de_var (i := 0)) da_nil))) (da_cons (de_sub rfl (u1 hr) (de_var (i := 2)) de_int) da_nil))))) dss_nil)
  (dss_one (ds_ret (de_lamC (k := 36) CF__law_faults tk rfl rfl rfl TBc rfl hmT hu (hr.mono (by omega)) (LamX.lamS_by (by show LamX.lamSB (defScope s__law_read_right) _ = true; decide +kernel)) rfl (fun _ _ _ _ _ => rfl) (fun A outer s H E f c0 hr tk => (de_frz (de_call (F_read_ends.mono (by omega)) tk hr rfl (da_cons (de_var (i := 0)) da_nil)))) (da_cons (de_var (i := 2)) da_nil))))))), fun ds mu c P1 PX1 ⟨P, PX, h, e1, e2⟩ => e1 ▸ e2 ▸ rd__law_read_right ds mu c P PX h⟩
abbrev s__law_spoilt : Stmt := top 52
abbrev N__law_spoilt : List Str := ["_law_pen", "_law_text", "_law_signs", "_law_at", "_law_sign", "_law_way"]
theorem sc__law_spoilt : FnScope N__law_spoilt ["_law_pen", "_law_text"] (defScope s__law_spoilt) := ⟨rfl, rfl, rfl, by decide +kernel, rfl, by decide +kernel, by decide +kernel⟩
theorem fn__law_spoilt {f : Addr} {fd : FuncData} (F : Fun K "_law_spoilt" "_law_spoilt" s__law_spoilt f fd) (hmg : mg "_law_spoilt" = some (.ref f)) (b : Binds K fd ["_law_pen", "_law_text"] []) (T : Tx P K mg) (F__law_draw : FnD P w K mg Tb base 1 "_law_draw" ["_law_pen", "_law_span"] sp__law_draw) (F__law_pick : FnD P w K mg Tb base 2 "_law_pick" ["_law_pen", "_law_some"] sp__law_pick) : FnD P w K mg Tb base 3 "_law_spoilt" ["_law_pen", "_law_text"] sp__law_spoilt := by
  refine fnD (k := 2) F hmg b sc__law_spoilt (fun _ _ _ _ _ h => by obtain ⟨_, rfl, _⟩ := h; rfl) ?_
  rintro _ q W ⟨cdv, A, outer, s, H, E, rfl⟩ tk hr hp
  have nd := sc__law_spoilt.nd
  exact ⟨m__law_spoilt, (dss_cons (ds_set (i := 2) nd rfl (Or.inl rfl) de_str)
  (dss_cons (ds_par3 (i := 3) (j := 4) (l := 5) rfl nd rfl rfl rfl (by decide) (by decide) (by decide) rfl rfl rfl (da_cons (de_call (F__law_draw.mono (by omega)) tk hr rfl (da_cons (de_var (i := 0)) (da_cons (de_op (od_add rfl) (de_callB (cd_len rfl) rfl T.b_len boot_len (da_cons (de_var (i := 1)) da_nil)) de_int) da_nil))) (da_cons (de_call (F__law_pick.mono (by omega)) tk hr rfl (da_cons (de_var (i := 0)) (da_cons (de_var (i := 2)) da_nil))) (da_cons (de_call (F__law_draw.mono (by omega)) tk hr rfl (da_cons (de_var (i := 0)) (da_cons de_int da_nil))) da_nil))))
  (dss_cons (ds_if (dt_cmp od_lt (de_var (i := 5)) de_int) (dss_one (ds_ret (de_op (od_add rfl) (de_op (od_add rfl) (de_sl rfl (de_var (i := 1)) do_none (do_some (de_var (i := 3)))) (de_var (i := 4))) (de_sl rfl (de_var (i := 1)) (do_some (de_var (i := 3))) do_none)))) dss_nil)
  (dss_cons (ds_if (dt_cmp od_lt (de_var (i := 5)) de_int) (dss_one (ds_ret (de_op (od_add rfl) (de_sl rfl (de_var (i := 1)) do_none (do_some (de_var (i := 3)))) (de_sl rfl (de_var (i := 1)) (do_some (de_op (od_add rfl) (de_var (i := 3)) de_int)) do_none)))) dss_nil)
  (dss_cons (ds_if (dt_cmp (od_eq rfl hr.units) (de_var (i := 5)) de_int) (dss_one (ds_ret (de_sl rfl (de_var (i := 1)) do_none (do_some (de_var (i := 3)))))) dss_nil)
  (dss_cons (ds_if (dt_cmp (od_eq rfl hr.units) (de_var (i := 5)) de_int) (dss_one (ds_ret (de_op (od_add rfl) (de_op (od_add rfl) (de_sl rfl (de_var (i := 1)) do_none (do_some (de_var (i := 3)))) (de_sl rfl de_str do_none (do_some (de_op (od_add rfl) de_int (de_call (F__law_draw.mono (by omega)) tk hr rfl (da_cons (de_var (i := 0)) (da_cons de_int da_nil))))))) (de_sl rfl (de_var (i := 1)) (do_some (de_var (i := 3))) do_none)))) dss_nil)
  (dss_cons (ds_if (dt_cmp (od_eq rfl hr.units) (de_var (i := 5)) de_int) (dss_one (ds_ret (de_op (od_add rfl) (de_op (od_add rfl) (de_sl rfl (de_var (i := 1)) do_none (do_some (de_var (i := 3)))) (de_sl rfl (de_var (i := 1)) (do_some (de_var (i := 3))) (do_some (de_op (od_add rfl) (de_var (i := 3)) de_int)))) (de_sl rfl (de_var (i := 1)) (do_some (de_var (i := 3))) do_none)))) dss_nil)
  (dss_one (ds_ret (de_op (od_add rfl) (de_op (od_add rfl) (de_sl rfl (de_var (i := 1)) do_none (do_some (de_var (i := 3)))) (de_var (i := 4))) (de_sl rfl (de_var (i := 1)) (do_some (de_op (od_add rfl) (de_var (i := 3)) de_int)) do_none))))))))))), rd__law_spoilt⟩
abbrev s__law_loose : Stmt := top 53
abbrev N__law_loose : List Str := ["_law_pen", "_law_words", "_law_k"]
theorem sc__law_loose : FnScope N__law_loose ["_law_pen"] (defScope s__law_loose) := ⟨rfl, rfl, rfl, by decide +kernel, rfl, by decide +kernel, by decide +kernel⟩
theorem fn__law_loose {f : Addr} {fd : FuncData} (F : Fun K "_law_loose" "_law_loose" s__law_loose f fd) (hmg : mg "_law_loose" = some (.ref f)) (b : Binds K fd ["_law_pen"] []) (T : Tx P K mg) (F__law_draw : FnD P w K mg Tb base 1 "_law_draw" ["_law_pen", "_law_span"] sp__law_draw) (F__law_pick : FnD P w K mg Tb base 2 "_law_pick" ["_law_pen", "_law_some"] sp__law_pick) : FnD P w K mg Tb base 3 "_law_loose" ["_law_pen"] sp__law_loose := by
  refine fnD (k := 2) F hmg b sc__law_loose (fun _ _ _ _ _ h => by obtain ⟨_, rfl, _⟩ := h; rfl) ?_
  rintro _ q W ⟨cdv, A, outer, s, H, E, rfl⟩ tk hr hp
  have nd := sc__law_loose.nd
  exact ⟨m__law_loose, (dss_cons (ds_set (i := 1) nd rfl (Or.inr rfl) (de_lst (da_cons de_str (da_cons de_str (da_cons de_str (da_cons de_str (da_cons de_str (da_cons de_str (da_cons de_str (da_cons de_str (da_cons de_str (da_cons de_str (da_cons de_str (da_cons de_str (da_cons de_str (da_cons de_str da_nil))))))))))))))))
  (dss_one (ds_ret (de_join rfl de_str (de_lc (own := [("_law_k", 2)]) rfl nd (di_rng1 rfl T.b_range (da_cons (de_op (od_add rfl) de_int (de_call (F__law_draw.mono (by omega)) tk hr rfl (da_cons (de_var (i := 0)) (da_cons de_int da_nil)))) da_nil)) (blkOk_by (own := [("_law_k", 2)]) (N := N__law_loose) (sc := defScope s__law_loose) (by decide +kernel)) (gw_name (i := 2) (by decide)) (fun _ _ _ _ _ => pg_name (i := 2) nd rfl (Or.inl rfl)) (fun _ _ _ _ _ => dts_nil) (fun _ _ _ _ _ => (de_call (F__law_pick.mono (by omega)) takes0 hr rfl (da_cons (de_var (i := 0)) (da_cons (de_var (i := 1)) da_nil))))))))), rd__law_loose⟩
abbrev s__law_brackets : Stmt := top 54
abbrev N__law_brackets : List Str := ["_law_pen", "_law_many", "_law_mark", "_law_text"]
theorem sc__law_brackets : FnScope N__law_brackets ["_law_pen"] (defScope s__law_brackets) := ⟨rfl, rfl, rfl, by decide +kernel, rfl, by decide +kernel, by decide +kernel⟩
theorem fn__law_brackets {f : Addr} {fd : FuncData} (F : Fun K "_law_brackets" "_law_brackets" s__law_brackets f fd) (hmg : mg "_law_brackets" = some (.ref f)) (b : Binds K fd ["_law_pen"] []) (T : Tx P K mg) (F__law_draw : FnD P w K mg Tb base 1 "_law_draw" ["_law_pen", "_law_span"] sp__law_draw) (F__law_pick : FnD P w K mg Tb base 2 "_law_pick" ["_law_pen", "_law_some"] sp__law_pick) : FnD P w K mg Tb base 3 "_law_brackets" ["_law_pen"] sp__law_brackets := by
  refine fnD (k := 2) F hmg b sc__law_brackets (fun _ _ _ _ _ h => by obtain ⟨_, rfl, _⟩ := h; rfl) ?_
  rintro _ q W ⟨cdv, A, outer, s, H, E, rfl⟩ tk hr hp
  have nd := sc__law_brackets.nd
  exact ⟨m__law_brackets, (dss_cons (ds_par (i := 1) (j := 2) rfl nd rfl rfl (by decide) rfl rfl (da_cons (de_call (F__law_pick.mono (by omega)) tk hr rfl (da_cons (de_var (i := 0)) (da_cons (de_lst (da_cons de_int (da_cons de_int (da_cons de_int (da_cons de_int (da_cons de_int (da_cons de_int (da_cons de_int (da_cons de_int da_nil))))))))) da_nil))) (da_cons (de_call (F__law_pick.mono (by omega)) tk hr rfl (da_cons (de_var (i := 0)) (da_cons (de_lst (da_cons de_str (da_cons de_str (da_cons de_str (da_cons de_str da_nil))))) da_nil))) da_nil)))
  (dss_cons (ds_set (i := 3) nd rfl (Or.inl rfl) (de_op (od_add rfl) (de_op (od_add rfl) (de_op od_mul de_str (de_var (i := 1))) de_str) (de_op od_mul (de_op (od_add rfl) (de_var (i := 2)) de_str) (de_op od_sub (de_var (i := 1)) (de_call (F__law_draw.mono (by omega)) tk hr rfl (da_cons (de_var (i := 0)) (da_cons de_int da_nil)))))))
  (dss_one (ds_ret (de_op (od_add rfl) (de_var (i := 3)) (de_call (F__law_pick.mono (by omega)) tk hr rfl (da_cons (de_var (i := 0)) (da_cons (de_lst (da_cons de_str (da_cons (de_op (od_add rfl) (de_var (i := 2)) de_str) (da_cons de_str (da_cons (de_var (i := 2)) (da_cons de_str (da_cons de_str da_nil))))))) da_nil)))))))), rd__law_brackets⟩
abbrev s_law : Stmt := top 55
abbrev N_law : List Str := ["_law_script", "_law_pen", "_law_ends", "_law_text", "_law_one", "_law_spoilt_here", "_law_some"]
theorem sc_law : FnScope N_law ["_law_script"] (defScope s_law) := ⟨rfl, rfl, rfl, by decide +kernel, rfl, by decide +kernel, by decide +kernel⟩
theorem ok_law {f fb : Addr} {fd fdb : FuncData} (F : Fun K "law" "law" s_law f fd) (FB : Fun K "_law_begin" "_law_begin" s__law_begin fb fdb) (mb : mg "_law_begin" = some (.ref fb)) (bb : Binds K fdb ["_law_script"] []) (T : Tx P K mg) (F__law_brackets : FnD P w K mg Tb base 3 "_law_brackets" ["_law_pen"] sp__law_brackets) (F__law_ends_tokens : FnD P w K mg Tb base 34 "_law_ends_tokens" ["_law_ends"] sp__law_ends_tokens) (F__law_loose : FnD P w K mg Tb base 3 "_law_loose" ["_law_pen"] sp__law_loose) (F__law_read_right : FnD P w K mg Tb base 99 "_law_read_right" ["_law_text"] sp__law_read_right) (F__law_some_ends : FnD P w K mg Tb base 17 "_law_some_ends" ["_law_pen", "_law_most", "_law_branches"] sp__law_some_ends) (F__law_spaced : FnD P w K mg Tb base 3 "_law_spaced" ["_law_pen", "_law_tokens_here"] sp__law_spaced) (F__law_spoilt : FnD P w K mg Tb base 3 "_law_spoilt" ["_law_pen", "_law_text"] sp__law_spoilt) (F__law_tokens : FnD P w K mg Tb base 33 "_law_tokens" ["_law_form", "_law_is_half"] sp__law_tokens) : FnOk P w K mg base (L2.CX P w) 100 f fd ["_law_script"] (spLaw K Tb) := by
  refine F.okX sc_law (fun vs H Q E h => ?_) (fun cdv A outer s H vs Q E hr h => ?_)
  · obtain ⟨a, ns, rfl, _⟩ := h
    rfl
  · have nd := sc_law.nd
    have tk : Takes (cxOf (L2.CX P w) P w K mg base N_law "law" (defScope s_law) f cdv A outer s H E) (fun cls d _ H => E cls d H) := takes_of rfl rfl rfl rfl
    have hp : PassesOwn (model (cxOf (L2.CX P w) P w K mg base N_law "law" (defScope s_law) f cdv A outer s H E).prog (cxOf (L2.CX P w) P w K mg base N_law "law" (defScope s_law) f cdv A outer s H E).w) (cxOf (L2.CX P w) P w K mg base N_law "law" (defScope s_law) f cdv A outer s H E).A (cxOf (L2.CX P w) P w K mg base N_law "law" (defScope s_law) f cdv A outer s H E).env (cxOf (L2.CX P w) P w K mg base N_law "law" (defScope s_law) f cdv A outer s H E).xe := passes_of rfl
    have rest : ∀ p, DSs (cxOf (L2.CX P w) P w K mg base N_law "law" (defScope s_law) f cdv A outer s H E) (Yp K mg Tb p) (fun cls d _ H => E cls d H) (defBody s_law).tail m_law := fun p => (dss_cons (ds_set (i := 2) nd rfl (Or.inl rfl) (de_call (F__law_some_ends.mono (by omega)) tk hr rfl (da_cons (de_var (i := 1)) (da_cons de_int (da_cons de_int da_nil)))))
  (dss_cons (ds_set (i := 3) nd rfl (Or.inl rfl) (de_call (F__law_spaced.mono (by omega)) tk hr rfl (da_cons (de_var (i := 1)) (da_cons (de_call (F__law_ends_tokens.mono (by omega)) tk hr rfl (da_cons (de_var (i := 2)) da_nil)) da_nil))))
  (dss_cons (ds_set (i := 4) nd rfl (Or.inl rfl) (de_call (F__law_spaced.mono (by omega)) tk hr rfl (da_cons (de_var (i := 1)) (da_cons (de_call (F__law_tokens.mono (by omega)) tk hr rfl (da_cons (de_sub rfl (u1 hr) (de_var (i := 2)) de_int) (da_cons de_bl da_nil))) da_nil))))
  (dss_cons (ds_setLc (i := 5) (own := [("_law_some", 6)]) rfl nd rfl rfl (sw_true rfl rfl rfl (by decide +kernel)) (di_any rfl (de_lst (da_cons (de_var (i := 3)) (da_cons (de_var (i := 4)) (da_cons (de_var (i := 3)) da_nil))))) (blkOk_by (own := [("_law_some", 6)]) (N := N_law) (sc := defScope s_law) (by decide +kernel)) (gw_name (i := 6) (by decide)) (fun _ _ _ _ _ => pg_name (i := 6) nd rfl (Or.inl rfl)) (fun _ _ _ _ _ => dts_nil) (fun _ _ _ _ _ => (de_call (F__law_spoilt.mono (by omega)) takes0 hr rfl (da_cons (de_var (i := 1)) (da_cons (de_var (i := 6)) da_nil)))))
  (dss_cons (ds_set (i := 5) nd rfl (Or.inl rfl) (de_op (od_add rfl) (de_var (i := 5)) (de_lst (da_cons (de_call (F__law_spoilt.mono (by omega)) tk hr rfl (da_cons (de_var (i := 1)) (da_cons (de_sub rfl (u1 hr) (de_var (i := 5)) de_int) da_nil))) (da_cons (de_call (F__law_loose.mono (by omega)) tk hr rfl (da_cons (de_var (i := 1)) da_nil)) (da_cons (de_call (F__law_brackets.mono (by omega)) tk hr rfl (da_cons (de_var (i := 1)) da_nil)) (da_cons (de_var (i := 3)) (da_cons (de_var (i := 4)) da_nil))))))))
  (dss_one (ds_ret (de_callB (cd_all rfl) rfl T.b_all bb_all (da_cons (de_lc (own := [("_law_some", 6)]) rfl nd (di_any rfl (de_var (i := 5))) (blkOk_by (own := [("_law_some", 6)]) (N := N_law) (sc := defScope s_law) (by decide +kernel)) (gw_name (i := 6) (by decide)) (fun _ _ _ _ _ => pg_name (i := 6) nd rfl (Or.inl rfl)) (fun _ _ _ _ _ => dts_nil) (fun _ _ _ _ _ => (de_call (F__law_read_right.mono (by omega)) takes0 hr rfl (da_cons (de_var (i := 6)) da_nil)))) da_nil)))))))))
    refine ⟨_, pss_cons (ps_set (i := 1) nd rfl (Or.inr rfl) (pe_callS (ok__law_begin FB T) (hr.mono (by decide)) rfl mb FB.kp bb (fun σ => passAt tk σ) (pa_cons (pv 0) pa_nil))) (rest_pen rest), ?_⟩
    obtain ⟨a, ns, rfl, hS, hl, hT, k⟩ := h
    refine ⟨_, rfl, a, ns, rfl, hS, hl, fun p ca H1 z1 z2 z3 z4 z5 z6 => ⟨⟨p, [], fun _ => none⟩, ?_⟩⟩
    exact law_fin 5 z3 z4 z5 hl (hT.ext z6) (rd_law fun _ => none) k
end
end DL
set_option pp.maxSteps 300
namespace DL
open PySem L2
abbrev sE_BadValue : Stmt := inClass (top 3) 0
theorem tE_BadValue : ErrTx sE_BadValue "value" := ⟨_, _, _, _, _, _, _, _, _, _, _, _, rfl, rfl, rfl, ⟨⟨_, fun _ => rfl⟩, fun _ => rfl, fun _ => rfl⟩⟩
theorem fo_value : FldOk "value" := ⟨by decide +kernel, by decide +kernel, by decide +kernel, by decide +kernel, by decide +kernel, by decide +kernel, by decide +kernel, by decide +kernel, fun _ _ _ _ _ _ _ _ _ _ _ _ => rfl⟩
abbrev sE_NotAText : Stmt := inClass (top 6) 0
theorem tE_NotAText : ErrTx sE_NotAText "at" := ⟨_, _, _, _, _, _, _, _, _, _, _, _, rfl, rfl, rfl, ⟨⟨_, fun _ => rfl⟩, fun _ => rfl, fun _ => rfl⟩⟩
theorem fo_at : FldOk "at" := ⟨by decide +kernel, by decide +kernel, by decide +kernel, by decide +kernel, by decide +kernel, by decide +kernel, by decide +kernel, by decide +kernel, fun _ _ _ _ _ _ _ _ _ _ _ _ => rfl⟩
abbrev sE_TooDeep : Stmt := inClass (top 4) 0
theorem tE_TooDeep : ErrTx sE_TooDeep "most" := ⟨_, _, _, _, _, _, _, _, _, _, _, _, rfl, rfl, rfl, ⟨⟨_, fun _ => rfl⟩, fun _ => rfl, fun _ => rfl⟩⟩
theorem fo_most : FldOk "most" := ⟨by decide +kernel, by decide +kernel, by decide +kernel, by decide +kernel, by decide +kernel, by decide +kernel, by decide +kernel, by decide +kernel, fun _ _ _ _ _ _ _ _ _ _ _ _ => rfl⟩
abbrev sE_TooMany : Stmt := inClass (top 5) 0
theorem tE_TooMany : ErrTx sE_TooMany "most" := ⟨_, _, _, _, _, _, _, _, _, _, _, _, rfl, rfl, rfl, ⟨⟨_, fun _ => rfl⟩, fun _ => rfl, fun _ => rfl⟩⟩
theorem all_mk {l : PySem.W.OpenLaw} {w : World} {K : PySem.W.Frag} {h : Heap} {mg : Str → Option Value} {fa f0 f1 f2 f3 f4 f5 f6 f7 f8 f9 f10 f11 f12 f13 f14 f15 f16 f17 f18 f19 f20 f21 f22 f23 f24 f25 f26 f27 f28 f29 f30 f31 f32 f33 f34 f35 f36 f37 f38 f39 f40 f41 : Addr} (X : K.In h) (G : h.Ns mainGlobals mg) (hfa : mg "law" = some (.ref fa)) (OT : ∀ x ∈ (["_law_read_right"] : List Str), ∀ a, mg x = some (.ref a) → LamX.OwnTab K a h)
    {od0 od1 od2 od3 od4 od5 od6 od7 od8 od9 od10 od11 od12 od13 od14 od15 od16 od17 od18 od19 od20 od21 od22 od23 od24 od25 od26 od27 od28 od29 od30 od31 od32 od33 od34 od35 od36 od37 od38 od39 od40 od41 an0 an1 an2 an3 an4 an5 an6 an7 an8 an9 an10 an11 an12 an13 an14 an15 an16 an17 an18 an19 an20 an21 an22 an23 an24 an25 an26 an27 an28 an29 an30 an31 an32 an33 an34 an35 an36 an37 an38 an39 an40 an41 : Option Addr} {sl0 sl1 sl2 sl3 sl4 sl5 sl6 sl7 sl8 sl9 sl10 sl11 sl12 sl13 sl14 sl15 sl16 sl17 sl18 sl19 sl20 sl21 sl22 sl23 sl24 sl25 sl26 sl27 sl28 sl29 sl30 sl31 sl32 sl33 sl34 sl35 sl36 sl37 sl38 sl39 sl40 sl41 : Array (Option Value)} {oc0 oc1 oc2 oc3 oc4 oc5 oc6 oc7 oc8 oc9 oc10 oc11 oc12 oc13 oc14 oc15 oc16 oc17 oc18 oc19 oc20 oc21 oc22 oc23 oc24 oc25 oc26 oc27 oc28 oc29 oc30 oc31 oc32 oc33 oc34 oc35 oc36 oc37 oc38 oc39 oc40 oc41 kV0 kV1 kV2 kV3 kV4 kV5 kV6 kV7 kV8 kV9 kV10 kV11 kV12 kV13 kV14 kV15 kV16 kV17 kV18 kV19 kV20 kV21 kV22 kV23 kV24 kV25 kV26 kV27 kV28 kV29 kV30 kV31 kV32 kV33 kV34 kV35 kV36 kV37 kV38 kV39 kV40 kV41 dc0 dc1 dc2 dc3 dc4 dc5 dc6 dc7 dc8 dc9 dc10 dc11 dc12 dc13 dc14 dc15 dc16 dc17 dc18 dc19 dc20 dc21 dc22 dc23 dc24 dc25 dc26 dc27 dc28 dc29 dc30 dc31 dc32 dc33 dc34 dc35 dc36 dc37 dc38 dc39 dc40 dc41 pm0 pm1 pm2 pm3 pm4 pm5 pm6 pm7 pm8 pm9 pm10 pm11 pm12 pm13 pm14 pm15 pm16 pm17 pm18 pm19 pm20 pm21 pm22 pm23 pm24 pm25 pm26 pm27 pm28 pm29 pm30 pm31 pm32 pm33 pm34 pm35 pm36 pm37 pm38 pm39 pm40 pm41 cd0 cd1 cd2 cd3 cd4 cd5 cd6 cd7 cd8 cd9 cd10 cd11 cd12 cd13 cd14 cd15 cd16 cd17 cd18 cd19 cd20 cd21 cd22 cd23 cd24 cd25 cd26 cd27 cd28 cd29 cd31 cd32 cd33 cd34 cd35 cd36 cd37 cd38 cd39 cd40 cd41 ct0 ct1 ct2 ct3 ct4 ct5 ct6 ct7 ct8 ct9 ct10 ct11 ct12 ct13 ct14 ct15 ct16 ct17 ct18 ct19 ct20 ct21 ct22 ct23 ct24 ct25 ct26 ct27 ct28 ct29 ct30 ct31 ct32 ct33 ct34 ct35 ct36 ct37 ct38 ct39 ct40 ct41 : Value}
    {C_Scan : Addr}
    (aC_Scan : PySem.W.nsIn K mainGlobals "Scan" = some (some (.ref C_Scan)))
    (pg_Scan : PySem.W.plainGet K C_Scan Str.empty = true)
    (hd_Scan : PySem.W.hasDictIn K C_Scan = true)
    (po_Scan : PySem.W.plainOver K C_Scan = true)
    (sa_Scan : PySem.W.findIn K (.ref C_Scan) "__setattr__" = some (some (.builtin "object.__setattr__")))
    (mk_Scan : PySem.W.makesIn K C_Scan = true)
    (kc_Scan : PySem.W.keepIn K (.ref C_Scan) = true)
    (na_Scan_string : PySem.W.findIn K (.ref C_Scan) "string" = some none)
    (na_Scan_place : PySem.W.findIn K (.ref C_Scan) "place" = some none)
    (a0 : PySem.W.nsIn K mainGlobals "need_any_string" = some (some (.ref f0)))
    (l0 : K.lookup f0 = some ⟨oc0, od0, .func (PySem.W.fnOf "need_any_string" "need_any_string" (defArgs s_need_any_string) (defBody s_need_any_string) (defScope s_need_any_string) .none kV0 dc0 pm0 an0 cd0 ct0), sl0⟩)
    (c0 : PySem.W.codeIn K cd0 "need_any_string" = true)
    (k0 : PySem.W.keepIn K (.ref f0) = true)
    (a1 : PySem.W.nsIn K mainGlobals "is_leaf" = some (some (.ref f1)))
    (l1 : K.lookup f1 = some ⟨oc1, od1, .func (PySem.W.fnOf "is_leaf" "is_leaf" (defArgs s_is_leaf) (defBody s_is_leaf) (defScope s_is_leaf) .none kV1 dc1 pm1 an1 cd1 ct1), sl1⟩)
    (c1 : PySem.W.codeIn K cd1 "is_leaf" = true)
    (k1 : PySem.W.keepIn K (.ref f1) = true)
    (a2 : PySem.W.nsIn K mainGlobals "leaf_read" = some (some (.ref f2)))
    (l2 : K.lookup f2 = some ⟨oc2, od2, .func (PySem.W.fnOf "leaf_read" "leaf_read" (defArgs s_leaf_read) (defBody s_leaf_read) (defScope s_leaf_read) .none kV2 dc2 pm2 an2 cd2 ct2), sl2⟩)
    (c2 : PySem.W.codeIn K cd2 "leaf_read" = true)
    (k2 : PySem.W.keepIn K (.ref f2) = true)
    (a3 : PySem.W.nsIn K mainGlobals "form_read" = some (some (.ref f3)))
    (l3 : K.lookup f3 = some ⟨oc3, od3, .func (PySem.W.fnOf "form_read" "form_read" (defArgs s_form_read) (defBody s_form_read) (defScope s_form_read) .none kV3 dc3 pm3 an3 cd3 ct3), sl3⟩)
    (c3 : PySem.W.codeIn K cd3 "form_read" = true)
    (k3 : PySem.W.keepIn K (.ref f3) = true)
    (a4 : PySem.W.nsIn K mainGlobals "need_depth" = some (some (.ref f4)))
    (l4 : K.lookup f4 = some ⟨oc4, od4, .func (PySem.W.fnOf "need_depth" "need_depth" (defArgs s_need_depth) (defBody s_need_depth) (defScope s_need_depth) .none kV4 dc4 pm4 an4 cd4 ct4), sl4⟩)
    (c4 : PySem.W.codeIn K cd4 "need_depth" = true)
    (k4 : PySem.W.keepIn K (.ref f4) = true)
    (a5 : PySem.W.nsIn K mainGlobals "read_form" = some (some (.ref f5)))
    (l5 : K.lookup f5 = some ⟨oc5, od5, .func (PySem.W.fnOf "read_form" "read_form" (defArgs s_read_form) (defBody s_read_form) (defScope s_read_form) .none kV5 dc5 pm5 an5 cd5 ct5), sl5⟩)
    (c5 : PySem.W.codeIn K cd5 "read_form" = true)
    (k5 : PySem.W.keepIn K (.ref f5) = true)
    (a6 : PySem.W.nsIn K mainGlobals "leaves_in" = some (some (.ref f6)))
    (l6 : K.lookup f6 = some ⟨oc6, od6, .func (PySem.W.fnOf "leaves_in" "leaves_in" (defArgs s_leaves_in) (defBody s_leaves_in) (defScope s_leaves_in) .none kV6 dc6 pm6 an6 cd6 ct6), sl6⟩)
    (c6 : PySem.W.codeIn K cd6 "leaves_in" = true)
    (k6 : PySem.W.keepIn K (.ref f6) = true)
    (a7 : PySem.W.nsIn K mainGlobals "ends_read" = some (some (.ref f7)))
    (l7 : K.lookup f7 = some ⟨oc7, od7, .func (PySem.W.fnOf "ends_read" "ends_read" (defArgs s_ends_read) (defBody s_ends_read) (defScope s_ends_read) .none kV7 dc7 pm7 an7 cd7 ct7), sl7⟩)
    (c7 : PySem.W.codeIn K cd7 "ends_read" = true)
    (k7 : PySem.W.keepIn K (.ref f7) = true)
    (a8 : PySem.W.nsIn K mainGlobals "ends_from" = some (some (.ref f8)))
    (l8 : K.lookup f8 = some ⟨oc8, od8, .func (PySem.W.fnOf "ends_from" "ends_from" (defArgs s_ends_from) (defBody s_ends_from) (defScope s_ends_from) .none kV8 dc8 pm8 an8 cd8 ct8), sl8⟩)
    (c8 : PySem.W.codeIn K cd8 "ends_from" = true)
    (k8 : PySem.W.keepIn K (.ref f8) = true)
    (a9 : PySem.W.nsIn K mainGlobals "read_ends" = some (some (.ref f9)))
    (l9 : K.lookup f9 = some ⟨oc9, od9, .func (PySem.W.fnOf "read_ends" "read_ends" (defArgs s_read_ends) (defBody s_read_ends) (defScope s_read_ends) .none kV9 dc9 pm9 an9 cd9 ct9), sl9⟩)
    (c9 : PySem.W.codeIn K cd9 "read_ends" = true)
    (k9 : PySem.W.keepIn K (.ref f9) = true)
    (a10 : PySem.W.nsIn K mainGlobals "_law_begin" = some (some (.ref f10)))
    (l10 : K.lookup f10 = some ⟨oc10, od10, .func (PySem.W.fnOf "_law_begin" "_law_begin" (defArgs s__law_begin) (defBody s__law_begin) (defScope s__law_begin) .none kV10 dc10 pm10 an10 cd10 ct10), sl10⟩)
    (c10 : PySem.W.codeIn K cd10 "_law_begin" = true)
    (k10 : PySem.W.keepIn K (.ref f10) = true)
    (a11 : PySem.W.nsIn K mainGlobals "_law_draw" = some (some (.ref f11)))
    (l11 : K.lookup f11 = some ⟨oc11, od11, .func (PySem.W.fnOf "_law_draw" "_law_draw" (defArgs s__law_draw) (defBody s__law_draw) (defScope s__law_draw) .none kV11 dc11 pm11 an11 cd11 ct11), sl11⟩)
    (c11 : PySem.W.codeIn K cd11 "_law_draw" = true)
    (k11 : PySem.W.keepIn K (.ref f11) = true)
    (a12 : PySem.W.nsIn K mainGlobals "_law_pick" = some (some (.ref f12)))
    (l12 : K.lookup f12 = some ⟨oc12, od12, .func (PySem.W.fnOf "_law_pick" "_law_pick" (defArgs s__law_pick) (defBody s__law_pick) (defScope s__law_pick) .none kV12 dc12 pm12 an12 cd12 ct12), sl12⟩)
    (c12 : PySem.W.codeIn K cd12 "_law_pick" = true)
    (k12 : PySem.W.keepIn K (.ref f12) = true)
    (a13 : PySem.W.nsIn K mainGlobals "_law_leaves" = some (some (.ref f13)))
    (l13 : K.lookup f13 = some ⟨oc13, od13, .func (PySem.W.fnOf "_law_leaves" "_law_leaves" (defArgs s__law_leaves) (defBody s__law_leaves) (defScope s__law_leaves) .none kV13 dc13 pm13 an13 cd13 ct13), sl13⟩)
    (c13 : PySem.W.codeIn K cd13 "_law_leaves" = true)
    (k13 : PySem.W.keepIn K (.ref f13) = true)
    (a14 : PySem.W.nsIn K mainGlobals "_law_leaf_many" = some (some (.ref f14)))
    (l14 : K.lookup f14 = some ⟨oc14, od14, .func (PySem.W.fnOf "_law_leaf_many" "_law_leaf_many" (defArgs s__law_leaf_many) (defBody s__law_leaf_many) (defScope s__law_leaf_many) .none kV14 dc14 pm14 an14 cd14 ct14), sl14⟩)
    (c14 : PySem.W.codeIn K cd14 "_law_leaf_many" = true)
    (k14 : PySem.W.keepIn K (.ref f14) = true)
    (a15 : PySem.W.nsIn K mainGlobals "_law_same" = some (some (.ref f15)))
    (l15 : K.lookup f15 = some ⟨oc15, od15, .func (PySem.W.fnOf "_law_same" "_law_same" (defArgs s__law_same) (defBody s__law_same) (defScope s__law_same) .none kV15 dc15 pm15 an15 cd15 ct15), sl15⟩)
    (c15 : PySem.W.codeIn K cd15 "_law_same" = true)
    (k15 : PySem.W.keepIn K (.ref f15) = true)
    (a16 : PySem.W.nsIn K mainGlobals "_law_fault" = some (some (.ref f16)))
    (l16 : K.lookup f16 = some ⟨oc16, od16, .func (PySem.W.fnOf "_law_fault" "_law_fault" (defArgs s__law_fault) (defBody s__law_fault) (defScope s__law_fault) .none kV16 dc16 pm16 an16 cd16 ct16), sl16⟩)
    (c16 : PySem.W.codeIn K cd16 "_law_fault" = true)
    (k16 : PySem.W.keepIn K (.ref f16) = true)
    (a17 : PySem.W.nsIn K mainGlobals "_law_faults" = some (some (.ref f17)))
    (l17 : K.lookup f17 = some ⟨oc17, od17, .func (PySem.W.fnOf "_law_faults" "_law_faults" (defArgs s__law_faults) (defBody s__law_faults) (defScope s__law_faults) .none kV17 dc17 pm17 an17 cd17 ct17), sl17⟩)
    (c17 : PySem.W.codeIn K cd17 "_law_faults" = true)
    (k17 : PySem.W.keepIn K (.ref f17) = true)
    (a18 : PySem.W.nsIn K mainGlobals "_law_name" = some (some (.ref f18)))
    (l18 : K.lookup f18 = some ⟨oc18, od18, .func (PySem.W.fnOf "_law_name" "_law_name" (defArgs s__law_name) (defBody s__law_name) (defScope s__law_name) .none kV18 dc18 pm18 an18 cd18 ct18), sl18⟩)
    (c18 : PySem.W.codeIn K cd18 "_law_name" = true)
    (k18 : PySem.W.keepIn K (.ref f18) = true)
    (a19 : PySem.W.nsIn K mainGlobals "_law_names" = some (some (.ref f19)))
    (l19 : K.lookup f19 = some ⟨oc19, od19, .func (PySem.W.fnOf "_law_names" "_law_names" (defArgs s__law_names) (defBody s__law_names) (defScope s__law_names) .none kV19 dc19 pm19 an19 cd19 ct19), sl19⟩)
    (c19 : PySem.W.codeIn K cd19 "_law_names" = true)
    (k19 : PySem.W.keepIn K (.ref f19) = true)
    (a20 : PySem.W.nsIn K mainGlobals "_law_shape" = some (some (.ref f20)))
    (l20 : K.lookup f20 = some ⟨oc20, od20, .func (PySem.W.fnOf "_law_shape" "_law_shape" (defArgs s__law_shape) (defBody s__law_shape) (defScope s__law_shape) .none kV20 dc20 pm20 an20 cd20 ct20), sl20⟩)
    (c20 : PySem.W.codeIn K cd20 "_law_shape" = true)
    (k20 : PySem.W.keepIn K (.ref f20) = true)
    (a21 : PySem.W.nsIn K mainGlobals "_law_unforked" = some (some (.ref f21)))
    (l21 : K.lookup f21 = some ⟨oc21, od21, .func (PySem.W.fnOf "_law_unforked" "_law_unforked" (defArgs s__law_unforked) (defBody s__law_unforked) (defScope s__law_unforked) .none kV21 dc21 pm21 an21 cd21 ct21), sl21⟩)
    (c21 : PySem.W.codeIn K cd21 "_law_unforked" = true)
    (k21 : PySem.W.keepIn K (.ref f21) = true)
    (a22 : PySem.W.nsIn K mainGlobals "_law_some_ends" = some (some (.ref f22)))
    (l22 : K.lookup f22 = some ⟨oc22, od22, .func (PySem.W.fnOf "_law_some_ends" "_law_some_ends" (defArgs s__law_some_ends) (defBody s__law_some_ends) (defScope s__law_some_ends) .none kV22 dc22 pm22 an22 cd22 ct22), sl22⟩)
    (c22 : PySem.W.codeIn K cd22 "_law_some_ends" = true)
    (k22 : PySem.W.keepIn K (.ref f22) = true)
    (a23 : PySem.W.nsIn K mainGlobals "_law_tokens" = some (some (.ref f23)))
    (l23 : K.lookup f23 = some ⟨oc23, od23, .func (PySem.W.fnOf "_law_tokens" "_law_tokens" (defArgs s__law_tokens) (defBody s__law_tokens) (defScope s__law_tokens) .none kV23 dc23 pm23 an23 cd23 ct23), sl23⟩)
    (c23 : PySem.W.codeIn K cd23 "_law_tokens" = true)
    (k23 : PySem.W.keepIn K (.ref f23) = true)
    (a24 : PySem.W.nsIn K mainGlobals "_law_spaced" = some (some (.ref f24)))
    (l24 : K.lookup f24 = some ⟨oc24, od24, .func (PySem.W.fnOf "_law_spaced" "_law_spaced" (defArgs s__law_spaced) (defBody s__law_spaced) (defScope s__law_spaced) .none kV24 dc24 pm24 an24 cd24 ct24), sl24⟩)
    (c24 : PySem.W.codeIn K cd24 "_law_spaced" = true)
    (k24 : PySem.W.keepIn K (.ref f24) = true)
    (a25 : PySem.W.nsIn K mainGlobals "_law_ends_tokens" = some (some (.ref f25)))
    (l25 : K.lookup f25 = some ⟨oc25, od25, .func (PySem.W.fnOf "_law_ends_tokens" "_law_ends_tokens" (defArgs s__law_ends_tokens) (defBody s__law_ends_tokens) (defScope s__law_ends_tokens) .none kV25 dc25 pm25 an25 cd25 ct25), sl25⟩)
    (c25 : PySem.W.codeIn K cd25 "_law_ends_tokens" = true)
    (k25 : PySem.W.keepIn K (.ref f25) = true)
    (a26 : PySem.W.nsIn K mainGlobals "_law_longest" = some (some (.ref f26)))
    (l26 : K.lookup f26 = some ⟨oc26, od26, .func (PySem.W.fnOf "_law_longest" "_law_longest" (defArgs s__law_longest) (defBody s__law_longest) (defScope s__law_longest) .none kV26 dc26 pm26 an26 cd26 ct26), sl26⟩)
    (c26 : PySem.W.codeIn K cd26 "_law_longest" = true)
    (k26 : PySem.W.keepIn K (.ref f26) = true)
    (a27 : PySem.W.nsIn K mainGlobals "_law_folded" = some (some (.ref f27)))
    (l27 : K.lookup f27 = some ⟨oc27, od27, .func (PySem.W.fnOf "_law_folded" "_law_folded" (defArgs s__law_folded) (defBody s__law_folded) (defScope s__law_folded) .none kV27 dc27 pm27 an27 cd27 ct27), sl27⟩)
    (c27 : PySem.W.codeIn K cd27 "_law_folded" = true)
    (k27 : PySem.W.keepIn K (.ref f27) = true)
    (a28 : PySem.W.nsIn K mainGlobals "_law_read" = some (some (.ref f28)))
    (l28 : K.lookup f28 = some ⟨oc28, od28, .func (PySem.W.fnOf "_law_read" "_law_read" (defArgs s__law_read) (defBody s__law_read) (defScope s__law_read) .none kV28 dc28 pm28 an28 cd28 ct28), sl28⟩)
    (c28 : PySem.W.codeIn K cd28 "_law_read" = true)
    (k28 : PySem.W.keepIn K (.ref f28) = true)
    (a29 : PySem.W.nsIn K mainGlobals "_law_read_due" = some (some (.ref f29)))
    (l29 : K.lookup f29 = some ⟨oc29, od29, .func (PySem.W.fnOf "_law_read_due" "_law_read_due" (defArgs s__law_read_due) (defBody s__law_read_due) (defScope s__law_read_due) .none kV29 dc29 pm29 an29 cd29 ct29), sl29⟩)
    (c29 : PySem.W.codeIn K cd29 "_law_read_due" = true)
    (k29 : PySem.W.keepIn K (.ref f29) = true)
    {cL30 PL30 : Addr} {ce30 : Value} {cdd30 : Option Addr} {cvs30 : Array Value} {csl30 : Array (Option Value)}
    (a30 : PySem.W.nsIn K mainGlobals "_law_read_right" = some (some (.ref f30)))
    (l30 : K.lookup f30 = some ⟨oc30, od30, .func (PySem.W.fnOf "_law_read_right" "_law_read_right" (defArgs s__law_read_right) (defBody s__law_read_right) (defScope s__law_read_right) .none kV30 dc30 pm30 an30 (.ref cL30) ct30), sl30⟩)
    (c30 : PySem.W.codeIn K (.ref cL30) "_law_read_right" = true)
    (k30 : PySem.W.keepIn K (.ref f30) = true)
    (lc30 : K.lookup cL30 = some ⟨ce30, cdd30, .fields cvs30, csl30⟩)
    (vp30 : cvs30[11]? = some (.ref PL30))
    (np30 : K.lookup PL30 = none)
    (hh30 : PySem.W.codeHdIn K cL30 PL30 = true)
    (a31 : PySem.W.nsIn K mainGlobals "_law_spoilt" = some (some (.ref f31)))
    (l31 : K.lookup f31 = some ⟨oc31, od31, .func (PySem.W.fnOf "_law_spoilt" "_law_spoilt" (defArgs s__law_spoilt) (defBody s__law_spoilt) (defScope s__law_spoilt) .none kV31 dc31 pm31 an31 cd31 ct31), sl31⟩)
    (c31 : PySem.W.codeIn K cd31 "_law_spoilt" = true)
    (k31 : PySem.W.keepIn K (.ref f31) = true)
    (a32 : PySem.W.nsIn K mainGlobals "_law_loose" = some (some (.ref f32)))
    (l32 : K.lookup f32 = some ⟨oc32, od32, .func (PySem.W.fnOf "_law_loose" "_law_loose" (defArgs s__law_loose) (defBody s__law_loose) (defScope s__law_loose) .none kV32 dc32 pm32 an32 cd32 ct32), sl32⟩)
    (c32 : PySem.W.codeIn K cd32 "_law_loose" = true)
    (k32 : PySem.W.keepIn K (.ref f32) = true)
    (a33 : PySem.W.nsIn K mainGlobals "_law_brackets" = some (some (.ref f33)))
    (l33 : K.lookup f33 = some ⟨oc33, od33, .func (PySem.W.fnOf "_law_brackets" "_law_brackets" (defArgs s__law_brackets) (defBody s__law_brackets) (defScope s__law_brackets) .none kV33 dc33 pm33 an33 cd33 ct33), sl33⟩)
    (c33 : PySem.W.codeIn K cd33 "_law_brackets" = true)
    (k33 : PySem.W.keepIn K (.ref f33) = true)
    (a34 : PySem.W.nsIn K mainGlobals "law" = some (some (.ref f34)))
    (l34 : K.lookup f34 = some ⟨oc34, od34, .func (PySem.W.fnOf "law" "law" (defArgs s_law) (defBody s_law) (defScope s_law) .none kV34 dc34 pm34 an34 cd34 ct34), sl34⟩)
    (c34 : PySem.W.codeIn K cd34 "law" = true)
    (k34 : PySem.W.keepIn K (.ref f34) = true)
    (a35 : PySem.W.findIn K (.ref C_Scan) "__init__" = some (some (.ref f35)))
    (i35 : PySem.W.isFn K (.ref f35) = true)
    (l35 : K.lookup f35 = some ⟨oc35, od35, .func (PySem.W.fnOf "__init__" "Scan.__init__" (defArgs s_Scan___init__) (defBody s_Scan___init__) (defScope s_Scan___init__) .none kV35 dc35 pm35 an35 cd35 ct35), sl35⟩)
    (c35 : PySem.W.codeIn K cd35 "Scan.__init__" = true)
    (k35 : PySem.W.keepIn K (.ref f35) = true)
    (a36 : PySem.W.findIn K (.ref C_Scan) "seen" = some (some (.ref f36)))
    (i36 : PySem.W.isFn K (.ref f36) = true)
    (l36 : K.lookup f36 = some ⟨oc36, od36, .func (PySem.W.fnOf "seen" "Scan.seen" (defArgs s_Scan_seen) (defBody s_Scan_seen) (defScope s_Scan_seen) .none kV36 dc36 pm36 an36 cd36 ct36), sl36⟩)
    (c36 : PySem.W.codeIn K cd36 "Scan.seen" = true)
    (k36 : PySem.W.keepIn K (.ref f36) = true)
    (a37 : PySem.W.findIn K (.ref C_Scan) "is_done" = some (some (.ref f37)))
    (i37 : PySem.W.isFn K (.ref f37) = true)
    (l37 : K.lookup f37 = some ⟨oc37, od37, .func (PySem.W.fnOf "is_done" "Scan.is_done" (defArgs s_Scan_is_done) (defBody s_Scan_is_done) (defScope s_Scan_is_done) .none kV37 dc37 pm37 an37 cd37 ct37), sl37⟩)
    (c37 : PySem.W.codeIn K cd37 "Scan.is_done" = true)
    (k37 : PySem.W.keepIn K (.ref f37) = true)
    (a38 : PySem.W.findIn K (.ref C_Scan) "skip" = some (some (.ref f38)))
    (i38 : PySem.W.isFn K (.ref f38) = true)
    (l38 : K.lookup f38 = some ⟨oc38, od38, .func (PySem.W.fnOf "skip" "Scan.skip" (defArgs s_Scan_skip) (defBody s_Scan_skip) (defScope s_Scan_skip) .none kV38 dc38 pm38 an38 cd38 ct38), sl38⟩)
    (c38 : PySem.W.codeIn K cd38 "Scan.skip" = true)
    (k38 : PySem.W.keepIn K (.ref f38) = true)
    (a39 : PySem.W.findIn K (.ref C_Scan) "sees" = some (some (.ref f39)))
    (i39 : PySem.W.isFn K (.ref f39) = true)
    (l39 : K.lookup f39 = some ⟨oc39, od39, .func (PySem.W.fnOf "sees" "Scan.sees" (defArgs s_Scan_sees) (defBody s_Scan_sees) (defScope s_Scan_sees) .none kV39 dc39 pm39 an39 cd39 ct39), sl39⟩)
    (c39 : PySem.W.codeIn K cd39 "Scan.sees" = true)
    (k39 : PySem.W.keepIn K (.ref f39) = true)
    (a40 : PySem.W.findIn K (.ref C_Scan) "need" = some (some (.ref f40)))
    (i40 : PySem.W.isFn K (.ref f40) = true)
    (l40 : K.lookup f40 = some ⟨oc40, od40, .func (PySem.W.fnOf "need" "Scan.need" (defArgs s_Scan_need) (defBody s_Scan_need) (defScope s_Scan_need) .none kV40 dc40 pm40 an40 cd40 ct40), sl40⟩)
    (c40 : PySem.W.codeIn K cd40 "Scan.need" = true)
    (k40 : PySem.W.keepIn K (.ref f40) = true)
    (a41 : PySem.W.findIn K (.ref C_Scan) "take_name" = some (some (.ref f41)))
    (i41 : PySem.W.isFn K (.ref f41) = true)
    (l41 : K.lookup f41 = some ⟨oc41, od41, .func (PySem.W.fnOf "take_name" "Scan.take_name" (defArgs s_Scan_take_name) (defBody s_Scan_take_name) (defScope s_Scan_take_name) .none kV41 dc41 pm41 an41 cd41 ct41), sl41⟩)
    (c41 : PySem.W.codeIn K cd41 "Scan.take_name" = true)
    (k41 : PySem.W.keepIn K (.ref f41) = true)
    (e_BadValue : ∃ C fI, OwnErr l.prog K mg "BadValue" "value" C fI)
    (e_NotAText : ∃ C fI, OwnErr l.prog K mg "NotAText" "at" C fI)
    (e_TooDeep : ∃ C fI, OwnErr l.prog K mg "TooDeep" "most" C fI)
    (e_TooMany : ∃ C fI, OwnErr l.prog K mg "TooMany" "most" C fI)
    (n_NotAText_BadValue : Miss K mg "NotAText" "BadValue")
    (n_TooDeep_BadValue : Miss K mg "TooDeep" "BadValue")
    (n_TooDeep_NotAText : Miss K mg "TooDeep" "NotAText")
    (n_TooMany_BadValue : Miss K mg "TooMany" "BadValue")
    (n_TooMany_NotAText : Miss K mg "TooMany" "NotAText")
    (n_TooMany_TooDeep : Miss K mg "TooMany" "TooDeep")
    (i_MARKS : GlobT K mg "MARKS" ["*", "|", "&", "+"])
    {t1 : Tok}
    {t2 : Tok}
    {t3 : Tok}
    {t4 : Tok}
    {q5 : Addr} {qo5 : Option Addr} {qn5 : Nat} {qs5 : Array (Option Value)} (hq5 : K.lookup q5 = some ⟨.type "tuple", qo5, .seq #[(.str "both" t1), (.str "between" t2), (.str "offered" t3), (.str "chosen" t4)] qn5, qs5⟩)
    (g_HALVED_WORDS : PySem.W.nsIn K mainGlobals "HALVED_WORDS" = some (some (.ref q5)))
    {t6 : Tok}
    {t7 : Tok}
    {q8 : Addr} {qo8 : Option Addr} {qn8 : Nat} {qs8 : Array (Option Value)} (hq8 : K.lookup q8 = some ⟨.type "tuple", qo8, .seq #[(.str "good" t6), (.str "counter" t7)] qn8, qs8⟩)
    (g_LEAF_WORDS : PySem.W.nsIn K mainGlobals "LEAF_WORDS" = some (some (.ref q8)))
    {t9 : Tok}
    (g_LETTERS : PySem.W.nsIn K mainGlobals "LETTERS" = some (some (.str "abcdefghijklmnopqrstuvwxyz" t9)))
    {t10 : Tok}
    {t11 : Tok}
    {t12 : Tok}
    {t13 : Tok}
    {q14 : Addr} {qo14 : Option Addr} {qn14 : Nat} {qs14 : Array (Option Value)} (hq14 : K.lookup q14 = some ⟨.type "tuple", qo14, .seq #[(.str "*" t10), (.str "|" t11), (.str "&" t12), (.str "+" t13)] qn14, qs14⟩)
    (g_MARKS : PySem.W.nsIn K mainGlobals "MARKS" = some (some (.ref q14)))
    {t15 : Tok}
    (g_MOST_DEPTH : PySem.W.nsIn K mainGlobals "MOST_DEPTH" = some (some (.int 12 t15)))
    {t16 : Tok}
    (g_MOST_LEAVES : PySem.W.nsIn K mainGlobals "MOST_LEAVES" = some (some (.int 40 t16)))
    {t17 : Tok}
    (g_MOST_SIGNS : PySem.W.nsIn K mainGlobals "MOST_SIGNS" = some (some (.int 12 t17)))
    {t18 : Tok}
    (g_SIGNS : PySem.W.nsIn K mainGlobals "SIGNS" = some (some (.str "abcdefghijklmnopqrstuvwxyz0123456789" t18)))
    (z_abs : PySem.W.nsIn K mainGlobals "abs" = some none)
    (z_all : PySem.W.nsIn K mainGlobals "all" = some none)
    (z_bool : PySem.W.nsIn K mainGlobals "bool" = some none)
    (z_enumerate : PySem.W.nsIn K mainGlobals "enumerate" = some none)
    (z_int : PySem.W.nsIn K mainGlobals "int" = some none)
    (z_isinstance : PySem.W.nsIn K mainGlobals "isinstance" = some none)
    (z_len : PySem.W.nsIn K mainGlobals "len" = some none)
    (z_list : PySem.W.nsIn K mainGlobals "list" = some none)
    (z_max : PySem.W.nsIn K mainGlobals "max" = some none)
    (z_min : PySem.W.nsIn K mainGlobals "min" = some none)
    (z_range : PySem.W.nsIn K mainGlobals "range" = some none)
    (z_str : PySem.W.nsIn K mainGlobals "str" = some none)
    (z_sum : PySem.W.nsIn K mainGlobals "sum" = some none)
    (z_tuple : PySem.W.nsIn K mainGlobals "tuple" = some none)
    (z_zip : PySem.W.nsIn K mainGlobals "zip" = some none)
    : LamX.LawAtS l w K (L2.CX l.prog w) 100 63 "_law_script" mg fa h := by
  have e := hfa.symm.trans (PySem.W.mg_of X G a34)
  cases e
  have T : Tx l.prog K mg := ⟨e_BadValue, e_NotAText, e_TooDeep, e_TooMany, n_NotAText_BadValue, n_TooDeep_BadValue, n_TooDeep_NotAText, n_TooMany_BadValue, n_TooMany_NotAText, n_TooMany_TooDeep, i_MARKS, cls_mk X G aC_Scan ⟨pg_Scan, hd_Scan, po_Scan, sa_Scan⟩ (al_cons (noat na_Scan_string) (al_cons (noat na_Scan_place) al_nil)), glob_kd X G g_HALVED_WORDS (.tup hq5 (by show 4 ≤ sizeLine; rw [sizeLine_eq]; decide) (.cons (.str _ _) (.cons (.str _ _) (.cons (.str _ _) (.cons (.str _ _) .nil))))), glob_kd X G g_LEAF_WORDS (.tup hq8 (by show 2 ≤ sizeLine; rw [sizeLine_eq]; decide) (.cons (.str _ _) (.cons (.str _ _) .nil))), glob_kd X G g_LETTERS (.str _ _), glob_kd X G g_MARKS (.tup hq14 (by show 4 ≤ sizeLine; rw [sizeLine_eq]; decide) (.cons (.str _ _) (.cons (.str _ _) (.cons (.str _ _) (.cons (.str _ _) .nil))))), glob_kd X G g_MOST_DEPTH (.int _ _), glob_kd X G g_MOST_LEAVES (.int _ _), glob_kd X G g_MOST_SIGNS (.int _ _), glob_kd X G g_SIGNS (.str _ _), PySem.W.mg_none_of X G z_abs, PySem.W.mg_none_of X G z_all, PySem.W.mg_none_of X G z_bool, PySem.W.mg_none_of X G z_enumerate, PySem.W.mg_none_of X G z_int, PySem.W.mg_none_of X G z_isinstance, PySem.W.mg_none_of X G z_len, PySem.W.mg_none_of X G z_list, PySem.W.mg_none_of X G z_max, PySem.W.mg_none_of X G z_min, PySem.W.mg_none_of X G z_range, PySem.W.mg_none_of X G z_str, PySem.W.mg_none_of X G z_sum, PySem.W.mg_none_of X G z_tuple, PySem.W.mg_none_of X G z_zip⟩
  have F0 := fun_mk (st := s_need_any_string) l0 c0 k0
  have b0 := F0.binds (ps := ["value"]) fun _ _ _ _ _ _ us hl => match us, hl with | [_], _ => rfl
  have m0 := PySem.W.mg_of X G a0
  have F1 := fun_mk (st := s_is_leaf) l1 c1 k1
  have b1 := F1.binds (ps := ["form"]) fun _ _ _ _ _ _ us hl => match us, hl with | [_], _ => rfl
  have m1 := PySem.W.mg_of X G a1
  have F2 := fun_mk (st := s_leaf_read) l2 c2 k2
  have b2 := F2.binds (ps := ["scan"]) fun _ _ _ _ _ _ us hl => match us, hl with | [_], _ => rfl
  have m2 := PySem.W.mg_of X G a2
  have F3 := fun_mk (st := s_form_read) l3 c3 k3
  have b3 := F3.binds (ps := ["scan"]) fun _ _ _ _ _ _ us hl => match us, hl with | [_], _ => rfl
  have m3 := PySem.W.mg_of X G a3
  have F4 := fun_mk (st := s_need_depth) l4 c4 k4
  have b4 := F4.binds (ps := ["many"]) fun _ _ _ _ _ _ us hl => match us, hl with | [_], _ => rfl
  have m4 := PySem.W.mg_of X G a4
  have F5 := fun_mk (st := s_read_form) l5 c5 k5
  have b5 := F5.binds (ps := ["text"]) fun _ _ _ _ _ _ us hl => match us, hl with | [_], _ => rfl
  have m5 := PySem.W.mg_of X G a5
  have F6 := fun_mk (st := s_leaves_in) l6 c6 k6
  have b6 := F6.binds (ps := ["form"]) fun _ _ _ _ _ _ us hl => match us, hl with | [_], _ => rfl
  have m6 := PySem.W.mg_of X G a6
  have F7 := fun_mk (st := s_ends_read) l7 c7 k7
  have b7 := F7.binds (ps := ["scan"]) fun _ _ _ _ _ _ us hl => match us, hl with | [_], _ => rfl
  have m7 := PySem.W.mg_of X G a7
  have F8 := fun_mk (st := s_ends_from) l8 c8 k8
  have b8 := F8.binds (ps := ["told"]) fun _ _ _ _ _ _ us hl => match us, hl with | [_], _ => rfl
  have m8 := PySem.W.mg_of X G a8
  have F9 := fun_mk (st := s_read_ends) l9 c9 k9
  have b9 := F9.binds (ps := ["text"]) fun _ _ _ _ _ _ us hl => match us, hl with | [_], _ => rfl
  have m9 := PySem.W.mg_of X G a9
  have F10 := fun_mk (st := s__law_begin) l10 c10 k10
  have b10 := F10.binds (ps := ["_law_script"]) fun _ _ _ _ _ _ us hl => match us, hl with | [_], _ => rfl
  have m10 := PySem.W.mg_of X G a10
  have F11 := fun_mk (st := s__law_draw) l11 c11 k11
  have b11 := F11.binds (ps := ["_law_pen", "_law_span"]) fun _ _ _ _ _ _ us hl => match us, hl with | [_, _], _ => rfl
  have m11 := PySem.W.mg_of X G a11
  have F12 := fun_mk (st := s__law_pick) l12 c12 k12
  have b12 := F12.binds (ps := ["_law_pen", "_law_some"]) fun _ _ _ _ _ _ us hl => match us, hl with | [_, _], _ => rfl
  have m12 := PySem.W.mg_of X G a12
  have F13 := fun_mk (st := s__law_leaves) l13 c13 k13
  have b13 := F13.binds (ps := ["_law_form"]) fun _ _ _ _ _ _ us hl => match us, hl with | [_], _ => rfl
  have m13 := PySem.W.mg_of X G a13
  have F14 := fun_mk (st := s__law_leaf_many) l14 c14 k14
  have b14 := F14.binds (ps := ["_law_ends"]) fun _ _ _ _ _ _ us hl => match us, hl with | [_], _ => rfl
  have m14 := PySem.W.mg_of X G a14
  have F15 := fun_mk (st := s__law_same) l15 c15 k15
  have b15 := F15.binds (ps := ["_law_told", "_law_due"]) fun _ _ _ _ _ _ us hl => match us, hl with | [_, _], _ => rfl
  have m15 := PySem.W.mg_of X G a15
  have F16 := fun_mk (st := s__law_fault) l16 c16 k16
  have b16 := F16.binds (ps := ["_law_deed"]) fun _ _ _ _ _ _ us hl => match us, hl with | [_], _ => rfl
  have m16 := PySem.W.mg_of X G a16
  have F17 := fun_mk (st := s__law_faults) l17 c17 k17
  have b17 := F17.binds (ps := ["_law_deed", "_law_due"]) fun _ _ _ _ _ _ us hl => match us, hl with | [_, _], _ => rfl
  have m17 := PySem.W.mg_of X G a17
  have F18 := fun_mk (st := s__law_name) l18 c18 k18
  have b18 := F18.binds (ps := ["_law_pen"]) fun _ _ _ _ _ _ us hl => match us, hl with | [_], _ => rfl
  have m18 := PySem.W.mg_of X G a18
  have F19 := fun_mk (st := s__law_names) l19 c19 k19
  have b19 := F19.binds (ps := ["_law_pen", "_law_most"]) fun _ _ _ _ _ _ us hl => match us, hl with | [_, _], _ => rfl
  have m19 := PySem.W.mg_of X G a19
  have F20 := fun_mk (st := s__law_shape) l20 c20 k20
  have b20 := F20.binds (ps := ["_law_pen", "_law_names_here", "_law_many", "_law_tall"]) fun _ _ _ _ _ _ us hl => match us, hl with | [_, _, _, _], _ => rfl
  have m20 := PySem.W.mg_of X G a20
  have F21 := fun_mk (st := s__law_unforked) l21 c21 k21
  have b21 := F21.binds (ps := ["_law_form", "_law_branches"]) fun _ _ _ _ _ _ us hl => match us, hl with | [_, _], _ => rfl
  have m21 := PySem.W.mg_of X G a21
  have F22 := fun_mk (st := s__law_some_ends) l22 c22 k22
  have b22 := F22.binds (ps := ["_law_pen", "_law_most", "_law_branches"]) fun _ _ _ _ _ _ us hl => match us, hl with | [_, _, _], _ => rfl
  have m22 := PySem.W.mg_of X G a22
  have F23 := fun_mk (st := s__law_tokens) l23 c23 k23
  have b23 := F23.binds (ps := ["_law_form", "_law_is_half"]) fun _ _ _ _ _ _ us hl => match us, hl with | [_, _], _ => rfl
  have m23 := PySem.W.mg_of X G a23
  have F24 := fun_mk (st := s__law_spaced) l24 c24 k24
  have b24 := F24.binds (ps := ["_law_pen", "_law_tokens_here"]) fun _ _ _ _ _ _ us hl => match us, hl with | [_, _], _ => rfl
  have m24 := PySem.W.mg_of X G a24
  have F25 := fun_mk (st := s__law_ends_tokens) l25 c25 k25
  have b25 := F25.binds (ps := ["_law_ends"]) fun _ _ _ _ _ _ us hl => match us, hl with | [_], _ => rfl
  have m25 := PySem.W.mg_of X G a25
  have F26 := fun_mk (st := s__law_longest) l26 c26 k26
  have b26 := F26.binds (ps := ["_law_text", "_law_is_row"]) fun _ _ _ _ _ _ us hl => match us, hl with | [_, _], _ => rfl
  have m26 := PySem.W.mg_of X G a26
  have F27 := fun_mk (st := s__law_folded) l27 c27 k27
  have b27 := F27.binds (ps := ["_law_level"]) fun _ _ _ _ _ _ us hl => match us, hl with | [_], _ => rfl
  have m27 := PySem.W.mg_of X G a27
  have F28 := fun_mk (st := s__law_read) l28 c28 k28
  have b28 := F28.binds (ps := ["_law_text"]) fun _ _ _ _ _ _ us hl => match us, hl with | [_], _ => rfl
  have m28 := PySem.W.mg_of X G a28
  have F29 := fun_mk (st := s__law_read_due) l29 c29 k29
  have b29 := F29.binds (ps := ["_law_text", "_law_is_row"]) fun _ _ _ _ _ _ us hl => match us, hl with | [_, _], _ => rfl
  have m29 := PySem.W.mg_of X G a29
  have F30 := fun_mk (st := s__law_read_right) l30 c30 k30
  have b30 := F30.binds (ps := ["_law_text"]) fun _ _ _ _ _ _ us hl => match us, hl with | [_], _ => rfl
  have m30 := PySem.W.mg_of X G a30
  have F31 := fun_mk (st := s__law_spoilt) l31 c31 k31
  have b31 := F31.binds (ps := ["_law_pen", "_law_text"]) fun _ _ _ _ _ _ us hl => match us, hl with | [_, _], _ => rfl
  have m31 := PySem.W.mg_of X G a31
  have F32 := fun_mk (st := s__law_loose) l32 c32 k32
  have b32 := F32.binds (ps := ["_law_pen"]) fun _ _ _ _ _ _ us hl => match us, hl with | [_], _ => rfl
  have m32 := PySem.W.mg_of X G a32
  have F33 := fun_mk (st := s__law_brackets) l33 c33 k33
  have b33 := F33.binds (ps := ["_law_pen"]) fun _ _ _ _ _ _ us hl => match us, hl with | [_], _ => rfl
  have m33 := PySem.W.mg_of X G a33
  have F34 := fun_mk (st := s_law) l34 c34 k34
  have m34 := PySem.W.mg_of X G a34
  have F35 := fun_mk (st := s_Scan___init__) l35 c35 k35
  have b35 := F35.binds (ps := ["self", "string"]) fun _ _ _ _ _ _ us hl => match us, hl with | [_, _], _ => rfl
  have F36 := fun_mk (st := s_Scan_seen) l36 c36 k36
  have b36 := F36.binds (ps := ["self"]) fun _ _ _ _ _ _ us hl => match us, hl with | [_], _ => rfl
  have F37 := fun_mk (st := s_Scan_is_done) l37 c37 k37
  have b37 := F37.binds (ps := ["self"]) fun _ _ _ _ _ _ us hl => match us, hl with | [_], _ => rfl
  have F38 := fun_mk (st := s_Scan_skip) l38 c38 k38
  have b38 := F38.binds (ps := ["self"]) fun _ _ _ _ _ _ us hl => match us, hl with | [_], _ => rfl
  have F39 := fun_mk (st := s_Scan_sees) l39 c39 k39
  have b39 := F39.binds (ps := ["self", "sign"]) fun _ _ _ _ _ _ us hl => match us, hl with | [_, _], _ => rfl
  have F40 := fun_mk (st := s_Scan_need) l40 c40 k40
  have b40 := F40.binds (ps := ["self", "sign"]) fun _ _ _ _ _ _ us hl => match us, hl with | [_, _], _ => rfl
  have F41 := fun_mk (st := s_Scan_take_name) l41 c41 k41
  have b41 := F41.binds (ps := ["self"]) fun _ _ _ _ _ _ us hl => match us, hl with | [_], _ => rfl
  refine ⟨PySem.W.fnOf "law" "law" (defArgs s_law) (defBody s_law) (defScope s_law) .none kV34 dc34 pm34 an34 cd34 ct34, [(cL30, PL30)], spLaw K [(PL30, ("_law_read_right" : Str) ++ ".<locals>." ++ "<lambda>")], (al_cons (own_at (OT _ List.mem_cons_self _ m30) l30 rfl lc30 vp30) al_nil), (al_cons (np30) al_nil), (al_cons (PySem.W.codeHd_of_K X hh30) al_nil), fun s v => .of_eq rfl, fun H a ns hl _ hH _ => ⟨a, ns, rfl, by assumption, hl, tabs_all [(cL30, PL30)] [(PL30, ("_law_read_right" : Str) ++ ".<locals>." ++ "<lambda>")] rfl hH, fun _ => rfl⟩, fun base _ _ TB => ?_⟩
  have D11 := fn__law_draw (P := l.prog) (w := w) (Tb := [(PL30, ("_law_read_right" : Str) ++ ".<locals>." ++ "<lambda>")]) (base := base) F11 m11 b11 T
  have D0 := fn_need_any_string (P := l.prog) (w := w) (Tb := [(PL30, ("_law_read_right" : Str) ++ ".<locals>." ++ "<lambda>")]) (base := base) F0 m0 b0 T
  have D1 := fn_is_leaf (P := l.prog) (w := w) (Tb := [(PL30, ("_law_read_right" : Str) ++ ".<locals>." ++ "<lambda>")]) (base := base) F1 m1 b1 T
  have D36 := fn_Scan_seen (P := l.prog) (w := w) (Tb := [(PL30, ("_law_read_right" : Str) ++ ".<locals>." ++ "<lambda>")]) (base := base) F36 (PySem.W.mg_of X G aC_Scan) ⟨pg_Scan, hd_Scan, po_Scan, sa_Scan⟩ ⟨a36, i36, k36⟩ b36 T
  have D39 := fn_Scan_sees (P := l.prog) (w := w) (Tb := [(PL30, ("_law_read_right" : Str) ++ ".<locals>." ++ "<lambda>")]) (base := base) F39 (PySem.W.mg_of X G aC_Scan) ⟨pg_Scan, hd_Scan, po_Scan, sa_Scan⟩ ⟨a39, i39, k39⟩ b39 T D36
  have D41 := fn_Scan_take_name (P := l.prog) (w := w) (Tb := [(PL30, ("_law_read_right" : Str) ++ ".<locals>." ++ "<lambda>")]) (base := base) F41 (PySem.W.mg_of X G aC_Scan) ⟨pg_Scan, hd_Scan, po_Scan, sa_Scan⟩ ⟨a41, i41, k41⟩ b41 T D36
  have D2 := fn_leaf_read (P := l.prog) (w := w) (Tb := [(PL30, ("_law_read_right" : Str) ++ ".<locals>." ++ "<lambda>")]) (base := base) F2 m2 b2 T D39 D41
  have D40 := fn_Scan_need (P := l.prog) (w := w) (Tb := [(PL30, ("_law_read_right" : Str) ++ ".<locals>." ++ "<lambda>")]) (base := base) F40 (PySem.W.mg_of X G aC_Scan) ⟨pg_Scan, hd_Scan, po_Scan, sa_Scan⟩ ⟨a40, i40, k40⟩ b40 T D39
  have D38 := fn_Scan_skip (P := l.prog) (w := w) (Tb := [(PL30, ("_law_read_right" : Str) ++ ".<locals>." ++ "<lambda>")]) (base := base) F38 (PySem.W.mg_of X G aC_Scan) ⟨pg_Scan, hd_Scan, po_Scan, sa_Scan⟩ ⟨a38, i38, k38⟩ b38 T D36
  have D3 := fn_form_read (P := l.prog) (w := w) (Tb := [(PL30, ("_law_read_right" : Str) ++ ".<locals>." ++ "<lambda>")]) (base := base) F3 m3 b3 T D40 D36 D39 D38 D2
  have D4 := fn_need_depth (P := l.prog) (w := w) (Tb := [(PL30, ("_law_read_right" : Str) ++ ".<locals>." ++ "<lambda>")]) (base := base) F4 m4 b4 T
  have D35 := fn_Scan___init__ (P := l.prog) (w := w) (Tb := [(PL30, ("_law_read_right" : Str) ++ ".<locals>." ++ "<lambda>")]) (base := base) F35 (PySem.W.mg_of X G aC_Scan) ⟨mk_Scan, a35, i35, kc_Scan⟩ b35 T
  have D37 := fn_Scan_is_done (P := l.prog) (w := w) (Tb := [(PL30, ("_law_read_right" : Str) ++ ".<locals>." ++ "<lambda>")]) (base := base) F37 (PySem.W.mg_of X G aC_Scan) ⟨pg_Scan, hd_Scan, po_Scan, sa_Scan⟩ ⟨a37, i37, k37⟩ b37 T
  have D5 := fn_read_form (P := l.prog) (w := w) (Tb := [(PL30, ("_law_read_right" : Str) ++ ".<locals>." ++ "<lambda>")]) (base := base) F5 m5 b5 T D35 D37 D38 D3 D0 D4
  have D6 := fn_leaves_in (P := l.prog) (w := w) (Tb := [(PL30, ("_law_read_right" : Str) ++ ".<locals>." ++ "<lambda>")]) (base := base) F6 m6 b6 T D1
  have D7 := fn_ends_read (P := l.prog) (w := w) (Tb := [(PL30, ("_law_read_right" : Str) ++ ".<locals>." ++ "<lambda>")]) (base := base) F7 m7 b7 T D39 D38 D3
  have D8 := fn_ends_from (P := l.prog) (w := w) (Tb := [(PL30, ("_law_read_right" : Str) ++ ".<locals>." ++ "<lambda>")]) (base := base) F8 m8 b8 T D6 D4
  have D9 := fn_read_ends (P := l.prog) (w := w) (Tb := [(PL30, ("_law_read_right" : Str) ++ ".<locals>." ++ "<lambda>")]) (base := base) F9 m9 b9 T D35 D37 D8 D7 D0
  have D12 := fn__law_pick (P := l.prog) (w := w) (Tb := [(PL30, ("_law_read_right" : Str) ++ ".<locals>." ++ "<lambda>")]) (base := base) F12 m12 b12 T D11
  have D13 := fn__law_leaves (P := l.prog) (w := w) (Tb := [(PL30, ("_law_read_right" : Str) ++ ".<locals>." ++ "<lambda>")]) (base := base) F13 m13 b13 T
  have D14 := fn__law_leaf_many (P := l.prog) (w := w) (Tb := [(PL30, ("_law_read_right" : Str) ++ ".<locals>." ++ "<lambda>")]) (base := base) F14 m14 b14 T D13
  have D15 := fn__law_same (P := l.prog) (w := w) (Tb := [(PL30, ("_law_read_right" : Str) ++ ".<locals>." ++ "<lambda>")]) (base := base) F15 m15 b15 T
  have C16 := clo__law_fault (P := l.prog) (w := w) (Tb := [(PL30, ("_law_read_right" : Str) ++ ".<locals>." ++ "<lambda>")]) (base := base) F16 m16 b16 T
  have C17 := clo__law_faults (P := l.prog) (w := w) (Tb := [(PL30, ("_law_read_right" : Str) ++ ".<locals>." ++ "<lambda>")]) (base := base) F17 m17 b17 T D15 C16
  have D18 := fn__law_name (P := l.prog) (w := w) (Tb := [(PL30, ("_law_read_right" : Str) ++ ".<locals>." ++ "<lambda>")]) (base := base) F18 m18 b18 T D12
  have D19 := fn__law_names (P := l.prog) (w := w) (Tb := [(PL30, ("_law_read_right" : Str) ++ ".<locals>." ++ "<lambda>")]) (base := base) F19 m19 b19 T D11 D18
  have D20 := fn__law_shape (P := l.prog) (w := w) (Tb := [(PL30, ("_law_read_right" : Str) ++ ".<locals>." ++ "<lambda>")]) (base := base) F20 m20 b20 T D11 D12
  have D21 := fn__law_unforked (P := l.prog) (w := w) (Tb := [(PL30, ("_law_read_right" : Str) ++ ".<locals>." ++ "<lambda>")]) (base := base) F21 m21 b21 T
  have D22 := fn__law_some_ends (P := l.prog) (w := w) (Tb := [(PL30, ("_law_read_right" : Str) ++ ".<locals>." ++ "<lambda>")]) (base := base) F22 m22 b22 T D11 D19 D12 D20 D21
  have D23 := fn__law_tokens (P := l.prog) (w := w) (Tb := [(PL30, ("_law_read_right" : Str) ++ ".<locals>." ++ "<lambda>")]) (base := base) F23 m23 b23 T
  have D24 := fn__law_spaced (P := l.prog) (w := w) (Tb := [(PL30, ("_law_read_right" : Str) ++ ".<locals>." ++ "<lambda>")]) (base := base) F24 m24 b24 T D11 D12
  have D25 := fn__law_ends_tokens (P := l.prog) (w := w) (Tb := [(PL30, ("_law_read_right" : Str) ++ ".<locals>." ++ "<lambda>")]) (base := base) F25 m25 b25 T D23
  have D26 := fn__law_longest (P := l.prog) (w := w) (Tb := [(PL30, ("_law_read_right" : Str) ++ ".<locals>." ++ "<lambda>")]) (base := base) F26 m26 b26 T
  have D27 := fn__law_folded (P := l.prog) (w := w) (Tb := [(PL30, ("_law_read_right" : Str) ++ ".<locals>." ++ "<lambda>")]) (base := base) F27 m27 b27 T
  have D28 := fn__law_read (P := l.prog) (w := w) (Tb := [(PL30, ("_law_read_right" : Str) ++ ".<locals>." ++ "<lambda>")]) (base := base) F28 m28 b28 T D27
  have D29 := fn__law_read_due (P := l.prog) (w := w) (Tb := [(PL30, ("_law_read_right" : Str) ++ ".<locals>." ++ "<lambda>")]) (base := base) F29 m29 b29 T D14 D26 D28
  have D30 := fn__law_read_right (P := l.prog) (w := w) (Tb := [(PL30, ("_law_read_right" : Str) ++ ".<locals>." ++ "<lambda>")]) (base := base) F30 m30 b30 T D29 D15 D9 D5 C17 rfl (TB (cL30, PL30) List.mem_cons_self) List.mem_cons_self (al_cons (fun _ => rfl) al_nil)
  have D31 := fn__law_spoilt (P := l.prog) (w := w) (Tb := [(PL30, ("_law_read_right" : Str) ++ ".<locals>." ++ "<lambda>")]) (base := base) F31 m31 b31 T D11 D12
  have D32 := fn__law_loose (P := l.prog) (w := w) (Tb := [(PL30, ("_law_read_right" : Str) ++ ".<locals>." ++ "<lambda>")]) (base := base) F32 m32 b32 T D11 D12
  have D33 := fn__law_brackets (P := l.prog) (w := w) (Tb := [(PL30, ("_law_read_right" : Str) ++ ".<locals>." ++ "<lambda>")]) (base := base) F33 m33 b33 T D11 D12
  exact ok_law (Tb := [(PL30, ("_law_read_right" : Str) ++ ".<locals>." ++ "<lambda>")]) F34 F10 m10 b10 T D33 D25 D32 D30 D22 D24 D31 D23
end DL
open PySem PySem.W PyProof.Rows
set_option maxRecDepth 100000 in
set_option maxHeartbeats 0 in
theorem PySem.Challenge.cw_alldeeds_k05_whole_longest_beginnings_holds : PySem.Challenge.rw_alldeeds_k05_whole_longest_beginnings.Holds := by
  w_on; o_law; k_head; (case hw => w_witness2)
  k_fill
  refine DL.endXT (l := PySem.Challenge.rw_alldeeds_k05_whole_longest_beginnings) (n := 63) (k := 100) (x := "_law_script") ["_law_read_right"] rfl (by decide) (by decide) rfl ⟨rfl, by decide, by decide⟩ ?R (fun w h Y => by first | exact PySem.W.kIn_of Y | exact PySem.W.km_in_of Y) ?F
  case R => decide +kernel
  case F =>
    intro w mg fa h XQ KX hG hmg OT
    refine' DL.all_mk KX hG hmg OT ?aC_Scan ?pg_Scan ?hd_Scan ?po_Scan ?sa_Scan ?mk_Scan ?kc_Scan ?na_Scan_string ?na_Scan_place ?a0 ?l0 ?c0 ?k0 ?a1 ?l1 ?c1 ?k1 ?a2 ?l2 ?c2 ?k2 ?a3 ?l3 ?c3 ?k3 ?a4 ?l4 ?c4 ?k4 ?a5 ?l5 ?c5 ?k5 ?a6 ?l6 ?c6 ?k6 ?a7 ?l7 ?c7 ?k7 ?a8 ?l8 ?c8 ?k8 ?a9 ?l9 ?c9 ?k9 ?a10 ?l10 ?c10 ?k10 ?a11 ?l11 ?c11 ?k11 ?a12 ?l12 ?c12 ?k12 ?a13 ?l13 ?c13 ?k13 ?a14 ?l14 ?c14 ?k14 ?a15 ?l15 ?c15 ?k15 ?a16 ?l16 ?c16 ?k16 ?a17 ?l17 ?c17 ?k17 ?a18 ?l18 ?c18 ?k18 ?a19 ?l19 ?c19 ?k19 ?a20 ?l20 ?c20 ?k20 ?a21 ?l21 ?c21 ?k21 ?a22 ?l22 ?c22 ?k22 ?a23 ?l23 ?c23 ?k23 ?a24 ?l24 ?c24 ?k24 ?a25 ?l25 ?c25 ?k25 ?a26 ?l26 ?c26 ?k26 ?a27 ?l27 ?c27 ?k27 ?a28 ?l28 ?c28 ?k28 ?a29 ?l29 ?c29 ?k29 ?a30 ?l30 ?c30 ?k30 ?lc30 ?vp30 ?np30 ?hh30 ?a31 ?l31 ?c31 ?k31 ?a32 ?l32 ?c32 ?k32 ?a33 ?l33 ?c33 ?k33 ?a34 ?l34 ?c34 ?k34 ?a35 ?i35 ?l35 ?c35 ?k35 ?a36 ?i36 ?l36 ?c36 ?k36 ?a37 ?i37 ?l37 ?c37 ?k37 ?a38 ?i38 ?l38 ?c38 ?k38 ?a39 ?i39 ?l39 ?c39 ?k39 ?a40 ?i40 ?l40 ?c40 ?k40 ?a41 ?i41 ?l41 ?c41 ?k41 ?e_BadValue ?e_NotAText ?e_TooDeep ?e_TooMany ?n_NotAText_BadValue ?n_TooDeep_BadValue ?n_TooDeep_NotAText ?n_TooMany_BadValue ?n_TooMany_NotAText ?n_TooMany_TooDeep ?i_MARKS ?hq5 ?g_HALVED_WORDS ?hq8 ?g_LEAF_WORDS ?g_LETTERS ?hq14 ?g_MARKS ?g_MOST_DEPTH ?g_MOST_LEAVES ?g_MOST_SIGNS ?g_SIGNS ?z_abs ?z_all ?z_bool ?z_enumerate ?z_int ?z_isinstance ?z_len ?z_list ?z_max ?z_min ?z_range ?z_str ?z_sum ?z_tuple ?z_zip
    (case aC_Scan => k_is)
    (case pg_Scan => k_is)
    (case hd_Scan => k_is)
    (case po_Scan => k_is)
    (case sa_Scan => k_is)
    (case mk_Scan => k_is)
    (case kc_Scan => k_is)
    (case na_Scan_string => k_is)
    (case na_Scan_place => k_is)
    (case a0 => k_is)
    (case l0 => k_is)
    (case c0 => k_is)
    (case k0 => k_is)
    (case a1 => k_is)
    (case l1 => k_is)
    (case c1 => k_is)
    (case k1 => k_is)
    (case a2 => k_is)
    (case l2 => k_is)
    (case c2 => k_is)
    (case k2 => k_is)
    (case a3 => k_is)
    (case l3 => k_is)
    (case c3 => k_is)
    (case k3 => k_is)
    (case a4 => k_is)
    (case l4 => k_is)
    (case c4 => k_is)
    (case k4 => k_is)
    (case a5 => k_is)
    (case l5 => k_is)
    (case c5 => k_is)
    (case k5 => k_is)
    (case a6 => k_is)
    (case l6 => k_is)
    (case c6 => k_is)
    (case k6 => k_is)
    (case a7 => k_is)
    (case l7 => k_is)
    (case c7 => k_is)
    (case k7 => k_is)
    (case a8 => k_is)
    (case l8 => k_is)
    (case c8 => k_is)
    (case k8 => k_is)
    (case a9 => k_is)
    (case l9 => k_is)
    (case c9 => k_is)
    (case k9 => k_is)
    (case a10 => k_is)
    (case l10 => k_is)
    (case c10 => k_is)
    (case k10 => k_is)
    (case a11 => k_is)
    (case l11 => k_is)
    (case c11 => k_is)
    (case k11 => k_is)
    (case a12 => k_is)
    (case l12 => k_is)
    (case c12 => k_is)
    (case k12 => k_is)
    (case a13 => k_is)
    (case l13 => k_is)
    (case c13 => k_is)
    (case k13 => k_is)
    (case a14 => k_is)
    (case l14 => k_is)
    (case c14 => k_is)
    (case k14 => k_is)
    (case a15 => k_is)
    (case l15 => k_is)
    (case c15 => k_is)
    (case k15 => k_is)
    (case a16 => k_is)
    (case l16 => k_is)
    (case c16 => k_is)
    (case k16 => k_is)
    (case a17 => k_is)
    (case l17 => k_is)
    (case c17 => k_is)
    (case k17 => k_is)
    (case a18 => k_is)
    (case l18 => k_is)
    (case c18 => k_is)
    (case k18 => k_is)
    (case a19 => k_is)
    (case l19 => k_is)
    (case c19 => k_is)
    (case k19 => k_is)
    (case a20 => k_is)
    (case l20 => k_is)
    (case c20 => k_is)
    (case k20 => k_is)
    (case a21 => k_is)
    (case l21 => k_is)
    (case c21 => k_is)
    (case k21 => k_is)
    (case a22 => k_is)
    (case l22 => k_is)
    (case c22 => k_is)
    (case k22 => k_is)
    (case a23 => k_is)
    (case l23 => k_is)
    (case c23 => k_is)
    (case k23 => k_is)
    (case a24 => k_is)
    (case l24 => k_is)
    (case c24 => k_is)
    (case k24 => k_is)
    (case a25 => k_is)
    (case l25 => k_is)
    (case c25 => k_is)
    (case k25 => k_is)
    (case a26 => k_is)
    (case l26 => k_is)
    (case c26 => k_is)
    (case k26 => k_is)
    (case a27 => k_is)
    (case l27 => k_is)
    (case c27 => k_is)
    (case k27 => k_is)
    (case a28 => k_is)
    (case l28 => k_is)
    (case c28 => k_is)
    (case k28 => k_is)
    (case a29 => k_is)
    (case l29 => k_is)
    (case c29 => k_is)
    (case k29 => k_is)
    (case a30 => k_is)
    (case l30 => k_is)
    (case c30 => k_is)
    (case k30 => k_is)
    (case lc30 => k_is)
    (case vp30 => rfl)
    (case np30 => first | rfl | k_is)
    (case hh30 => first | rfl | kernel_rfl)
    (case a31 => k_is)
    (case l31 => k_is)
    (case c31 => k_is)
    (case k31 => k_is)
    (case a32 => k_is)
    (case l32 => k_is)
    (case c32 => k_is)
    (case k32 => k_is)
    (case a33 => k_is)
    (case l33 => k_is)
    (case c33 => k_is)
    (case k33 => k_is)
    (case a34 => k_is)
    (case l34 => k_is)
    (case c34 => k_is)
    (case k34 => k_is)
    (case a35 => k_is)
    (case i35 => k_is)
    (case l35 => k_is)
    (case c35 => k_is)
    (case k35 => k_is)
    (case a36 => k_is)
    (case i36 => k_is)
    (case l36 => k_is)
    (case c36 => k_is)
    (case k36 => k_is)
    (case a37 => k_is)
    (case i37 => k_is)
    (case l37 => k_is)
    (case c37 => k_is)
    (case k37 => k_is)
    (case a38 => k_is)
    (case i38 => k_is)
    (case l38 => k_is)
    (case c38 => k_is)
    (case k38 => k_is)
    (case a39 => k_is)
    (case i39 => k_is)
    (case l39 => k_is)
    (case c39 => k_is)
    (case k39 => k_is)
    (case a40 => k_is)
    (case i40 => k_is)
    (case l40 => k_is)
    (case c40 => k_is)
    (case k40 => k_is)
    (case a41 => k_is)
    (case i41 => k_is)
    (case l41 => k_is)
    (case c41 => k_is)
    (case k41 => k_is)
    case e_BadValue =>
      refine' DL.own_mk KX hG DL.fo_value DL.tE_BadValue ?aC ?cls ?rv ?sa ?ga ?gg ?noN ?iC ?tC ?kC ?exC ?tyC ?hdC ?isC ?sC ?sup ?top ?any ?ini ?ve ?xi ?mro ?l ?hcd ?lcd ?v2 ?ff ?lcc
      (case aC => k_is)
      (case cls => k_is)
      (case rv => first | rfl | decide +kernel)
      (case sa => k_is)
      (case ga => k_is)
      (case gg => k_is)
      (case noN => k_is)
      (case iC => k_is)
      (case tC => k_is)
      (case kC => k_is)
      (case exC => k_is)
      (case tyC => k_is)
      (case hdC => k_is)
      (case isC => k_is)
      (case sC => first | rfl | k_is)
      (case sup => k_is)
      (case top => first | rfl | decide +kernel)
      (case any => k_is)
      (case ini => ks_is)
      (case ve => k_is)
      (case xi => first | k_exc | rfl | kernel_rfl)
      (case mro => first | k_is | rfl)
      (case l => k_is)
      (case hcd => k_is)
      (case lcd => k_is)
      (case v2 => rfl)
      (case ff => first | rfl | decide +kernel)
      (case lcc => k_is)
    case e_NotAText =>
      refine' DL.own_mk KX hG DL.fo_at DL.tE_NotAText ?aC ?cls ?rv ?sa ?ga ?gg ?noN ?iC ?tC ?kC ?exC ?tyC ?hdC ?isC ?sC ?sup ?top ?any ?ini ?ve ?xi ?mro ?l ?hcd ?lcd ?v2 ?ff ?lcc
      (case aC => k_is)
      (case cls => k_is)
      (case rv => first | rfl | decide +kernel)
      (case sa => k_is)
      (case ga => k_is)
      (case gg => k_is)
      (case noN => k_is)
      (case iC => k_is)
      (case tC => k_is)
      (case kC => k_is)
      (case exC => k_is)
      (case tyC => k_is)
      (case hdC => k_is)
      (case isC => k_is)
      (case sC => first | rfl | k_is)
      (case sup => k_is)
      (case top => first | rfl | decide +kernel)
      (case any => k_is)
      (case ini => ks_is)
      (case ve => k_is)
      (case xi => first | k_exc | rfl | kernel_rfl)
      (case mro => first | k_is | rfl)
      (case l => k_is)
      (case hcd => k_is)
      (case lcd => k_is)
      (case v2 => rfl)
      (case ff => first | rfl | decide +kernel)
      (case lcc => k_is)
    case e_TooDeep =>
      refine' DL.own_mk KX hG DL.fo_most DL.tE_TooDeep ?aC ?cls ?rv ?sa ?ga ?gg ?noN ?iC ?tC ?kC ?exC ?tyC ?hdC ?isC ?sC ?sup ?top ?any ?ini ?ve ?xi ?mro ?l ?hcd ?lcd ?v2 ?ff ?lcc
      (case aC => k_is)
      (case cls => k_is)
      (case rv => first | rfl | decide +kernel)
      (case sa => k_is)
      (case ga => k_is)
      (case gg => k_is)
      (case noN => k_is)
      (case iC => k_is)
      (case tC => k_is)
      (case kC => k_is)
      (case exC => k_is)
      (case tyC => k_is)
      (case hdC => k_is)
      (case isC => k_is)
      (case sC => first | rfl | k_is)
      (case sup => k_is)
      (case top => first | rfl | decide +kernel)
      (case any => k_is)
      (case ini => ks_is)
      (case ve => k_is)
      (case xi => first | k_exc | rfl | kernel_rfl)
      (case mro => first | k_is | rfl)
      (case l => k_is)
      (case hcd => k_is)
      (case lcd => k_is)
      (case v2 => rfl)
      (case ff => first | rfl | decide +kernel)
      (case lcc => k_is)
    case e_TooMany =>
      refine' DL.own_mk KX hG DL.fo_most DL.tE_TooMany ?aC ?cls ?rv ?sa ?ga ?gg ?noN ?iC ?tC ?kC ?exC ?tyC ?hdC ?isC ?sC ?sup ?top ?any ?ini ?ve ?xi ?mro ?l ?hcd ?lcd ?v2 ?ff ?lcc
      (case aC => k_is)
      (case cls => k_is)
      (case rv => first | rfl | decide +kernel)
      (case sa => k_is)
      (case ga => k_is)
      (case gg => k_is)
      (case noN => k_is)
      (case iC => k_is)
      (case tC => k_is)
      (case kC => k_is)
      (case exC => k_is)
      (case tyC => k_is)
      (case hdC => k_is)
      (case isC => k_is)
      (case sC => first | rfl | k_is)
      (case sup => k_is)
      (case top => first | rfl | decide +kernel)
      (case any => k_is)
      (case ini => ks_is)
      (case ve => k_is)
      (case xi => first | k_exc | rfl | kernel_rfl)
      (case mro => first | k_is | rfl)
      (case l => k_is)
      (case hcd => k_is)
      (case lcd => k_is)
      (case v2 => rfl)
      (case ff => first | rfl | decide +kernel)
      (case lcc => k_is)
    case n_NotAText_BadValue =>
      refine' DL.miss_mk KX hG ?aB ?aA ?h1 ?h2 ?h3 ?h4
      (case aB => k_is)
      (case aA => k_is)
      (case h1 => k_is)
      (case h2 => k_is)
      (case h3 => k_is)
      (case h4 => first | k_is | rfl)
    case n_TooDeep_BadValue =>
      refine' DL.miss_mk KX hG ?aB ?aA ?h1 ?h2 ?h3 ?h4
      (case aB => k_is)
      (case aA => k_is)
      (case h1 => k_is)
      (case h2 => k_is)
      (case h3 => k_is)
      (case h4 => first | k_is | rfl)
    case n_TooDeep_NotAText =>
      refine' DL.miss_mk KX hG ?aB ?aA ?h1 ?h2 ?h3 ?h4
      (case aB => k_is)
      (case aA => k_is)
      (case h1 => k_is)
      (case h2 => k_is)
      (case h3 => k_is)
      (case h4 => first | k_is | rfl)
    case n_TooMany_BadValue =>
      refine' DL.miss_mk KX hG ?aB ?aA ?h1 ?h2 ?h3 ?h4
      (case aB => k_is)
      (case aA => k_is)
      (case h1 => k_is)
      (case h2 => k_is)
      (case h3 => k_is)
      (case h4 => first | k_is | rfl)
    case n_TooMany_NotAText =>
      refine' DL.miss_mk KX hG ?aB ?aA ?h1 ?h2 ?h3 ?h4
      (case aB => k_is)
      (case aA => k_is)
      (case h1 => k_is)
      (case h2 => k_is)
      (case h3 => k_is)
      (case h4 => first | k_is | rfl)
    case n_TooMany_TooDeep =>
      refine' DL.miss_mk KX hG ?aB ?aA ?h1 ?h2 ?h3 ?h4
      (case aB => k_is)
      (case aA => k_is)
      (case h1 => k_is)
      (case h2 => k_is)
      (case h3 => k_is)
      (case h4 => first | k_is | rfl)
    case i_MARKS =>
      refine' DL.globT_mk KX hG ?a ?l ?s ?v
      (case a => k_is)
      (case l => k_is)
      (case s => decide)
      (case v => exact (.cons ⟨_, rfl⟩ (.cons ⟨_, rfl⟩ (.cons ⟨_, rfl⟩ (.cons ⟨_, rfl⟩ .nil)))))
    (case g_HALVED_WORDS => k_is)
    (case g_LEAF_WORDS => k_is)
    (case g_LETTERS => k_is)
    (case g_MARKS => k_is)
    (case g_MOST_DEPTH => k_is)
    (case g_MOST_LEAVES => k_is)
    (case g_MOST_SIGNS => k_is)
    (case g_SIGNS => k_is)
    (case z_abs => k_is)
    (case z_all => k_is)
    (case z_bool => k_is)
    (case z_enumerate => k_is)
    (case z_int => k_is)
    (case z_isinstance => k_is)
    (case z_len => k_is)
    (case z_list => k_is)
    (case z_max => k_is)
    (case z_min => k_is)
    (case z_range => k_is)
    (case z_str => k_is)
    (case z_sum => k_is)
    (case z_tuple => k_is)
    (case z_zip => k_is)
    (case hq14 => k_is)
    (case hq8 => k_is)
    (case hq5 => k_is)
