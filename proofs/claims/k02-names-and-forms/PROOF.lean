import PyProof.Rows.All
import Wide.All
import OpenK.AllK
import Wide.FinOn
import HandS.ForMost
import HandS.ForExc
import HandS.Deep
import HandS.TupAny
import HandS.IsInst
import HandS.CallSlots
import HandS.Iter
import HandS.Zip
import HandS.Style
import PySem.Challenge.RW_alldeeds_k02_names_and_forms
set_option Elab.async false
set_option linter.all false
set_option maxHeartbeats 4000000
set_option maxRecDepth 100000
namespace DL
open PySem L2
/-! ### data -/
inductive D where
  | non | bl (b : Bool) | int (i : Int) | str (s : Str)
  | tup (ds : List D) | lst (ds : List D) | dct (es : List (Key × D)) | pen | ref (a : Addr)
/-- what an exception bears: its class and its own fields -/
structure Ex where
  cls : Addr
  fs : List (Str × D)
/-- the fixed things of a walk: the written part, the source of draws (its place, what holds of it behind c draws) -/
structure Yc where
  K : PySem.W.Frag
  p : Addr
  W : Hp → Nat → HO → Prop
  mono : ∀ G G' c o, Same G G' → W G c o → W G' c o
  more : ∀ G c c' o, c ≤ c' → W G c o → W G c' o
mutual
inductive Rep (Y : Yc) (G : Hp) : D → V → Prop
  | non : Rep Y G .non .non
  | bl (b : Bool) : Rep Y G (.bl b) (.bl b)
  | int (i : Int) : Rep Y G (.int i) (.int i)
  | str (s : Str) : Rep Y G (.str s) (.str s)
  | pen : Rep Y G .pen (.ref Y.p)
  | ref (a : Addr) : Rep Y G (.ref a) (.ref a)
  | tup {a : Addr} {xs : List V} {ds : List D} : SqT Y.K G a xs → Reps Y G ds xs → Rep Y G (.tup ds) (.ref a)
  | lst {a : Addr} {xs : List V} {ds : List D} : G a = some (.lst xs) → Reps Y G ds xs → Rep Y G (.lst ds) (.ref a)
  | dct {a : Addr} {kvs : List (Key × V)} {es : List (Key × D)} : G a = some (.dK kvs) → Repk Y G es kvs → Rep Y G (.dct es) (.ref a)
inductive Reps (Y : Yc) (G : Hp) : List D → List V → Prop
  | nil : Reps Y G [] []
  | cons {d : D} {v : V} {ds : List D} {vs : List V} : Rep Y G d v → Reps Y G ds vs → Reps Y G (d :: ds) (v :: vs)
inductive Repk (Y : Yc) (G : Hp) : List (Key × D) → List (Key × V) → Prop
  | nil : Repk Y G [] []
  | cons (k : Key) {d : D} {v : V} {ds : List (Key × D)} {vs : List (Key × V)} : Rep Y G d v → Repk Y G ds vs → Repk Y G ((k, d) :: ds) ((k, v) :: vs)
end
theorem sqT_mono {K : PySem.W.Frag} {G G' : Hp} {a : Addr} {xs : List V} (s : Same G G') (h : SqT K G a xs) : SqT K G' a xs := by
  rcases h with (h | ⟨o, h⟩) | h
  · exact .inl (.inl (s _ _ h))
  · exact .inl (.inr ⟨o, s _ _ h⟩)
  · exact .inr h
mutual
theorem Rep.mono {Y : Yc} {G G' : Hp} (s : Same G G') : ∀ {d : D} {v : V}, Rep Y G d v → Rep Y G' d v
  | _, _, .non => .non
  | _, _, .bl b => .bl b
  | _, _, .int i => .int i
  | _, _, .str x => .str x
  | _, _, .pen => .pen
  | _, _, .ref a => .ref a
  | _, _, .tup h r => .tup (sqT_mono s h) (Reps.mono s r)
  | _, _, .lst h r => .lst (s _ _ h) (Reps.mono s r)
  | _, _, .dct h r => .dct (s _ _ h) (Repk.mono s r)
theorem Reps.mono {Y : Yc} {G G' : Hp} (s : Same G G') : ∀ {d : List D} {v : List V}, Reps Y G d v → Reps Y G' d v
  | _, _, .nil => .nil
  | _, _, .cons h r => .cons (Rep.mono s h) (Reps.mono s r)
theorem Repk.mono {Y : Yc} {G G' : Hp} (s : Same G G') : ∀ {d : List (Key × D)} {v : List (Key × V)}, Repk Y G d v → Repk Y G' d v
  | _, _, .nil => .nil
  | _, _, .cons k h r => .cons k (Rep.mono s h) (Repk.mono s r)
end
theorem Reps.length {Y : Yc} {G : Hp} : ∀ {ds : List D} {vs : List V}, Reps Y G ds vs → ds.length = vs.length
  | _, _, .nil => rfl
  | _, _, .cons _ r => congrArg (· + 1) (Reps.length r)
theorem Reps.get {Y : Yc} {G : Hp} : ∀ {ds : List D} {vs : List V} {i : Nat} {d : D}, Reps Y G ds vs → ds[i]? = some d → ∃ v, vs[i]? = some v ∧ Rep Y G d v
  | _, _, i, d, .nil, e => by simp at e
  | _, _, 0, d, .cons h _, e => by simp at e; subst e; exact ⟨_, rfl, h⟩
  | _, _, i + 1, d, .cons _ r, e => Reps.get (i := i) r (by simpa using e)
theorem Reps.append {Y : Yc} {G : Hp} : ∀ {ds es : List D} {vs us : List V}, Reps Y G ds vs → Reps Y G es us → Reps Y G (ds ++ es) (vs ++ us)
  | _, _, _, _, .nil, s => s
  | _, _, _, _, .cons h r, s => .cons h (Reps.append r s)
theorem Reps.take {Y : Yc} {G : Hp} : ∀ {ds : List D} {vs : List V} (n : Nat), Reps Y G ds vs → Reps Y G (ds.take n) (vs.take n)
  | _, _, 0, _ => .nil
  | _, _, _ + 1, .nil => .nil
  | _, _, n + 1, .cons h r => .cons h (Reps.take n r)
theorem Reps.drop {Y : Yc} {G : Hp} : ∀ {ds : List D} {vs : List V} (n : Nat), Reps Y G ds vs → Reps Y G (ds.drop n) (vs.drop n)
  | _, _, 0, r => r
  | _, _, _ + 1, .nil => .nil
  | _, _, n + 1, .cons _ r => Reps.drop n r
theorem Reps.reverse {Y : Yc} {G : Hp} {ds : List D} {vs : List V} (r : Reps Y G ds vs) : Reps Y G ds.reverse vs.reverse := by
  induction ds generalizing vs with
  | nil => cases r; exact .nil
  | cons d ds ih =>
    cases r with
    | cons h r => rw [List.reverse_cons, List.reverse_cons]; exact (ih r).append (.cons h .nil)
/-! ### the state -/
/-- what an object that may still change holds -/
inductive MO where
  | lst (ds : List D)
  | dct (es : List (Key × D))
  | ins (C : Addr) (fs : List (Str × D))
abbrev Mu := Addr → Option MO
structure S where
  r : List (Option D)
  mu : Mu
  c : Nat
inductive RepF (Y : Yc) (G : Hp) : List (Str × D) → List (Str × V) → Prop
  | nil : RepF Y G [] []
  | cons (k : Str) {d : D} {v : V} {ds : List (Str × D)} {vs : List (Str × V)} : Rep Y G d v → RepF Y G ds vs → RepF Y G ((k, d) :: ds) ((k, v) :: vs)
theorem RepF.mono {Y : Yc} {G G' : Hp} (s : Same G G') {ds : List (Str × D)} {vs : List (Str × V)} (h : RepF Y G ds vs) : RepF Y G' ds vs := by
  induction h with
  | nil => exact .nil
  | cons k h _ ih => exact .cons k (h.mono s) ih
inductive RM (Y : Yc) (G : Hp) : MO → HO → Prop
  | lst {ds : List D} {vs : List V} : Reps Y G ds vs → RM Y G (.lst ds) (.lst vs)
  | dct {ds : List (Key × D)} {vs : List (Key × V)} : Repk Y G ds vs → RM Y G (.dct ds) (.dK vs)
  | ins {C dx : Addr} {ds : List (Str × D)} {vs : List (Str × V)} : RepF Y G ds vs → RM Y G (.ins C ds) (.ins C dx vs)
theorem RM.mono {Y : Yc} {G G' : Hp} (s : Same G G') {m : MO} {o : HO} (h : RM Y G m o) : RM Y G' m o := by
  cases h with
  | lst h => exact .lst (h.mono s)
  | dct h => exact .dct (h.mono s)
  | ins h => exact .ins (h.mono s)
structure R0 (Y : Yc) (G : Hp) (mu : Mu) (c : Nat) (H : Hp) : Prop where
  sub : Same G H
  mus : ∀ a m, mu a = some m → G a = none ∧ ∃ o, H a = some o ∧ RM Y G m o
  pen : ∃ o, H Y.p = some o ∧ Y.W G c o ∧ G Y.p = none ∧ mu Y.p = none
/-- the slots of a frame -/
def Sl (Y : Yc) (G : Hp) (r : List (Option D)) (σ : St) : Prop := r.length = σ.length ∧ ∀ (i : Nat) (d : D), r[i]? = some (some d) → ∃ v, σ[i]? = some (some v) ∧ Rep Y G d v
theorem Sl.mono {Y : Yc} {G G' : Hp} (s : Same G G') {r : List (Option D)} {σ : St} (h : Sl Y G r σ) : Sl Y G' r σ :=
  ⟨h.1, fun i d e => let ⟨v, e1, q⟩ := h.2 i d e; ⟨v, e1, q.mono s⟩⟩
theorem Sl.set {Y : Yc} {G : Hp} {r : List (Option D)} {σ : St} {d : D} {v : V} (h : Sl Y G r σ) (i : Nat) (q : Rep Y G d v) : Sl Y G (r.set i (some d)) (σ.set i (some v)) := by
  refine ⟨by simp [h.1], fun j e he => ?_⟩
  by_cases hj : i = j
  · subst hj
    by_cases hl : i < r.length
    · rw [List.getElem?_set_self hl] at he
      cases he
      exact ⟨v, by rw [List.getElem?_set_self (by rw [← h.1]; exact hl)], q⟩
    · rw [List.getElem?_eq_none (by simpa using hl)] at he
      cases he
  · rw [List.getElem?_set_ne hj] at he
    obtain ⟨u, e1, q1⟩ := h.2 j e he
    exact ⟨u, by rw [List.getElem?_set_ne hj]; exact e1, q1⟩
theorem Sl.start {Y : Yc} {G : Hp} {ds : List D} {vs : List V} (h : Reps Y G ds vs) (n : Nat) : Sl Y G (ds.map some ++ List.replicate n none) (vs.map some ++ List.replicate n none) := by
  refine ⟨by simp [h.length], fun i d e => ?_⟩
  by_cases hi : i < ds.length
  · rw [List.getElem?_append_left (by simpa using hi), List.getElem?_map] at e
    cases e2 : ds[i]? with
    | none => rw [e2] at e; cases e
    | some x =>
      rw [e2] at e
      cases e
      obtain ⟨v, e3, q⟩ := h.get e2
      refine ⟨v, ?_, q⟩
      rw [List.getElem?_append_left (by simpa [← h.length] using hi), List.getElem?_map, e3]
      rfl
  · rw [List.getElem?_append_right (by simpa using Nat.le_of_not_lt hi)] at e
    have := List.mem_of_getElem? e
    simp at this
structure R (Y : Yc) (G : Hp) (st : S) (σ : St) (H : Hp) : Prop where
  h : R0 Y G st.mu st.c H
  s : Sl Y G st.r σ
/-- what is not the walk's to change stands -/
def Frm (Y : Yc) (G : Hp) (mu : Mu) (H : Hp) (G' : Hp) (mu' : Mu) (H' : Hp) : Prop := ∀ a o, H a = some o → G a = none → mu a = none → a ≠ Y.p → H' a = some o ∧ G' a = none ∧ mu' a = none
theorem Frm.refl {Y : Yc} {G : Hp} {mu : Mu} {H : Hp} : Frm Y G mu H G mu H := fun _ _ h1 h2 h3 _ => ⟨h1, h2, h3⟩
theorem Frm.trans {Y : Yc} {G G1 G2 : Hp} {mu mu1 mu2 : Mu} {H H1 H2 : Hp} (f : Frm Y G mu H G1 mu1 H1) (g : Frm Y G1 mu1 H1 G2 mu2 H2) : Frm Y G mu H G2 mu2 H2 := fun a o h1 h2 h3 h4 =>
  let ⟨e1, e2, e3⟩ := f a o h1 h2 h3 h4
  g a o e1 e2 e3 h4
/-- a new object is laid -/
theorem same_upd {H : Hp} {q : Addr} {o : HO} (hq : H q = none) : Same H (upd H q o) := fun b x e => by
  rw [upd_ne (ne_of_none e hq)]
  exact e
theorem R0.new {Y : Yc} {G : Hp} {mu : Mu} {c : Nat} {H : Hp} (h : R0 Y G mu c H) {q : Addr} (hq : H q = none) (o : HO) : R0 Y (upd G q o) mu c (upd H q o) ∧ Same G (upd G q o) ∧ Same H (upd H q o) := by
  have hG : G q = none := h.sub.free hq
  have sG : Same G (upd G q o) := same_upd hG
  refine ⟨⟨fun b x e => ?_, fun a m e => ?_, ?_⟩, sG, same_upd hq⟩
  · by_cases hb : b = q
    · subst hb; rw [upd_same] at e ⊢; exact e
    · rw [upd_ne hb] at e ⊢; exact h.sub b x e
  · obtain ⟨h1, x, h2, h3⟩ := h.mus a m e
    have hn : a ≠ q := ne_of_none h2 hq
    exact ⟨by rw [upd_ne hn]; exact h1, x, by rw [upd_ne hn]; exact h2, h3.mono sG⟩
  · obtain ⟨x, h1, h2, h3, h4⟩ := h.pen
    have hn : Y.p ≠ q := ne_of_none h1 hq
    exact ⟨x, by rw [upd_ne hn]; exact h1, Y.mono _ _ _ _ sG h2, by rw [upd_ne hn]; exact h3, h4⟩
theorem Frm.new {Y : Yc} {G : Hp} {mu : Mu} {H : Hp} {q : Addr} {o o' : HO} (hq : H q = none) : Frm Y G mu H (upd G q o) mu (upd H q o') := fun a x h1 h2 h3 _ =>
  have n := ne_of_none h1 hq
  ⟨by rw [upd_ne n]; exact h1, by rw [upd_ne n]; exact h2, h3⟩
theorem Frm.add {Y : Yc} {G : Hp} {mu : Mu} {H : Hp} {q : Addr} {o' : HO} (hq : H q = none) : Frm Y G mu H G mu (upd H q o') := fun a x h1 h2 h3 _ =>
  have n := ne_of_none h1 hq
  ⟨by rw [upd_ne n]; exact h1, h2, h3⟩
/-! ### readings over data -/
abbrev PXT := Ex → S → Prop
abbrev ME := S → (D → S → Prop) → PXT → Prop
abbrev MT := S → (Bool → S → Prop) → PXT → Prop
abbrev MA := S → (List D → S → Prop) → PXT → Prop
structure DEnds where
  nx : S → Prop
  rt : D → S → Prop
  bk : S → Prop := fun _ => False
  ct : S → Prop := fun _ => False
abbrev MS := S → DEnds → PXT → Prop
/-- how an exception of the data shows -/
def RepX (Y : Yc) (G H : Hp) (x : Ex) (cls : Value) (d : Option Addr) : Prop := cls = .ref x.cls ∧ ((x.fs = [] ∧ d = none) ∨ ∃ dd vs, d = some dd ∧ H dd = some (.xd vs) ∧ RepF Y G x.fs vs)
def XPost (Y : Yc) (W : WX) (G : Hp) (st : S) (σ : St) (H : Hp) (PX : PXT) : Prop :=
  ∀ x st' cls d σ' G' H', PX x st' → Same G G' → Frm Y G st.mu H G' st'.mu H' → R Y G' st' σ' H' → RepX Y G' H' x cls d → W cls d σ' H'
theorem XPost.on {Y : Yc} {W : WX} {G G1 : Hp} {st st1 : S} {σ σ1 : St} {H H1 : Hp} {PX : PXT} (x : XPost Y W G st σ H PX) (s : Same G G1) (f : Frm Y G st.mu H G1 st1.mu H1) : XPost Y W G1 st1 σ1 H1 PX :=
  fun e st' cls d σ' G' H' h1 h2 h3 h4 h5 => x e st' cls d σ' G' H' h1 (s.trans h2) (f.trans h3) h4 h5
def TEof (Y : Yc) (W : WX) (m : ME) : TE := fun σ H Q => ∃ G st P PX, R Y G st σ H ∧ m st P PX ∧ XPost Y W G st σ H PX ∧
  ∀ d st' v G' H', P d st' → Same G G' → Frm Y G st.mu H G' st'.mu H' → R Y G' st' σ H' → Rep Y G' d v → Q v H'
def TTof (Y : Yc) (W : WX) (m : MT) : TT := fun σ H Q => ∃ G st P PX, R Y G st σ H ∧ m st P PX ∧ XPost Y W G st σ H PX ∧
  ∀ b st' G' H', P b st' → Same G G' → Frm Y G st.mu H G' st'.mu H' → R Y G' st' σ H' → Q b H'
def TAof (Y : Yc) (W : WX) (m : MA) : TA := fun σ H Q => ∃ G st P PX, R Y G st σ H ∧ m st P PX ∧ XPost Y W G st σ H PX ∧
  ∀ ds st' vs G' H', P ds st' → Same G G' → Frm Y G st.mu H G' st'.mu H' → R Y G' st' σ H' → Reps Y G' ds vs → Q vs H'
/-- the ends of a block -/
structure EndsOk (Y : Yc) (G : Hp) (st : S) (H : Hp) (E : DEnds) (D : Ends) : Prop where
  nx : ∀ st' σ' G' H', E.nx st' → Same G G' → Frm Y G st.mu H G' st'.mu H' → R Y G' st' σ' H' → D.nx σ' H'
  rt : ∀ d st' v σ' G' H', E.rt d st' → Same G G' → Frm Y G st.mu H G' st'.mu H' → R Y G' st' σ' H' → Rep Y G' d v → D.rt v H'
  bk : ∀ st' σ' G' H', E.bk st' → Same G G' → Frm Y G st.mu H G' st'.mu H' → R Y G' st' σ' H' → D.bk σ' H'
  ct : ∀ st' σ' G' H', E.ct st' → Same G G' → Frm Y G st.mu H G' st'.mu H' → R Y G' st' σ' H' → D.ct σ' H'
def TSof (Y : Yc) (W : WX) (m : MS) : TS := fun D σ H => ∃ G st E PX, R Y G st σ H ∧ m st E PX ∧ XPost Y W G st σ H PX ∧ EndsOk Y G st H E D
theorem EndsOk.on {Y : Yc} {G G1 : Hp} {st st1 : S} {H H1 : Hp} {E : DEnds} {D : Ends} (x : EndsOk Y G st H E D) (s : Same G G1) (f : Frm Y G st.mu H G1 st1.mu H1) : EndsOk Y G1 st1 H1 E D :=
  ⟨fun _ _ _ _ a b c d => x.nx _ _ _ _ a (s.trans b) (f.trans c) d, fun _ _ _ _ _ _ a b c d e => x.rt _ _ _ _ _ _ a (s.trans b) (f.trans c) d e, fun _ _ _ _ a b c d => x.bk _ _ _ _ a (s.trans b) (f.trans c) d, fun _ _ _ _ a b c d => x.ct _ _ _ _ a (s.trans b) (f.trans c) d⟩
section
variable {X : Cx}
theorem peImp {e : Expr} {t t' : TE} (h : PE X e t) (i : ∀ σ H Q, t' σ H Q → t σ H Q) : PE X e t' := ⟨fun pins s σ H Q I q => h.run pins s σ H Q I (i σ H Q q)⟩
theorem ptImp {e : Expr} {t t' : TT} (h : PT X e t) (i : ∀ σ H Q, t' σ H Q → t σ H Q) : PT X e t' := ⟨fun pins s σ H Q I q => h.run pins s σ H Q I (i σ H Q q)⟩
theorem pwImp {e : Expr} {t t' : TT} (h : PW X e t) (i : ∀ σ H Q, t' σ H Q → t σ H Q) : PW X e t' := ⟨fun wh pins s σ H Q I q => h.run wh pins s σ H Q I (i σ H Q q)⟩
theorem paImp {e : List Expr} {t t' : TA} (h : PA X e t) (i : ∀ σ H Q, t' σ H Q → t σ H Q) : PA X e t' := ⟨fun pos pins s σ H Q I q => h.run pos pins s σ H Q I (i σ H Q q)⟩
theorem psImp {e : Stmt} {t t' : TS} (h : PS X e t) (i : ∀ D σ H, t' D σ H → t D σ H) : PS X e t' := ⟨fun pins s σ H D I q => h.run pins s σ H D I (i D σ H q)⟩
theorem pssImp {e : List Stmt} {t t' : TS} (h : PSs X e t) (i : ∀ D σ H, t' D σ H → t D σ H) : PSs X e t' := ⟨fun pins s σ H D I q => h.run pins s σ H D I (i D σ H q)⟩
end
/-- the judgements over data -/
abbrev DE (X : Cx) (Y : Yc) (W : WX) (e : Expr) (m : ME) : Prop := PE X e (TEof Y W m)
abbrev DT (X : Cx) (Y : Yc) (W : WX) (e : Expr) (m : MT) : Prop := PT X e (TTof Y W m)
abbrev DW (X : Cx) (Y : Yc) (W : WX) (e : Expr) (m : MT) : Prop := PW X e (TTof Y W m)
abbrev DA (X : Cx) (Y : Yc) (W : WX) (e : List Expr) (m : MA) : Prop := PA X e (TAof Y W m)
abbrev DS (X : Cx) (Y : Yc) (W : WX) (e : Stmt) (m : MS) : Prop := PS X e (TSof Y W m)
abbrev DSs (X : Cx) (Y : Yc) (W : WX) (e : List Stmt) (m : MS) : Prop := PSs X e (TSof Y W m)
section
variable {X : Cx} {Y : Yc} {W : WX} {a b c e : Expr} {ma mb mc me : ME} {es : List Expr} {pos : Pos}
/-! ### names, constants -/
def mVar (i : Nat) : ME := fun st P _ => ∃ d, st.r[i]? = some (some d) ∧ P d st
theorem de_var {i : Nat} {x : Str} (hN : X.N[i]? = some x := by rfl) (hv : Vis X.env.scope x := by first | exact Or.inl rfl | exact Or.inr (Or.inl rfl) | exact Or.inr (Or.inr rfl)) (hd : (x == ("__debug__" : Str)) = false := by decide)
    (hcd : (x == ("__classdict__" : Str)) = false := by decide) : DE X Y W (.Name x pos) (mVar i) :=
  peImp (pe_var hN hv hd hcd) fun σ H Q ⟨G, st, P, PX, r, ⟨d, e1, hp⟩, _, k⟩ => by
    obtain ⟨v, e2, q⟩ := r.s.2 i d e1
    exact ⟨v, e2, k d st v G H hp (Same.refl G) .refl r q⟩
def mC (d : D) : ME := fun st P _ => P d st
theorem de_of {v : V} {d : D} (h : PE X e (tC v)) (hr : ∀ G, Rep Y G d v) : DE X Y W e (mC d) :=
  peImp h fun σ H Q ⟨G, st, P, PX, r, hp, _, k⟩ => k d st v G H hp (Same.refl G) .refl r (hr G)
theorem de_int {i : Int} {j : Nat} : DE X Y W (.Constant (.int i) j pos) (mC (.int i)) := de_of pe_int fun _ => .int i
theorem de_bl {i : Bool} {j : Nat} : DE X Y W (.Constant (.bool i) j pos) (mC (.bl i)) := de_of pe_bl fun _ => .bl i
theorem de_non {j : Nat} : DE X Y W (.Constant .none j pos) (mC .non) := de_of pe_non fun _ => .non
theorem de_str {x : Str} {j : Nat} : DE X Y W (.Constant (.str x) j pos) (mC (.str x)) := de_of pe_str fun _ => .str x
theorem de_glob {x : Str} {d : D} {v : V} {u : Value} (hg : Gl X x) (hm : X.mg x = some u) (r : RelV v u) (hr : ∀ G, Rep Y G d v) (hd : (x == ("__debug__" : Str)) = false := by decide) : DE X Y W (.Name x pos) (mC d) :=
  de_of (pe_glob hg hm r hd) hr
/-! ### operators, by values -/
abbrev O1 := Mu → D → (D → Prop) → Prop
abbrev O2 := Mu → D → D → (D → Prop) → Prop
abbrev OL := Mu → List D → (D → Prop) → Prop
/-- the end of an operation that lays new objects at most -/
def Post (Y : Yc) (G : Hp) (mu : Mu) (c : Nat) (H : Hp) (P : D → Prop) (Q : VK) : Prop := ∀ r v G' H', P r → Same G G' → Frm Y G mu H G' mu H' → R0 Y G' mu c H' → Rep Y G' r v → Q v H'
def l2 (Y : Yc) (g : O2) : R2 := fun x y H Q => ∃ G mu c d e P, R0 Y G mu c H ∧ Rep Y G d x ∧ Rep Y G e y ∧ g mu d e P ∧ Post Y G mu c H P Q
def l1 (Y : Yc) (g : O1) : V → Hp → VK → Prop := fun x H Q => ∃ G mu c d P, R0 Y G mu c H ∧ Rep Y G d x ∧ g mu d P ∧ Post Y G mu c H P Q
def lL (Y : Yc) (g : OL) : List V → Hp → VK → Prop := fun xs H Q => ∃ G mu c ds P, R0 Y G mu c H ∧ Reps Y G ds xs ∧ g mu ds P ∧ Post Y G mu c H P Q
abbrev OpD (X : Cx) (Y : Yc) (f : Value → Value → Sem Value) (g : O2) : Prop := OpR X f (l2 Y g)
abbrev UnD (X : Cx) (Y : Yc) (f : Value → Sem Value) (g : O1) : Prop := UnR X f (l1 Y g)
abbrev CallD (X : Cx) (Y : Yc) (f : Value) (g : OL) : Prop := CallR X f (lL Y g)
theorem opImp {f : Value → Value → Sem Value} {r r' : R2} (h : OpR X f r) (i : ∀ x y H Q, r' x y H Q → r x y H Q) : OpR X f r' := fun pins s σ H x y v u Q I rx ry q => h pins s σ H x y v u Q I rx ry (i x y H Q q)
theorem unImp {f : Value → Sem Value} {r r' : V → Hp → VK → Prop} (h : UnR X f r) (i : ∀ x H Q, r' x H Q → r x H Q) : UnR X f r' := fun pins s σ H x v Q I rx q => h pins s σ H x v Q I rx (i x H Q q)
theorem callImp {f : Value} {r r' : List V → Hp → VK → Prop} (h : CallR X f r) (i : ∀ x H Q, r' x H Q → r x H Q) : CallR X f r' := fun pins s σ H x v Q I rx q => h pins s σ H x v Q I rx (i x H Q q)
def mOp (g : O2) (ma mb : ME) : ME := fun st P PX => ma st (fun d s1 => mb s1 (fun e s2 => g s2.mu d e fun r => P r s2) PX) PX
theorem mOp_ok {g : O2} {r : R2} (hr : ∀ x y H Q, l2 Y g x y H Q → r x y H Q) : ∀ σ H Q, TEof Y W (mOp g ma mb) σ H Q → tOp r (TEof Y W ma) (TEof Y W mb) σ H Q := fun σ H Q ⟨G, st, P, PX, rr, hm, xp, k⟩ =>
  ⟨G, st, _, PX, rr, hm, xp, fun d s1 v G1 H1 hm1 g1 f1 r1 q1 =>
    ⟨G1, s1, _, PX, r1, hm1, xp.on g1 f1, fun e s2 w G2 H2 hm2 g2 f2 r2 q2 =>
      hr _ _ _ _ ⟨G2, s2.mu, s2.c, d, e, _, r2.h, q1.mono g2, q2, hm2, fun z v3 G3 H3 hp g3 h3 r3 q3 =>
        k z s2 v3 G3 H3 hp ((g1.trans g2).trans g3) ((f1.trans f2).trans h3) ⟨r3, r2.s.mono g3⟩ q3⟩⟩⟩
theorem de_op {op : Operator} {g : O2} (ho : OpD X Y (binaryOp op) g) (ha : DE X Y W a ma) (hb : DE X Y W b mb) : DE X Y W (.BinOp a op b pos) (mOp g ma mb) :=
  peImp (pe_op ho ha hb) (mOp_ok fun _ _ _ _ h => h)
theorem de_cmp {op : CmpOp} {g : O2} (ho : OpD X Y (compareOp op) g) (ha : DE X Y W a ma) (hb : DE X Y W b mb) (hm : behindInMarks op b = false := by first | exact nomark _ (by decide) (by decide) | rfl) : DE X Y W (.Compare a [op] [b] pos) (mOp g ma mb) :=
  peImp (pe_cmpR ho ha hb hm) (mOp_ok fun _ _ _ _ h => h)
def mUn (g : O1) (ma : ME) : ME := fun st P PX => ma st (fun d s1 => g s1.mu d fun r => P r s1) PX
theorem de_un {op : UnaryOp} {g : O1} (ho : UnD X Y (unaryOp op) g) (ha : DE X Y W a ma) : DE X Y W (.UnaryOp op a pos) (mUn g ma) :=
  peImp (pe_un ho ha) fun σ H Q ⟨G, st, P, PX, rr, hm, xp, k⟩ =>
    ⟨G, st, _, PX, rr, hm, xp, fun d s1 v G1 H1 hm1 g1 f1 r1 q1 =>
      ⟨G1, s1.mu, s1.c, d, _, r1.h, q1, hm1, fun z v3 G3 H3 hp g3 h3 r3 q3 => k z s1 v3 G3 H3 hp (g1.trans g3) (f1.trans h3) ⟨r3, r1.s.mono g3⟩ q3⟩⟩
/-! ### tests -/
/-- a value that must be a truth -/
def mB (m : ME) : MT := fun st P PX => m st (fun d s1 => ∃ k, d = .bl k ∧ P k s1) PX
theorem tB_ok {m : ME} : ∀ σ H Q, TTof Y W (mB m) σ H Q → tB (TEof Y W m) σ H Q := fun σ H Q ⟨G, st, P, PX, rr, hm, xp, k⟩ =>
  ⟨G, st, fun d s1 => ∃ k, d = .bl k ∧ P k s1, PX, rr, hm, xp, fun d s1 v G1 H1 hm1 g1 f1 r1 q1 => by
    obtain ⟨b, rfl, hp⟩ := hm1
    cases q1
    exact ⟨b, rfl, k b s1 G1 H1 hp g1 f1 r1⟩⟩
theorem dt_val {m : ME} (h : DE X Y W e m) (he : ∀ whole, isTrue e X.env whole = (do let v ← whole; standAt e.pos; holding [v] (truthy v)) := by intro _; rfl) : DT X Y W e (mB m) :=
  ptImp (pt_val h he) tB_ok
theorem dt_cmp {op : CmpOp} {g : O2} (ho : OpD X Y (compareOp op) g) (ha : DE X Y W a ma) (hb : DE X Y W b mb) (hm : behindInMarks op b = false := by first | exact nomark _ (by decide) (by decide) | rfl) : DT X Y W (.Compare a [op] [b] pos) (mB (mOp g ma mb)) :=
  ptImp (pt_cmpR ho ha hb hm) fun σ H Q h => by
    obtain ⟨G, st, P, PX, rr, hm, xp, k⟩ := h
    refine mOp_ok (r := l2 Y g) (fun _ _ _ _ h => h) σ H _ ⟨G, st, fun d s1 => ∃ k, d = .bl k ∧ P k s1, PX, rr, hm, xp, fun d s1 v G1 H1 hm1 g1 f1 r1 q1 => ?_⟩
    obtain ⟨b, rfl, hp⟩ := hm1
    cases q1
    exact ⟨b, rfl, k b s1 G1 H1 hp g1 f1 r1⟩
variable {mt mu' : MT} {rest : List Expr}
def mAnd (t u : MT) : MT := fun st P PX => t st (fun k s1 => if k = true then u s1 P PX else P false s1) PX
def mOr (t u : MT) : MT := fun st P PX => t st (fun k s1 => if k = true then P true s1 else u s1 P PX) PX
def mNot (t : MT) : MT := fun st P PX => t st (fun k s1 => P (!k) s1) PX
theorem dw_and1 (ha : DT X Y W a mt) : DW X Y W (.BoolOp .And [a] pos) mt := pw_and1 ha
theorem dw_or1 (ha : DT X Y W a mt) : DW X Y W (.BoolOp .Or [a] pos) mt := pw_or1 ha
theorem dw_and (ha : DT X Y W a mt) (hb : DW X Y W (.BoolOp .And (b :: rest) pos) mu') : DW X Y W (.BoolOp .And (a :: b :: rest) pos) (mAnd mt mu') :=
  pwImp (pw_and ha hb) fun σ H Q ⟨G, st, P, PX, rr, hm, xp, k⟩ => ⟨G, st, fun k s1 => if k = true then mu' s1 P PX else P false s1, PX, rr, hm, xp, fun d s1 G1 H1 hm1 g1 f1 r1 => by
    cases d with
    | true => rw [if_pos rfl] at hm1 ⊢; exact ⟨G1, s1, P, PX, r1, hm1, xp.on g1 f1, fun b st' G' H' hp g2 f2 r2 => k b st' G' H' hp (g1.trans g2) (f1.trans f2) r2⟩
    | false => rw [if_neg Bool.false_ne_true] at hm1 ⊢; exact k false s1 G1 H1 hm1 g1 f1 r1⟩
theorem dw_or (ha : DT X Y W a mt) (hb : DW X Y W (.BoolOp .Or (b :: rest) pos) mu') : DW X Y W (.BoolOp .Or (a :: b :: rest) pos) (mOr mt mu') :=
  pwImp (pw_or ha hb) fun σ H Q ⟨G, st, P, PX, rr, hm, xp, k⟩ => ⟨G, st, fun k s1 => if k = true then P true s1 else mu' s1 P PX, PX, rr, hm, xp, fun d s1 G1 H1 hm1 g1 f1 r1 => by
    cases d with
    | false => rw [if_neg Bool.false_ne_true] at hm1 ⊢; exact ⟨G1, s1, P, PX, r1, hm1, xp.on g1 f1, fun b st' G' H' hp g2 f2 r2 => k b st' G' H' hp (g1.trans g2) (f1.trans f2) r2⟩
    | true => rw [if_pos rfl] at hm1 ⊢; exact k true s1 G1 H1 hm1 g1 f1 r1⟩
theorem dt_bool (h : DW X Y W e mt) : DT X Y W e mt := h.pt
theorem dt_not (ha : DT X Y W a mt) : DT X Y W (.UnaryOp .Not a pos) (mNot mt) :=
  ptImp (pt_not ha) fun σ H Q ⟨G, st, P, PX, rr, hm, xp, k⟩ => ⟨G, st, _, PX, rr, hm, xp, fun d s1 G1 H1 hm1 g1 f1 r1 => k (!d) s1 G1 H1 hm1 g1 f1 r1⟩
/-- a chain of two comparisons -/
def mChain (g g' : O2) (ma mb mc : ME) : MT := fun st P PX => ma st (fun x s1 => mb s1 (fun y s2 => g s2.mu x y fun z => ∃ k, z = .bl k ∧ if k = true then mc s2 (fun w s3 => g' s3.mu y w fun z' => ∃ k', z' = .bl k' ∧ P k' s3) PX else P false s2) PX) PX
/-! ### values by and, or, not -/
/-- and, or as values: all but the last are truths -/
def mAndV (m n : ME) : ME := fun st P PX => m st (fun d s1 => ∃ k, d = .bl k ∧ if k = true then n s1 P PX else P (.bl false) s1) PX
def mOrV (m n : ME) : ME := fun st P PX => m st (fun d s1 => ∃ k, d = .bl k ∧ if k = true then P (.bl true) s1 else n s1 P PX) PX
def mNotV (m : ME) : ME := fun st P PX => m st (fun d s1 => ∃ k, d = .bl k ∧ P (.bl (!k)) s1) PX
theorem de_one {op : BoolOp} (ha : DE X Y W a ma) : DE X Y W (.BoolOp op [a] pos) ma := pe_one ha
theorem de_and (ha : DE X Y W a ma) (hb : DE X Y W (.BoolOp .And (b :: rest) pos) mb) : DE X Y W (.BoolOp .And (a :: b :: rest) pos) (mAndV ma mb) :=
  peImp (pe_and ha hb) fun σ H Q ⟨G, st, P, PX, rr, hm, xp, k⟩ => ⟨G, st, fun d s1 => ∃ k, d = .bl k ∧ if k = true then mb s1 P PX else P (.bl false) s1, PX, rr, hm, xp, fun d s1 v G1 H1 hm1 g1 f1 r1 q1 => by
    obtain ⟨z, rfl, hm1⟩ := hm1
    cases q1
    refine ⟨z, rfl, ?_⟩
    cases z with
    | true => rw [if_pos rfl] at hm1 ⊢; exact ⟨G1, s1, P, PX, r1, hm1, xp.on g1 f1, fun d st' v G' H' hp g2 f2 r2 q2 => k d st' v G' H' hp (g1.trans g2) (f1.trans f2) r2 q2⟩
    | false => rw [if_neg Bool.false_ne_true] at hm1 ⊢; exact k _ s1 _ G1 H1 hm1 g1 f1 r1 (.bl false)⟩
theorem de_or (ha : DE X Y W a ma) (hb : DE X Y W (.BoolOp .Or (b :: rest) pos) mb) : DE X Y W (.BoolOp .Or (a :: b :: rest) pos) (mOrV ma mb) :=
  peImp (pe_or ha hb) fun σ H Q ⟨G, st, P, PX, rr, hm, xp, k⟩ => ⟨G, st, fun d s1 => ∃ k, d = .bl k ∧ if k = true then P (.bl true) s1 else mb s1 P PX, PX, rr, hm, xp, fun d s1 v G1 H1 hm1 g1 f1 r1 q1 => by
    obtain ⟨z, rfl, hm1⟩ := hm1
    cases q1
    refine ⟨z, rfl, ?_⟩
    cases z with
    | false => rw [if_neg Bool.false_ne_true] at hm1 ⊢; exact ⟨G1, s1, P, PX, r1, hm1, xp.on g1 f1, fun d st' v G' H' hp g2 f2 r2 q2 => k d st' v G' H' hp (g1.trans g2) (f1.trans f2) r2 q2⟩
    | true => rw [if_pos rfl] at hm1 ⊢; exact k _ s1 _ G1 H1 hm1 g1 f1 r1 (.bl true)⟩
theorem de_not (ha : DE X Y W a ma) : DE X Y W (.UnaryOp .Not a pos) (mNotV ma) :=
  peImp (pe_not ha) fun σ H Q ⟨G, st, P, PX, rr, hm, xp, k⟩ => ⟨G, st, fun d s1 => ∃ k, d = .bl k ∧ P (.bl (!k)) s1, PX, rr, hm, xp, fun d s1 v G1 H1 hm1 g1 f1 r1 q1 => by
    obtain ⟨z, rfl, hm1⟩ := hm1
    cases q1
    exact ⟨z, rfl, k _ s1 _ G1 H1 hm1 g1 f1 r1 (.bl _)⟩⟩
def mIf (t : MT) (m n : ME) : ME := fun st P PX => t st (fun k s1 => if k = true then m s1 P PX else n s1 P PX) PX
theorem de_if (hc : DT X Y W c mt) (ha : DE X Y W a ma) (hb : DE X Y W b mb) : DE X Y W (.IfExp c a b pos) (mIf mt ma mb) :=
  peImp (pe_ifExp hc ha hb) fun σ H Q ⟨G, st, P, PX, rr, hm, xp, k⟩ => ⟨G, st, fun k s1 => if k = true then ma s1 P PX else mb s1 P PX, PX, rr, hm, xp, fun d s1 G1 H1 hm1 g1 f1 r1 => by
    cases d with
    | true => rw [if_pos rfl] at hm1 ⊢; exact ⟨G1, s1, P, PX, r1, hm1, xp.on g1 f1, fun d st' v G' H' hp g2 f2 r2 q2 => k d st' v G' H' hp (g1.trans g2) (f1.trans f2) r2 q2⟩
    | false => rw [if_neg Bool.false_ne_true] at hm1 ⊢; exact ⟨G1, s1, P, PX, r1, hm1, xp.on g1 f1, fun d st' v G' H' hp g2 f2 r2 q2 => k d st' v G' H' hp (g1.trans g2) (f1.trans f2) r2 q2⟩⟩
/-! ### arguments, displays -/
def mNil : MA := fun st P _ => P [] st
def mCons (m : ME) (n : MA) : MA := fun st P PX => m st (fun d s1 => n s1 (fun ds s2 => P (d :: ds) s2) PX) PX
variable {mas : MA}
theorem da_nil : DA X Y W [] mNil := paImp pa_nil fun σ H Q ⟨G, st, P, PX, rr, hm, xp, k⟩ => k [] st [] G H hm (Same.refl G) .refl rr .nil
theorem da_cons (ha : DE X Y W e me) (hr : DA X Y W es mas) (hs : starEach (e :: es) X.env = (false, eval e X.env) :: starEach es X.env := by rfl) : DA X Y W (e :: es) (mCons me mas) :=
  paImp (pa_cons ha hr hs) fun σ H Q ⟨G, st, P, PX, rr, hm, xp, k⟩ => ⟨G, st, _, PX, rr, hm, xp, fun d s1 v G1 H1 hm1 g1 f1 r1 q1 =>
    ⟨G1, s1, _, PX, r1, hm1, xp.on g1 f1, fun ds s2 vs G2 H2 hm2 g2 f2 r2 q2 => k _ s2 _ G2 H2 hm2 (g1.trans g2) (f1.trans f2) r2 (.cons (q1.mono g2) q2)⟩⟩
/-- (a, b, ..), [a, b, ..] -/
def mTup (n : MA) : ME := fun st P PX => n st (fun ds s1 => ds.length ≤ sizeLine ∧ P (.tup ds) s1) PX
def mLst (n : MA) : ME := fun st P PX => n st (fun ds s1 => ds.length ≤ sizeLine ∧ P (.lst ds) s1) PX
theorem R.new {Y : Yc} {G : Hp} {st : S} {σ : St} {H : Hp} (h : R Y G st σ H) {q : Addr} (hq : H q = none) (o : HO) : R Y (upd G q o) st σ (upd H q o) :=
  ⟨(h.h.new hq o).1, h.s.mono (h.h.new hq o).2.1⟩
theorem de_tup {x1 : Nat} (h : DA X Y W es mas) : DE X Y W (.Tuple es x1 pos) (mTup mas) :=
  peImp (pe_tup h) fun σ H Q ⟨G, st, P, PX, rr, hm, xp, k⟩ => ⟨G, st, _, PX, rr, hm, xp, fun ds s1 vs G1 H1 hm1 g1 f1 r1 q1 =>
    ⟨by rw [← q1.length]; exact hm1.1, fun q hq => k _ s1 _ _ _ hm1.2 (g1.trans (r1.h.new hq _).2.1) (f1.trans (.new hq)) (r1.new hq (.tup vs)) (.tup (SqT.of upd_same) (q1.mono (r1.h.new hq _).2.1))⟩⟩
theorem de_lst (h : DA X Y W es mas) : DE X Y W (.List es pos) (mLst mas) :=
  peImp (pe_lst h) fun σ H Q ⟨G, st, P, PX, rr, hm, xp, k⟩ => ⟨G, st, _, PX, rr, hm, xp, fun ds s1 vs G1 H1 hm1 g1 f1 r1 q1 =>
    ⟨by rw [← q1.length]; exact hm1.1, fun q hq => k _ s1 _ _ _ hm1.2 (g1.trans (r1.h.new hq _).2.1) (f1.trans (.new hq)) (r1.new hq (.lst vs)) (.lst upd_same (q1.mono (r1.h.new hq _).2.1))⟩⟩
/-! ### built-ins by name -/
def mCB (g : OL) (n : MA) : ME := fun st P PX => n st (fun ds s1 => g s1.mu ds fun r => P r s1) PX
variable {x : Str} {p : Pos} {id T : String} {g : OL}
theorem mCB_ok {r : List V → Hp → VK → Prop} (hr : ∀ xs H Q, lL Y g xs H Q → r xs H Q) : ∀ σ H Q, TEof Y W (mCB g mas) σ H Q → tCB r (TAof Y W mas) σ H Q := fun σ H Q ⟨G, st, P, PX, rr, hm, xp, k⟩ =>
  ⟨G, st, _, PX, rr, hm, xp, fun ds s1 vs G1 H1 hm1 g1 f1 r1 q1 => hr _ _ _ ⟨G1, s1.mu, s1.c, ds, _, r1.h, q1, hm1, fun z v3 G3 H3 hp g3 h3 r3 q3 => k z s1 v3 G3 H3 hp (g1.trans g3) (f1.trans h3) ⟨r3, r1.s.mono g3⟩ q3⟩⟩
theorem de_callB (hc : CallD X Y (.builtin id) g) (hg : Gl X x) (hm : X.mg x = none) (hv : bootBuiltins x = some (.builtin id)) (ha : DA X Y W (e :: es) mas) (hn : x ≠ "__name__" := by decide) (hdb : (x == ("__debug__" : Str)) = false := by decide)
    (he : starEach (e :: es) X.env = (false, eval e X.env) :: starEach es X.env := by rfl) (hpl : (backTo pos (starEach es X.env)).any (·.1) = false := by rfl) : DE X Y W (.Call (.Name x p) (e :: es) [] pos) (mCB g mas) :=
  peImp (pe_callB hc hg hm hv ha hn hdb he hpl) (mCB_ok fun _ _ _ h => h)
theorem de_callTy (hc : CallD X Y (.type T) g) (hg : Gl X x) (hm : X.mg x = none) (hv : bootBuiltins x = some (.type T)) (ha : DA X Y W (e :: es) mas) (hn : x ≠ "__name__" := by decide) (hdb : (x == ("__debug__" : Str)) = false := by decide)
    (he : starEach (e :: es) X.env = (false, eval e X.env) :: starEach es X.env := by rfl) (hpl : (backTo pos (starEach es X.env)).any (·.1) = false := by rfl) : DE X Y W (.Call (.Name x p) (e :: es) [] pos) (mCB g mas) :=
  peImp (pe_callTy hc hg hm hv ha hn hdb he hpl) (mCB_ok fun _ _ _ h => h)
/-! ### statements -/
variable {ms ns : MS} {st : Stmt} {sts sts2 : List Stmt}
def mNext : MS := fun st E _ => E.nx st
def mSeq (t u : MS) : MS := fun st E PX => t st { E with nx := fun s1 => u s1 E PX } PX
theorem EndsOk.next {Y : Yc} {G : Hp} {st : S} {σ : St} {H : Hp} {E : DEnds} {D : Ends} (x : EndsOk Y G st H E D) (r : R Y G st σ H) (h : E.nx st) : D.nx σ H := x.nx _ _ _ _ h (Same.refl G) .refl r
theorem dss_nil : DSs X Y W [] mNext := pssImp pss_nil fun D σ H ⟨G, st, E, PX, rr, hm, xp, k⟩ => k.next rr hm
theorem dss_one (h : DS X Y W st ms) : DSs X Y W [st] ms := pss_one h
theorem dss_cons (h1 : DS X Y W st ms) (h2 : DSs X Y W sts ns) : DSs X Y W (st :: sts) (mSeq ms ns) :=
  pssImp (pss_cons h1 h2) fun D σ H ⟨G, st, E, PX, rr, hm, xp, k⟩ => ⟨G, st, _, PX, rr, hm, xp, ⟨fun s1 σ1 G1 H1 h g f r => ⟨G1, s1, E, PX, r, h, xp.on g f, k.on g f⟩, k.rt, k.bk, k.ct⟩⟩
def mPass : MS := mNext
theorem ds_pass : DS X Y W (.Pass pos) mNext := psImp ps_pass fun D σ H ⟨G, st, E, PX, rr, hm, xp, k⟩ => k.next rr hm
def mBreak : MS := fun st E _ => E.bk st
def mCont : MS := fun st E _ => E.ct st
theorem ds_break : DS X Y W (.Break pos) mBreak := psImp ps_break fun D σ H ⟨G, st, E, PX, rr, hm, xp, k⟩ => k.bk _ _ _ _ hm (Same.refl G) .refl rr
theorem ds_continue : DS X Y W (.Continue pos) mCont := psImp ps_continue fun D σ H ⟨G, st, E, PX, rr, hm, xp, k⟩ => k.ct _ _ _ _ hm (Same.refl G) .refl rr
def mDrop (m : ME) : MS := fun st E PX => m st (fun _ s1 => E.nx s1) PX
theorem ds_expr (he : DE X Y W e me) (hs : swapsWith e none pos.line X.env = pure false := by rfl) : DS X Y W (.Expr e pos) (mDrop me) :=
  psImp (ps_expr he hs) fun D σ H ⟨G, st, E, PX, rr, hm, xp, k⟩ => ⟨G, st, _, PX, rr, hm, xp, fun d s1 v G1 H1 h g f r q => k.nx _ _ _ _ h g f r⟩
def mRet (m : ME) : MS := fun st E PX => m st E.rt PX
theorem ds_ret (he : DE X Y W e me) : DS X Y W (.Return (some e) pos) (mRet me) :=
  psImp (ps_ret he) fun D σ H ⟨G, st, E, PX, rr, hm, xp, k⟩ => ⟨G, st, _, PX, rr, hm, xp, fun d s1 v G1 H1 h g f r q => k.rt _ _ _ σ _ _ h g f r q⟩
def mRetN : MS := fun st E _ => E.rt .non st
theorem ds_retN : DS X Y W (.Return none pos) mRetN := psImp ps_retN fun D σ H ⟨G, st, E, PX, rr, hm, xp, k⟩ => k.rt _ _ _ σ _ _ hm (Same.refl G) .refl rr .non
def mIfS (t : MT) (m n : MS) : MS := fun st E PX => t st (fun k s1 => if k = true then m s1 E PX else n s1 E PX) PX
theorem ds_if (hc : DT X Y W c mt) (ha : DSs X Y W sts ms) (hb : DSs X Y W sts2 ns) : DS X Y W (.If c sts sts2 pos) (mIfS mt ms ns) :=
  psImp (ps_if hc ha hb) fun D σ H ⟨G, st, E, PX, rr, hm, xp, k⟩ => ⟨G, st, fun k s1 => if k = true then ms s1 E PX else ns s1 E PX, PX, rr, hm, xp, fun d s1 G1 H1 hm1 g1 f1 r1 => by
    cases d with
    | true => rw [if_pos rfl] at hm1 ⊢; exact ⟨G1, s1, E, PX, r1, hm1, xp.on g1 f1, k.on g1 f1⟩
    | false => rw [if_neg Bool.false_ne_true] at hm1 ⊢; exact ⟨G1, s1, E, PX, r1, hm1, xp.on g1 f1, k.on g1 f1⟩⟩
/-- a place of the frame is set -/
def S.put (st : S) (i : Nat) (d : D) : S := { st with r := st.r.set i (some d) }
theorem R.put {G : Hp} {st : S} {σ : St} {H : Hp} (r : R Y G st σ H) (i : Nat) {d : D} {v : V} (q : Rep Y G d v) : R Y G (st.put i d) (σ.set i (some v)) H := ⟨r.h, r.s.set i q⟩
def mSet (i : Nat) (m : ME) : MS := fun st E PX => m st (fun d s1 => E.nx (s1.put i d)) PX
theorem ds_set {i : Nat} {x : Str} {pos' : Pos} (hN : X.N.Nodup) (hi : X.N[i]? = some x) (hx : Loc X.env.scope x) (he : DE X Y W e me) (hs : swapsWith e (some (.Name x pos')) pos.line X.env = pure false := by rfl)
    (hf : X.fn x = true ∨ X.env.scope.names.lookup x = some .local := by first | exact .inl rfl | exact .inr rfl | assumption) : DS X Y W (.Assign [.Name x pos'] e pos) (mSet i me) :=
  psImp (ps_set hN hi hx he hs hf) fun D σ H ⟨G, st, E, PX, rr, hm, xp, k⟩ => ⟨G, st, _, PX, rr, hm, xp, fun d s1 v G1 H1 h g f r q => k.nx _ _ _ _ h g f (r.put i q)⟩
/-! targets: a value comes to names -/
abbrev MG := D → S → (S → Prop) → Prop
abbrev MGs := List D → S → (S → Prop) → Prop
def TGof (Y : Yc) (m : MG) : TG := fun v σ H Q => ∃ G st d P, R Y G st σ H ∧ Rep Y G d v ∧ m d st P ∧ ∀ st' σ' G' H', P st' → Same G G' → Frm Y G st.mu H G' st'.mu H' → R Y G' st' σ' H' → Q σ' H'
def TGsof (Y : Yc) (m : MGs) : TGs := fun v σ H Q => ∃ G st d P, R Y G st σ H ∧ Reps Y G d v ∧ m d st P ∧ ∀ st' σ' G' H', P st' → Same G G' → Frm Y G st.mu H G' st'.mu H' → R Y G' st' σ' H' → Q σ' H'
abbrev DG (X : Cx) (Y : Yc) (e : Expr) (m : MG) : Prop := PG X e (TGof Y m)
abbrev DGs (X : Cx) (Y : Yc) (e : List Expr) (m : MGs) : Prop := PGs X e (TGsof Y m)
theorem pgImp {e : Expr} {t t' : TG} (h : PG X e t) (i : ∀ v σ H Q, t' v σ H Q → t v σ H Q) : PG X e t' := ⟨fun pins s σ H v u Q I r q => h.run pins s σ H v u Q I r (i v σ H Q q)⟩
theorem pgsImp {e : List Expr} {t t' : TGs} (h : PGs X e t) (i : ∀ v σ H Q, t' v σ H Q → t v σ H Q) : PGs X e t' := ⟨fun pins s σ H v u Q I r q => h.run pins s σ H v u Q I r (i v σ H Q q)⟩
def gN (i : Nat) : MG := fun d st P => P (st.put i d)
theorem dg_name {i : Nat} {x : Str} (hN : X.N.Nodup) (hi : X.N[i]? = some x) (hx : Loc X.env.scope x) (hf : X.fn x = true ∨ X.env.scope.names.lookup x = some .local := by first | exact .inl rfl | exact .inr rfl | assumption) : DG X Y (.Name x pos) (gN i) :=
  pgImp (pg_name hN hi hx hf) fun v σ H Q ⟨G, st, d, P, r, q, h, k⟩ => k _ _ G H h (Same.refl G) .refl (r.put i q)
def gsN : MGs := fun ds st P => ds = [] ∧ P st
def gsC (g : MG) (gs : MGs) : MGs := fun ds st P => ∃ d r, ds = d :: r ∧ g d st fun s1 => gs r s1 P
theorem dgs_nil : DGs X Y [] gsN := pgsImp pgs_nil fun v σ H Q ⟨G, st, d, P, r, q, ⟨e, h⟩, k⟩ => by
  subst e
  cases q
  exact ⟨rfl, k _ _ G H h (Same.refl G) .refl r⟩
theorem dgs_cons {g : MG} {gs : MGs} (h1 : DG X Y e g) (h2 : DGs X Y es gs) (hs : (assignEach (e :: es) X.env).map (·.2) = assign e X.env :: (assignEach es X.env).map (·.2) := by rfl) : DGs X Y (e :: es) (gsC g gs) :=
  pgsImp (pgs_cons h1 h2 hs) fun v σ H Q ⟨G, st, d, P, r, q, ⟨d1, dr, e, h⟩, k⟩ => by
    subst e
    cases q with
    | cons q1 q2 => exact ⟨_, _, rfl, G, st, d1, _, r, q1, h, fun s1 σ1 G1 H1 h1 g1 f1 r1 => ⟨G1, s1, dr, P, r1, q2.mono g1, h1, fun s2 σ2 G2 H2 h2 g2 f2 r2 => k s2 σ2 G2 H2 h2 (g1.trans g2) (f1.trans f2) r2⟩⟩
def gT (n : Nat) (gs : MGs) : MG := fun d st P => ∃ ds, d = .tup ds ∧ ds.length = n ∧ gs ds st P
theorem dg_tup {k : Nat} {gs : MGs} {n : Nat} (hY : Y.K = X.K) (hc : X.calm = true) (h : DGs X Y es gs) (hn : (assignEach es X.env).length = n := by rfl) (hst : (assignEach es X.env).findIdx? (·.1) = none := by rfl) : DG X Y (.Tuple es k pos) (gT n gs) :=
  pgImp (pg_tup hc h hn hst) fun v σ H Q ⟨G, st, d, P, r, q, ⟨ds, e, hl, h⟩, k⟩ => by
    subst e
    cases q with
    | tup q1 q2 => exact ⟨_, _, rfl, sqT_mono r.h.sub (hY ▸ q1), by rw [← q2.length]; exact hl, G, st, ds, P, r, q2, h, k⟩
/-- target = value -/
def mAsg (m : ME) (g : MG) : MS := fun st E PX => m st (fun d s1 => g d s1 E.nx) PX
theorem ds_asg {tg : Expr} {g : MG} (he : DE X Y W e me) (hg : DG X Y tg g) (hs : swapsWithSole [tg] e pos.line X.env = pure false := by rfl) (hw : swappedStores [tg] e X.env = pure none := by rfl)
    (h1 : (assignEach [tg] X.env).map (·.2) = [assign tg X.env] := by rfl) : DS X Y W (.Assign [tg] e pos) (mAsg me g) :=
  psImp (ps_asg he hg hs hw h1) fun D σ H ⟨G, st, E, PX, rr, hm, xp, k⟩ => ⟨G, st, _, PX, rr, hm, xp, fun d s1 v G1 H1 h g f r q => ⟨G1, s1, d, _, r, q, h, fun s2 σ2 G2 H2 h2 g2 f2 r2 => k.nx _ _ _ _ h2 (g.trans g2) (f.trans f2) r2⟩⟩
/-- a, b = x, y -/
def mPar (i j : Nat) (n : MA) : MS := fun st E PX => n st (fun ds s1 => ∃ d e, ds = [d, e] ∧ E.nx ((s1.put i d).put j e)) PX
theorem ds_par {i j : Nat} {x y : Str} {px py pt : Pos} {kt k2 : Nat} {pt2 : Pos} (hc : X.calm = true) (hN : X.N.Nodup) (hi : X.N[i]? = some x) (hj : X.N[j]? = some y) (hij : i ≠ j)
    (hx : X.env.scope.names.lookup x = some .local) (hy : X.env.scope.names.lookup y = some .local) (ha : DA X Y W [a, b] mas)
    (hw : swappedStores [.Tuple [.Name x px, .Name y py] kt pt] (.Tuple [a, b] k2 pt2) X.env = pure (some [x, y]) := by rfl)
    (hs : swapsWithSole [.Tuple [.Name x px, .Name y py] kt pt] (.Tuple [a, b] k2 pt2) pos.line X.env = pure false := by rfl) :
    DS X Y W (.Assign [.Tuple [.Name x px, .Name y py] kt pt] (.Tuple [a, b] k2 pt2) pos) (mPar i j mas) :=
  psImp (ps_par hc hN hi hj hij hx hy ha hw hs) fun D σ H ⟨G, st, E, PX, rr, hm, xp, k⟩ => ⟨G, st, _, PX, rr, hm, xp, fun ds s1 vs G1 H1 ⟨d, e, e1, h⟩ g f r q => by
    subst e1
    cases q with
    | cons q1 q2 =>
      cases q2 with
      | cons q2 q3 =>
        cases q3
        exact ⟨_, _, rfl, k.nx _ _ _ _ h g f ((r.put i q1).put j q2)⟩⟩
/-! ### a def of the text, called -/
/-- the promise of a def over data: its arguments, what may change, the draws; the end, the exception -/
abbrev DSp := List D → Mu → Nat → (D → Mu → Nat → Prop) → (Ex → Mu → Nat → Prop) → Prop
def SpOf (Y : Yc) (sp : DSp) : Sp := fun vs H Q E => ∃ G mu c ds P PX, R0 Y G mu c H ∧ Reps Y G ds vs ∧ sp ds mu c P PX ∧
  (∀ d mu' c' v G' H', P d mu' c' → Same G G' → Frm Y G mu H G' mu' H' → R0 Y G' mu' c' H' → Rep Y G' d v → Q v H') ∧
  (∀ x mu' c' cls d G' H', PX x mu' c' → Same G G' → Frm Y G mu H G' mu' H' → R0 Y G' mu' c' H' → RepX Y G' H' x cls d → E cls d H')
end
/-- what the source of draws holds: the cells, how many were begun, what is left -/
def penKvs (ca : Addr) (b l : Int) : List (Key × V) := [(.inr "cells", .ref ca), (.inr "begun", .int b), (.inr "left", .int l)]
def penW (G : Hp) (c : Nat) (o : HO) : Prop := ∃ (ca : Addr) (b l : Int) (ns : List Int), o = .dK (penKvs ca b l) ∧ G ca = some (.lst (ns.map V.int)) ∧ ns.length ≤ 63 ∧ 0 ≤ b ∧ b ≤ c ∧ 0 ≤ l
def Yp (K : PySem.W.Frag) (p : Addr) : Yc where
  K := K
  p := p
  W := penW
  mono := fun G G' c o s ⟨ca, b, l, ns, h1, h2, h3⟩ => ⟨ca, b, l, ns, h1, s _ _ h2, h3⟩
  more := fun G c c' o hc ⟨ca, b, l, ns, h1, h2, h3, h4, h5, h6⟩ => ⟨ca, b, l, ns, h1, h2, h3, h4, by omega, h6⟩
/-- the def called x keeps the promise sp, by at most k calls one in another -/
structure FnD (P : Program) (w : World) (K : PySem.W.Frag) (mg : Str → Option Value) (base : Heap) (k : Nat) (x : Str) (ps : List Str) (sp : DSp) : Prop where
  ex : ∃ (f : Addr) (fd : FuncData), mg x = some (.ref f) ∧ PySem.W.keepIn K (.ref f) = true ∧ Binds K fd ps [] ∧ ∀ (q : Addr), FnOk P w K mg base (L2.CX P w) k f fd ps (SpOf (Yp K q) sp)
theorem FnD.mono {P : Program} {w : World} {K : PySem.W.Frag} {mg : Str → Option Value} {base : Heap} {j k : Nat} {x : Str} {ps : List Str} {sp : DSp} (F : FnD P w K mg base j x ps sp) (h : j ≤ k) : FnD P w K mg base k x ps sp :=
  let ⟨f, fd, h1, h2, h3, h4⟩ := F.ex
  ⟨f, fd, h1, h2, h3, fun q => (h4 q).mono h⟩
section
variable {X : Cx} {Y : Yc} {W : WX} {e : Expr} {es : List Expr} {mas : MA} {pos p : Pos} {x : Str} {k : Nat} {ps : List Str} {sp : DSp}
def mCall (sp : DSp) (n : MA) : ME := fun st P PX => n st (fun ds s1 => sp ds s1.mu s1.c (fun d mu' c' => P d { s1 with mu := mu', c := c' }) (fun x mu' c' => PX x { s1 with mu := mu', c := c' })) PX
theorem de_call {q : Addr} (F : FnD X.prog X.w X.K X.mg X.base k x ps sp) (tk : Takes X W) (hr : Room k X.A) (hg : Gl X x) (ha : DA X (Yp X.K q) W (e :: es) mas) (hdb : (x == ("__debug__" : Str)) = false := by decide)
    (he : starEach (e :: es) X.env = (false, eval e X.env) :: starEach es X.env := by rfl) (hpl : (backTo pos (starEach es X.env)).any (·.1) = false := by rfl) : DE X (Yp X.K q) W (.Call (.Name x p) (e :: es) [] pos) (mCall sp mas) := by
  obtain ⟨f, fd, h1, h2, h3, h4⟩ := F.ex
  refine peImp (pe_callSD (dvs := []) (ds := []) (E := WE W) (h4 q) hr hg h1 h2 h3 .nil (fun σ => passAt tk σ) ha hdb he hpl) fun σ H Q ⟨G, st, P, PX, rr, hm, xp, k⟩ => ?_
  refine ⟨G, st, _, PX, rr, hm, xp, fun ds s1 vs G1 H1 hm1 g1 f1 r1 q1 => ?_⟩
  refine ⟨G1, s1.mu, s1.c, ds, _, _, r1.h, (by rw [List.append_nil]; exact q1), hm1, fun d mu' c' v G' H' hp g f r q => ?_, fun ex mu' c' cls d G' H' hp g f r q => ?_⟩
  · exact k d _ v G' H' hp (g1.trans g) (f1.trans f) ⟨r, r1.s.mono g⟩ q
  · exact xp ex _ cls d σ G' H' hp (g1.trans g) (f1.trans f) ⟨r, r1.s.mono g⟩ q
end
theorem u65 {k : Nat} {A : Around} (r : Room k A) : A.units + 65 < cLine := by have := r.un; omega
theorem u1 {k : Nat} {A : Around} (r : Room k A) : A.units + 1 < cLine := by have := r.un; omega
/-- what a module's name holds -/
def GlobD (K : PySem.W.Frag) (mg : Str → Option Value) (x : Str) (d : D) : Prop := ∃ v u, mg x = some u ∧ RelV v u ∧ ∀ Y : Yc, Y.K = K → ∀ G, Rep Y G d v
theorem de_gl {X : Cx} {Y : Yc} {W : WX} {x : Str} {d : D} {pos : Pos} (h : GlobD X.K X.mg x d) (hY : Y.K = X.K) (hg : Gl X x) (hd : (x == ("__debug__" : Str)) = false := by decide) : DE X Y W (.Name x pos) (mC d) :=
  let ⟨_, _, h1, h2, h3⟩ := h
  de_glob hg h1 h2 (h3 Y hY) hd
section
variable {P : Program} {w : World} {K : PySem.W.Frag} {mg : Str → Option Value} {base : Heap}
/-- a def's state at its entry, what is wanted at its ends (the draws may be told as more) -/
def S0 (N ps : List Str) (ds : List D) (mu : Mu) (c : Nat) : S := ⟨ds.map some ++ List.replicate (N.length - ps.length) none, mu, c⟩
def EF (P : D → Mu → Nat → Prop) : DEnds := { nx := fun s => ∃ c', s.c ≤ c' ∧ P .non s.mu c', rt := fun d s => ∃ c', s.c ≤ c' ∧ P d s.mu c' }
def XF (PX : Ex → Mu → Nat → Prop) : PXT := fun x s => ∃ c', s.c ≤ c' ∧ PX x s.mu c'
theorem R0.more {Y : Yc} {G : Hp} {mu : Mu} {c c' : Nat} {H : Hp} (h : R0 Y G mu c H) (l : c ≤ c') : R0 Y G mu c' H :=
  ⟨h.sub, h.mus, let ⟨o, h1, h2, h3⟩ := h.pen; ⟨o, h1, Y.more _ _ _ _ l h2, h3⟩⟩
theorem dss_never {X : Cx} {Y : Yc} {W : WX} {sts : List Stmt} : DSs X Y W sts (fun _ _ _ => False) := pssImp pss_never fun D σ H ⟨_, _, _, _, _, h, _⟩ => h.elim
/-- THE RULE for a def over data -/
theorem fnD {x : Str} {st : Stmt} {f : Addr} {fd : FuncData} {N ps : List Str} {k : Nat} {sp : DSp} (F : Fun K x x st f fd) (hmg : mg x = some (.ref f)) (b : Binds K fd ps []) (Sc : FnScope N ps (defScope st))
    (len : ∀ ds mu c P PX, sp ds mu c P PX → ds.length = ps.length)
    (hbody : ∀ (X : Cx) (q : Addr) (W : WX), (∃ cdv A outer s H E, X = cxOf (L2.CX P w) P w K mg base N x (defScope st) f cdv A outer s H E) → Takes X W → Room k X.A → PassesOwn (model X.prog X.w) X.A X.env X.xe →
      ∃ m, DSs X (Yp K q) W (defBody st) m ∧ ∀ ds mu c P PX, sp ds mu c P PX → m (S0 N ps ds mu c) (EF P) (XF PX)) :
    FnD P w K mg base (k + 1) x ps sp := by
  refine ⟨f, fd, hmg, F.kp, b, fun q => ?_⟩
  refine F.okX Sc (fun vs H Q E ⟨G, mu, c, ds, P, PX, r0, qv, h, _⟩ => ?_) fun cdv A outer s H vs Q E hr ⟨G, mu, c, ds, P, PX, r0, qv, h, kq, kx⟩ => ?_
  · rw [← qv.length]
    exact len _ _ _ _ _ h
  · obtain ⟨m, hm, hs⟩ := hbody (cxOf (L2.CX _ w) _ w K mg base N x (defScope st) f cdv A outer s H E) q (fun cls d _ H => E cls d H) ⟨cdv, A, outer, s, H, E, rfl⟩ (takes_of rfl rfl rfl rfl) hr (passes_of rfl)
    have e1 : N.length - vs.length = N.length - ps.length := by rw [← qv.length, len _ _ _ _ _ h]
    refine ⟨_, hm, G, _, _, _, ⟨r0, ?_⟩, hs ds mu c _ _ h, ?_, ?_⟩
    · show Sl (Yp K q) G _ (L2.start N vs)
      unfold L2.start
      rw [e1]
      exact Sl.start qv _
    · exact fun ex st' cls d σ' G' H' ⟨c', l, h1⟩ h2 h3 h4 h5 => kx ex _ _ cls d G' H' h1 h2 h3 (h4.h.more l) h5
    · exact ⟨fun st' σ' G' H' ⟨c', l, h1⟩ h2 h3 h4 => kq _ _ _ _ G' H' h1 h2 h3 (h4.h.more l) .non, fun d st' v σ' G' H' ⟨c', l, h1⟩ h2 h3 h4 h5 => kq _ _ _ _ G' H' h1 h2 h3 (h4.h.more l) h5, fun _ _ _ _ h => h.elim, fun _ _ _ _ h => h.elim⟩
theorem FnD.none {x : Str} {st : Stmt} {f : Addr} {fd : FuncData} {N ps : List Str} {k : Nat} {sp : DSp} (F : Fun K x x st f fd) (hmg : mg x = some (.ref f)) (b : Binds K fd ps []) (Sc : FnScope N ps (defScope st)) (h0 : ∀ ds mu c P PX, ¬ sp ds mu c P PX) : FnD P w K mg base (k + 1) x ps sp :=
  fnD F hmg b Sc (fun ds mu c P PX h => (h0 ds mu c P PX h).elim) fun X q W _ _ _ _ => ⟨_, dss_never, fun ds mu c P PX h => (h0 ds mu c P PX h).elim⟩
/-- a promise that was shown at the layer's own level -/
theorem FnD.raw {x : Str} {f : Addr} {fd : FuncData} {ps : List Str} {k : Nat} {sp : DSp} {sp0 : Sp} (F : FnOk P w K mg base (L2.CX P w) k f fd ps sp0) (hmg : mg x = some (.ref f)) (hk : PySem.W.keepIn K (.ref f) = true) (b : Binds K fd ps [])
    (h : ∀ q vs H Q E, SpOf (Yp K q) sp vs H Q E → sp0 vs H Q E) : FnD P w K mg base k x ps sp := ⟨f, fd, hmg, hk, b, fun q => F.imp (h q)⟩
end
end DL
namespace DL
open PySem L2
/-! ### data as the library's data, for == -/
mutual
def D.py : D → PyData
  | .non => .none
  | .bl b => .bool b
  | .int i => .int i
  | .str s => .str s
  | .tup ds => .tuple (D.pys ds)
  | .lst ds => .list (D.pys ds)
  | .dct _ => .none
  | .pen => .none
  | .ref _ => .none
def D.pys : List D → List PyData
  | [] => []
  | d :: ds => D.py d :: D.pys ds
end
mutual
/-- plain data, at most n deep -/
def D.ok : D → Nat → Bool
  | .non, _ => true
  | .bl _, _ => true
  | .int _, _ => true
  | .str s, _ => PyData.strOk s
  | .tup ds, n => decide (0 < n) && D.oks ds (n - 1)
  | .lst ds, n => decide (0 < n) && D.oks ds (n - 1)
  | .dct _, _ => false
  | .pen, _ => false
  | .ref _, _ => false
def D.oks : List D → Nat → Bool
  | [], _ => true
  | d :: ds, n => D.ok d n && D.oks ds n
end
mutual
theorem D.ok_mono : ∀ (d : D) (n m : Nat), n ≤ m → d.ok n = true → d.ok m = true
  | .non, _, _, _, _ => rfl
  | .bl _, _, _, _, _ => rfl
  | .int _, _, _, _, _ => rfl
  | .str s, _, _, _, h => h
  | .tup ds, n, m, l, h => by
    simp only [D.ok, Bool.and_eq_true, decide_eq_true_eq] at h ⊢
    exact ⟨by omega, D.oks_mono ds _ _ (by omega) h.2⟩
  | .lst ds, n, m, l, h => by
    simp only [D.ok, Bool.and_eq_true, decide_eq_true_eq] at h ⊢
    exact ⟨by omega, D.oks_mono ds _ _ (by omega) h.2⟩
  | .dct _, _, _, _, h => by cases h
  | .pen, _, _, _, h => by cases h
  | .ref _, _, _, _, h => by cases h
theorem D.oks_mono : ∀ (d : List D) (n m : Nat), n ≤ m → D.oks d n = true → D.oks d m = true
  | [], _, _, _, _ => rfl
  | d :: ds, n, m, l, h => by
    simp only [D.oks, Bool.and_eq_true] at h ⊢
    exact ⟨D.ok_mono d n m l h.1, D.oks_mono ds n m l h.2⟩
end
mutual
theorem D.ok_lay : ∀ (d : D) (n : Nat), d.ok n = true → d.py.canLay0 = true ∧ d.py.depth ≤ n
  | .non, _, _ => ⟨by simp [D.py, PyData.canLay0], by simp [D.py, PyData.depth]⟩
  | .bl _, _, _ => ⟨by simp [D.py, PyData.canLay0], by simp [D.py, PyData.depth]⟩
  | .int _, _, _ => ⟨by simp [D.py, PyData.canLay0], by simp [D.py, PyData.depth]⟩
  | .str s, _, h => ⟨by simp only [D.py, PyData.canLay0]; exact h, by simp [D.py, PyData.depth]⟩
  | .tup ds, n, h => by
    simp only [D.ok, Bool.and_eq_true, decide_eq_true_eq] at h
    have q := D.oks_lay ds _ h.2
    exact ⟨by simp only [D.py, PyData.canLay0]; exact q.1, by simp only [D.py, PyData.depth]; omega⟩
  | .lst ds, n, h => by
    simp only [D.ok, Bool.and_eq_true, decide_eq_true_eq] at h
    have q := D.oks_lay ds _ h.2
    exact ⟨by simp only [D.py, PyData.canLay0]; exact q.1, by simp only [D.py, PyData.depth]; omega⟩
  | .dct _, _, h => by cases h
  | .pen, _, h => by cases h
  | .ref _, _, h => by cases h
theorem D.oks_lay : ∀ (d : List D) (n : Nat), D.oks d n = true → PyData.canLayAll0 (D.pys d) = true ∧ PyData.depthAll (D.pys d) ≤ n
  | [], _, _ => ⟨by simp [D.pys, PyData.canLayAll0], by simp [D.pys, PyData.depthAll]⟩
  | d :: ds, n, h => by
    simp only [D.oks, Bool.and_eq_true] at h
    have q1 := D.ok_lay d n h.1
    have q2 := D.oks_lay ds n h.2
    exact ⟨by simp only [D.pys, PyData.canLayAll0, Bool.and_eq_true]; exact ⟨q1.1, q2.1⟩, by simp only [D.pys, PyData.depthAll]; omega⟩
end
theorem D.shaped {d : D} {n : Nat} (h : d.ok n = true) (hn : n ≤ 64) : SeqAt.shaped d.py = true := by
  obtain ⟨h1, h2⟩ := d.ok_lay n h
  simp only [SeqAt.shaped, h1, Bool.true_and, decide_eq_true_eq]
  omega
mutual
theorem Rep.dp {Y : Yc} {G H : Hp} (s : Same G H) {n : Nat} : ∀ {d : D} {v : V}, Rep Y G d v → d.ok n = true → Dp Y.K H v d.py
  | _, _, .non, _ => .non
  | _, _, .bl b, _ => .bl b
  | _, _, .int i, _ => .int i
  | _, _, .str x, _ => .str x
  | _, _, .pen, h => by cases h
  | _, _, .ref a, h => by cases h
  | _, _, .tup h r, k => .tup (sqT_mono s h) (Reps.dp s r (Bool.and_eq_true_iff.mp k).2)
  | _, _, .lst h r, k => .lst (SqL.of (s _ _ h)) (Reps.dp s r (Bool.and_eq_true_iff.mp k).2)
  | _, _, .dct h r, k => by cases k
theorem Reps.dp {Y : Yc} {G H : Hp} (s : Same G H) {n : Nat} : ∀ {d : List D} {v : List V}, Reps Y G d v → D.oks d n = true → DpAll Y.K H v (D.pys d)
  | _, _, .nil, _ => .nil
  | _, _, .cons h r, k => .cons (Rep.dp s h (Bool.and_eq_true_iff.mp k).1) (Reps.dp s r (Bool.and_eq_true_iff.mp k).2)
end
def eqvD (d e : D) : Bool := PyData.eqv d.py e.py
def eqvs (d e : List D) : Bool := PyData.eqvAll (D.pys d) (D.pys e)
section
variable {X : Cx} {Y : Yc} {G : Hp} {mu : Mu} {c : Nat} {H : Hp} {P : D → Prop} {Q : VK}
theorem Post.here (k : Post Y G mu c H P Q) (r0 : R0 Y G mu c H) {r : D} {v : V} (h : P r) (q : Rep Y G r v) : Q v H := k r v G H h (Same.refl G) .refl r0 q
theorem Post.lst (k : Post Y G mu c H P Q) (r0 : R0 Y G mu c H) {ds : List D} {vs : List V} (h : P (.lst ds)) (q : Reps Y G ds vs) : ∀ p, H p = none → Q (.ref p) (upd H p (.lst vs)) := fun p hp =>
  k _ _ _ _ h (r0.new hp _).2.1 (.new hp) (r0.new hp (.lst vs)).1 (.lst upd_same (q.mono (r0.new hp _).2.1))
theorem Post.tup (k : Post Y G mu c H P Q) (r0 : R0 Y G mu c H) {ds : List D} {vs : List V} (h : P (.tup ds)) (q : Reps Y G ds vs) : ∀ p, H p = none → Q (.ref p) (upd H p (.tup vs)) := fun p hp =>
  k _ _ _ _ h (r0.new hp _).2.1 (.new hp) (r0.new hp (.tup vs)).1 (.tup (SqT.of upd_same) (q.mono (r0.new hp _).2.1))
/-! ### arithmetic -/
abbrev LINE : Nat := 16777216
theorem line_eq : sizeLine = LINE := sizeLine_eq
def addD : O2 := fun _ d e P => match d, e with
  | .int i, .int j => P (.int (i + j))
  | .str a, .str b => a.length + b.length ≤ LINE ∧ P (.str (a ++ b))
  | .lst a, .lst b => a.length + b.length ≤ LINE ∧ P (.lst (a ++ b))
  | .tup a, .tup b => a.length + b.length ≤ LINE ∧ P (.tup (a ++ b))
  | _, _ => False
theorem vs_nil {Y : Yc} {G : Hp} {ds : List D} {vs : List V} (q : Reps Y G ds vs) (h : vs = []) : ds = [] := by
  subst h
  cases q
  rfl
theorem Rep.tupI {ds : List D} {v : V} (h : Rep Y G (.tup ds) v) : ∃ a xs, v = .ref a ∧ SqT Y.K G a xs ∧ Reps Y G ds xs := by
  cases h with
  | tup h1 q1 => exact ⟨_, _, rfl, h1, q1⟩
theorem Rep.lstI {ds : List D} {v : V} (h : Rep Y G (.lst ds) v) : ∃ a xs, v = .ref a ∧ G a = some (.lst xs) ∧ Reps Y G ds xs := by
  cases h with
  | lst h1 q1 => exact ⟨_, _, rfl, h1, q1⟩
theorem Rep.dctI {ds : List (Key × D)} {v : V} (h : Rep Y G (.dct ds) v) : ∃ a xs, v = .ref a ∧ G a = some (.dK xs) ∧ Repk Y G ds xs := by
  cases h with
  | dct h1 q1 => exact ⟨_, _, rfl, h1, q1⟩
theorem od_add (hY : Y.K = X.K) : OpD X Y (binaryOp .Add) addD := by
  intro pins s σ H x y v u Q I rx ry ⟨G, mu, c, d, e, P, r0, qd, qe, h, k⟩
  have e0 := line_eq
  cases d <;> cases e <;> first | exact False.elim h | skip
  · cases qd; cases qe
    exact op_add pins s σ H _ _ v u Q I rx ry ⟨_, _, rfl, rfl, k.here r0 h (.int _)⟩
  · cases qd; cases qe
    exact op_add_str pins s σ H _ _ v u Q I rx ry ⟨_, _, rfl, rfl, by rw [e0]; exact h.1, k.here r0 h.2 (.str _)⟩
  · obtain ⟨a1, xs1, rfl, h1, q1⟩ := qd.tupI
    obtain ⟨a2, xs2, rfl, h2, q2⟩ := qe.tupI
    refine op_catA pins s σ H _ _ v u Q I rx ry ⟨_, _, _, _, rfl, rfl, sqT_mono r0.sub (hY ▸ h1), sqT_mono r0.sub (hY ▸ h2), by rw [← q1.length, ← q2.length, e0]; exact h.1, fun z => ?_, fun z1 z2 => ?_, fun z1 z2 => ?_⟩
    · exact k.here r0 (by rw [vs_nil q1 z] at h; exact h.2) (.tup h2 q2)
    · exact k.here r0 (by rw [vs_nil q2 z2] at h; have h3 := h.2; rw [List.append_nil] at h3; exact h3) (.tup h1 q1)
    · exact k.tup r0 h.2 (q1.append q2)
  · obtain ⟨a1, xs1, rfl, h1, q1⟩ := qd.lstI
    obtain ⟨a2, xs2, rfl, h2, q2⟩ := qe.lstI
    exact op_cat pins s σ H _ _ v u Q I rx ry ⟨_, _, _, _, rfl, rfl, r0.sub _ _ h1, r0.sub _ _ h2, by rw [← q1.length, ← q2.length, e0]; exact h.1, k.lst r0 h.2 (q1.append q2)⟩
def intD (C : Int → Int → Prop) (g : Int → Int → D) : O2 := fun _ d e P => match d, e with
  | .int i, .int j => C i j ∧ P (g i j)
  | _, _ => False
theorem od_int {f : Value → Value → Sem Value} {C : Int → Int → Prop} {g : Int → Int → V} {g' : Int → Int → D} (h : OpR X f (rI C g)) (hg : ∀ i j G, Rep Y G (g' i j) (g i j)) : OpD X Y f (intD C g') := by
  intro pins s σ H x y v u Q I rx ry ⟨G, mu, c, d, e, P, r0, qd, qe, h1, k⟩
  cases d <;> cases e <;> first | exact False.elim h1 | skip
  cases qd; cases qe
  exact h pins s σ H _ _ v u Q I rx ry ⟨_, _, rfl, rfl, h1.1, k.here r0 h1.2 (hg _ _ _)⟩
def intD0 (g : Int → Int → D) : O2 := fun _ d e P => match d, e with
  | .int i, .int j => P (g i j)
  | _, _ => False
theorem od_int0 {f : Value → Value → Sem Value} {g : Int → Int → V} {g' : Int → Int → D} (h : OpR X f (rI0 g)) (hg : ∀ i j G, Rep Y G (g' i j) (g i j)) : OpD X Y f (intD0 g') := by
  intro pins s σ H x y v u Q I rx ry ⟨G, mu, c, d, e, P, r0, qd, qe, h1, k⟩
  cases d <;> cases e <;> first | exact False.elim h1 | skip
  cases qd; cases qe
  exact h pins s σ H _ _ v u Q I rx ry ⟨_, _, rfl, rfl, k.here r0 h1 (hg _ _ _)⟩
def subtD : O2 := intD0 fun i j => .int (i - j)
def modD : O2 := intD (fun _ j => 0 < j) fun i j => .int (i % j)
def fdivD : O2 := intD CDiv fun i j => .int (i / j)
def powD : O2 := intD CPow fun i j => .int (i ^ j.toNat)
def shlD : O2 := intD CPow fun i j => .int (i * 2 ^ j.toNat)
def ltD : O2 := intD0 fun i j => .bl (decide (i < j))
def leD : O2 := intD0 fun i j => .bl (decide (i ≤ j))
def gtD : O2 := intD0 fun i j => .bl (decide (j < i))
def geD : O2 := intD0 fun i j => .bl (decide (j ≤ i))
theorem od_sub : OpD X Y (binaryOp .Sub) subtD := od_int0 op_sub fun _ _ _ => .int _
theorem od_mod : OpD X Y (binaryOp .Mod) modD := od_int op_mod fun _ _ _ => .int _
theorem od_fdiv : OpD X Y (binaryOp .FloorDiv) fdivD := od_int op_fdiv fun _ _ _ => .int _
theorem od_pow : OpD X Y (binaryOp .Pow) powD := od_int op_pow fun _ _ _ => .int _
theorem od_shl : OpD X Y (binaryOp .LShift) shlD := od_int op_shl fun _ _ _ => .int _
theorem od_lt : OpD X Y (compareOp .Lt) ltD := od_int0 op_lt fun _ _ _ => .bl _
theorem od_le : OpD X Y (compareOp .LtE) leD := od_int0 op_le fun _ _ _ => .bl _
theorem od_gt : OpD X Y (compareOp .Gt) gtD := od_int0 op_gt fun _ _ _ => .bl _
theorem od_ge : OpD X Y (compareOp .GtE) geD := od_int0 op_ge fun _ _ _ => .bl _
/-- x * y -/
def repD {α : Type} (l : List α) (k : Int) : List α := (List.replicate k.toNat l).flatten
theorem Reps.rep {ds : List D} {vs : List V} (q : Reps Y G ds vs) : ∀ k : Nat, Reps Y G (List.replicate k ds).flatten (List.replicate k vs).flatten
  | 0 => .nil
  | k + 1 => by
    rw [List.replicate_succ, List.replicate_succ, List.flatten_cons, List.flatten_cons]
    exact q.append (q.rep k)
def mulD : O2 := fun _ d e P => match d, e with
  | .int i, .int j => CMul i j ∧ P (.int (i * j))
  | .str a, .int k => 0 ≤ k ∧ k < 2 ^ 62 ∧ a.length * k.toNat ≤ LINE ∧ P (.str ⟨(repD a.cps.toList k).toArray⟩)
  | .lst a, .int k => 0 ≤ k ∧ k < 2 ^ 62 ∧ a.length * k.toNat ≤ LINE ∧ P (.lst (repD a k))
  | _, _ => False
theorem foldl_reps {α : Type} (a : Array α) : ∀ (k : Nat) (acc : Array α), ((List.replicate k a).foldl (· ++ ·) acc) = acc ++ ((List.replicate k a.toList).flatten).toArray
  | 0, acc => by simp
  | k + 1, acc => by
    rw [List.replicate_succ, List.foldl_cons, foldl_reps a k, List.replicate_succ, List.flatten_cons, Array.append_assoc]
    congr 1
    rw [← List.append_toArray]
theorem tooLong_no {n : Nat} (h : n ≤ LINE) : Builtin.Str.tooLong n = false := by
  unfold Builtin.Str.tooLong
  rw [← line_eq] at h
  exact decide_eq_false (by omega)
theorem repD_len {α : Type} (l : List α) : ∀ k : Nat, ((List.replicate k l).flatten).length = l.length * k
  | 0 => by simp
  | k + 1 => by
    rw [List.replicate_succ, List.flatten_cons, List.length_append, repD_len l k, Nat.mul_succ]
    omega
theorem strMul_eq (a : Str) (k : Int) (t : Tok) (s : Shared) (Q : Value → Shared → Prop) (hk : 0 ≤ k) (hz : a.length * k.toNat ≤ LINE) (h : ∀ t' tk, Q (.str ⟨(repD a.cps.toList k).toArray⟩ t') { s with toks := tk }) :
    (if k < 1 then Made.str Str.empty else if (k == 1 || a.length == 0) = true then Made.val (.str a t) else Made.str ⟨(List.replicate k.toNat a.cps).foldl (· ++ ·) #[]⟩).post Q s := by
  split
  · have e : k = 0 := by omega
    subst e
    exact ⟨Nat.zero_le _, h s.toks (s.toks + 1)⟩
  · split
    · rename_i h1 h2
      have e : (⟨(repD a.cps.toList k).toArray⟩ : Str) = a := by
        simp only [Bool.or_eq_true, beq_iff_eq] at h2
        rcases h2 with h2 | h2
        · subst h2
          simp [repD]
        · have e2 : a.cps = #[] := Array.eq_empty_of_size_eq_zero h2
          obtain ⟨c⟩ := a
          simp only at e2
          subst e2
          simp [repD]
      have := h t s.toks
      rw [e] at this
      exact this
    · rw [foldl_reps]
      have e : (#[] ++ ((List.replicate k.toNat a.cps.toList).flatten).toArray) = (repD a.cps.toList k).toArray := by simp [repD]
      rw [e]
      refine ⟨?_, h s.toks (s.toks + 1)⟩
      show (repD a.cps.toList k).toArray.size ≤ sizeLine
      rw [List.size_toArray, line_eq]
      unfold repD
      rw [repD_len]
      exact hz
theorem op_mul_str : OpR X (binaryOp .Mult) (fun x y H Q => ∃ a k, x = .str a ∧ y = .int k ∧ 0 ≤ k ∧ k < 2 ^ 62 ∧ a.length * k.toNat ≤ LINE ∧ Q (.str ⟨(repD a.cps.toList k).toArray⟩) H) := by
  intro pins s σ H x y v u Q I rx ry ⟨a, k, e1, e2, h1, h2, h3, q⟩
  subst e1; subst e2
  obtain ⟨t, rfl⟩ := rx
  obtain ⟨t', rfl⟩ := ry
  refine P.mul_str ?_ (fun _ _ => ?_) (fun _ _ => tooLong_no h3) (strMul_eq a k t s _ h1 h3 fun t2 tk => ⟨.str _, H, I.tok _, ⟨_, rfl⟩, q⟩)
  · simp only [Bool.or_eq_false_iff, decide_eq_false_iff_not]
    omega
  · rename_i c1 c2
    have h4 : (a.length : Int) * k ≤ LINE := by
      have h5 : ((a.length * k.toNat : Nat) : Int) ≤ ((LINE : Nat) : Int) := Int.ofNat_le.mpr h3
      rw [Int.natCast_mul, Int.toNat_of_nonneg h1] at h5
      exact h5
    have h6 : (a.length : Int) ≤ (2 ^ 63 - 1) / k := by
      refine (Int.le_ediv_iff_mul_le (by omega)).mpr ?_
      have : ((LINE : Nat) : Int) ≤ 2 ^ 63 - 1 := by decide
      omega
    omega
theorem od_mul : OpD X Y (binaryOp .Mult) mulD := by
  intro pins s σ H x y v u Q I rx ry ⟨G, mu, c, d, e, P, r0, qd, qe, h, k⟩
  have e0 := line_eq
  cases d <;> cases e <;> first | exact False.elim h | skip
  · cases qd; cases qe
    exact op_mul pins s σ H _ _ v u Q I rx ry ⟨_, _, rfl, rfl, h.1, k.here r0 h.2 (.int _)⟩
  · cases qd; cases qe
    exact op_mul_str pins s σ H _ _ v u Q I rx ry ⟨_, _, rfl, rfl, h.1, h.2.1, h.2.2.1, k.here r0 h.2.2.2 (.str _)⟩
  · obtain ⟨a1, xs1, rfl, h1, q1⟩ := qd.lstI
    cases qe
    exact op_rep pins s σ H _ _ v u Q I rx ry ⟨_, _, _, rfl, rfl, r0.sub _ _ h1, by have := h.1; omega, by have := h.2.1; omega, by rw [← q1.length, e0]; exact h.2.2.1, k.lst r0 h.2.2.2 (q1.rep _)⟩
/-! ### == -/
/-- what == may be asked of -/
def CEq (d e : D) : Prop := (∃ n, n ≤ 64 ∧ d.ok n = true) ∧ ∃ n, n ≤ 64 ∧ e.ok n = true
def eqD : O2 := fun _ d e P => CEq d e ∧ P (.bl (eqvD d e))
def neD : O2 := fun _ d e P => CEq d e ∧ P (.bl (!eqvD d e))
theorem od_eq (hY : Y.K = X.K) (hu : X.A.units + 64 < cLine) : OpD X Y (compareOp .Eq) eqD := by
  intro pins s σ H x y v u Q I rx ry ⟨G, mu, c, d, e, P, r0, qd, qe, ⟨⟨⟨n, n1, n2⟩, m, m1, m2⟩, h⟩, k⟩
  exact op_eqD hu pins s σ H x y v u Q I rx ry ⟨d.py, e.py, hY ▸ qd.dp r0.sub n2, hY ▸ qe.dp r0.sub m2, D.shaped n2 n1, D.shaped m2 m1, k.here r0 h (.bl _)⟩
theorem od_ne (hY : Y.K = X.K) (hu : X.A.units + 64 < cLine) : OpD X Y (compareOp .NotEq) neD := by
  intro pins s σ H x y v u Q I rx ry ⟨G, mu, c, d, e, P, r0, qd, qe, ⟨⟨⟨n, n1, n2⟩, m, m1, m2⟩, h⟩, k⟩
  exact op_neD hu pins s σ H x y v u Q I rx ry ⟨d.py, e.py, hY ▸ qd.dp r0.sub n2, hY ▸ qe.dp r0.sub m2, D.shaped n2 n1, D.shaped m2 m1, k.here r0 h (.bl _)⟩
/-! ### is None -/
def D.isN : D → Bool
  | .non => true
  | _ => false
theorem Rep.isN {d : D} {v : V} (q : Rep Y G d v) : decide (v = .non) = d.isN := by
  cases q <;> rfl
def isND : O2 := fun _ d e P => e = .non ∧ P (.bl d.isN)
def notND : O2 := fun _ d e P => e = .non ∧ P (.bl (!d.isN))
theorem od_isN : OpD X Y (compareOp .Is) isND := by
  intro pins s σ H x y v u Q I rx ry ⟨G, mu, c, d, e, P, r0, qd, qe, ⟨e1, h⟩, k⟩
  subst e1
  cases qe
  exact op_isN pins s σ H _ _ v u Q I rx ry ⟨rfl, by rw [qd.isN]; exact k.here r0 h (.bl _)⟩
theorem od_notN : OpD X Y (compareOp .IsNot) notND := by
  intro pins s σ H x y v u Q I rx ry ⟨G, mu, c, d, e, P, r0, qd, qe, ⟨e1, h⟩, k⟩
  subst e1
  cases qe
  exact op_notN pins s σ H _ _ v u Q I rx ry ⟨rfl, by rw [qd.isN]; exact k.here r0 h (.bl _)⟩
/-! ### dicts that stay as they are -/
def look (es : List (Key × D)) (k : Key) : Option D := (es.find? fun e => decide (e.1 = k)).map (·.2)
theorem Repk.look {es : List (Key × D)} {vs : List (Key × V)} (q : Repk Y G es vs) (k : Key) : (∀ z, look es k = some z → ∃ v, valV vs k = some v ∧ Rep Y G z v) ∧ (look es k = none → valV vs k = none) := by
  induction es generalizing vs with
  | nil => cases q; exact ⟨fun z h => (by cases h), fun _ => rfl⟩
  | cons p es ih =>
    cases q with
    | cons k0 h r =>
      by_cases e0 : k0 = k
      · subst e0
        refine ⟨fun z hz => ?_, fun hz => ?_⟩
        · simp [DL.look, List.find?_cons] at hz
          subst hz
          exact ⟨_, valV_pos rfl, h⟩
        · simp [DL.look, List.find?_cons] at hz
      · refine ⟨fun z hz => ?_, fun hz => ?_⟩
        · rw [valV_neg e0]
          refine (ih r).1 z ?_
          simpa [DL.look, List.find?_cons, e0] using hz
        · rw [valV_neg e0]
          refine (ih r).2 ?_
          simpa [DL.look, List.find?_cons, e0] using hz
/-- a key as data -/
def D.key : D → Option Key
  | .int i => some (.inl i)
  | .str x => some (.inr x)
  | _ => none
theorem Rep.key {d : D} {v : V} {k : Key} (q : Rep Y G d v) (h : d.key = some k) : v = kV k := by
  cases q <;> first | cases h | skip
  · rfl
  · rfl
/-! ### in, not in -/
/-- x stands in y: a text in a text, a thing in a tuple or a list of plain things -/
def hasStr (x y : Str) : Bool := !(Builtin.Str.occurrences y x 0 y.length 1).isEmpty
def inD (f : Bool → Bool) : O2 := fun _ d e P => match e with
  | .tup es => CEq d (.tup es) ∧ P (.bl (f (es.any fun z => eqvD z d)))
  | .lst es => CEq d (.lst es) ∧ P (.bl (f (es.any fun z => eqvD z d)))
  | .str b => (match d with | .str a => P (.bl (f (hasStr a b))) | _ => False)
  | .dct es => ∃ k, d.key = some k ∧ P (.bl (f (look es k).isSome))
  | _ => False
theorem pys_any (d : D) : ∀ es : List D, ((D.pys es).any fun z => PyData.eqv z d.py) = es.any fun z => eqvD z d
  | [] => rfl
  | e :: es => by
    simp only [D.pys, List.any_cons, pys_any d es]
    rfl
theorem op_inT (hu : X.A.units + 65 < cLine) : OpR X (compareOp .In) (fun x y H Q => ∃ d ds, Dp X.K H x d ∧ Dp X.K H y (.tuple ds) ∧ SeqAt.shaped d = true ∧ SeqAt.shaped (.tuple ds) = true ∧ Q (.bl (ds.any fun z => PyData.eqv z d)) H) := by
  intro pins s σ H x y v u Q I rx ry ⟨d, ds, hd, he, sd, se, q⟩
  obtain ⟨as, r1⟩ := Dp.reads I d x v hd rx
  obtain ⟨bs, r2⟩ := Dp.reads I (.tuple ds) y u he ry
  exact SeqAt.in_tuple_reads r2 r1 (SeqAt.canLay_of_shaped se) (SeqAt.canLay_of_shaped sd) (PyProof.Rows.room_in_shaped sd hu) ⟨.bl _, H, I, rfl, q⟩
theorem op_notInT (hu : X.A.units + 65 < cLine) : OpR X (compareOp .NotIn) (fun x y H Q => ∃ d ds, Dp X.K H x d ∧ Dp X.K H y (.tuple ds) ∧ SeqAt.shaped d = true ∧ SeqAt.shaped (.tuple ds) = true ∧ Q (.bl (!ds.any fun z => PyData.eqv z d)) H) := by
  intro pins s σ H x y v u Q I rx ry ⟨d, ds, hd, he, sd, se, q⟩
  obtain ⟨as, r1⟩ := Dp.reads I d x v hd rx
  obtain ⟨bs, r2⟩ := Dp.reads I (.tuple ds) y u he ry
  exact SeqAt.notIn_tuple_reads r2 r1 (SeqAt.canLay_of_shaped se) (SeqAt.canLay_of_shaped sd) (PyProof.Rows.room_in_shaped sd hu) ⟨.bl _, H, I, rfl, q⟩
theorem inD_seq {d e : D} {f : Bool → Bool} {mu : Mu} {P : D → Prop} (h : inD f mu d e P) : (∃ a b, d = .str a ∧ e = .str b ∧ P (.bl (f (hasStr a b)))) ∨ (∃ es, e = .tup es ∧ CEq d (.tup es) ∧ P (.bl (f (es.any fun z => eqvD z d)))) ∨ (∃ es, e = .lst es ∧ CEq d (.lst es) ∧ P (.bl (f (es.any fun z => eqvD z d)))) ∨ (∃ es k, e = .dct es ∧ d.key = some k ∧ P (.bl (f (look es k).isSome))) := by
  unfold inD at h
  split at h
  · exact .inr (.inl ⟨_, rfl, h⟩)
  · exact .inr (.inr (.inl ⟨_, rfl, h⟩))
  · split at h
    · exact .inl ⟨_, _, rfl, rfl, h⟩
    · exact h.elim
  · obtain ⟨k, h1, h2⟩ := h
    exact .inr (.inr (.inr ⟨_, k, rfl, h1, h2⟩))
  · exact h.elim
theorem Repk.get {es : List (Key × D)} {vs : List (Key × V)} (q : Repk Y G es vs) (k : Key) : (valV vs k).isSome = (DL.look es k).isSome := by
  cases e : DL.look es k with
  | none => rw [(q.look k).2 e]; rfl
  | some z =>
    obtain ⟨v, h1, _⟩ := (q.look k).1 z e
    rw [h1]
    rfl
theorem od_in (hY : Y.K = X.K) (hu : X.A.units + 65 < cLine) : OpD X Y (compareOp .In) (inD id) := by
  intro pins s σ H x y v u Q I rx ry ⟨G, mu, c, d, e, P, r0, qd, qe, h, k⟩
  rcases inD_seq h with ⟨a, b, rfl, rfl, h⟩ | ⟨es, rfl, ⟨⟨n, n1, n2⟩, m, m1, m2⟩, h⟩ | ⟨es, rfl, ⟨⟨n, n1, n2⟩, m, m1, m2⟩, h⟩ | ⟨es, k0, rfl, hk, h⟩
  · cases qd; cases qe
    exact op_in_str pins s σ H _ _ v u Q I rx ry ⟨_, _, rfl, rfl, k.here r0 h (.bl _)⟩
  · exact op_inT hu pins s σ H _ _ v u Q I rx ry ⟨d.py, D.pys es, hY ▸ qd.dp r0.sub n2, hY ▸ qe.dp r0.sub m2, D.shaped n2 n1, D.shaped m2 m1, by rw [pys_any]; exact k.here r0 h (.bl _)⟩
  · exact op_inD hu pins s σ H _ _ v u Q I rx ry ⟨d.py, D.pys es, hY ▸ qd.dp r0.sub n2, hY ▸ qe.dp r0.sub m2, D.shaped n2 n1, D.shaped m2 m1, by rw [pys_any]; exact k.here r0 h (.bl _)⟩
  · obtain ⟨a1, xs1, rfl, h1, q1⟩ := qe.dctI
    obtain rfl : u = Value.ref a1 := ry
    have e1 := qd.key hk
    subst e1
    refine d_in (by omega) I (DGet.k (r0.sub _ _ h1)) rx fun s3 I3 => ⟨.bl _, H, I3, rfl, ?_⟩
    rw [q1.get k0]
    exact k.here r0 h (.bl _)
theorem od_notIn (hY : Y.K = X.K) (hu : X.A.units + 65 < cLine) : OpD X Y (compareOp .NotIn) (inD not) := by
  intro pins s σ H x y v u Q I rx ry ⟨G, mu, c, d, e, P, r0, qd, qe, h, k⟩
  rcases inD_seq h with ⟨a, b, rfl, rfl, h⟩ | ⟨es, rfl, ⟨⟨n, n1, n2⟩, m, m1, m2⟩, h⟩ | ⟨es, rfl, ⟨⟨n, n1, n2⟩, m, m1, m2⟩, h⟩ | ⟨es, k0, rfl, hk, h⟩
  · cases qd; cases qe
    exact op_notIn_str pins s σ H _ _ v u Q I rx ry ⟨_, _, rfl, rfl, k.here r0 h (.bl _)⟩
  · exact op_notInT hu pins s σ H _ _ v u Q I rx ry ⟨d.py, D.pys es, hY ▸ qd.dp r0.sub n2, hY ▸ qe.dp r0.sub m2, D.shaped n2 n1, D.shaped m2 m1, by rw [pys_any]; exact k.here r0 h (.bl _)⟩
  · exact op_notInD hu pins s σ H _ _ v u Q I rx ry ⟨d.py, D.pys es, hY ▸ qd.dp r0.sub n2, hY ▸ qe.dp r0.sub m2, D.shaped n2 n1, D.shaped m2 m1, by rw [pys_any]; exact k.here r0 h (.bl _)⟩
  · obtain ⟨a1, xs1, rfl, h1, q1⟩ := qe.dctI
    obtain rfl : u = Value.ref a1 := ry
    have e1 := qd.key hk
    subst e1
    refine d_notIn (by omega) I (DGet.k (r0.sub _ _ h1)) rx fun s3 I3 => ⟨.bl _, H, I3, rfl, ?_⟩
    rw [q1.get k0]
    exact k.here r0 h (.bl _)
/-! ### subscripts -/
def ixD : O2 := fun _ d e P => match d, e with
  | .str a, .int i => a.length ≤ LINE ∧ ∃ z, atI a.cps.toList i = some z ∧ P (.str ⟨#[z]⟩)
  | .tup a, .int i => ∃ z, atI a i = some z ∧ P z
  | .lst a, .int i => ∃ z, atI a i = some z ∧ P z
  | _, _ => False
theorem Reps.atI {ds : List D} {vs : List V} (q : Reps Y G ds vs) {i : Int} {z : D} (h : L2.atI ds i = some z) : ∃ v, L2.atI vs i = some v ∧ Rep Y G z v := by
  unfold L2.atI at h ⊢
  rw [q.length] at h
  cases e : ixN vs.length i with
  | none => rw [e] at h; cases h
  | some j =>
    rw [e] at h
    exact q.get (i := j) h
theorem ix_d (hY : Y.K = X.K) : IxR X (l2 Y ixD) := by
  intro value slice pins s σ H x y v u Q I rx ry ⟨G, mu, c, d, e, P, r0, qd, qe, h, k⟩ hs
  have e0 := line_eq
  cases d <;> cases e <;> first | exact False.elim h | skip
  · cases qd; cases qe
    obtain ⟨h1, z, h2, h3⟩ := h
    exact ix_str value slice pins s σ H _ _ v u Q I rx ry ⟨_, _, _, rfl, rfl, by rw [e0]; exact h1, h2, k.here r0 h3 (.str _)⟩ hs
  · obtain ⟨a1, xs1, rfl, h1, q1⟩ := qd.tupI
    cases qe
    obtain ⟨z, h2, h3⟩ := h
    obtain ⟨w, h4, q4⟩ := q1.atI h2
    exact ix_tup value slice pins s σ H _ _ v u Q I rx ry ⟨_, _, _, _, rfl, rfl, sqT_mono r0.sub (hY ▸ h1), h4, k.here r0 h3 q4⟩ hs
  · obtain ⟨a1, xs1, rfl, h1, q1⟩ := qd.lstI
    cases qe
    obtain ⟨z, h2, h3⟩ := h
    obtain ⟨w, h4, q4⟩ := q1.atI h2
    exact ix_list value slice pins s σ H _ _ v u Q I rx ry ⟨_, _, _, _, rfl, rfl, SqL.of (r0.sub _ _ h1), h4, k.here r0 h3 q4⟩ hs
theorem de_ix {W : WX} {a b : Expr} {ma mb : ME} {pos : Pos} (hY : Y.K = X.K) (ha : DE X Y W a ma) (hb : DE X Y W b mb) (hs : PlainIx b := by intro _ _; rfl) : DE X Y W (.Subscript a b pos) (mOp ixD ma mb) :=
  peImp (pe_ix (ix_d hY) ha hb hs) (mOp_ok fun _ _ _ _ h => h)
/-! slices -/
def cutD {α : Type} (xs : List α) (lo hi : Option Int) : List α := (xs.drop (HT.sIx xs.length 0 lo)).take (HT.sIx xs.length xs.length hi - HT.sIx xs.length 0 lo)
abbrev MO1 := S → (Option Int → S → Prop) → PXT → Prop
def TOof (Y : Yc) (W : WX) (m : MO1) : TO := fun σ H Q => ∃ G st P PX, R Y G st σ H ∧ m st P PX ∧ XPost Y W G st σ H PX ∧
  ∀ b st' G' H', P b st' → Same G G' → Frm Y G st.mu H G' st'.mu H' → R Y G' st' σ H' → Q b H'
abbrev DO (X : Cx) (Y : Yc) (W : WX) (e : Option Expr) (m : MO1) : Prop := PO X e (TOof Y W m)
theorem poImp {e : Option Expr} {t t' : TO} (h : PO X e t) (i : ∀ σ H Q, t' σ H Q → t σ H Q) : PO X e t' := ⟨fun pins s σ H Q I q => h.run pins s σ H Q I (i σ H Q q)⟩
def mONone : MO1 := fun st P _ => P none st
def mOSome (m : ME) : MO1 := fun st P PX => m st (fun d s1 => ∃ i, d = .int i ∧ P (some i) s1) PX
theorem do_none {W : WX} : DO X Y W none mONone := poImp po_none fun σ H Q ⟨G, st, P, PX, rr, hm, xp, k⟩ => k _ _ G H hm (Same.refl G) .refl rr
theorem do_some {W : WX} {e : Expr} {m : ME} (h : DE X Y W e m) : DO X Y W (some e) (mOSome m) :=
  poImp (po_some h) fun σ H Q ⟨G, st, P, PX, rr, hm, xp, k⟩ => ⟨G, st, fun d s1 => ∃ i, d = .int i ∧ P (some i) s1, PX, rr, hm, xp, fun d s1 v G1 H1 ⟨i, e1, hp⟩ g f r q => by
    subst e1
    cases q
    exact ⟨i, rfl, k _ _ G1 H1 hp g f r⟩⟩
def slD (d : D) (lo hi : Option Int) (P : D → Prop) : Prop := match d with
  | .str a => a.length ≤ LINE ∧ P (.str ⟨(cutD a.cps.toList lo hi).toArray⟩)
  | .tup a => P (.tup (cutD a lo hi))
  | .lst a => P (.lst (cutD a lo hi))
  | _ => False
def mSl (m : ME) (l h : MO1) : ME := fun st P PX => m st (fun d s1 => l s1 (fun lo s2 => h s2 (fun hi s3 => slD d lo hi fun r => P r s3) PX) PX) PX
theorem Reps.cut {ds : List D} {vs : List V} (q : Reps Y G ds vs) (lo hi : Option Int) : Reps Y G (cutD ds lo hi) (cutV vs lo hi) := by
  unfold cutD cutV
  rw [q.length]
  exact (q.drop _).take _
theorem cutV_all {vs : List V} {lo hi : Option Int} (h : HT.sIx vs.length 0 lo = 0 ∧ HT.sIx vs.length vs.length hi = vs.length) : cutV vs lo hi = vs := by
  unfold cutV
  rw [h.1, h.2]
  simp
def lSl (Y : Yc) : V → Option Int → Option Int → Hp → VK → Prop := fun x lo hi H Q => ∃ G mu c d P, R0 Y G mu c H ∧ Rep Y G d x ∧ slD d lo hi P ∧ Post Y G mu c H P Q
theorem sl_d (hY : Y.K = X.K) : SlR X (lSl Y) := by
  intro pins s σ H x v vl vu lo hi sl Q I rx hs pl pu ⟨G, mu, c, d, P, r0, qd, h, k⟩
  have e0 := line_eq
  cases d <;> first | exact False.elim h | skip
  · cases qd
    exact sl_str pins s σ H _ v vl vu lo hi sl Q I rx hs pl pu ⟨_, rfl, by rw [e0]; exact h.1, k.here r0 h.2 (.str _)⟩
  · obtain ⟨a1, xs1, rfl, h1, q1⟩ := qd.tupI
    refine sl_tupA pins s σ H _ v vl vu lo hi sl Q I rx hs pl pu ⟨_, _, rfl, sqT_mono r0.sub (hY ▸ h1), fun hw => ?_, fun _ => k.tup r0 h (q1.cut lo hi)⟩
    have e := q1.cut lo hi
    rw [cutV_all hw] at e
    exact k.here r0 h (.tup h1 e)
  · obtain ⟨a1, xs1, rfl, h1, q1⟩ := qd.lstI
    exact sl_list pins s σ H _ v vl vu lo hi sl Q I rx hs pl pu ⟨_, _, rfl, SqL.of (r0.sub _ _ h1), k.lst r0 h (q1.cut lo hi)⟩
theorem de_sl {W : WX} {e : Expr} {m : ME} {lo hi : Option Expr} {l h : MO1} {p2 pos : Pos} (hY : Y.K = X.K) (he : DE X Y W e m) (hl : DO X Y W lo l) (hh : DO X Y W hi h) : DE X Y W (.Subscript e (.Slice lo hi none p2) pos) (mSl m l h) :=
  peImp (pe_slice (sl_d hY) he hl hh) fun σ H Q ⟨G, st, P, PX, rr, hm, xp, k⟩ => ⟨G, st, _, PX, rr, hm, xp, fun d s1 v G1 H1 hm1 g1 f1 r1 q1 =>
    ⟨G1, s1, _, PX, r1, hm1, xp.on g1 f1, fun lo s2 G2 H2 hm2 g2 f2 r2 =>
      ⟨G2, s2, _, PX, r2, hm2, xp.on (g1.trans g2) (f1.trans f2), fun hi s3 G3 H3 hm3 g3 f3 r3 =>
        ⟨G3, s3.mu, s3.c, d, _, r3.h, (q1.mono g2).mono g3, hm3, fun z v4 G4 H4 hp g4 h4 r4 q4 =>
          k z s3 v4 G4 H4 hp (((g1.trans g2).trans g3).trans g4) (((f1.trans f2).trans f3).trans h4) ⟨r4, r3.s.mono g4⟩ q4⟩⟩⟩⟩
/-! ### built-in functions -/
def lenD : OL := fun _ ds P => match ds with
  | [.str a] => a.length ≤ LINE ∧ P (.int a.length)
  | [.tup a] => P (.int a.length)
  | [.lst a] => P (.int a.length)
  | _ => False
theorem Reps.one {d : D} {xs : List V} (q : Reps Y G [d] xs) : ∃ v, xs = [v] ∧ Rep Y G d v := by
  cases q with
  | cons h r => cases r; exact ⟨_, rfl, h⟩
theorem Reps.two {d e : D} {xs : List V} (q : Reps Y G [d, e] xs) : ∃ v w, xs = [v, w] ∧ Rep Y G d v ∧ Rep Y G e w := by
  cases q with
  | cons h r =>
    obtain ⟨w, rfl, h2⟩ := r.one
    exact ⟨_, _, rfl, h, h2⟩
theorem cd_len (hY : Y.K = X.K) : CallD X Y (.builtin "len") lenD := by
  intro pins s σ H xs us Q I r ⟨G, mu, c, ds, P, r0, q, h, k⟩
  unfold lenD at h
  split at h
  · obtain ⟨v, rfl, q1⟩ := q.one
    cases q1
    exact call_len_str pins s σ H _ us Q I r ⟨_, rfl, by rw [line_eq]; exact h.1, k.here r0 h.2 (.int _)⟩
  · obtain ⟨v, rfl, q1⟩ := q.one
    obtain ⟨a1, xs1, rfl, h1, q1⟩ := q1.tupI
    exact call_len_seq pins s σ H _ us Q I r ⟨_, _, rfl, .inr (sqT_mono r0.sub (hY ▸ h1)), by rw [← q1.length]; exact k.here r0 h (.int _)⟩
  · obtain ⟨v, rfl, q1⟩ := q.one
    obtain ⟨a1, xs1, rfl, h1, q1⟩ := q1.lstI
    exact call_len_seq pins s σ H _ us Q I r ⟨_, _, rfl, .inl (SqL.of (r0.sub _ _ h1)), by rw [← q1.length]; exact k.here r0 h (.int _)⟩
  · exact h.elim
def absD : OL := fun _ ds P => match ds with
  | [.int i] => P (.int (if i < 0 then -i else i))
  | _ => False
theorem cd_abs : CallD X Y (.builtin "abs") absD := by
  intro pins s σ H xs us Q I r ⟨G, mu, c, ds, P, r0, q, h, k⟩
  unfold absD at h
  split at h
  · obtain ⟨v, rfl, q1⟩ := q.one
    cases q1
    exact call_abs pins s σ H _ us Q I r ⟨_, rfl, k.here r0 h (.int _)⟩
  · exact h.elim
/-- int(x) of a number -/
def toIntD : OL := fun _ ds P => match ds with
  | [.int i] => P (.int i)
  | [.bl b] => P (.int (if b then 1 else 0))
  | _ => False
theorem cd_int : CallD X Y (.type "int") toIntD := by
  intro pins s σ H xs us Q I r ⟨G, mu, c, ds, P, r0, q, h, k⟩
  unfold toIntD at h
  split at h
  · obtain ⟨v, rfl, q1⟩ := q.one
    cases q1
    exact call_int1 pins s σ H _ us Q I r (.inl ⟨_, rfl, k.here r0 h (.int _)⟩)
  · obtain ⟨v, rfl, q1⟩ := q.one
    cases q1
    exact call_int1 pins s σ H _ us Q I r (.inr ⟨_, rfl, k.here r0 h (.int _)⟩)
  · exact h.elim
/-- the ints of a list -/
def intsOf : List D → Option (List Int)
  | [] => some []
  | .int i :: r => (intsOf r).map (i :: ·)
  | _ => none
theorem intsOf_reps : ∀ {ds : List D} {vs : List V} {ns : List Int}, intsOf ds = some ns → Reps Y G ds vs → vs = ns.map V.int
  | [], _, _, h, q => by
    cases h
    cases q
    rfl
  | d :: ds, _, ns, h, q => by
    cases q with
    | cons q1 q2 =>
      cases d <;> first | cases h | skip
      rename_i i
      cases e : intsOf ds with
      | none => simp [intsOf, e] at h
      | some ms =>
        simp [intsOf, e] at h
        subst h
        cases q1
        rw [intsOf_reps e q2, List.map_cons]
def maxD : OL := fun _ ds P => match ds with
  | [.int i, .int j] => P (.int (if j > i then j else i))
  | [.lst a] => ∃ ns, intsOf a = some ns ∧ 0 < ns.length ∧ ∀ m, m ∈ ns → (∀ y, y ∈ ns → y ≤ m) → P (.int m)
  | _ => False
theorem cd_max (hc : X.calm = true) : CallD X Y (.builtin "max") maxD := by
  intro pins s σ H xs us Q I r ⟨G, mu, c, ds, P, r0, q, h, k⟩
  unfold maxD at h
  split at h
  · obtain ⟨v, w, rfl, q1, q2⟩ := q.two
    cases q1; cases q2
    exact call_max2 hc pins s σ H _ us Q I r ⟨_, _, rfl, k.here r0 h (.int _)⟩
  · obtain ⟨v, rfl, q1⟩ := q.one
    obtain ⟨a1, xs1, rfl, h1, q1⟩ := q1.lstI
    obtain ⟨ns, h2, h3, h4⟩ := h
    have e := intsOf_reps h2 q1
    subst e
    exact cr_max hc pins s σ H _ us Q I r ⟨_, _, rfl, SqL.of (r0.sub _ _ h1), h3, fun m m1 m2 => k.here r0 (h4 m m1 m2) (.int _)⟩
  · exact h.elim
def minD : OL := fun _ ds P => match ds with
  | [.int i, .int j] => P (.int (if j < i then j else i))
  | [.lst a] => ∃ ns, intsOf a = some ns ∧ 0 < ns.length ∧ ∀ m, m ∈ ns → (∀ y, y ∈ ns → m ≤ y) → P (.int m)
  | _ => False
theorem cd_min (hc : X.calm = true) : CallD X Y (.builtin "min") minD := by
  intro pins s σ H xs us Q I r ⟨G, mu, c, ds, P, r0, q, h, k⟩
  unfold minD at h
  split at h
  · obtain ⟨v, w, rfl, q1, q2⟩ := q.two
    cases q1; cases q2
    exact call_min2 hc pins s σ H _ us Q I r ⟨_, _, rfl, k.here r0 h (.int _)⟩
  · obtain ⟨v, rfl, q1⟩ := q.one
    obtain ⟨a1, xs1, rfl, h1, q1⟩ := q1.lstI
    obtain ⟨ns, h2, h3, h4⟩ := h
    have e := intsOf_reps h2 q1
    subst e
    exact cr_min hc pins s σ H _ us Q I r ⟨_, _, rfl, SqL.of (r0.sub _ _ h1), h3, fun m m1 m2 => k.here r0 (h4 m m1 m2) (.int _)⟩
  · exact h.elim
/-- the truths of a list -/
def blsOf : List D → Option (List Bool)
  | [] => some []
  | .bl i :: r => (blsOf r).map (i :: ·)
  | _ => none
theorem blsOf_reps : ∀ {ds : List D} {vs : List V} {ns : List Bool}, blsOf ds = some ns → Reps Y G ds vs → vs = ns.map V.bl
  | [], _, _, h, q => by
    cases h
    cases q
    rfl
  | d :: ds, _, ns, h, q => by
    cases q with
    | cons q1 q2 =>
      cases d <;> first | cases h | skip
      rename_i i
      cases e : blsOf ds with
      | none => simp [blsOf, e] at h
      | some ms =>
        simp [blsOf, e] at h
        subst h
        cases q1
        rw [blsOf_reps e q2, List.map_cons]
def allD : OL := fun _ ds P => match ds with
  | [.lst a] => ∃ bs, blsOf a = some bs ∧ P (.bl (bs.all id))
  | _ => False
theorem cd_all (hc : X.calm = true) : CallD X Y (.builtin "all") allD := by
  intro pins s σ H xs us Q I r ⟨G, mu, c, ds, P, r0, q, h, k⟩
  unfold allD at h
  split at h
  · obtain ⟨v, rfl, q1⟩ := q.one
    obtain ⟨a1, xs1, rfl, h1, q1⟩ := q1.lstI
    obtain ⟨ns, h2, h3⟩ := h
    have e := blsOf_reps h2 q1
    subst e
    exact cr_all hc pins s σ H _ us Q I r ⟨_, _, rfl, SqL.of (r0.sub _ _ h1), k.here r0 h3 (.bl _)⟩
  · exact h.elim
def anyD : OL := fun _ ds P => match ds with
  | [.lst a] => ∃ bs, blsOf a = some bs ∧ P (.bl (bs.any id))
  | _ => False
theorem cd_any (hc : X.calm = true) : CallD X Y (.builtin "any") anyD := by
  intro pins s σ H xs us Q I r ⟨G, mu, c, ds, P, r0, q, h, k⟩
  unfold anyD at h
  split at h
  · obtain ⟨v, rfl, q1⟩ := q.one
    obtain ⟨a1, xs1, rfl, h1, q1⟩ := q1.lstI
    obtain ⟨ns, h2, h3⟩ := h
    have e := blsOf_reps h2 q1
    subst e
    exact cr_any hc pins s σ H _ us Q I r ⟨_, _, rfl, SqL.of (r0.sub _ _ h1), k.here r0 h3 (.bl _)⟩
  · exact h.elim
def sumD : OL := fun _ ds P => match ds with
  | [.lst a] => ∃ ns, intsOf a = some ns ∧ P (.int ns.sum)
  | _ => False
theorem cd_sum (hc : X.calm = true) : CallD X Y (.builtin "sum") sumD := by
  intro pins s σ H xs us Q I r ⟨G, mu, c, ds, P, r0, q, h, k⟩
  unfold sumD at h
  split at h
  · obtain ⟨v, rfl, q1⟩ := q.one
    obtain ⟨a1, xs1, rfl, h1, q1⟩ := q1.lstI
    obtain ⟨ns, h2, h3⟩ := h
    have e := intsOf_reps h2 q1
    subst e
    exact cr_sum hc pins s σ H _ us Q I r ⟨_, _, rfl, SqL.of (r0.sub _ _ h1), k.here r0 h3 (.int _)⟩
  · exact h.elim
def listD : OL := fun _ ds P => match ds with
  | [.lst a] => P (.lst a)
  | [.tup a] => P (.lst a)
  | _ => False
theorem cd_list (hY : Y.K = X.K) : CallD X Y (.type "list") listD := by
  intro pins s σ H xs us Q I r ⟨G, mu, c, ds, P, r0, q, h, k⟩
  unfold listD at h
  split at h
  · obtain ⟨v, rfl, q1⟩ := q.one
    obtain ⟨a1, xs1, rfl, h1, q1⟩ := q1.lstI
    exact call_list_of pins s σ H _ us Q I r ⟨_, _, rfl, .inl (SqL.of (r0.sub _ _ h1)), k.lst r0 h q1⟩
  · obtain ⟨v, rfl, q1⟩ := q.one
    obtain ⟨a1, xs1, rfl, h1, q1⟩ := q1.tupI
    exact call_list_of pins s σ H _ us Q I r ⟨_, _, rfl, .inr (sqT_mono r0.sub (hY ▸ h1)), k.lst r0 h q1⟩
  · exact h.elim
def tupleD : OL := fun _ ds P => match ds with
  | [.lst a] => P (.tup a)
  | [.tup a] => P (.tup a)
  | _ => False
theorem cd_tuple (hY : Y.K = X.K) : CallD X Y (.type "tuple") tupleD := by
  intro pins s σ H xs us Q I r ⟨G, mu, c, ds, P, r0, q, h, k⟩
  unfold tupleD at h
  split at h
  · obtain ⟨v, rfl, q1⟩ := q.one
    obtain ⟨a1, xs1, rfl, h1, q1⟩ := q1.lstI
    exact call_tuple_of pins s σ H _ us Q I r ⟨_, _, rfl, .inl ⟨SqL.of (r0.sub _ _ h1), k.tup r0 h q1⟩⟩
  · obtain ⟨v, rfl, q1⟩ := q.one
    obtain ⟨a1, xs1, rfl, h1, q1⟩ := q1.tupI
    exact call_tuple_of pins s σ H _ us Q I r ⟨_, _, rfl, .inr ⟨sqT_mono r0.sub (hY ▸ h1), k.here r0 h (.tup h1 q1)⟩⟩
  · exact h.elim
end
end DL
namespace DL
open PySem L2
section
variable {X : Cx} {Y : Yc} {W : WX} {G : Hp} {mu : Mu} {c : Nat} {H : Hp} {P : D → Prop} {Q : VK} {a b e : Expr} {ma mb mc me : ME} {pos : Pos} {es : List Expr} {mas : MA}
def dixD : O2 := fun _ d e P => match d with
  | .dct es => ∃ k z, e.key = some k ∧ look es k = some z ∧ P z
  | _ => False
theorem ix_dct (hu : X.A.units + 1 < cLine) : IxR X (l2 Y dixD) := by
  intro value slice pins s σ H x y v u Q I rx ry ⟨G, mu, c, d, e, P, r0, qd, qe, h, k⟩ hs
  cases d <;> first | exact False.elim h | skip
  obtain ⟨k1, z, h1, h2, h3⟩ := h
  obtain ⟨a1, xs1, rfl, hd, q1⟩ := qd.dctI
  have ey := qe.key h1
  subst ey
  obtain ⟨w, h4, q4⟩ := (q1.look k1).1 z h2
  obtain rfl : v = Value.ref a1 := rx
  have g : DGet H a1 (kV k1) (some w) := by rw [← h4]; exact DGet.k (r0.sub _ _ hd)
  exact PyProof.Rows.tail_any (dict_typeIs I g) PySem.F.slot_dict_getitem.lookup (d_getItem hu I g ry fun w' s3 I3 rw' => ⟨w, H, I3, rw', k.here r0 h3 q4⟩) hs
theorem IxR.imp {r r' : R2} (h : IxR X r) (i : ∀ x y H Q, r' x y H Q → r x y H Q) : IxR X r' := fun value slice pins s σ H x y v u Q I rx ry q hs => h value slice pins s σ H x y v u Q I rx ry (i _ _ _ _ q) hs
/-- x[i], whatever x is -/
def subD : O2 := fun mu d e P => match d with
  | .dct es => dixD mu (.dct es) e P
  | d => ixD mu d e P
theorem ix_any (hY : Y.K = X.K) (hu : X.A.units + 1 < cLine) : IxR X (l2 Y subD) := by
  refine IxR.imp (r := fun x y H Q => l2 Y dixD x y H Q ∨ l2 Y ixD x y H Q) ((ix_dct hu).or (ix_d hY)) fun x y H Q ⟨G, mu, c, d, e, P, r0, qd, qe, h, k⟩ => ?_
  cases d <;> first
    | exact .inl ⟨G, mu, c, _, e, P, r0, qd, qe, h, k⟩
    | exact .inr ⟨G, mu, c, _, e, P, r0, qd, qe, h, k⟩
theorem de_sub (hY : Y.K = X.K) (hu : X.A.units + 1 < cLine) (ha : DE X Y W a ma) (hb : DE X Y W b mb) (hs : PlainIx b := by intro _ _; rfl) : DE X Y W (.Subscript a b pos) (mOp subD ma mb) :=
  peImp (pe_ix (ix_any hY hu) ha hb hs) (mOp_ok fun _ _ _ _ h => h)
/-! a display -/
def putD (es : List (Key × D)) (k : Key) (v : D) : List (Key × D) := if (es.any fun e => decide (e.1 = k)) = true then es.map fun e => if e.1 = k then (e.1, v) else e else es ++ [(k, v)]
def mergeD (es more : List (Key × D)) : List (Key × D) := more.foldl (fun acc e => putD acc e.1 e.2) es
theorem Repk.any {es : List (Key × D)} {vs : List (Key × V)} (q : Repk Y G es vs) (k : Key) : (es.any fun e => decide (e.1 = k)) = (vs.any fun e => decide (e.1 = k)) := by
  induction es generalizing vs with
  | nil => cases q; rfl
  | cons p es ih =>
    cases q with
    | cons k0 h r => rw [List.any_cons, List.any_cons, ih r]
theorem Repk.map {es : List (Key × D)} {vs : List (Key × V)} (q : Repk Y G es vs) (k : Key) {d : D} {v : V} (h : Rep Y G d v) : Repk Y G (es.map fun e => if e.1 = k then (e.1, d) else e) (vs.map fun e => if e.1 = k then (e.1, v) else e) := by
  induction es generalizing vs with
  | nil => cases q; exact .nil
  | cons p es ih =>
    cases q with
    | cons k0 h0 r =>
      rw [List.map_cons, List.map_cons]
      by_cases e : k0 = k
      · rw [if_pos e, if_pos e]; exact .cons k0 h (ih r)
      · rw [if_neg e, if_neg e]; exact .cons k0 h0 (ih r)
theorem Repk.append {es es2 : List (Key × D)} {vs vs2 : List (Key × V)} (q : Repk Y G es vs) (q2 : Repk Y G es2 vs2) : Repk Y G (es ++ es2) (vs ++ vs2) := by
  induction es generalizing vs with
  | nil => cases q; exact q2
  | cons p es ih =>
    cases q with
    | cons k0 h0 r => exact .cons k0 h0 (ih r)
theorem Repk.put {es : List (Key × D)} {vs : List (Key × V)} (q : Repk Y G es vs) (k : Key) {d : D} {v : V} (h : Rep Y G d v) : Repk Y G (putD es k d) (putK vs k v) := by
  unfold putD putK
  rw [q.any k]
  split
  · exact q.map k h
  · exact q.append (.cons k h .nil)
theorem Repk.merge {es : List (Key × D)} {vs : List (Key × V)} {more : List (Key × D)} {more2 : List (Key × V)} (q : Repk Y G es vs) (q2 : Repk Y G more more2) : Repk Y G (mergeD es more) (mergeK vs more2) := by
  induction more generalizing es vs more2 with
  | nil => cases q2; exact q
  | cons p more ih =>
    cases q2 with
    | cons k0 h0 r => exact ih (es := putD es k0 _) (vs := putK vs k0 _) (q.put k0 h0) r
/-- an object that the walk does not speak of -/
theorem R0.add (h : R0 Y G mu c H) {q : Addr} (hq : H q = none) (o : HO) : R0 Y G mu c (upd H q o) := by
  refine ⟨fun b x e => ?_, fun a m e => ?_, ?_⟩
  · rw [upd_ne (ne_of_none (h.sub b x e) hq)]; exact h.sub b x e
  · obtain ⟨h1, x, h2, h3⟩ := h.mus a m e
    exact ⟨h1, x, by rw [upd_ne (ne_of_none h2 hq)]; exact h2, h3⟩
  · obtain ⟨x, h1, h2, h3, h4⟩ := h.pen
    exact ⟨x, by rw [upd_ne (ne_of_none h1 hq)]; exact h1, h2, h3, h4⟩
/-- .. is taken over as it then is -/
theorem R0.take (h : R0 Y G mu c H) {q : Addr} (hG : G q = none) (hm : mu q = none) (hp : q ≠ Y.p) (o : HO) : R0 Y (upd G q o) mu c (upd H q o) := by
  have sG : Same G (upd G q o) := same_upd hG
  refine ⟨fun b x e => ?_, fun a m e => ?_, ?_⟩
  · by_cases hb : b = q
    · subst hb; rw [upd_same] at e ⊢; exact e
    · rw [upd_ne hb] at e ⊢; exact h.sub b x e
  · obtain ⟨h1, x, h2, h3⟩ := h.mus a m e
    have hn : a ≠ q := fun z => by subst z; rw [hm] at e; cases e
    exact ⟨by rw [upd_ne hn]; exact h1, x, by rw [upd_ne hn]; exact h2, h3.mono sG⟩
  · obtain ⟨x, h1, h2, h3, h4⟩ := h.pen
    exact ⟨x, by rw [upd_ne hp.symm]; exact h1, Y.mono _ _ _ _ sG h2, by rw [upd_ne hp.symm]; exact h3, h4⟩
/-- .. changes and stays untold -/
theorem R0.turn (h : R0 Y G mu c H) {q : Addr} (hG : G q = none) (hm : mu q = none) (hp : q ≠ Y.p) (o : HO) : R0 Y G mu c (upd H q o) := by
  refine ⟨fun b x e => ?_, fun a m e => ?_, ?_⟩
  · have hb : b ≠ q := fun z => by subst z; rw [hG] at e; cases e
    rw [upd_ne hb]; exact h.sub b x e
  · obtain ⟨h1, x, h2, h3⟩ := h.mus a m e
    have hn : a ≠ q := fun z => by subst z; rw [hm] at e; cases e
    exact ⟨h1, x, by rw [upd_ne hn]; exact h2, h3⟩
  · obtain ⟨x, h1, h2, h3, h4⟩ := h.pen
    exact ⟨x, by rw [upd_ne hp.symm]; exact h1, h2, h3, h4⟩
theorem R0.fresh (h : R0 Y G mu c H) {q : Addr} (hq : H q = none) : G q = none ∧ mu q = none ∧ q ≠ Y.p := by
  refine ⟨h.sub.free hq, ?_, fun z => ?_⟩
  · cases e : mu q with
    | none => rfl
    | some m =>
      obtain ⟨_, x, h2, _⟩ := h.mus q m e
      rw [hq] at h2; cases h2
  · subst z
    obtain ⟨x, h1, _⟩ := h.pen
    rw [hq] at h1; cases h1
/-- the pairs of a display -/
abbrev MP := List (ME × ME)
def pairsGo : MP → S → (List (D × D) → S → Prop) → PXT → Prop
  | [], st, P, _ => P [] st
  | (mk, mv) :: r, st, P, PX => mk st (fun k s1 => mv s1 (fun v s2 => pairsGo r s2 (fun ps s3 => P ((k, v) :: ps) s3) PX) PX) PX
def keysOf : List (D × D) → Option (List (Key × D))
  | [] => some []
  | (k, v) :: r => k.key.bind fun k => (keysOf r).map ((k, v) :: ·)
def mDisp (ms : MP) : ME := fun st P PX => pairsGo ms st (fun ps s1 => ∃ es, keysOf ps = some es ∧ es.length ≤ 15 ∧ P (.dct (mergeD [] es)) s1) PX
inductive DPs (X : Cx) (Y : Yc) (W : WX) : List (Option Expr) → List Expr → MP → Prop
  | nil : DPs X Y W [] [] []
  | cons {k v : Expr} {ks : List (Option Expr)} {vs : List Expr} {mk mv : ME} {r : MP} (hk : DE X Y W k mk) (hv : DE X Y W v mv) (hr : DPs X Y W ks vs r) : DPs X Y W (some k :: ks) (v :: vs) ((mk, mv) :: r)
def trsOf (Y : Yc) (W : WX) (ms : MP) : List (TE × TE) := ms.map fun p => (TEof Y W p.1, TEof Y W p.2)
theorem DPs.pps {ks : List (Option Expr)} {vs : List Expr} {ms : MP} (h : DPs X Y W ks vs ms) : PPs X pos ks vs (trsOf Y W ms) := by
  induction h with
  | nil => exact pps_nil
  | cons hk hv _ ih => exact pps_cons hk hv ih
inductive RepP (Y : Yc) (G : Hp) : List (D × D) → List (V × V) → Prop
  | nil : RepP Y G [] []
  | cons {k v : D} {x y : V} {r : List (D × D)} {s : List (V × V)} (hk : Rep Y G k x) (hv : Rep Y G v y) (hr : RepP Y G r s) : RepP Y G ((k, v) :: r) ((x, y) :: s)
theorem RepP.keys : ∀ {ps : List (D × D)} {qs : List (V × V)} {es : List (Key × D)}, RepP Y G ps qs → keysOf ps = some es → ∃ kvs, qs = kvs.map (fun kv => (kV kv.1, kv.2)) ∧ Repk Y G es kvs := by
  intro ps qs es h
  induction h generalizing es with
  | nil => intro e; cases e; exact ⟨[], rfl, .nil⟩
  | @cons k v x y r s hk hv hr ih =>
    intro e
    cases e1 : k.key with
    | none => simp [keysOf, e1] at e
    | some k0 =>
      cases e2 : keysOf r with
      | none => simp [keysOf, e1, e2] at e
      | some es0 =>
        simp [keysOf, e1, e2] at e
        subst e
        obtain ⟨kvs, rfl, q⟩ := ih e2
        have e3 := hk.key e1
        subst e3
        exact ⟨(k0, y) :: kvs, rfl, .cons k0 hv q⟩
theorem pairs_ok {σ : St} : ∀ {ms : MP} {G : Hp} {st : S} {H : Hp} {P : List (D × D) → S → Prop} {PX : PXT} {Q : List (V × V) → Hp → Prop}, R Y G st σ H → pairsGo ms st P PX → XPost Y W G st σ H PX →
    (∀ ps st' qs G' H', P ps st' → Same G G' → Frm Y G st.mu H G' st'.mu H' → R Y G' st' σ H' → RepP Y G' ps qs → Q qs H') → tPairs (trsOf Y W ms) σ H Q
  | [], G, st, H, P, PX, Q, r, h, xp, k => k [] st [] G H h (Same.refl G) .refl r .nil
  | (mk, mv) :: ms, G, st, H, P, PX, Q, r, h, xp, k =>
    ⟨G, st, _, PX, r, h, xp, fun d s1 v G1 H1 h1 g1 f1 r1 q1 => ⟨G1, s1, _, PX, r1, h1, xp.on g1 f1, fun e s2 w G2 H2 h2 g2 f2 r2 q2 =>
      pairs_ok r2 h2 (xp.on (g1.trans g2) (f1.trans f2)) fun ps st' qs G' H' h3 g3 f3 r3 q3 =>
        k _ st' _ G' H' h3 ((g1.trans g2).trans g3) ((f1.trans f2).trans f3) r3 (.cons ((q1.mono g2).mono g3) (q2.mono g3) q3)⟩⟩
theorem de_disp {ks : List (Option Expr)} {vs : List Expr} {ms : MP} (h : DPs X Y W ks vs ms) (hall : ks.all (·.isSome) = true := by rfl) (hl : ks.length = vs.length := by rfl) (h0 : ks ≠ [] := by exact List.cons_ne_nil _ _) (h15 : ks.length ≤ 15 := by decide) : DE X Y W (.Dict ks vs pos) (mDisp ms) :=
  peImp (pe_disp h.pps hall hl h0 h15) fun σ H Q ⟨G, st, P, PX, rr, hm, xp, k⟩ p hp => by
    have r1 : R Y G st σ (upd H p (.dK [])) := ⟨rr.h.add hp _, rr.s⟩
    obtain ⟨n1, n2, n3⟩ := rr.h.fresh hp
    refine pairs_ok r1 hm (xp.on (Same.refl G) (.add hp)) fun ps st' qs G' H' ⟨es, he, hlen, hP⟩ g f r q => ?_
    obtain ⟨e1, e2, e3⟩ := f p _ upd_same n1 n2 n3
    obtain ⟨kvs, rfl, qk⟩ := q.keys he
    have hlk : ∀ {es : List (Key × D)} {kvs : List (Key × V)}, Repk Y G' es kvs → kvs.length = es.length := by
      intro es
      induction es with
      | nil => intro kvs q; cases q; rfl
      | cons p es ih => intro kvs q; cases q with | cons k0 h0 r => rw [List.length_cons, List.length_cons, ih r]
    refine ⟨e1, kvs, rfl, by rw [hlk qk]; exact hlen, k _ st' _ _ _ hP (g.trans (same_upd e2)) (fun a o h1 h2 h3 h4 => ?_) ⟨r.h.take e2 e3 n3 _, r.s.mono (same_upd e2)⟩ (.dct upd_same ((Repk.merge .nil qk).mono (same_upd e2)))⟩
    have n := ne_of_none h1 hp
    obtain ⟨f1, f2, f3⟩ := f a o (by rw [upd_ne n]; exact h1) h2 h3 h4
    exact ⟨by rw [upd_ne n]; exact f1, by rw [upd_ne n]; exact f2, f3⟩
/-- {} -/
theorem de_dct0 : DE X Y W (.Dict [] [] pos) (mC (.dct [])) :=
  peImp pe_dnewK fun σ H Q ⟨G, st, P, PX, rr, hm, xp, k⟩ p hp => k _ _ _ _ _ hm (rr.h.new hp (.dK [])).2.1 (.new hp) (rr.new hp _) (.dct upd_same .nil)
/-! ### isinstance of built-in classes -/
def D.ty : D → Option String
  | .non => some "NoneType"
  | .bl _ => some "bool"
  | .int _ => some "int"
  | .str _ => some "str"
  | .tup _ => some "tuple"
  | .lst _ => some "list"
  | .dct _ => some "dict"
  | .pen => none
  | .ref _ => none
def D.isTy (T : String) (d : D) : Bool := match d.ty with
  | some t => t == T || (t == "bool" && T == "int")
  | none => false
theorem Rep.tyx {d : D} {v : V} {t : String} (q : Rep Y G d v) (h : d.ty = some t) (s : Same G H) : TyX Y.K H v (.type t) := by
  cases q <;> cases h
  · exact .base .non
  · exact .base (.bl _)
  · exact .base (.int _)
  · exact .base (.str _)
  · rename_i h1 _
    rcases h1 with (h1 | ⟨o, h1⟩) | ⟨o, its, n, hk, hc, _⟩
    · exact .base (.tup (s _ _ h1))
    · exact .fTuple (s _ _ h1)
    · exact .kTuple hk hc
  · rename_i h1 _
    exact .base (.lst (s _ _ h1))
  · rename_i h1 _
    exact .base (.dK (s _ _ h1))
/-- the built-in classes that isinstance is asked of -/
def kits (T : String) : Bool := ["NoneType", "bool", "int", "str", "tuple", "list", "dict"].all fun t => decide (kitB t T = some (t == T || (t == "bool" && T == "int")))
theorem kits_ok {T : String} (h : kits T = true) {d : D} {t : String} (hd : d.ty = some t) : kitB t T = some (d.isTy T) := by
  have h' := List.all_eq_true.mp h
  unfold D.isTy
  rw [hd]
  have hm : t ∈ ["NoneType", "bool", "int", "str", "tuple", "list", "dict"] := by cases d <;> cases hd <;> simp
  exact of_decide_eq_true (h' t hm)
theorem kits_str : kits "str" = true := by decide +kernel
theorem kits_tuple : kits "tuple" = true := by decide +kernel
theorem kits_list : kits "list" = true := by decide +kernel
theorem kits_dict : kits "dict" = true := by decide +kernel
theorem kits_int : kits "int" = true := by decide +kernel
theorem kits_bool : kits "bool" = true := by decide +kernel
theorem bb_str : bootBuiltins "str" = some (.type "str") := by decide +kernel
theorem bb_tuple : bootBuiltins "tuple" = some (.type "tuple") := by decide +kernel
theorem bb_list : bootBuiltins "list" = some (.type "list") := by decide +kernel
theorem bb_dict : bootBuiltins "dict" = some (.type "dict") := by decide +kernel
theorem bb_int : bootBuiltins "int" = some (.type "int") := by decide +kernel
theorem bb_bool : bootBuiltins "bool" = some (.type "bool") := by decide +kernel
theorem bb_isi : bootBuiltins "isinstance" = some (.builtin "isinstance") := by decide +kernel
theorem bb_abs : bootBuiltins "abs" = some (.builtin "abs") := by decide +kernel
theorem bb_max : bootBuiltins "max" = some (.builtin "max") := by decide +kernel
theorem bb_min : bootBuiltins "min" = some (.builtin "min") := by decide +kernel
theorem bb_all : bootBuiltins "all" = some (.builtin "all") := by decide +kernel
theorem bb_any : bootBuiltins "any" = some (.builtin "any") := by decide +kernel
theorem bb_sum : bootBuiltins "sum" = some (.builtin "sum") := by decide +kernel
def mIsi (T : String) (m : ME) : ME := fun st P PX => m st (fun d s1 => d.ty.isSome = true ∧ P (.bl (d.isTy T)) s1) PX
theorem de_isi {x : Str} {p p2 : Pos} {T : String} (hY : Y.K = X.K) (hg : Gl X "isinstance") (hm : X.mg "isinstance" = none) (he : DE X Y W e me) (hgT : Gl X x) (hmT : X.mg x = none) (hbT : bootBuiltins x = some (.type T)) (hk : kits T = true)
    (hn : x ≠ "__name__" := by decide) (hdb : (x == ("__debug__" : Str)) = false := by decide) (hb : bootBuiltins "isinstance" = some (.builtin "isinstance") := bb_isi)
    (h1 : starEach [e, .Name x p2] X.env = (false, eval e X.env) :: starEach [.Name x p2] X.env := by rfl) (h2 : starEach [.Name x p2] X.env = (false, eval (.Name x p2) X.env) :: starEach [] X.env := by rfl)
    (hpl : (backTo pos (starEach [.Name x p2] X.env)).any (·.1) = false := by rfl) : DE X Y W (.Call (.Name "isinstance" p) [e, .Name x p2] [] pos) (mIsi T me) :=
  peImp (pe_callB call_isi hg hm hb (pa_cons he (pa_cons (pe_bltn (v := .ty T) hgT hmT hbT rfl hn hdb) pa_nil h2) h1) (by decide) (by decide) h1 hpl) fun σ H Q ⟨G, st, P, PX, rr, hm, xp, k⟩ =>
    ⟨G, st, fun d s1 => d.ty.isSome = true ∧ P (.bl (d.isTy T)) s1, PX, rr, hm, xp, fun d s1 v G1 H1 ⟨h1, hp⟩ g f r q => by
      cases et : d.ty with
      | none => rw [et] at h1; cases h1
      | some t => exact ⟨v, .ty T, .type t, .type T, d.isTy T, rfl, .ty T, hY ▸ q.tyx et r.h.sub, kit_ty (kits_ok hk et), k _ s1 _ G1 H1 hp g f r (.bl _)⟩⟩
/-! ### methods of texts -/
def strsOf : List D → Option (List Str)
  | [] => some []
  | .str i :: r => (strsOf r).map (i :: ·)
  | _ => none
theorem strsOf_reps : ∀ {ds : List D} {vs : List V} {ns : List Str}, strsOf ds = some ns → Reps Y G ds vs → vs = ns.map V.str
  | [], _, _, h, q => by
    cases h
    cases q
    rfl
  | d :: ds, _, ns, h, q => by
    cases q with
    | cons q1 q2 =>
      cases d <;> first | cases h | skip
      rename_i i
      cases e : strsOf ds with
      | none => simp [strsOf, e] at h
      | some ms =>
        simp [strsOf, e] at h
        subst h
        cases q1
        rw [strsOf_reps e q2, List.map_cons]
def joinD : O2 := fun _ d e P => match d, e with
  | .str a, .lst b => ∃ ys, strsOf b = some ys ∧ (ys.map (·.length)).sum + ys.length * a.length ≤ LINE ∧ P (.str (Txt.join a ys))
  | .str a, .tup b => ∃ ys, strsOf b = some ys ∧ (ys.map (·.length)).sum + ys.length * a.length ≤ LINE ∧ P (.str (Txt.join a ys))
  | _, _ => False
/-- s.m(e), s a text -/
def mM1 (g : O2) (m n : ME) : ME := fun st P PX => m st (fun d s1 => (∃ z, d = .str z) ∧ n s1 (fun e s2 => g s2.mu d e fun r => P r s2) PX) PX
theorem mM1_ok {g : O2} {r : V → List V → Hp → VK → Prop} (hr : ∀ x y H Q, l2 Y g x y H Q → r x [y] H Q) : ∀ σ H Q, TEof Y W (mM1 g ma mb) σ H Q → tM1 r (TEof Y W ma) (TEof Y W mb) σ H Q := fun σ H Q ⟨G, st, P, PX, rr, hm, xp, k⟩ =>
  ⟨G, st, fun d s1 => (∃ z, d = .str z) ∧ mb s1 (fun e s2 => g s2.mu d e fun r => P r s2) PX, PX, rr, hm, xp, fun d s1 v G1 H1 ⟨⟨z, ez⟩, hm1⟩ g1 f1 r1 q1 => by
    subst ez
    cases q1
    exact ⟨⟨_, rfl⟩, G1, s1, _, PX, r1, hm1, xp.on g1 f1, fun e s2 w G2 H2 hm2 g2 f2 r2 q2 =>
      hr _ _ _ _ ⟨G2, s2.mu, s2.c, _, e, _, r2.h, .str z, q2, hm2, fun z v3 G3 H3 hp g3 h3 r3 q3 =>
        k z s2 v3 G3 H3 hp ((g1.trans g2).trans g3) ((f1.trans f2).trans h3) ⟨r3, r2.s.mono g3⟩ q3⟩⟩⟩
theorem de_join {apos : Pos} (hY : Y.K = X.K) (ho : DE X Y W a ma) (he : DE X Y W e me) (hs : starEach [e] X.env = [(false, eval e X.env)] := by rfl) (hbase : attributeBase a "join" X.env (eval a X.env) = eval a X.env := by rfl) (hline : (apos.endLine == pos.line) = true := by rfl) :
    DE X Y W (.Call (.Attribute a "join" apos) [e] [] pos) (mM1 joinD ma me) :=
  peImp (pe_join ho he hs hbase hline) (mM1_ok (g := joinD) fun x y H Q => fun ⟨G, mu, c, d, e, P, r0, qd, qe, h, k⟩ => by
    unfold joinD at h
    split at h
    · obtain ⟨ys, h1, h2, h3⟩ := h
      cases qd
      obtain ⟨a1, xs1, rfl, h4, q1⟩ := qe.lstI
      have e1 := strsOf_reps h1 q1
      subst e1
      exact ⟨_, _, ys, rfl, rfl, .inl (SqL.of (r0.sub _ _ h4)), h2, k.here r0 h3 (.str _)⟩
    · obtain ⟨ys, h1, h2, h3⟩ := h
      cases qd
      obtain ⟨a1, xs1, rfl, h4, q1⟩ := qe.tupI
      have e1 := strsOf_reps h1 q1
      subst e1
      exact ⟨_, _, ys, rfl, rfl, .inr (sqT_mono r0.sub (hY ▸ h4)), h2, k.here r0 h3 (.str _)⟩
    · exact h.elim)
def upperD : O1 := fun _ d P => match d with
  | .str a => a.length ≤ 5592405 ∧ P (.str (Txt.upper a))
  | _ => False
theorem de_upper {apos : Pos} (ho : DE X Y W a ma) (hbase : attributeBase a "upper" X.env (eval a X.env) = eval a X.env := by rfl) (hline : (apos.endLine == pos.line) = true := by rfl) :
    DE X Y W (.Call (.Attribute a "upper" apos) [] [] pos) (mUn upperD ma) :=
  peImp (pe_upper ho hbase hline) fun σ H Q ⟨G, st, P, PX, rr, hm, xp, k⟩ =>
    ⟨G, st, _, PX, rr, hm, xp, fun d s1 v G1 H1 hm1 g1 f1 r1 q1 => by
      cases d <;> first | exact False.elim hm1 | skip
      cases q1
      exact ⟨⟨_, rfl⟩, _, rfl, rfl, hm1.1, k _ s1 _ G1 H1 hm1.2 g1 f1 r1 (.str _)⟩⟩
/-! ### a chain of two comparisons -/
theorem dt_chain {op op' : CmpOp} {g g' : O2} {cc : Expr} (ho : OpD X Y (compareOp op) g) (ho' : OpD X Y (compareOp op') g') (ha : DE X Y W a ma) (hb : DE X Y W b mb) (hc : DE X Y W cc mc)
    (hm : lastMarks [op, op'] [b, cc] = false := by with_unfolding_all rfl) : DT X Y W (.Compare a [op, op'] [b, cc] pos) (mChain g g' ma mb mc) :=
  ptImp (pt_chain ho ho' ha hb hc hm) fun σ H Q ⟨G, st, P, PX, rr, h, xp, k⟩ =>
    ⟨G, st, _, PX, rr, h, xp, fun d s1 v G1 H1 h1 g1 f1 r1 q1 => ⟨G1, s1, _, PX, r1, h1, xp.on g1 f1, fun e s2 w G2 H2 h2 g2 f2 r2 q2 =>
      ⟨G2, s2.mu, s2.c, d, e, fun z => ∃ k, z = .bl k ∧ if k = true then mc s2 (fun w s3 => g' s3.mu e w fun z' => ∃ k', z' = .bl k' ∧ P k' s3) PX else P false s2, r2.h, q1.mono g2, q2, h2, fun z v3 G3 H3 ⟨kk, ez, hp⟩ g3 f3 r3 q3 => by
        subst ez
        cases q3
        refine ⟨kk, rfl, ?_⟩
        cases kk with
        | false => exact ⟨false, rfl, k false s2 G3 H3 hp ((g1.trans g2).trans g3) ((f1.trans f2).trans f3) ⟨r3, r2.s.mono g3⟩⟩
        | true =>
          refine ⟨G3, s2, fun w s3 => g' s3.mu e w fun z' => ∃ k', z' = .bl k' ∧ P k' s3, PX, ⟨r3, r2.s.mono g3⟩, hp, xp.on ((g1.trans g2).trans g3) ((f1.trans f2).trans f3), fun w4 s4 v4 G4 H4 h4 g4 f4 r4 q4 => ?_⟩
          refine ⟨G4, s4.mu, s4.c, e, w4, fun z' => ∃ k', z' = .bl k' ∧ P k' s4, r4.h, (q2.mono g3).mono g4, q4, h4, fun z5 v5 G5 H5 ⟨k5, e5, hp5⟩ g5 f5 r5 q5 => ?_⟩
          subst e5
          cases q5
          exact ⟨k5, rfl, k k5 s4 G5 H5 hp5 (((g1.trans g2).trans g3).trans (g4.trans g5)) (((f1.trans f2).trans f3).trans (f4.trans f5)) ⟨r5, r4.s.mono g5⟩⟩⟩⟩⟩
end
end DL
namespace DL
open PySem L2
/-- the iterator J yields the things ds, wherever G stands -/
structure Wk (Y : Yc) (G : Hp) (J : It) (ds : List D) : Prop where
  go : ∀ i H, i < ds.length → Same G H → J.go i H
  stop : ∀ H, Same G H → J.stop ds.length H
  yld : ∀ i H x H' G' mu c, i < ds.length → Same G G' → R0 Y G' mu c H → J.yld i H x H' → ∃ d G'', ds[i]? = some d ∧ Same G' G'' ∧ Frm Y G' mu H G'' mu H' ∧ R0 Y G'' mu c H' ∧ Rep Y G'' d x
theorem Wk.mono {Y : Yc} {G G' : Hp} {J : It} {ds : List D} (w : Wk Y G J ds) (s : Same G G') : Wk Y G' J ds :=
  ⟨fun i H h1 h2 => w.go i H h1 (s.trans h2), fun H h => w.stop H (s.trans h), fun i H x H' G1 mu c h1 h2 h3 h4 => w.yld i H x H' G1 mu c h1 (s.trans h2) h3 h4⟩
def TIof (Y : Yc) (W : WX) (m : MA) : TI := fun σ H Rr => ∃ G st P PX, R Y G st σ H ∧ m st P PX ∧ XPost Y W G st σ H PX ∧
  ∀ ds st' G' H' J, P ds st' → Same G G' → Frm Y G st.mu H G' st'.mu H' → R Y G' st' σ H' → Wk Y G' J ds → Rr J H'
abbrev DI (X : Cx) (Y : Yc) (W : WX) (tg e : Expr) (m : MA) : Prop := PI X tg e (TIof Y W m)
theorem piImp {X : Cx} {tg e : Expr} {t t' : TI} (h : PI X tg e t) (i : ∀ σ H Q, t' σ H Q → t σ H Q) : PI X tg e t' := ⟨fun pins s σ H Q I q => h.run pins s σ H Q I (i σ H Q q)⟩
section
variable {X : Cx} {Y : Yc} {W : WX} {G : Hp} {mu : Mu} {c : Nat} {H : Hp} {a b e tg : Expr} {ma mb mc me : ME} {pos : Pos} {es : List Expr} {mas mi : MA}
theorem wk_lst {a : Addr} {vs : List V} {ds : List D} (h : G a = some (.lst vs)) (q : Reps Y G ds vs) (hK : Y.K = X.K) : Wk Y G (Itl X.K a) ds where
  go := fun i H hi s => by
    obtain ⟨v, e, _⟩ := q.get (List.getElem?_eq_getElem hi)
    exact ⟨vs, v, SqL.of (s _ _ h), e⟩
  stop := fun H s => ⟨vs, SqL.of (s _ _ h), by rw [q.length]; exact Nat.le_refl _⟩
  yld := fun i H x H' G' mu c hi s r ⟨e1, e2⟩ => by
    subst e1
    obtain ⟨v, e, qv⟩ := q.get (List.getElem?_eq_getElem hi)
    have e3 := e2 vs (SqL.of (r.sub _ _ (s _ _ h)))
    rw [e] at e3
    cases e3
    exact ⟨_, G', List.getElem?_eq_getElem hi, Same.refl _, .refl, r, qv.mono s⟩
theorem wk_tup {a : Addr} {vs : List V} {ds : List D} (h : SqT Y.K G a vs) (q : Reps Y G ds vs) (hK : Y.K = X.K) : Wk Y G (Itt X.K a) ds where
  go := fun i H hi s => by
    obtain ⟨v, e, _⟩ := q.get (List.getElem?_eq_getElem hi)
    exact ⟨vs, v, sqT_mono s (hK ▸ h), e⟩
  stop := fun H s => ⟨vs, sqT_mono s (hK ▸ h), by rw [q.length]; exact Nat.le_refl _⟩
  yld := fun i H x H' G' mu c hi s r ⟨e1, e2⟩ => by
    subst e1
    obtain ⟨v, e, qv⟩ := q.get (List.getElem?_eq_getElem hi)
    have e3 := e2 vs (sqT_mono r.sub (sqT_mono s (hK ▸ h)))
    rw [e] at e3
    cases e3
    exact ⟨_, G', List.getElem?_eq_getElem hi, Same.refl _, .refl, r, qv.mono s⟩
/-- the signs of a text -/
def signs (z : Str) : List D := z.cps.toList.map fun c => D.str ⟨#[c]⟩
theorem wk_str {z : Str} : Wk Y G (Its z) (signs z) where
  go := fun i H hi s => by simpa [signs, Its] using hi
  stop := fun H s => by simp [signs, Its]
  yld := fun i H x H' G' mu c hi s r ⟨e1, k, e2, e3⟩ => by
    subst e1
    subst e3
    refine ⟨.str ⟨#[k]⟩, G', ?_, Same.refl _, .refl, r, .str _⟩
    unfold signs
    rw [List.getElem?_map]
    have : z.cps.toList[i]? = some k := by simpa using e2
    rw [this]
    rfl
/-- lo, lo + 1, .. -/
def rngD (lo : Int) (n : Nat) : List D := (List.range n).map fun i => D.int (lo + (i : Nat))
theorem wk_rng {lo : Int} {n : Nat} : Wk Y G (Itr lo n) (rngD lo n) where
  go := fun i H hi s => by simpa [rngD, Itr] using hi
  stop := fun H s => by simp [rngD, Itr]
  yld := fun i H x H' G' mu c hi s r ⟨e1, e2⟩ => by
    subst e1
    subst e2
    have hi' : i < n := by simpa [rngD] using hi
    refine ⟨.int (lo + (i : Nat)), G', ?_, Same.refl _, .refl, r, .int _⟩
    unfold rngD
    rw [List.getElem?_map, List.getElem?_range hi']
    rfl
theorem pi_any {te : TE} (he : PE X e te) : PI X tg e (fun σ H Rr => te σ H fun x H1 => (∃ a, x = .ref a ∧ (∃ xs, SqL X.K H1 a xs) ∧ Rr (Itl X.K a) H1) ∨ (∃ a, x = .ref a ∧ (∃ xs, SqT X.K H1 a xs) ∧ Rr (Itt X.K a) H1) ∨ (∃ z, x = .str z ∧ Rr (Its z) H1)) := by
  refine ⟨fun pins s σ H Rr I h => ?_⟩
  refine thn (he.run pins s σ H _ I h) fun v s1 ⟨x, H1, I1, r1, q1⟩ => ?_
  rcases q1 with ⟨a, ea, ⟨xs, hq⟩, q⟩ | ⟨a, ea, ⟨xs, hq⟩, q⟩ | ⟨z, ez, q⟩
  · subst ea
    cases r1
    obtain ⟨its, rv, pl, hz⟩ := I1.list hq
    exact wpAny_pyIter_list pl.isList (pi_one (tk := s1.toks) I1 _ (turn_list a _) ⟨_, Heap.get?_push_size _ rfl, rfl, rfl⟩ q)
  · subst ea
    cases r1
    obtain ⟨its, rv, pl, hz⟩ := I1.tuple hq
    exact wpAny_pyIter_tuple (show s1.heap.IsTuple a its.toArray from pl) (pi_one (tk := s1.toks) I1 _ (turn_tuple a _) ⟨_, Heap.get?_push_size _ rfl, rfl, rfl⟩ q)
  · subst ez
    obtain ⟨t, rfl⟩ := r1
    cases ha : z.cps.all (· < 128)
    · exact wpAny_pyIter_wide ha (pi_one (tk := s1.toks) I1 _ (turn_str _ z t "str_iterator" (.inr rfl)) ⟨_, Heap.get?_push_size _ rfl, rfl, rfl⟩ q)
    · exact wpAny_pyIter_ascii ha (pi_one (tk := s1.toks) I1 _ (turn_str _ z t "str_ascii_iterator" (.inl rfl)) ⟨_, Heap.get?_push_size _ rfl, rfl, rfl⟩ q)
/-- the things of a list, a tuple, a text -/
def itemsD (d : D) (P : List D → Prop) : Prop := match d with
  | .lst ds => P ds
  | .tup ds => P ds
  | .str z => P (signs z)
  | _ => False
def mItems (m : ME) : MA := fun st P PX => m st (fun d s1 => itemsD d fun ds => P ds s1) PX
theorem di_any (hY : Y.K = X.K) (he : DE X Y W e me) : DI X Y W tg e (mItems me) :=
  piImp (pi_any he) fun σ H Rr ⟨G, st, P, PX, rr, hm, xp, k⟩ => ⟨G, st, fun d s1 => itemsD d fun ds => P ds s1, PX, rr, hm, xp, fun d s1 v G1 H1 h1 g1 f1 r1 q1 => by
    cases d <;> first | exact False.elim h1 | skip
    · cases q1
      exact .inr (.inr ⟨_, rfl, k _ s1 G1 H1 _ h1 g1 f1 r1 wk_str⟩)
    · obtain ⟨a1, xs1, rfl, h2, q1⟩ := q1.tupI
      exact .inr (.inl ⟨_, rfl, ⟨_, sqT_mono r1.h.sub (hY ▸ h2)⟩, k _ s1 G1 H1 _ h1 g1 f1 r1 (wk_tup h2 q1 hY)⟩)
    · obtain ⟨a1, xs1, rfl, h2, q1⟩ := q1.lstI
      exact .inl ⟨_, rfl, ⟨_, SqL.of (r1.h.sub _ _ h2)⟩, k _ s1 G1 H1 _ h1 g1 f1 r1 (wk_lst h2 q1 hY)⟩⟩
def mRng1 (n : MA) : MA := fun st P PX => n st (fun ds s1 => ∃ j : Int, ds = [.int j] ∧ -(2 ^ 62) ≤ j ∧ j < 2 ^ 62 ∧ P (rngD 0 j.toNat) s1) PX
theorem di_rng1 {p : Pos} (hg : Gl X "range") (hm : X.mg "range" = none) (ha : DA X Y W [a] mas) (hs : starEach [a] X.env = [(false, eval a X.env)] := by rfl) : DI X Y W tg (.Call (.Name "range" p) [a] [] pos) (mRng1 mas) :=
  piImp (pi_range1 hg hm ha hs) fun σ H Rr ⟨G, st, P, PX, rr, hm, xp, k⟩ => ⟨G, st, fun ds s1 => ∃ j : Int, ds = [.int j] ∧ -(2 ^ 62) ≤ j ∧ j < 2 ^ 62 ∧ P (rngD 0 j.toNat) s1, PX, rr, hm, xp, fun ds s1 vs G1 H1 ⟨j, e1, l1, l2, h1⟩ g1 f1 r1 q1 => by
    subst e1
    obtain ⟨v, rfl, qv⟩ := q1.one
    cases qv
    exact ⟨j, rfl, l1, l2, k _ s1 G1 H1 _ h1 g1 f1 r1 wk_rng⟩⟩
def mRng2 (n : MA) : MA := fun st P PX => n st (fun ds s1 => ∃ i j : Int, ds = [.int i, .int j] ∧ (-(2 ^ 62) ≤ i ∧ i < 2 ^ 62 ∧ -(2 ^ 62) ≤ j ∧ j < 2 ^ 62) ∧ P (rngD i (j - i).toNat) s1) PX
theorem di_rng2 {p : Pos} (hg : Gl X "range") (hm : X.mg "range" = none) (ha : DA X Y W [a, b] mas) (hs : starEach [a, b] X.env = [(false, eval a X.env), (false, eval b X.env)] := by rfl) (hs2 : starEach [b] X.env = [(false, eval b X.env)] := by rfl) :
    DI X Y W tg (.Call (.Name "range" p) [a, b] [] pos) (mRng2 mas) :=
  piImp (pi_range2 hg hm ha hs hs2) fun σ H Rr ⟨G, st, P, PX, rr, hm, xp, k⟩ => ⟨G, st, fun ds s1 => ∃ i j : Int, ds = [.int i, .int j] ∧ (-(2 ^ 62) ≤ i ∧ i < 2 ^ 62 ∧ -(2 ^ 62) ≤ j ∧ j < 2 ^ 62) ∧ P (rngD i (j - i).toNat) s1, PX, rr, hm, xp, fun ds s1 vs G1 H1 ⟨i, j, e1, l1, h1⟩ g1 f1 r1 q1 => by
    subst e1
    obtain ⟨v, w, rfl, qv, qw⟩ := q1.two
    cases qv; cases qw
    exact ⟨i, j, rfl, l1, k _ s1 G1 H1 _ h1 g1 f1 r1 wk_rng⟩⟩
/-! ### for -/
def forGo (g : MG) (body : MS) (E : DEnds) (PX : PXT) : List D → S → Prop
  | [], st => E.nx st
  | d :: ds, st => g d st fun s2 => body s2 { nx := fun s => forGo g body E PX ds s, ct := fun s => forGo g body E PX ds s, bk := E.nx, rt := E.rt } PX
def mFor (mi : MA) (g : MG) (body : MS) : MS := fun st E PX => mi st (fun ds s1 => forGo g body E PX ds s1) PX
theorem drop_one {α : Type} : ∀ {l : List α} {i : Nat} {x : α}, l[i]? = some x → l.drop i = x :: l.drop (i + 1)
  | [], i, x, h => by simp at h
  | y :: l, 0, x, h => by simp at h; subst h; rfl
  | y :: l, i + 1, x, h => drop_one (l := l) (i := i) (by simpa using h)
theorem ds_for {iter : Expr} {body : List Stmt} {g : MG} {ms : MS} (hp : PassesOwn (model X.prog X.w) X.A X.env X.xe) (hc : X.calm = true) (hi : DI X Y W tg iter mi) (hg : DG X Y tg g) (hb : DSs X Y W body ms)
    (hs : ∀ x, foldedSetIterable iter X.env x = pure x := by intro _; rfl) : DS X Y W (.For tg iter body [] pos) (mFor mi g ms) :=
  psImp (ps_for hp hc hi hg hb hs) fun D σ H ⟨G, st, E, PX, rr, hm, xp, k⟩ => ⟨G, st, fun ds s1 => forGo g ms E PX ds s1, PX, rr, hm, xp, fun ds s1 G1 H1 J h1 g1 f1 r1 wk => by
    refine ⟨fun i m σ H => m = ds.length - i ∧ i ≤ ds.length ∧ ∃ G' st', Same G1 G' ∧ Frm Y G1 s1.mu H1 G' st'.mu H ∧ R Y G' st' σ H ∧ forGo g ms E PX (ds.drop i) st', ⟨ds.length, by simp, Nat.zero_le _, G1, s1, Same.refl _, .refl, r1, by rw [List.drop_zero]; exact h1⟩, ?_⟩
    rintro i m σ2 H2 ⟨rfl, hi, G2, s2, g2, f2, r2, h2⟩
    have gg := g1.trans g2
    have ff := f1.trans f2
    by_cases hlt : i < ds.length
    · obtain ⟨d0, hd0⟩ : ∃ d, ds[i]? = some d := ⟨_, List.getElem?_eq_getElem hlt⟩
      refine .inr ⟨wk.go i H2 hlt (g2.trans r2.h.sub), fun σ' H' => ∃ G' st', Same G1 G' ∧ Frm Y G1 s1.mu H1 G' st'.mu H' ∧ R Y G' st' σ' H' ∧ forGo g ms E PX (ds.drop (i + 1)) st', fun σ' H' hn => ⟨ds.length - (i + 1), by omega, rfl, hlt, hn⟩, fun x H3 hy => ?_⟩
      obtain ⟨d, G3, hd, g3, f3, r3, q3⟩ := wk.yld i H2 x H3 G2 s2.mu s2.c hlt g2 r2.h hy
      rw [drop_one hd] at h2
      refine ⟨G3, s2, d, _, ⟨r3, r2.s.mono g3⟩, q3, h2, fun s4 σ4 G4 H4 h4 g4 f4 r4 => ?_⟩
      have gg4 := (gg.trans g3).trans g4
      have ff4 := (ff.trans f3).trans f4
      refine ⟨G4, s4, _, PX, r4, h4, xp.on gg4 ff4, ⟨fun s5 σ5 G5 H5 h5 g5 f5 r5 => ?_, fun d5 s5 v5 σ5 G5 H5 h5 g5 f5 r5 q5 => ?_, fun s5 σ5 G5 H5 h5 g5 f5 r5 => ?_, fun s5 σ5 G5 H5 h5 g5 f5 r5 => ?_⟩⟩
      · exact ⟨G5, s5, ((g2.trans g3).trans g4).trans g5, ((f2.trans f3).trans f4).trans f5, r5, h5⟩
      · exact k.rt d5 s5 v5 σ5 G5 H5 h5 (gg4.trans g5) (ff4.trans f5) r5 q5
      · exact k.nx s5 σ5 G5 H5 h5 (gg4.trans g5) (ff4.trans f5) r5
      · exact ⟨G5, s5, ((g2.trans g3).trans g4).trans g5, ((f2.trans f3).trans f4).trans f5, r5, h5⟩
    · have e : i = ds.length := by omega
      subst e
      rw [List.drop_length] at h2
      exact .inl ⟨wk.stop H2 (g2.trans r2.h.sub), k.nx s2 σ2 G2 H2 h2 gg ff r2⟩⟩
/-! ### while -/
def mWhile (t : MT) (body : MS) : MS := fun st E PX => ∃ I : Nat → S → Prop, (∃ m, I m st) ∧ ∀ m st, I m st → t st (fun b s1 => if b = true then body s1 { nx := fun s => ∃ m', m' < m ∧ I m' s, ct := fun s => ∃ m', m' < m ∧ I m' s, bk := E.nx, rt := E.rt } PX else E.nx s1) PX
theorem ds_while {cd : Expr} {body : List Stmt} {t : MT} {ms : MS} (hp : PassesOwn (model X.prog X.w) X.A X.env X.xe) (hc : DT X Y W cd t) (hb : DSs X Y W body ms) : DS X Y W (.While cd body [] pos) (mWhile t ms) :=
  psImp (ps_while hp hc hb) fun D σ H ⟨G, st, E, PX, rr, ⟨I, ⟨m0, i0⟩, step⟩, xp, k⟩ => by
    refine ⟨fun m σ' H' => ∃ G' st', Same G G' ∧ Frm Y G st.mu H G' st'.mu H' ∧ R Y G' st' σ' H' ∧ I m st', ⟨m0, G, st, Same.refl _, .refl, rr, i0⟩, ?_⟩
    rintro m σ1 H1 ⟨G1, s1, g1, f1, r1, i1⟩
    refine ⟨G1, s1, fun b s1 => if b = true then ms s1 { nx := fun s => ∃ m', m' < m ∧ I m' s, ct := fun s => ∃ m', m' < m ∧ I m' s, bk := E.nx, rt := E.rt } PX else E.nx s1, PX, r1, step m s1 i1, xp.on g1 f1, fun b s2 G2 H2 h2 g2 f2 r2 => ?_⟩
    cases b with
    | false =>
      rw [if_neg Bool.false_ne_true] at h2 ⊢
      exact k.nx s2 σ1 G2 H2 h2 (g1.trans g2) (f1.trans f2) r2
    | true =>
      rw [if_pos rfl] at h2 ⊢
      refine ⟨fun σ' H' => ∃ m', m' < m ∧ ∃ G' st', Same G G' ∧ Frm Y G st.mu H G' st'.mu H' ∧ R Y G' st' σ' H' ∧ I m' st', fun σ' H' hn => hn, G2, s2, _, PX, r2, h2, xp.on (g1.trans g2) (f1.trans f2), ⟨fun s5 σ5 G5 H5 ⟨m5, l5, i5⟩ g5 f5 r5 => ?_, fun d5 s5 v5 σ5 G5 H5 h5 g5 f5 r5 q5 => ?_, fun s5 σ5 G5 H5 h5 g5 f5 r5 => ?_, fun s5 σ5 G5 H5 ⟨m5, l5, i5⟩ g5 f5 r5 => ?_⟩⟩
      · exact ⟨m5, l5, G5, s5, (g1.trans g2).trans g5, (f1.trans f2).trans f5, r5, i5⟩
      · exact k.rt d5 s5 v5 σ5 G5 H5 h5 ((g1.trans g2).trans g5) ((f1.trans f2).trans f5) r5 q5
      · exact k.nx s5 σ5 G5 H5 h5 ((g1.trans g2).trans g5) ((f1.trans f2).trans f5) r5
      · exact ⟨m5, l5, G5, s5, (g1.trans g2).trans g5, (f1.trans f2).trans f5, r5, i5⟩
/-! ### list comprehensions -/
/-- the slots of the comprehension's own names forgotten -/
def wipeD (r : List (Option D)) : List Nat → List (Option D)
  | [] => r
  | v :: vs => (wipeD r vs).set v none
theorem Sl.none {r : List (Option D)} {σ : St} (h : Sl Y G r σ) (i : Nat) : Sl Y G (r.set i none) (σ.set i none) := by
  refine ⟨by simp [h.1], fun j e he => ?_⟩
  by_cases hj : i = j
  · subst hj
    by_cases hl : i < r.length
    · rw [List.getElem?_set_self hl] at he
      cases he
    · rw [List.getElem?_eq_none (by simpa using hl)] at he
      cases he
  · rw [List.getElem?_set_ne hj] at he ⊢
    exact h.2 j e he
theorem Sl.wipe {r : List (Option D)} {σ : St} (h : Sl Y G r σ) : ∀ vs : List Nat, Sl Y G (wipeD r vs) (L2.wipe σ vs)
  | [] => h
  | v :: vs => (h.wipe vs).none v
theorem wipe_len (σ : St) : ∀ vs : List Nat, (L2.wipe σ vs).length = σ.length
  | [] => rfl
  | v :: vs => by unfold L2.wipe; rw [List.length_set]; exact wipe_len σ vs
theorem wipe_get {σ : St} {j : Nat} : ∀ {vs : List Nat}, j ∈ vs → j < σ.length → (L2.wipe σ vs)[j]? = some none
  | v :: vs, h, l => by
    unfold L2.wipe
    by_cases e : v = j
    · subst e
      rw [List.getElem?_set_self (by rw [wipe_len]; exact l)]
    · rw [List.getElem?_set_ne e]
      exact wipe_get (by rcases List.mem_cons.mp h with z | z; exact absurd z.symm e; exact z) l
theorem set_same {α : Type} : ∀ {l : List α} {i : Nat} {x : α}, l[i]? = some x → l.set i x = l
  | [], _, _, h => by simp at h
  | y :: l, 0, x, h => by simp at h; subst h; rfl
  | y :: l, i + 1, x, h => by rw [List.set_cons_succ, set_same (l := l) (by simpa using h)]
theorem wipe_set {σ : St} {j : Nat} {v : Option V} : ∀ {vs : List Nat}, j ∈ vs → L2.wipe (σ.set j v) vs = L2.wipe σ vs
  | w :: vs, h => by
    unfold L2.wipe
    by_cases hm : j ∈ vs
    · rw [wipe_set hm]
    · have e : j = w := by rcases List.mem_cons.mp h with z | z; exact z; exact absurd z hm
      subst e
      have : ∀ us : List Nat, j ∉ us → L2.wipe (σ.set j v) us = (L2.wipe σ us).set j v := by
        intro us
        induction us with
        | nil => intro _; rfl
        | cons u us ih =>
          intro hn
          unfold L2.wipe
          rw [ih (fun z => hn (List.mem_cons_of_mem _ z)), List.set_comm _ _ (fun z => hn (by rw [z]; exact List.mem_cons_self))]
      rw [this vs hm, List.set_set]
theorem wipe_wipe {σ : St} : ∀ (us vs : List Nat), (∀ u ∈ us, u ∈ vs) → L2.wipe (L2.wipe σ us) vs = L2.wipe σ vs
  | [], _, _ => rfl
  | u :: us, vs, h => by
    show L2.wipe ((L2.wipe σ us).set u none) vs = _
    rw [wipe_set (h u List.mem_cons_self), wipe_wipe us vs fun x hx => h x (List.mem_cons_of_mem _ hx)]
def lcGo (body : D → S → (Option D → S → Prop) → Prop) : List D → List D → S → (List D → S → Prop) → Prop
  | [], acc, st, P => P acc st
  | d :: ds, acc, st, P => body d st fun o s1 => match o with
    | some y => acc.length < LINE ∧ lcGo body ds (acc ++ [y]) s1 P
    | none => lcGo body ds acc s1 P
abbrev W0 : WX := fun _ _ _ _ => False
abbrev PX0 : PXT := fun _ _ => False
/-- one turn: the item stored by g, the test, the element -/
def lcBody (r0 : List (Option D)) (vs : List Nat) (g : MG) (t : MT) (m : ME) : D → S → (Option D → S → Prop) → Prop := fun d st K =>
  g d { st with r := wipeD r0 vs } fun s2 => t s2 (fun b s3 => if b = true then m s3 (fun y s4 => K (some y) { st with mu := s4.mu, c := s4.c }) PX0 else K none { st with mu := s3.mu, c := s3.c }) PX0
def mLc (mi : MA) (vs : List Nat) (g : MG) (t : MT) (m : ME) : ME := fun st P PX => mi st (fun ds s1 => lcGo (lcBody s1.r vs g t m) ds [] s1 (fun ys s2 => P (.lst ys) s2)) PX
/-- a target within a comprehension: it stores at the slots vs alone -/
def GW (Y : Yc) (vs : List Nat) (g' : TG) (g : MG) : Prop := ∀ G st σ H d v P Q, R Y G st σ H → Rep Y G d v → g d st P →
  (∀ st' σ' G' H', P st' → Same G G' → Frm Y G st.mu H G' st'.mu H' → R Y G' st' σ' H' → L2.wipe σ' vs = L2.wipe σ vs → Q σ' H') → g' v σ H Q
def GWs (Y : Yc) (vs : List Nat) (g' : TGs) (g : MGs) : Prop := ∀ G st σ H d v P Q, R Y G st σ H → Reps Y G d v → g d st P →
  (∀ st' σ' G' H', P st' → Same G G' → Frm Y G st.mu H G' st'.mu H' → R Y G' st' σ' H' → L2.wipe σ' vs = L2.wipe σ vs → Q σ' H') → g' v σ H Q
theorem gw_name {vs : List Nat} {i : Nat} (hi : i ∈ vs) : GW Y vs (gName i) (gN i) := fun G st σ H d v P Q r q h k => k _ _ G H h (Same.refl G) .refl (r.put i q) (wipe_set hi)
theorem gws_nil {vs : List Nat} : GWs Y vs gNil gsN := fun G st σ H d v P Q r q ⟨e, h⟩ k => by
  subst e
  cases q
  exact ⟨rfl, k _ _ G H h (Same.refl G) .refl r rfl⟩
theorem gws_cons {vs : List Nat} {g' : TG} {g : MG} {gs' : TGs} {gs : MGs} (h1 : GW Y vs g' g) (h2 : GWs Y vs gs' gs) : GWs Y vs (gCons g' gs') (gsC g gs) := fun G st σ H d v P Q r q ⟨d1, dr, e, h⟩ k => by
  subst e
  cases q with
  | cons q1 q2 =>
    exact ⟨_, _, rfl, h1 G st σ H _ _ _ _ r q1 h fun s1 σ1 G1 H1 h3 g1 f1 r1 e1 => h2 G1 s1 σ1 H1 _ _ _ _ r1 (q2.mono g1) h3 fun s2 σ2 G2 H2 h4 g2 f2 r2 e2 => k s2 σ2 G2 H2 h4 (g1.trans g2) (f1.trans f2) r2 (e2.trans e1)⟩
theorem gw_tup {vs : List Nat} {n : Nat} {gs' : TGs} {gs : MGs} (hY : Y.K = X.K) (h : GWs Y vs gs' gs) : GW Y vs (gTup X.K n gs') (gT n gs) := fun G st σ H d v P Q r q ⟨ds, e, hl, hg⟩ k => by
  subst e
  obtain ⟨a1, xs1, rfl, h1, q1⟩ := q.tupI
  exact ⟨_, _, rfl, sqT_mono r.h.sub (hY ▸ h1), by rw [← q1.length]; exact hl, h G st σ H _ _ _ _ r q1 hg k⟩
/-- the tests of a comprehension -/
abbrev DTs (X : Cx) (Y : Yc) (W : WX) (ifs : List Expr) (m : MT) : Prop := PTs X ifs (TTof Y W m)
def mYes : MT := fun st P _ => P true st
theorem dts_nil : DTs X Y W [] mYes := by
  have h : PTs X [] tYes := pts_nil
  exact ⟨fun pins s σ H Q I q => h.run pins s σ H Q I (let ⟨G, st, P, PX, rr, hm, xp, k⟩ := q; k true st G H hm (Same.refl G) .refl rr)⟩
theorem dts_one {t : MT} (h : DT X Y W e t) : DTs X Y W [e] t := pts_one h
/-- the core: what the reading of a comprehension asks -/
theorem lc_ok {vs : List Nat} {g' : TG} {g : MG} {t : MT} {m : ME} {mi : MA} (hgw : GW Y vs g' g) : ∀ σ H Q, TEof Y W (mLc mi vs g t m) σ H Q → tLc (TIof Y W mi) g' (TTof Y W0 t) (TEof Y W0 m) vs σ H Q := fun σ H Q ⟨G, st, P, PX, rr, hm, xp, k⟩ =>
  ⟨G, st, _, PX, rr, hm, xp, fun ds s1 G1 H1 J h1 g1 f1 r1 wk A hA => by
    obtain ⟨n1, n2, n3⟩ := r1.h.fresh hA
    refine ⟨fun i m0 H => m0 = ds.length - i ∧ i ≤ ds.length ∧ ∃ G' mu' c' acc ys, Same G1 G' ∧ Frm Y G1 s1.mu H1 G' mu' H ∧ R0 Y G' mu' c' H ∧ (G' A = none ∧ mu' A = none) ∧ H A = some (.lst ys) ∧ Reps Y G' acc ys ∧ lcGo (lcBody s1.r vs g t m) (ds.drop i) acc { s1 with mu := mu', c := c' } (fun ys s2 => P (.lst ys) s2),
      ⟨ds.length, by simp, Nat.zero_le _, G1, s1.mu, s1.c, [], [], Same.refl _, .add hA, r1.h.add hA _, ⟨n1, n2⟩, upd_same, .nil, by rw [List.drop_zero]; exact h1⟩, ?_⟩
    rintro i m0 H2 ⟨rfl, hi, G2, mu2, c2, acc, ys, g2, f2, r2, ⟨a1, a2⟩, hH2, q2, h2⟩
    have sl2 : Sl Y G2 s1.r σ := r1.s.mono g2
    by_cases hlt : i < ds.length
    · refine .inr ⟨wk.go i H2 hlt (g2.trans r2.sub), fun H' => ∃ G' mu' c' acc ys, Same G1 G' ∧ Frm Y G1 s1.mu H1 G' mu' H' ∧ R0 Y G' mu' c' H' ∧ (G' A = none ∧ mu' A = none) ∧ H' A = some (.lst ys) ∧ Reps Y G' acc ys ∧ lcGo (lcBody s1.r vs g t m) (ds.drop (i + 1)) acc { s1 with mu := mu', c := c' } (fun ys s2 => P (.lst ys) s2),
        fun H' hn => ⟨ds.length - (i + 1), by omega, rfl, hlt, hn⟩, fun x H3 hy => ?_⟩
      obtain ⟨d, G3, hd, g3, f3, r3, q3⟩ := wk.yld i H2 x H3 G2 mu2 c2 hlt g2 r2 hy
      rw [drop_one hd] at h2
      refine hgw G3 { r := wipeD s1.r vs, mu := mu2, c := c2 } (L2.wipe σ vs) H3 d x _ _ ⟨r3, (sl2.mono g3).wipe vs⟩ q3 h2 fun s4 σ4 G4 H4 h4 g4 f4 r4 ew => ?_
      refine ⟨by rw [ew, wipe_wipe vs vs fun _ h => h], G4, s4, fun b s3 => if b = true then m s3 (fun y s4 => acc.length < LINE ∧ lcGo (lcBody s1.r vs g t m) (ds.drop (i + 1)) (acc ++ [y]) { s1 with mu := s4.mu, c := s4.c } (fun ys s2 => P (.lst ys) s2)) PX0 else lcGo (lcBody s1.r vs g t m) (ds.drop (i + 1)) acc { s1 with mu := s3.mu, c := s3.c } (fun ys s2 => P (.lst ys) s2), PX0, r4, h4, fun _ _ _ _ _ _ _ z => z.elim, fun b s5 G5 H5 h5 g5 f5 r5 => ?_⟩
      have ff := (f3.trans f4).trans f5
      have gg := (g3.trans g4).trans g5
      obtain ⟨e5, b1, b2⟩ := ff A _ hH2 a1 a2 n3
      cases b with
      | false =>
        show ∃ G' mu' c' acc ys, Same G1 G' ∧ Frm Y G1 s1.mu H1 G' mu' H5 ∧ R0 Y G' mu' c' H5 ∧ (G' A = none ∧ mu' A = none) ∧ H5 A = some (.lst ys) ∧ Reps Y G' acc ys ∧ lcGo (lcBody s1.r vs g t m) (ds.drop (i + 1)) acc { s1 with mu := mu', c := c' } (fun ys s2 => P (.lst ys) s2)
        exact ⟨G5, s5.mu, s5.c, acc, ys, g2.trans gg, f2.trans ff, r5.h, ⟨b1, b2⟩, e5, q2.mono gg, h5⟩
      | true =>
        show TEof Y W0 m σ4 H5 _
        refine ⟨G5, s5, _, PX0, r5, h5, fun _ _ _ _ _ _ _ z => z.elim, fun y s6 v G6 H6 ⟨l6, h6⟩ g6 f6 r6 q6 => ?_⟩
        obtain ⟨e6, c1, c2'⟩ := f6 A _ e5 b1 b2 n3
        have q7 := q2.mono (gg.trans g6)
        refine ⟨ys, e6, by rw [← q7.length, line_eq]; exact l6, G6, s6.mu, s6.c, acc ++ [y], ys ++ [v], g2.trans (gg.trans g6), fun a o z1 z2 z3 z4 => ?_, r6.h.turn c1 c2' n3 _, ⟨c1, c2'⟩, upd_same, q7.append (.cons q6 .nil), h6⟩
        obtain ⟨w1, w2, w3⟩ := (f2.trans ff).trans f6 a o z1 z2 z3 z4
        exact ⟨by rw [upd_ne (ne_of_none z1 hA)]; exact w1, w2, w3⟩
    · have e : i = ds.length := by omega
      subst e
      rw [List.drop_length] at h2
      refine .inl ⟨wk.stop H2 (g2.trans r2.sub), ?_⟩
      have eu : upd H2 A (.lst ys) = H2 := by
        funext b
        unfold upd
        split
        · rename_i hb
          rw [hb, hH2]
        · rfl
      have r3 := r2.take a1 a2 n3 (.lst ys)
      rw [eu] at r3
      refine k _ { s1 with mu := mu2, c := c2 } _ (upd G2 A (.lst ys)) H2 h2 ((g1.trans g2).trans (same_upd a1)) (f1.trans fun a o z1 z2 z3 z4 => ?_) ⟨r3, sl2.mono (same_upd a1)⟩ (.lst upd_same (q2.mono (same_upd a1)))
      obtain ⟨w1, w2, w3⟩ := f2 a o z1 z2 z3 z4
      exact ⟨w1, by rw [upd_ne (ne_of_none z1 hA)]; exact w2, w3⟩⟩
theorem de_lc {elt iter : Expr} {ifs : List Expr} {scope : Scope} {own : List (Str × Nat)} {g' : TG} {g : MG} {t : MT} {m : ME} (hc : X.calm = true) (hN : X.N.Nodup) (hi : DI X Y W tg iter mi) (ok : BlkOk X.N X.env.scope scope own)
    (hgw : GW Y (own.map (·.2)) g' g)
    (hg : ∀ (s : Shared) (H : Hp) (C : Addr) (cl : List (Str × Addr)) (fp : List Addr), PG (X.blk s H scope (compEnvC scope cl C X.env) fp) tg g')
    (ht : ∀ (s : Shared) (H : Hp) (C : Addr) (cl : List (Str × Addr)) (fp : List Addr), DTs (X.blk s H scope (compEnvC scope cl C X.env) fp) Y W0 ifs t)
    (he : ∀ (s : Shared) (H : Hp) (C : Addr) (cl : List (Str × Addr)) (fp : List Addr), DE (X.blk s H scope (compEnvC scope cl C X.env) fp) Y W0 elt m) (hs : ∀ x, foldedSetIterable iter X.env x = pure x := by intro _; rfl) :
    DE X Y W (.ListComp elt [⟨tg, iter, ifs, 0⟩] scope pos) (mLc mi (own.map (·.2)) g t m) :=
  peImp (pe_lc hc hN hi ok hg ht he hs) (lc_ok hgw)
theorem ds_setLc {i : Nat} {y : Str} {py spos : Pos} {elt iter : Expr} {ifs : List Expr} {scope : Scope} {own : List (Str × Nat)} {g' : TG} {g : MG} {t : MT} {m : ME} (hc : X.calm = true) (hN : X.N.Nodup) (hy : X.N[i]? = some y) (hyl : X.env.scope.names.lookup y = some .local)
    (hsw : swapsWith (.ListComp elt [⟨tg, iter, ifs, 0⟩] scope pos) (some (.Name y py)) spos.line X.env = pure true) (hi : DI X Y W tg iter mi) (ok : BlkOk X.N X.env.scope scope own)
    (hgw : GW Y (own.map (·.2)) g' g)
    (hg : ∀ (s : Shared) (H : Hp) (C : Addr) (cl : List (Str × Addr)) (fp : List Addr), PG (X.blk s H scope (compEnvC scope cl C X.env) fp) tg g')
    (ht : ∀ (s : Shared) (H : Hp) (C : Addr) (cl : List (Str × Addr)) (fp : List Addr), DTs (X.blk s H scope (compEnvC scope cl C X.env) fp) Y W0 ifs t)
    (he : ∀ (s : Shared) (H : Hp) (C : Addr) (cl : List (Str × Addr)) (fp : List Addr), DE (X.blk s H scope (compEnvC scope cl C X.env) fp) Y W0 elt m) (hs : ∀ x, foldedSetIterable iter X.env x = pure x := by intro _; rfl) :
    DS X Y W (.Assign [.Name y py] (.ListComp elt [⟨tg, iter, ifs, 0⟩] scope pos) spos) (mSet i (mLc mi (own.map (·.2)) g t m)) :=
  psImp (ps_setLc hc hN hy hyl hsw hi ok hg ht he hs) fun D σ H ⟨G, st, E, PX, rr, hm, xp, k⟩ => lc_ok hgw σ H _ ⟨G, st, _, PX, rr, hm, xp, fun d s1 v G1 H1 h1 g1 f1 r1 q1 => k.nx _ _ _ _ h1 g1 f1 (r1.put i q1)⟩
end
end DL
namespace DL
open PySem L2
theorem k_cb : ¬ ((Sum.inr "cells" : Key) = .inr "begun") := by decide +kernel
theorem k_cl : ¬ ((Sum.inr "cells" : Key) = .inr "left") := by decide +kernel
theorem k_bl : ¬ ((Sum.inr "begun" : Key) = .inr "left") := by decide +kernel
theorem k_bc : ¬ ((Sum.inr "begun" : Key) = .inr "cells") := by decide +kernel
theorem k_lc : ¬ ((Sum.inr "left" : Key) = .inr "cells") := by decide +kernel
theorem k_lb : ¬ ((Sum.inr "left" : Key) = .inr "begun") := by decide +kernel
section
variable {H : Hp} {p ca : Addr} {b l : Int}
theorem pen_left (h : H p = some (.dK (penKvs ca b l))) : DGet H p (.str "left") (some (.int l)) := by
  have e : valV (penKvs ca b l) (.inr "left" : Key) = some (.int l) := by unfold penKvs; rw [valV_neg k_cl, valV_neg k_bl, valV_pos rfl]
  have g := DGet.k (k := (.inr "left" : Key)) h
  rw [e] at g
  exact g
theorem pen_begun (h : H p = some (.dK (penKvs ca b l))) : DGet H p (.str "begun") (some (.int b)) := by
  have e : valV (penKvs ca b l) (.inr "begun" : Key) = some (.int b) := by unfold penKvs; rw [valV_neg k_cb, valV_pos rfl]
  have g := DGet.k (k := (.inr "begun" : Key)) h
  rw [e] at g
  exact g
theorem pen_cells (h : H p = some (.dK (penKvs ca b l))) : DGet H p (.str "cells") (some (.ref ca)) := by
  have e : valV (penKvs ca b l) (.inr "cells" : Key) = some (.ref ca) := by unfold penKvs; rw [valV_pos rfl]
  have g := DGet.k (k := (.inr "cells" : Key)) h
  rw [e] at g
  exact g
theorem pen_left_put (l' : Int) (h : H p = some (.dK (penKvs ca b l))) : DPut H p (.str "left") (.int l') (upd H p (.dK (penKvs ca b l'))) := by
  have e : putK (penKvs ca b l) (.inr "left" : Key) (.int l') = penKvs ca b l' := by
    unfold penKvs putK
    rw [if_pos (by simp), List.map_cons, List.map_cons, List.map_cons, List.map_nil, if_neg k_cl, if_neg k_bl, if_pos rfl]
  have g := DPut.k (k := (.inr "left" : Key)) (v := .int l') h (by show 3 < sizeLine; rw [sizeLine_eq]; decide)
  rw [e] at g
  exact g
theorem pen_begun_put (l' : Int) (h : H p = some (.dK (penKvs ca b l))) : DPut H p (.str "begun") (.int l') (upd H p (.dK (penKvs ca l' l))) := by
  have e : putK (penKvs ca b l) (.inr "begun" : Key) (.int l') = penKvs ca l' l := by
    unfold penKvs putK
    rw [if_pos (by simp), List.map_cons, List.map_cons, List.map_cons, List.map_nil, if_neg k_cb, if_pos rfl, if_neg k_lb]
  have g := DPut.k (k := (.inr "begun" : Key)) (v := .int l') h (by show 3 < sizeLine; rw [sizeLine_eq]; decide)
  rw [e] at g
  exact g
end
def LIM : Nat := 1152921504606846976
/-- a draw -/
def spDraw0 : Sp := fun vs H Q E => ∃ (p ca : Addr) (n b l : Int) (ns : List Int), vs = [.ref p, .int n] ∧ 0 < n ∧ n < 1073741824 ∧ H p = some (.dK (penKvs ca b l)) ∧ H ca = some (.lst (ns.map V.int)) ∧ ns.length ≤ 63 ∧ 0 ≤ b ∧ b < 2 ^ 60 ∧ 0 ≤ l ∧
  ∀ m b' l' H', 0 ≤ m → m < n → b ≤ b' → b' ≤ b + 1 → 0 ≤ l' → H' p = some (.dK (penKvs ca b' l')) → (∀ a o, H a = some o → a ≠ p → H' a = some o) → Q (.int m) H'
def sp__law_draw : DSp := fun ds mu c P PX => ∃ n : Int, ds = [.pen, .int n] ∧ 0 < n ∧ n < 1073741824 ∧ c < LIM ∧ ∀ m : Int, 0 ≤ m → m < n → P (.int m) mu (c + 1)
theorem draw_of {K : PySem.W.Frag} {q : Addr} : ∀ vs H Q E, SpOf (Yp K q) sp__law_draw vs H Q E → spDraw0 vs H Q E := by
  rintro vs H Q E ⟨G, mu, c, ds, P, PX, r0, qv, ⟨n, rfl, hn0, hn1, hc, h⟩, kq, _⟩
  obtain ⟨v, w, rfl, q1, q2⟩ := qv.two
  cases q1; cases q2
  obtain ⟨o, hp, ⟨ca, b, l, ns, rfl, hca, hns, hb0, hb1, hl⟩, hG, hm⟩ := r0.pen
  refine ⟨q, ca, n, b, l, ns, rfl, hn0, hn1, hp, r0.sub _ _ hca, hns, hb0, by have : LIM = 1152921504606846976 := rfl; omega, hl, fun m b' l' H' m0 m1 l1 l2 l3 hp' hk => ?_⟩
  refine kq (.int m) mu (c + 1) _ G H' (h m m0 m1) (Same.refl G) (fun a o h1 h2 h3 h4 => ⟨hk a o h1 h4, h2, h3⟩) ⟨fun a o e => ?_, fun a mo e => ?_, ⟨_, hp', ⟨ca, b', l', ns, rfl, hca, hns, by omega, by omega, l3⟩, hG, hm⟩⟩ (.int m)
  · exact hk a o (r0.sub a o e) (fun z => by rw [z] at e; have z2 : G q = none := hG; rw [z2] at e; cases e)
  · obtain ⟨h1, x, h2, h3⟩ := r0.mus a mo e
    exact ⟨h1, x, hk a x h2 (fun z => by rw [z] at e; have z2 : mu q = none := hm; rw [z2] at e; cases e), h3⟩
/-- the source's beginning -/
def spBegin0 (K : PySem.W.Frag) : Sp := fun vs H Q E => ∃ (a : Addr) (ns : List Int), vs = [.ref a] ∧ SqL K H a (ns.map V.int) ∧ ns.length ≤ 63 ∧
  ∀ (p ca : Addr) H', H p = none → H ca = none → p ≠ ca → H' p = some (.dK (penKvs ca 0 0)) → H' ca = some (.lst (ns.map V.int)) → Same H H' → Q (.ref p) H'
/-- one of some things -/
def sp__law_pick : DSp := fun ds mu c P PX => ∃ d, ds = [.pen, d] ∧ c < LIM ∧ match d with
  | .lst a => 0 < a.length ∧ a.length < 1073741824 ∧ ∀ x ∈ a, P x mu (c + 1)
  | .tup a => 0 < a.length ∧ a.length < 1073741824 ∧ ∀ x ∈ a, P x mu (c + 1)
  | .str z => 0 < z.length ∧ z.length ≤ LINE ∧ ∀ k ∈ z.cps.toList, P (.str ⟨#[k]⟩) mu (c + 1)
  | _ => False
theorem dp_ints {K : PySem.W.Frag} {H : Hp} {a : Addr} {ns : List Int} (h : H a = some (.lst (ns.map V.int))) : Dp K H (.ref a) (.list (ns.map PyData.int)) := by
  refine .lst (SqL.of h) ?_
  clear h
  induction ns with
  | nil => exact .nil
  | cons n r ih => exact .cons (.int n) ih
theorem shaped_ints (ns : List Int) : SeqAt.shaped (.list (ns.map PyData.int)) = true := by
  have h1 : PyData.canLayAll0 (ns.map PyData.int) = true := by
    induction ns with
    | nil => rfl
    | cons n r ih => simp only [List.map_cons, PyData.canLayAll0, PyData.canLay0, ih]; rfl
  have h2 : PyData.depthAll (ns.map PyData.int) = 0 := by
    induction ns with
    | nil => rfl
    | cons n r ih => simp only [List.map_cons, PyData.canLayAll0, PyData.canLay0, PyData.depthAll, PyData.depth] at h1 ⊢; rw [ih (by simpa using h1)]; rfl
  simp [SeqAt.shaped, PyData.canLay0, PyData.depth, h1, h2]
theorem fmod_nn {a b : Int} (hb : 0 < b) : 0 ≤ a % b ∧ a % b < b := ⟨Int.emod_nonneg _ (by omega), Int.emod_lt_of_pos _ hb⟩
end DL
namespace DL
open PySem L2
theorem bF {b : Bool} (h : ¬ b = true) : b = false := by cases b; rfl; exact absurd rfl h
theorem bN {b : Bool} (h : (!b) = true) : b = false := by cases b; rfl; cases h
theorem bT {b : Bool} (h : ¬ (!b) = true) : b = true := by cases b; exact absurd rfl h; rfl
/-! ### comprehensions by what each turn gives -/
inductive All2 {α β : Type} (R : α → β → Prop) : List α → List β → Prop
  | nil : All2 R [] []
  | cons {a : α} {b : β} {as : List α} {bs : List β} : R a b → All2 R as bs → All2 R (a :: as) (b :: bs)
theorem All2.length {α β : Type} {R : α → β → Prop} {as : List α} {bs : List β} (h : All2 R as bs) : as.length = bs.length := by
  induction h with
  | nil => rfl
  | cons _ _ ih => rw [List.length_cons, List.length_cons, ih]
theorem lc_rel {body : D → S → (Option D → S → Prop) → Prop} (Rl : D → D → Prop) (k : Nat) {mu : Mu} {r : List (Option D)} (M : Nat) {P : List D → S → Prop} :
    ∀ (ds acc : List D) (c : Nat), (∀ d ∈ ds, ∀ c K, c + k ≤ M → (∀ y, Rl d y → K (some y) ⟨r, mu, c + k⟩) → body d ⟨r, mu, c⟩ K) → acc.length + ds.length ≤ LINE → c + k * ds.length ≤ M →
    (∀ ys, All2 Rl ds ys → P (acc ++ ys) ⟨r, mu, c + k * ds.length⟩) → lcGo body ds acc ⟨r, mu, c⟩ P
  | [], acc, c, _, _, _, hP => by
    have h := hP [] .nil
    rw [List.append_nil] at h
    exact h
  | d :: ds, acc, c, hb, hl, hM, hP => by
    have e1 : k * (d :: ds).length = k + k * ds.length := by rw [List.length_cons, Nat.mul_succ, Nat.add_comm]
    rw [e1] at hM
    rw [List.length_cons] at hl
    refine hb d List.mem_cons_self c _ (by omega) fun y hy => ⟨by omega, ?_⟩
    refine lc_rel Rl k M ds (acc ++ [y]) (c + k) (fun d' hd => hb d' (List.mem_cons_of_mem _ hd)) (by rw [List.length_append, List.length_singleton]; omega) (by omega) fun ys hys => ?_
    have h := hP (y :: ys) (.cons hy hys)
    rw [e1, ← Nat.add_assoc] at h
    rw [List.append_assoc]
    exact h
/-- each turn gives just one thing, no draw -/
theorem lc_fun {body : D → S → (Option D → S → Prop) → Prop} (f : D → D) {mu : Mu} {r : List (Option D)} {c : Nat} {P : List D → S → Prop} :
    ∀ (ds acc : List D), (∀ d ∈ ds, ∀ K, K (some (f d)) ⟨r, mu, c⟩ → body d ⟨r, mu, c⟩ K) → acc.length + ds.length ≤ LINE → P (acc ++ ds.map f) ⟨r, mu, c⟩ → lcGo body ds acc ⟨r, mu, c⟩ P
  | [], acc, _, _, hP => by rw [List.map_nil, List.append_nil] at hP; exact hP
  | d :: ds, acc, hb, hl, hP => by
    rw [List.length_cons] at hl
    refine hb d List.mem_cons_self _ ⟨by omega, ?_⟩
    refine lc_fun f ds (acc ++ [f d]) (fun d' hd => hb d' (List.mem_cons_of_mem _ hd)) (by rw [List.length_append, List.length_singleton]; omega) ?_
    rw [List.append_assoc]
    exact hP
theorem blsOf_map {α : Type} (f : α → Bool) : ∀ l : List α, blsOf (l.map fun x => D.bl (f x)) = some (l.map f)
  | [] => rfl
  | x :: l => by simp [blsOf, blsOf_map f l]
theorem strsOf_map {α : Type} (f : α → Str) : ∀ l : List α, strsOf (l.map fun x => D.str (f x)) = some (l.map f)
  | [] => rfl
  | x :: l => by simp [strsOf, strsOf_map f l]
/-! ### plain data -/
mutual
/-- plain data at most n deep, its texts short -/
def D.pl : D → Nat → Bool
  | .non, _ => true
  | .bl _, _ => true
  | .int _, _ => true
  | .str s, _ => PyData.strOk s && decide (s.length ≤ 1000)
  | .tup ds, n => decide (0 < n) && D.pls ds (n - 1)
  | .lst ds, n => decide (0 < n) && D.pls ds (n - 1)
  | .dct _, _ => false
  | .pen, _ => false
  | .ref _, _ => false
def D.pls : List D → Nat → Bool
  | [], _ => true
  | d :: ds, n => D.pl d n && D.pls ds n
end
mutual
theorem D.pl_ok : ∀ (d : D) (n : Nat), d.pl n = true → d.ok n = true
  | .non, _, _ => rfl
  | .bl _, _, _ => rfl
  | .int _, _, _ => rfl
  | .str s, _, h => (Bool.and_eq_true_iff.mp h).1
  | .tup ds, n, h => Bool.and_eq_true_iff.mpr ⟨(Bool.and_eq_true_iff.mp h).1, D.pls_ok ds _ (Bool.and_eq_true_iff.mp h).2⟩
  | .lst ds, n, h => Bool.and_eq_true_iff.mpr ⟨(Bool.and_eq_true_iff.mp h).1, D.pls_ok ds _ (Bool.and_eq_true_iff.mp h).2⟩
  | .dct _, _, h => by cases h
  | .pen, _, h => by cases h
  | .ref _, _, h => by cases h
theorem D.pls_ok : ∀ (d : List D) (n : Nat), D.pls d n = true → D.oks d n = true
  | [], _, _ => rfl
  | d :: ds, n, h => Bool.and_eq_true_iff.mpr ⟨D.pl_ok d n (Bool.and_eq_true_iff.mp h).1, D.pls_ok ds n (Bool.and_eq_true_iff.mp h).2⟩
end
mutual
theorem D.pl_mono : ∀ (d : D) (n m : Nat), n ≤ m → d.pl n = true → d.pl m = true
  | .non, _, _, _, _ => rfl
  | .bl _, _, _, _, _ => rfl
  | .int _, _, _, _, _ => rfl
  | .str s, _, _, _, h => h
  | .tup ds, n, m, l, h => by
    simp only [D.pl, Bool.and_eq_true, decide_eq_true_eq] at h ⊢
    exact ⟨by omega, D.pls_mono ds _ _ (by omega) h.2⟩
  | .lst ds, n, m, l, h => by
    simp only [D.pl, Bool.and_eq_true, decide_eq_true_eq] at h ⊢
    exact ⟨by omega, D.pls_mono ds _ _ (by omega) h.2⟩
  | .dct _, _, _, _, h => by cases h
  | .pen, _, _, _, h => by cases h
  | .ref _, _, _, _, h => by cases h
theorem D.pls_mono : ∀ (d : List D) (n m : Nat), n ≤ m → D.pls d n = true → D.pls d m = true
  | [], _, _, _, _ => rfl
  | d :: ds, n, m, l, h => by
    simp only [D.pls, Bool.and_eq_true] at h ⊢
    exact ⟨D.pl_mono d n m l h.1, D.pls_mono ds n m l h.2⟩
end
theorem D.pls_mem {ds : List D} {n : Nat} (h : D.pls ds n = true) : ∀ d ∈ ds, d.pl n = true := by
  induction ds with
  | nil => intro d hd; cases hd
  | cons x ds ih =>
    intro d hd
    have h' := Bool.and_eq_true_iff.mp h
    rcases List.mem_cons.mp hd with e | e
    · rw [e]; exact h'.1
    · exact ih h'.2 d e
theorem D.pls_of {ds : List D} {n : Nat} (h : ∀ d ∈ ds, d.pl n = true) : D.pls ds n = true := by
  induction ds with
  | nil => rfl
  | cons x ds ih => exact Bool.and_eq_true_iff.mpr ⟨h x List.mem_cons_self, ih fun d hd => h d (List.mem_cons_of_mem _ hd)⟩
theorem D.pl_ty {d : D} {n : Nat} (h : d.pl n = true) : d.ty.isSome = true := by
  cases d <;> first | rfl | cases h
theorem D.pl_tup {ds : List D} {n : Nat} (h : D.pls ds n = true) : (D.tup ds).pl (n + 1) = true := by
  simp only [D.pl, Bool.and_eq_true, decide_eq_true_eq]
  exact ⟨by omega, h⟩
theorem D.pl_lst {ds : List D} {n : Nat} (h : D.pls ds n = true) : (D.lst ds).pl (n + 1) = true := by
  simp only [D.pl, Bool.and_eq_true, decide_eq_true_eq]
  exact ⟨by omega, h⟩
theorem D.pl_tupI {ds : List D} {n : Nat} (h : (D.tup ds).pl n = true) : 0 < n ∧ D.pls ds (n - 1) = true := by
  simpa only [D.pl, Bool.and_eq_true, decide_eq_true_eq] using h
/-! ### == with a text -/
theorem eqv_str (x : Str) (d : D) : eqvD (.str x) d = true ↔ d = .str x := by
  unfold eqvD
  cases d <;> simp [D.py, PyData.eqv]
  exact eq_comm
theorem eqv_str2 (x y : Str) : eqvD (.str x) (.str y) = (x == y) := by
  unfold eqvD
  simp [D.py, PyData.eqv]
theorem eqv_int2 (x y : Int) : eqvD (.int x) (.int y) = (x == y) := by
  unfold eqvD
  simp [D.py, PyData.eqv]
theorem eqv_bl2 (x y : Bool) : eqvD (.bl x) (.bl y) = (x == y) := by
  unfold eqvD
  simp [D.py, PyData.eqv]
theorem ceq_of {d e : D} {n m : Nat} (h1 : d.ok n = true) (h2 : e.ok m = true) (l1 : n ≤ 64 := by decide) (l2 : m ≤ 64 := by decide) : CEq d e := ⟨⟨n, l1, h1⟩, m, l2, h2⟩
/-! ### names -/
def letters : List Nat := (Str.ofString "abcdefghijklmnopqrstuvwxyz").cps.toList
def alnum : List Nat := (Str.ofString "abcdefghijklmnopqrstuvwxyz0123456789").cps.toList
def isNameL (l : List Nat) : Bool := match l with
  | [] => false
  | k :: r => decide ((k :: r).length ≤ 12) && (decide (k ∈ letters) && (k :: r).all fun k => decide (k ∈ alnum))
def isNameD : D → Bool
  | .str s => isNameL s.cps.toList
  | _ => false
theorem letters_alnum : ∀ k ∈ letters, k ∈ alnum := by decide +kernel
theorem alnum_lt : ∀ k ∈ alnum, k < 128 := by decide +kernel
theorem hasStr_one (k : Nat) (z : Str) : hasStr ⟨#[k]⟩ z = decide (k ∈ z.cps.toList) := StrLaws.found_one z k
theorem isNameL_len {l : List Nat} (h : isNameL l = true) : 1 ≤ l.length ∧ l.length ≤ 12 := by
  cases l with
  | nil => cases h
  | cons k r =>
    simp only [isNameL, Bool.and_eq_true, decide_eq_true_eq] at h
    exact ⟨by simp, h.1⟩
theorem isNameL_all {l : List Nat} (h : isNameL l = true) : ∀ k ∈ l, k ∈ alnum := by
  cases l with
  | nil => cases h
  | cons k r =>
    simp only [isNameL, Bool.and_eq_true, decide_eq_true_eq] at h
    intro j hj
    exact of_decide_eq_true (List.all_eq_true.mp h.2.2 j hj)
theorem str_len (s : Str) : s.length = s.cps.toList.length := by
  show s.cps.size = _
  rw [Array.length_toList]
theorem name_ok {s : Str} (h : isNameL s.cps.toList = true) : PyData.strOk s = true ∧ s.length ≤ 12 := by
  refine ⟨?_, by rw [str_len]; exact (isNameL_len h).2⟩
  unfold PyData.strOk
  rw [Array.all_eq_true']
  intro x hx
  have := alnum_lt x (isNameL_all h x (by simpa using hx))
  simp only [decide_eq_true_eq]
  omega
/-! ### what a value is as a form -/
def nameFine (d : D) : Bool := d.ty.isSome && (match d with | .str s => decide (s.length ≤ LINE) | _ => true)
theorem nameFine_ty {d : D} (h : nameFine d = true) : d.ty.isSome = true := (Bool.and_eq_true_iff.mp h).1
theorem nameFine_len {d : D} (h : nameFine d = true) : ∀ s, d = .str s → s.length ≤ LINE := fun s e => by
  subst e
  exact of_decide_eq_true (Bool.and_eq_true_iff.mp h).2
theorem nameFine_pl {d : D} {n : Nat} (h : d.pl n = true) : nameFine d = true := by
  unfold nameFine
  rw [D.pl_ty h, Bool.true_and]
  cases d <;> first | rfl | skip
  have h2 := of_decide_eq_true (Bool.and_eq_true_iff.mp h).2
  have : (LINE : Nat) = 16777216 := rfl
  exact decide_eq_true (by omega)
def leafWs : List D := [.str "good", .str "counter"]
def halfWs : List D := [.str "both", .str "between", .str "offered", .str "chosen"]
def leafW (w : D) : Bool := leafWs.any fun z => eqvD z w
def halfW (w : D) : Bool := halfWs.any fun z => eqvD z w
theorem leafWs_ok : (D.tup leafWs).ok 1 = true := by decide +kernel
theorem halfWs_ok : (D.tup halfWs).ok 1 = true := by decide +kernel
theorem leafWs_okl : (D.lst leafWs).ok 1 = true := by decide +kernel
theorem halfWs_okl : (D.lst halfWs).ok 1 = true := by decide +kernel
/-- the depth of a value as a form of depth m at most -/
def depthIn : Nat → D → Option Nat
  | _, .tup [w, n] => if (leafW w && isNameD n) = true then some 0 else none
  | m + 1, .tup [w, a, b] => if halfW w = true then (depthIn m a).bind fun x => (depthIn m b).map fun y => max x y + 1 else none
  | _, _ => none
def fineD : Nat → D → Bool
  | _, .tup [w, n] => w.ok 64 && nameFine n
  | m + 1, .tup [w, a, b] => w.ok 64 && (fineD m a && fineD m b)
  | 0, .tup [w, _, _] => w.ok 64
  | _, d => d.ty.isSome
theorem fineD_ty : ∀ {m : Nat} {d : D}, fineD m d = true → d.ty.isSome = true
  | m, d, h => by
    unfold fineD at h
    split at h <;> first | rfl | exact h
theorem fineD_pl : ∀ (m n : Nat) (d : D), n ≤ 64 → d.pl n = true → fineD m d = true
  | m, n, d, hn, h => by
    unfold fineD
    split
    · rename_i w x
      obtain ⟨h0, h1⟩ := D.pl_tupI h
      have h2 := D.pls_mem h1
      exact Bool.and_eq_true_iff.mpr ⟨D.ok_mono _ _ _ (by omega) (D.pl_ok _ _ (h2 w (by simp))), nameFine_pl (h2 x (by simp))⟩
    · rename_i m' w a b
      obtain ⟨h0, h1⟩ := D.pl_tupI h
      have h2 := D.pls_mem h1
      exact Bool.and_eq_true_iff.mpr ⟨D.ok_mono _ _ _ (by omega) (D.pl_ok _ _ (h2 w (by simp))), Bool.and_eq_true_iff.mpr ⟨fineD_pl m' _ a (by omega) (h2 a (by simp)), fineD_pl m' _ b (by omega) (h2 b (by simp))⟩⟩
    · rename_i w a b
      obtain ⟨h0, h1⟩ := D.pl_tupI h
      exact D.ok_mono _ _ _ (by omega) (D.pl_ok _ _ (D.pls_mem h1 w (by simp)))
    · exact D.pl_ty h
def optD : Option Nat → D
  | none => .non
  | some k => .int k
theorem len_in (ds : List D) : ([D.int 2, D.int 3].any fun z => eqvD z (.int ds.length)) = (ds.length == 2 || ds.length == 3) := by
  have h : ∀ (k : Nat), eqvD (.int k) (.int ds.length) = (ds.length == k) := fun k => by
    rw [eqv_int2, Bool.eq_iff_iff]
    simp
    omega
  simp only [List.any_cons, List.any_nil, Bool.or_false]
  rw [show (2 : Int) = ((2 : Nat) : Int) from rfl, show (3 : Int) = ((3 : Nat) : Int) from rfl, h, h]
end DL
namespace L2
open PySem PySem.Spec PyProof.Rows HT
theorem places_back (n : Nat) : Builtin.Slice.slicePlaces ((n : Int) - 1) (-1) (-1) = n := by
  unfold Builtin.Slice.slicePlaces
  have h1 : ¬ ((-1 : Int) > 0) := by omega
  simp only [h1, if_false]
  have e : (-(-1) : Int) = 1 := rfl
  rw [e]
  simp only [Int.ediv_one]
  split <;> omega
theorem pick_back (xs : Array Value) : ((List.range xs.size).filterMap fun (k : Nat) => xs[(((xs.size : Int) - 1) + (k : Int) * (-1)).toNat]?).toArray = xs.toList.reverse.toArray := by
  have h := PySem.W.krv_all xs
  have e : (List.range xs.size).filterMap (fun (k : Nat) => xs[(((xs.size : Int) - 1) + (k : Int) * (-1)).toNat]?) = ((List.range xs.size).map fun k => xs.size - 1 - k).filterMap (xs[·]?) := by
    rw [List.filterMap_map]
    congr 1
    funext k
    show _ = xs[xs.size - 1 - k]?
    by_cases hk : k < xs.size
    · have : (((xs.size : Int) - 1) + (k : Int) * (-1)).toNat = xs.size - 1 - k := by omega
      rw [this]
    · have e1 : (((xs.size : Int) - 1) + (k : Int) * (-1)).toNat = 0 := by omega
      have e2 : xs.size - 1 - k = 0 := by omega
      rw [e1, e2]
  rw [e, PySem.W.krv_range, List.filterMap_reverse, h]
section
variable {prog : Program} {w : World} {A : Around} {E : Value → Shared → Prop} {s : Shared}
theorem sliceApplied_back {sl : Addr} {vl vu vs : Value} {n : Nat} {Q : Int × Int × Nat → Shared → Prop} (hs : s.heap.IsSliceOf sl vl vu vs) (pl : IsPart vl none) (pu : IsPart vu none) (ps : IsPart vs (some (-1)))
    (h : Q (((n : Int) - 1), -1, n) s) : wpAny (model prog w) A (Builtin.Slice.sliceApplied (.ref sl) (pure (n : Int))) Q E s := by
  obtain ⟨os, hos, hcs, hds⟩ := id hs
  unfold Builtin.Slice.sliceApplied Builtin.Slice.sliceFields
  refine wpAny_bind (wpAny_bind (wpAny_field hos hds (x := vl) rfl (wpAny_bind (wpAny_field hos hds (x := vu) rfl (wpAny_bind (wpAny_field hos hds (x := vs) rfl (wpAny_pure ?_)))))))
  refine wpAny_bind (slicePart_ ps ?_)
  show wpAny _ _ (if ((-1 : Int) == 0) = true then _ else _) _ _ s
  rw [if_neg (by decide)]
  refine wpAny_bind (slicePart_ pl (wpAny_bind (slicePart_ pu (wpAny_bind (wpAny_pure ?_)))))
  show wpAny _ _ (pure (((n : Int) - 1), (-1 : Int), Builtin.Slice.slicePlaces ((n : Int) - 1) (-1) (-1))) _ _ s
  rw [places_back]
  exact wpAny_pure h
theorem getItem_tuple_back {t sl : Addr} {items : Array Value} {vl vu vs : Value} {Q : Value → Shared → Prop} (ht : IsTup s.heap t items) (hs : s.heap.IsSliceOf sl vl vu vs) (pl : IsPart vl none) (pu : IsPart vu none) (ps : IsPart vs (some (-1)))
    (h : Q (.ref s.heap.objs.size) { s with heap := s.heap.push { cls := .type "tuple", data := .seq items.toList.reverse.toArray } })
    (hsz : items.size ≤ sizeLine) : wpAny (model prog w) A (getItem (.ref t) (.ref sl)) Q E s := by
  have htake : sizeOk (.seq items.toList.reverse.toArray) := by
    show items.toList.reverse.toArray.size ≤ sizeLine
    rw [List.size_toArray, List.length_reverse, Array.length_toList]
    exact hsz
  obtain ⟨os, hos, hcs, hds⟩ := id hs
  have hTs : s.TypeIs (.ref sl) "slice" := ⟨os, hos, hcs⟩
  unfold getItem
  try with_reducible refine wpAny_holding ?_
  first | refine wpAny_bind (wpAny_pure ?_) | skip
  refine wpAny_bind (wpAny_sequenceKey ht.typeIs (by decide) ?_)
  refine wpAny_bind (wpAny_callSpecial?_slot (name := Str.ofString "__getitem__") ht.typeIs PyProof.Rows.slot_tuple_getitem
    (wpAny_call_entry PyProof.Rows.slot_tuple_getitem ht.typeIs entry_tuple_getitem ?_ (args_tuple_getitem _ _)))
  show wpAny _ _ (Builtin.Tuple.tupleItemsOf (.ref t) >>= _) _ _ s
  refine wpAny_bind (tupleItemsOf_ ht ?_)
  refine wpAny_bind (wpAny_typeOf hTs ?_)
  rw [if_pos (by decide)]
  refine wpAny_bind (sliceApplied_back hs pl pu ps ?_)
  have hno : ¬ ((((items.size : Int) - 1) == 0 && (-1 : Int) == 1 && items.size == items.size) = true) := by
    intro q
    rw [Bool.and_eq_true, Bool.and_eq_true] at q
    exact absurd q.1.2 (by decide)
  show wpAny _ _ (if (((items.size : Int) - 1) == 0 && (-1 : Int) == 1 && items.size == items.size) = true then _ else _) _ _ s
  rw [if_neg hno, pick_back]
  first
    | exact wpAny_bind (m := Builtin.Tuple.tupleExact _) (wpAny_newObj_type (wpAny_pure ⟨_, rfl, wpAny_pure h⟩) htake)
    | exact wpAny_bind (m := Builtin.Tuple.tupleExact _) (wpAny_newObj_type (wpAny_bind (wpAny_pure (wpAny_pure ⟨_, rfl, wpAny_pure h⟩))) htake)
    | exact wpAny_bind (wpAny_bind (m := Builtin.Tuple.tupleExact _) (wpAny_newObj_type (wpAny_pure (wpAny_pure ⟨_, rfl, wpAny_pure h⟩)) htake))
    | exact wpAny_bind (wpAny_bind (m := Builtin.Tuple.tupleExact _) (wpAny_newObj_type (wpAny_pure ⟨_, rfl, wpAny_pure h⟩) htake))
end
section
variable {X : Cx}
def tRevA (K : PySem.W.Frag) (te : TE) : TE := fun σ H Q => te σ H fun x H1 => ∃ a xs, x = .ref a ∧ ((SqL K H1 a xs ∧ ∀ p, H1 p = none → Q (.ref p) (upd H1 p (.lst xs.reverse))) ∨ (SqT K H1 a xs ∧ ∀ p, H1 p = none → Q (.ref p) (upd H1 p (.tup xs.reverse))))
theorem pe_revA {e : Expr} {te : TE} {k : Nat} {p1 p2 p3 pos : Pos} (he : PE X e te) : PE X (.Subscript e (.Slice none none (some (.UnaryOp .USub (.Constant (.int 1) k p1) p2)) p3) pos) (tRevA X.K te) := by
  refine ⟨fun pins s σ H Q I h => ?_⟩
  refine Subscript_ (thn (he.run pins s σ H _ I h) fun v s1 ⟨x, H1, I1, r1, q1⟩ => ?_)
  obtain ⟨a, xs, ex, qq⟩ := q1
  subst ex
  cases r1
  have hst : PO X (some (.UnaryOp .USub (.Constant (.int 1) k p1) p2)) (tPart (tUn (rU fun i => .int (-i)) (tC (.int 1)))) := po_some (pe_un un_neg pe_int)
  refine wpAny_Slice (thn (po_none.run pins s1 σ H1 (fun o H2 => o = none ∧ H2 = H1) I1 ⟨rfl, rfl⟩) fun vl s2 ⟨l, H2, I2, pl, el, e2⟩ => ?_)
  subst el e2
  refine thn (po_none.run pins s2 σ H2 (fun o H3 => o = none ∧ H3 = H2) I2 ⟨rfl, rfl⟩) fun vu s3 ⟨u, H3, I3, pu, eu, e3⟩ => ?_
  subst eu e3
  refine thn (hst.run pins s3 σ H3 (fun o H4 => o = some (-1) ∧ H4 = H3) I3 ⟨1, rfl, -1, rfl, rfl, rfl⟩) fun vs s4 ⟨o, H4, I4, ps, eo, e4⟩ => ?_
  subst eo e4
  have I5 : Inv X pins σ H4 { s4 with heap := s4.heap.push { cls := .type "slice", data := .fields #[vl, vu, vs] } } := I4.kept (t' := s4.toks) fun b ob q => Heap.get?_push_of_some _ q
  rcases qq with ⟨hx, q⟩ | ⟨hx, q⟩
  · obtain ⟨its, r, ht, hz⟩ := I5.list hx
    have hlen := r.length
    show wpAny (model X.prog X.w) X.A (subscriptTail e (.Slice none none (some (.UnaryOp .USub (.Constant (.int 1) k p1) p2)) p3) (.ref a) (.ref s4.heap.objs.size)) (EP X pins σ Q) X.xe { s4 with heap := s4.heap.push { cls := .type "slice", data := .fields #[vl, vu, vs] } }
    refine tail_any (ops := [.ref a, .ref s4.heap.objs.size]) ht.isList.typeIs (PySem.slot_list_getitem.lookup) ?_ (by with_unfolding_all rfl)
    refine wpAny_getItem_list_slice ht.isList (Heap.IsSliceOf.new _ vl vu vs) pl pu ps (by decide) ?_ (by rw [List.size_toArray]; omega)
    rw [PySem.W.krv_pick]
    refine ⟨.ref _, _, I5.laid (t' := s4.toks) (o := .lst xs.reverse) (fun b ob q => Heap.get?_push_of_some _ q) (Nat.le_refl _) ?_, rfl, q _ (I5.hok.fresh (Nat.le_refl _))⟩
    exact ⟨by rw [List.length_reverse]; exact hz, _, 0, r.reverse, Heap.get?_push_size _ rfl⟩
  · obtain ⟨its, r, ht, hz⟩ := I5.tuple hx
    have hlen := r.length
    show wpAny (model X.prog X.w) X.A (subscriptTail e (.Slice none none (some (.UnaryOp .USub (.Constant (.int 1) k p1) p2)) p3) (.ref a) (.ref s4.heap.objs.size)) (EP X pins σ Q) X.xe { s4 with heap := s4.heap.push { cls := .type "slice", data := .fields #[vl, vu, vs] } }
    refine tail_any (ops := [.ref a, .ref s4.heap.objs.size]) ht.typeIs (PyProof.Rows.slot_tuple_getitem.lookup) ?_ (by with_unfolding_all rfl)
    refine getItem_tuple_back ht (Heap.IsSliceOf.new _ vl vu vs) pl pu ps ?_ (by rw [List.size_toArray]; omega)
    refine ⟨.ref _, _, I5.laid (t' := s4.toks) (o := .tup xs.reverse) (fun b ob q => Heap.get?_push_of_some _ q) (Nat.le_refl _) ?_, rfl, q _ (I5.hok.fresh (Nat.le_refl _))⟩
    exact ⟨by rw [List.length_reverse]; exact hz, _, r.reverse, IsTup.new _ _⟩
end
end L2
namespace DL
open PySem L2
section
variable {X : Cx} {Y : Yc} {W : WX}
def revD : O1 := fun _ d P => match d with
  | .tup a => P (.tup a.reverse)
  | .lst a => P (.lst a.reverse)
  | _ => False
theorem de_rev {e : Expr} {m : ME} {k : Nat} {p1 p2 p3 pos : Pos} (hY : Y.K = X.K) (he : DE X Y W e m) : DE X Y W (.Subscript e (.Slice none none (some (.UnaryOp .USub (.Constant (.int 1) k p1) p2)) p3) pos) (mUn revD m) :=
  peImp (pe_revA he) fun σ H Q ⟨G, st, P, PX, rr, hm, xp, k⟩ => ⟨G, st, _, PX, rr, hm, xp, fun d s1 v G1 H1 hm1 g1 f1 r1 q1 => by
    cases d <;> first | exact False.elim hm1 | skip
    · obtain ⟨a1, xs1, rfl, h1, q1⟩ := q1.tupI
      refine ⟨_, _, rfl, .inr ⟨sqT_mono r1.h.sub (hY ▸ h1), fun p hp => ?_⟩⟩
      exact k _ s1 _ _ _ hm1 (g1.trans (r1.h.new hp (.tup xs1.reverse)).2.1) (f1.trans (.new hp)) ⟨(r1.h.new hp _).1, r1.s.mono (r1.h.new hp (.tup xs1.reverse)).2.1⟩ (.tup (.inl (.inl upd_same)) ((q1.mono (r1.h.new hp _).2.1).reverse))
    · obtain ⟨a1, xs1, rfl, h1, q1⟩ := q1.lstI
      refine ⟨_, _, rfl, .inl ⟨SqL.of (r1.h.sub _ _ h1), fun p hp => ?_⟩⟩
      exact k _ s1 _ _ _ hm1 (g1.trans (r1.h.new hp (.lst xs1.reverse)).2.1) (f1.trans (.new hp)) ⟨(r1.h.new hp _).1, r1.s.mono (r1.h.new hp (.lst xs1.reverse)).2.1⟩ (.lst upd_same ((q1.mono (r1.h.new hp _).2.1).reverse))⟩
def negD : O1 := fun _ d P => match d with
  | .int i => P (.int (-i))
  | _ => False
theorem ud_neg : UnD X Y (unaryOp .USub) negD := by
  intro pins s σ H x v Q I rx ⟨G, mu, c, d, P, r0, qd, h, k⟩
  cases d <;> first | exact False.elim h | skip
  cases qd
  exact un_neg pins s σ H _ v Q I rx ⟨_, rfl, k.here r0 h (.int _)⟩
end
end DL
namespace DL
open PySem L2
/-! ### texts by their signs -/
theorem app_cps (a b : Str) : (a ++ b).cps.toList = a.cps.toList ++ b.cps.toList := by
  show (a.cps ++ b.cps).toList = _
  rw [Array.toList_append]
theorem app_len (a b : Str) : (a ++ b).length = a.length + b.length := by
  rw [str_len, str_len, str_len, app_cps, List.length_append]
theorem foldl_app (g : Array Nat) : ∀ (l : List Str) (acc : Array Nat), g.toList = [] → (l.foldl (fun a t => a ++ g ++ t.cps) acc).toList = acc.toList ++ (l.map fun s => s.cps.toList).flatten
  | [], acc, _ => by simp
  | x :: l, acc, h => by
    rw [List.foldl_cons, foldl_app g l _ h, Array.toList_append, Array.toList_append, h, List.map_cons, List.flatten_cons, List.append_nil, List.append_assoc]
theorem join_cps (l : List Str) : (Txt.join (Str.ofString "") l).cps.toList = (l.map fun s => s.cps.toList).flatten := by
  cases l with
  | nil => rfl
  | cons x l =>
    show (l.foldl (fun a t => a ++ (Str.ofString "").cps ++ t.cps) x.cps).toList = _
    rw [foldl_app (Str.ofString "").cps l _ rfl, List.map_cons, List.flatten_cons]
theorem join_ones (l : List Nat) : (Txt.join (Str.ofString "") (l.map fun k => (⟨#[k]⟩ : Str))).cps.toList = l := by
  rw [join_cps, List.map_map]
  induction l with
  | nil => rfl
  | cons k l ih => rw [List.map_cons, List.flatten_cons, ih]; rfl
/-- plain signs -/
def asc (l : List Nat) : Prop := ∀ k ∈ l, k < 128
theorem asc_app {a b : List Nat} (h : asc a) (g : asc b) : asc (a ++ b) := fun k hk => by
  rcases List.mem_append.mp hk with e | e
  · exact h k e
  · exact g k e
theorem asc_cut {l : List Nat} (h : asc l) (lo hi : Option Int) : asc (cutD l lo hi) := fun k hk => h k (List.mem_of_mem_drop (List.mem_of_mem_take hk))
theorem cut_len {α : Type} (l : List α) (lo hi : Option Int) : (cutD l lo hi).length ≤ l.length := by
  unfold cutD
  rw [List.length_take, List.length_drop]
  omega
theorem asc_name {l : List Nat} (h : isNameL l = true) : asc l := fun k hk => alnum_lt k (isNameL_all h k hk)
theorem pl_str {s : Str} {n : Nat} (h : asc s.cps.toList) (l : s.cps.toList.length ≤ 1000) : (D.str s).pl n = true := by
  refine Bool.and_eq_true_iff.mpr ⟨?_, decide_eq_true (by rw [str_len]; exact l)⟩
  unfold PyData.strOk
  rw [Array.all_eq_true']
  intro x hx
  have := h x (by simpa using hx)
  simp only [decide_eq_true_eq]
  omega
theorem ofL_cps (l : List Nat) : (⟨l.toArray⟩ : Str).cps.toList = l := by simp
theorem upper_one : ∀ k ∈ alnum, (Unicode.upperOf k).length = 1 ∧ ∀ j ∈ Unicode.upperOf k, j < 128 := by decide +kernel
theorem upper_cps (s : Str) : (Txt.upper s).cps.toList = (s.cps.toList.map fun c => Unicode.upperOf c).flatten := by
  show (placed s fun _ c => Unicode.upperOf c).toList = _
  unfold placed
  have e : (s.cps.mapIdx fun i c => (Unicode.upperOf c).toArray) = s.cps.map fun c => (Unicode.upperOf c).toArray := by
    apply Array.ext
    · simp
    · intro i h1 h2
      simp
  rw [e]
  rw [Array.toList_flatten]
  simp [Function.comp_def]
theorem upper_asc {s : Str} (h : ∀ k ∈ s.cps.toList, k ∈ alnum) : asc (Txt.upper s).cps.toList ∧ (Txt.upper s).cps.toList.length = s.cps.toList.length := by
  rw [upper_cps]
  generalize s.cps.toList = l at h
  induction l with
  | nil => exact ⟨fun k hk => (by simp at hk), rfl⟩
  | cons k l ih =>
    obtain ⟨h1, h2⟩ := ih fun j hj => h j (List.mem_cons_of_mem _ hj)
    obtain ⟨h3, h4⟩ := upper_one k (h k List.mem_cons_self)
    rw [List.map_cons, List.flatten_cons]
    exact ⟨asc_app h4 h1, by rw [List.length_append, h2, h3, List.length_cons, Nat.add_comm]⟩
/-- what the turns of a comprehension gave -/
theorem all2_ex {α β γ : Type} (f : α → β) (p : α → Prop) {ds : List γ} {ys : List β} (h : All2 (fun _ y => ∃ s, y = f s ∧ p s) ds ys) : ∃ ns : List α, ys = ns.map f ∧ ns.length = ds.length ∧ ∀ s ∈ ns, p s := by
  induction h with
  | nil => exact ⟨[], rfl, rfl, fun s hs => (by cases hs)⟩
  | cons h1 h9 ih =>
    obtain ⟨s, rfl, hs⟩ := h1
    obtain ⟨ns, rfl, h2, h3⟩ := ih
    refine ⟨s :: ns, rfl, by rw [List.length_cons, List.length_cons, h2], fun x hx => ?_⟩
    rcases List.mem_cons.mp hx with e | e
    · rw [e]; exact hs
    · exact h3 x e
theorem rngD_len (lo : Int) (n : Nat) : (rngD lo n).length = n := by simp [rngD]
/-- no name -/
theorem noName_us (l : List Nat) : isNameL (l ++ [95]) = false := by
  cases e : isNameL (l ++ [95]) with
  | false => rfl
  | true => exact absurd (isNameL_all e 95 (by simp)) (by decide +kernel)
theorem noName_long {l : List Nat} (h : 12 < l.length) : isNameL l = false := by
  cases e : isNameL l with
  | false => rfl
  | true => have := (isNameL_len e).2; omega
theorem shortL {α : Type} {l : List α} (n : Nat) (h : l.length = n) (g : n ≤ 1000 := by decide) : l.length ≤ sizeLine := by
  rw [h, sizeLine_eq]
  omega
/-! ### forms -/
inductive Fm where
  | leaf (w n : Str)
  | node (w : Str) (l r : Fm)
def Fm.toD : Fm → D
  | .leaf w n => .tup [.str w, .str n]
  | .node w l r => .tup [.str w, l.toD, r.toD]
def Fm.ok : Fm → Bool
  | .leaf w n => leafW (.str w) && isNameL n.cps.toList
  | .node w l r => halfW (.str w) && (l.ok && r.ok)
def Fm.depth : Fm → Nat
  | .leaf _ _ => 0
  | .node _ l r => max l.depth r.depth + 1
theorem leafW_or {d : D} (h : leafW d = true) : d = .str "good" ∨ d = .str "counter" := by
  simp only [leafW, leafWs, List.any_cons, List.any_nil, Bool.or_false, Bool.or_eq_true, eqv_str] at h
  exact h
theorem halfW_or {d : D} (h : halfW d = true) : d = .str "both" ∨ d = .str "between" ∨ d = .str "offered" ∨ d = .str "chosen" := by
  simp only [halfW, halfWs, List.any_cons, List.any_nil, Bool.or_false, Bool.or_eq_true, eqv_str] at h
  exact h
theorem word_pl {d : D} {n : Nat} (h : leafW d = true ∨ halfW d = true) : ∃ s, d = .str s ∧ asc s.cps.toList ∧ s.cps.toList.length ≤ 10 := by
  rcases h with h | h
  · rcases leafW_or h with e | e <;> exact ⟨_, e, by unfold asc; decide +kernel, by decide +kernel⟩
  · rcases halfW_or h with e | e | e | e <;> exact ⟨_, e, by unfold asc; decide +kernel, by decide +kernel⟩
theorem leafW_asc {s : Str} (h : leafW (.str s) = true) : asc s.cps.toList ∧ s.cps.toList.length ≤ 10 := by
  obtain ⟨t, e, h1⟩ := word_pl (n := 0) (.inl h)
  cases e
  exact h1
theorem halfW_asc {s : Str} (h : halfW (.str s) = true) : asc s.cps.toList ∧ s.cps.toList.length ≤ 10 := by
  obtain ⟨t, e, h1⟩ := word_pl (n := 0) (.inr h)
  cases e
  exact h1
theorem Fm.dep : ∀ (f : Fm) (m : Nat), f.ok = true → depthIn m f.toD = if f.depth ≤ m then some f.depth else none
  | .leaf w n, m, h => by
    have e : depthIn m (Fm.leaf w n).toD = if (leafW (.str w) && isNameD (.str n)) = true then some 0 else none := by cases m <;> rfl
    have h' : (leafW (.str w) && isNameD (.str n)) = true := h
    rw [e, if_pos h', if_pos (show (Fm.leaf w n).depth ≤ m from Nat.zero_le _)]
    rfl
  | .node w l r, 0, h => by
    rw [if_neg (show ¬ (Fm.node w l r).depth ≤ 0 by unfold Fm.depth; omega)]
    rfl
  | .node w l r, m + 1, h => by
    have h' := Bool.and_eq_true_iff.mp h
    have h2 := Bool.and_eq_true_iff.mp h'.2
    show (if halfW (.str w) = true then (depthIn m l.toD).bind fun x => (depthIn m r.toD).map fun y => max x y + 1 else none) = _
    rw [if_pos h'.1, Fm.dep l m h2.1, Fm.dep r m h2.2]
    show _ = if max l.depth r.depth + 1 ≤ m + 1 then some (max l.depth r.depth + 1) else none
    by_cases h3 : l.depth ≤ m
    · by_cases h4 : r.depth ≤ m
      · rw [if_pos h3, if_pos h4, if_pos (by omega)]; rfl
      · rw [if_pos h3, if_neg h4, if_neg (by omega)]; rfl
    · rw [if_neg h3, if_neg (show ¬ max l.depth r.depth + 1 ≤ m + 1 from fun z => h3 (Nat.le_trans (Nat.le_max_left _ _) (Nat.le_of_succ_le_succ z)))]; rfl
theorem Fm.fine : ∀ (f : Fm) (m : Nat), f.ok = true → fineD m f.toD = true
  | .leaf w n, m, h => by
    have h' := Bool.and_eq_true_iff.mp h
    have e : fineD m (Fm.leaf w n).toD = ((D.str w).ok 64 && nameFine (.str n)) := by cases m <;> rfl
    rw [e]
    have a := leafW_asc h'.1
    refine Bool.and_eq_true_iff.mpr ⟨D.pl_ok _ 64 (pl_str a.1 (by omega)), nameFine_pl (n := 0) (pl_str (asc_name h'.2) (by have := (isNameL_len h'.2).2; omega))⟩
  | .node w l r, 0, h => by
    have h' := Bool.and_eq_true_iff.mp h
    have a := halfW_asc h'.1
    exact D.pl_ok (.str w) 64 (pl_str a.1 (by omega))
  | .node w l r, m + 1, h => by
    have h' := Bool.and_eq_true_iff.mp h
    have h2 := Bool.and_eq_true_iff.mp h'.2
    have a := halfW_asc h'.1
    exact Bool.and_eq_true_iff.mpr ⟨D.pl_ok (.str w) 64 (pl_str a.1 (by omega)), Bool.and_eq_true_iff.mpr ⟨Fm.fine l m h2.1, Fm.fine r m h2.2⟩⟩
theorem Fm.plain : ∀ (f : Fm) (n : Nat), f.ok = true → f.depth < n → f.toD.pl n = true
  | .leaf w x, n + 1, h, hn => by
    have h' := Bool.and_eq_true_iff.mp h
    have a := leafW_asc h'.1
    exact D.pl_tup (D.pls_of fun d hd => by
      rcases List.mem_cons.mp hd with e | e
      · rw [e]; exact pl_str a.1 (by omega)
      · rcases List.mem_cons.mp e with e | e
        · rw [e]; exact pl_str (asc_name h'.2) (by have := (isNameL_len h'.2).2; omega)
        · cases e)
  | .node w l r, n + 1, h, hn => by
    have h' := Bool.and_eq_true_iff.mp h
    have h2 := Bool.and_eq_true_iff.mp h'.2
    have a := halfW_asc h'.1
    have hd : max l.depth r.depth + 1 < n + 1 := hn
    exact D.pl_tup (D.pls_of fun d hd => by
      rcases List.mem_cons.mp hd with e | e
      · rw [e]; exact pl_str a.1 (by omega)
      · rcases List.mem_cons.mp e with e | e
        · rw [e]; exact Fm.plain l n h2.1 (by omega)
        · rcases List.mem_cons.mp e with e | e
          · rw [e]; exact Fm.plain r n h2.2 (by omega)
          · cases e)
def isFormIn (m : Nat) (d : D) : Bool := (depthIn m d).isSome
theorem Fm.isForm (f : Fm) (m : Nat) (h : f.ok = true) : isFormIn m f.toD = decide (f.depth ≤ m) := by
  unfold isFormIn
  rw [Fm.dep f m h]
  by_cases e : f.depth ≤ m
  · rw [if_pos e, decide_eq_true e]; rfl
  · rw [if_neg e, decide_eq_false e]; rfl
/-! ### short plain texts, lists by what stands in them -/
def sA (n : Nat) (s : Str) : Prop := asc s.cps.toList ∧ s.cps.toList.length ≤ n
theorem sA_cut {n : Nat} {s : Str} (h : sA n s) (lo hi : Option Int) : sA n ⟨(cutD s.cps.toList lo hi).toArray⟩ := by
  unfold sA
  rw [ofL_cps]
  exact ⟨asc_cut h.1 lo hi, Nat.le_trans (cut_len _ _ _) h.2⟩
theorem sA_app {n m : Nat} {a b : Str} (h : sA n a) (g : sA m b) : sA (n + m) (a ++ b) := by
  unfold sA
  rw [app_cps, List.length_append]
  exact ⟨asc_app h.1 g.1, Nat.add_le_add h.2 g.2⟩
theorem sA_one {k : Nat} (h : k < 128) : sA 1 ⟨#[k]⟩ := ⟨fun j hj => by
  have : j = k := by simpa using hj
  omega, Nat.le_refl _⟩
theorem sA_name {s : Str} (h : isNameL s.cps.toList = true) : sA 12 s := ⟨asc_name h, (isNameL_len h).2⟩
theorem sA.len {n : Nat} {s : Str} (h : sA n s) : s.length ≤ n := by rw [str_len]; exact h.2
theorem sA.line {n : Nat} {s : Str} (h : sA n s) (g : n ≤ 1000 := by decide) : s.length ≤ LINE := by
  have := h.len
  have e : (LINE : Nat) = 16777216 := rfl
  omega
theorem sA.two {n m : Nat} {a b : Str} (h : sA n a) (g : sA m b) (l : n + m ≤ 1000 := by decide) : a.length + b.length ≤ LINE := by
  have := h.len
  have := g.len
  have e : (LINE : Nat) = 16777216 := rfl
  omega
theorem sA.pl {n : Nat} {s : Str} (h : sA n s) {m : Nat} (g : n ≤ 1000 := by decide) : (D.str s).pl m = true := pl_str h.1 (Nat.le_trans h.2 g)
theorem sA_upper {s : Str} (h : isNameL s.cps.toList = true) : sA 12 (Txt.upper s) := ⟨(upper_asc (isNameL_all h)).1, by rw [(upper_asc (isNameL_all h)).2]; exact (isNameL_len h).2⟩
theorem atI_mem {α : Type} {l : List α} {i : Int} (h0 : 0 ≤ i) (h1 : i < l.length) : ∃ z, z ∈ l ∧ atI l i = some z := by
  obtain ⟨j, rfl⟩ := Int.eq_ofNat_of_zero_le h0
  have hj : j < l.length := by omega
  exact ⟨_, List.getElem_mem hj, atI_nat (List.getElem?_eq_getElem hj)⟩
theorem two_le {α β : Type} {a : List α} {b : List β} (n m : Nat) (ha : a.length ≤ n) (hb : b.length ≤ m) (l : n + m ≤ 1000 := by decide) : a.length + b.length ≤ LINE := by
  have e : (LINE : Nat) = 16777216 := rfl
  omega
theorem cut_le {α : Type} {l : List α} {n : Nat} (h : l.length ≤ n) (lo hi : Option Int) : (cutD l lo hi).length ≤ n := Nat.le_trans (cut_len l lo hi) h
theorem app_le {α : Type} {a b : List α} {n m : Nat} (ha : a.length ≤ n) (hb : b.length ≤ m) : (a ++ b).length ≤ n + m := by rw [List.length_append]; omega
section
variable {α : Type} {p : α → Prop}
theorem al_nil : ∀ d ∈ ([] : List α), p d := fun d hd => by cases hd
theorem al_cons {x : α} {l : List α} (h : p x) (g : ∀ d ∈ l, p d) : ∀ d ∈ x :: l, p d := fun d hd => by
  rcases List.mem_cons.mp hd with e | e
  · rw [e]; exact h
  · exact g d e
theorem al_one {x : α} (h : p x) : ∀ d ∈ [x], p d := al_cons h al_nil
theorem al_app {a b : List α} (h : ∀ d ∈ a, p d) (g : ∀ d ∈ b, p d) : ∀ d ∈ a ++ b, p d := fun d hd => by
  rcases List.mem_append.mp hd with e | e
  · exact h d e
  · exact g d e
theorem al_cut {a : List α} (h : ∀ d ∈ a, p d) (lo hi : Option Int) : ∀ d ∈ cutD a lo hi, p d := fun d hd => h d (List.mem_of_mem_drop (List.mem_of_mem_take hd))
theorem al_rev {a : List α} (h : ∀ d ∈ a, p d) : ∀ d ∈ a.reverse, p d := fun d hd => h d (List.mem_reverse.mp hd)
end
theorem tupP {ys : List D} {m : Nat} (h : ∀ d ∈ ys, d.pl m = true) : (D.tup ys).pl (m + 1) = true := D.pl_tup (D.pls_of h)
theorem lstP {ys : List D} {m : Nat} (h : ∀ d ∈ ys, d.pl m = true) : (D.lst ys).pl (m + 1) = true := D.pl_lst (D.pls_of h)
/-- what is no name -/
def noN (d : D) : Prop := isNameD d = false ∧ d.ty.isSome = true ∧ ∀ s, d = .str s → s.length ≤ LINE
theorem noN_non : noN .non := ⟨rfl, rfl, fun s e => by cases e⟩
theorem noN_bl {b : Bool} : noN (.bl b) := ⟨rfl, rfl, fun s e => by cases e⟩
theorem noN_int {b : Int} : noN (.int b) := ⟨rfl, rfl, fun s e => by cases e⟩
theorem noN_tup {b : List D} : noN (.tup b) := ⟨rfl, rfl, fun s e => by cases e⟩
theorem noN_lst {b : List D} : noN (.lst b) := ⟨rfl, rfl, fun s e => by cases e⟩
theorem noN_dct {b : List (Key × D)} : noN (.dct b) := ⟨rfl, rfl, fun s e => by cases e⟩
theorem noN_str {s : Str} (h : isNameL s.cps.toList = false) (l : s.length ≤ LINE) : noN (.str s) := ⟨h, rfl, fun t e => by cases e; exact l⟩
theorem rep_len {α : Type} (l : List α) (k : Int) : (repD l k).length = k.toNat * l.length := by
  unfold repD
  rw [List.length_flatten, List.map_replicate, List.sum_replicate_nat]
theorem all_true {α : Type} (l : List α) : ((l.map fun _ => true).all id) = true := by
  rw [List.all_map, List.all_eq_true]
  intro x _
  rfl
end DL
namespace DL
open PySem L2
/-! ### the law itself: its source of draws, then the rest over data -/
/-- the promise of a law: a list of at most 63 numbers comes in, True goes out -/
def spLaw (K : PySem.W.Frag) : Sp := fun vs H Q E => ∃ (a : Addr) (ns : List Int), vs = [.ref a] ∧ SqL K H a (ns.map V.int) ∧ ns.length ≤ 63 ∧ ∀ H', Q (.bl true) H'
theorem rest_pen {X : Cx} {K : PySem.W.Frag} {W : WX} {body : List Stmt} {m : MS} (h : ∀ p, DSs X (Yp K p) W body m) : PSs X body (fun D σ H => ∃ p, TSof (Yp K p) W m D σ H) :=
  ⟨fun pins s σ H D I ⟨p, q⟩ => (h p).run pins s σ H D I q⟩
def onlyAt (ca : Addr) (o : HO) : Hp := fun b => if b = ca then some o else none
theorem slPen {K : PySem.W.Frag} {p : Addr} {G : Hp} {x : Option V} (k : Nat) : Sl (Yp K p) G (none :: some .pen :: List.replicate k none) (x :: some (.ref p) :: List.replicate k none) := by
  refine ⟨by simp, fun i d e => ?_⟩
  match i, e with
  | 0, e => cases e
  | 1, e => cases e; exact ⟨.ref p, rfl, .pen⟩
  | i + 2, e =>
    have := List.mem_of_getElem? (show (List.replicate k (none : Option D))[i]? = some (some d) from e)
    simp at this
def lawEnd : DEnds := { nx := fun _ => False, rt := fun d _ => d = .bl true }
theorem law_fin {K : PySem.W.Frag} {W : WX} {p ca : Addr} {H : Hp} {m : MS} {ns : List Int} {D : Ends} {x : Option V} (k : Nat) (npc : p ≠ ca) (h1 : H p = some (.dK (penKvs ca 0 0))) (h2 : H ca = some (.lst (ns.map V.int))) (hl : ns.length ≤ 63)
    (hm : ∀ mu, m ⟨none :: some .pen :: List.replicate k none, mu, 0⟩ lawEnd PX0) (hD : ∀ H, D.rt (.bl true) H) : TSof (Yp K p) W m D (x :: some (.ref p) :: List.replicate k none) H := by
  refine ⟨onlyAt ca (.lst (ns.map V.int)), ⟨none :: some .pen :: List.replicate k none, fun _ => none, 0⟩, lawEnd, PX0, ⟨⟨fun b o e => ?_, fun a mo e => (by cases e), _, h1, ⟨ca, 0, 0, ns, rfl, ?_, hl, Int.le_refl _, Int.le_refl _, Int.le_refl _⟩, ?_, rfl⟩, slPen k⟩, hm _, fun _ _ _ _ _ _ _ z => z.elim, ⟨fun _ _ _ _ z => z.elim, fun d st' v σ' G' H' z _ _ _ q => ?_, fun _ _ _ _ z => z.elim, fun _ _ _ _ z => z.elim⟩⟩
  · unfold onlyAt at e
    split at e
    · rename_i hb
      rw [hb, h2]
      exact e
    · cases e
  · unfold onlyAt
    rw [if_pos rfl]
  · show onlyAt ca (.lst (ns.map V.int)) p = none
    unfold onlyAt
    rw [if_neg npc]
  · have z' : d = .bl true := z
    subst z'
    cases q
    exact hD H'
/-- turns that all gave True -/
theorem all_rel {γ : Type} {ds : List γ} {ys : List D} (h : All2 (fun _ y => y = .bl true) ds ys) : ∃ bs, blsOf ys = some bs ∧ bs.all id = true := by
  induction h with
  | nil => exact ⟨[], rfl, rfl⟩
  | cons h1 _ ih =>
    obtain ⟨bs, e1, e2⟩ := ih
    refine ⟨true :: bs, ?_, ?_⟩
    · rw [h1]
      simp [blsOf, e1]
    · simp [e2]
/-! ### the end -/
/-- what a module's name holds, by the written part -/
theorem glob_int {K : PySem.W.Frag} {h : Heap} {mg : Str → Option Value} {x : Str} {i : Int} {t : Tok} (X : K.In h) (G : h.Ns mainGlobals mg) (e : PySem.W.nsIn K mainGlobals x = some (some (.int i t))) : GlobD K mg x (.int i) :=
  ⟨.int i, _, PySem.W.mg_of X G e, ⟨_, rfl⟩, fun _ _ _ => .int i⟩
theorem glob_str {K : PySem.W.Frag} {h : Heap} {mg : Str → Option Value} {x : Str} {i : Str} {t : Tok} (X : K.In h) (G : h.Ns mainGlobals mg) (e : PySem.W.nsIn K mainGlobals x = some (some (.str i t))) : GlobD K mg x (.str i) :=
  ⟨.str i, _, PySem.W.mg_of X G e, ⟨_, rfl⟩, fun _ _ _ => .str i⟩
theorem glob_strL {K : PySem.W.Frag} {mg : Str → Option Value} {x : Str} {i : Str} (e : ∃ t, mg x = some (.str i t)) : GlobD K mg x (.str i) :=
  let ⟨_, e⟩ := e
  ⟨.str i, _, e, ⟨_, rfl⟩, fun _ _ _ => .str i⟩
mutual
/-- a value that the written part holds, as data -/
inductive KD (K : PySem.W.Frag) : Value → D → V → Prop
  | non : KD K .none .non .non
  | bl (b : Bool) : KD K (.bool b) (.bl b) (.bl b)
  | int (i : Int) (t : Tok) : KD K (.int i t) (.int i) (.int i)
  | str (i : Str) (t : Tok) : KD K (.str i t) (.str i) (.str i)
  | tup {a : Addr} {od : Option Addr} {its : Array Value} {n : Nat} {sl : Array (Option Value)} {ds : List D} {vs : List V} : K.lookup a = some ⟨.type "tuple", od, .seq its n, sl⟩ → its.size ≤ sizeLine → KDs K its.toList ds vs → KD K (.ref a) (.tup ds) (.ref a)
inductive KDs (K : PySem.W.Frag) : List Value → List D → List V → Prop
  | nil : KDs K [] [] []
  | cons {u : Value} {d : D} {v : V} {us : List Value} {ds : List D} {vs : List V} : KD K u d v → KDs K us ds vs → KDs K (u :: us) (d :: ds) (v :: vs)
end
theorem KD.rel {K : PySem.W.Frag} {u : Value} {d : D} {v : V} (h : KD K u d v) : RelV v u := by
  cases h with
  | non => rfl
  | bl b => rfl
  | int i t => exact ⟨t, rfl⟩
  | str i t => exact ⟨t, rfl⟩
  | tup _ _ _ => rfl
theorem KDs.vals {K : PySem.W.Frag} : ∀ {us : List Value} {ds : List D} {vs : List V}, KDs K us ds vs → Vals vs us
  | _, _, _, .nil => .nil
  | _, _, _, .cons h r => .cons h.rel (KDs.vals r)
mutual
theorem KD.rep {Y : Yc} {G : Hp} : ∀ {u : Value} {d : D} {v : V}, KD Y.K u d v → Rep Y G d v
  | _, _, _, .non => .non
  | _, _, _, .bl b => .bl b
  | _, _, _, .int i t => .int i
  | _, _, _, .str i t => .str i
  | _, _, _, .tup h hz r => .tup (.inr ⟨_, _, _, h, rfl, rfl, hz, r.vals⟩) (KDs.reps r)
theorem KDs.reps {Y : Yc} {G : Hp} : ∀ {us : List Value} {ds : List D} {vs : List V}, KDs Y.K us ds vs → Reps Y G ds vs
  | _, _, _, .nil => .nil
  | _, _, _, .cons h r => .cons (KD.rep h) (KDs.reps r)
end
theorem glob_kd {K : PySem.W.Frag} {h : Heap} {mg : Str → Option Value} {x : Str} {u : Value} {d : D} {v : V} (X : K.In h) (G : h.Ns mainGlobals mg) (e : PySem.W.nsIn K mainGlobals x = some (some u)) (k : KD K u d v) : GlobD K mg x d :=
  ⟨v, u, PySem.W.mg_of X G e, k.rel, fun Y hY G => by subst hY; exact k.rep⟩
/-- a law's end; what the top's loose names hold is told too -/
theorem endX {l : PySem.W.OpenLaw} {n k : Nat} {q : Program} {loose : List Str} {XP : (Str → Option Value) → Heap → Prop} {YP : World → Heap → Prop} {d : DefRec} {K : Params → PySem.W.Frag} {x : Str} (hn : l.most = some n) (hz : n ≤ sizeLine) (h63 : n ≤ 63)
    (hdf : d.params.defaults = []) (hr : Room k callerA) (hY : ∀ (w : World) (h : Heap), YP w h → (K w.params).In h)
    (F : ∀ (w : World) (mg : Str → Option Value) (fa : Addr) (h : Heap), XP mg h → (K w.params).In h → h.Ns mainGlobals mg → mg d.name = some (.ref fa) → ∃ fd : FuncData,
      (∀ (s : Shared) (u : Value), BindsTo s fd ⟨[u], []⟩ [(x, u)]) ∧ ∀ base : Heap, (K w.params).In base → base.Ns mainGlobals mg → FnOk l.prog w (K w.params) mg base (L2.CX l.prog w) k fa fd [x] (spLaw (K w.params))) :
    PySem.W.WalkO q loose XP YP l.row.toRowW d [] (fun f vs => PySem.call f vs) :=
  Att.attach_call hn hdf fun w s0 s1 mg mb fa o pm cd doc a vs ns G Y ho hd hcd hmg hobj hints hlen hg =>
    have KX := hY w _ Y
    let ⟨fd, hb, hF⟩ := F w mg fa _ G.X KX G.T.g hmg
    law_call KX G.T.g G.T.b G.T.builtins G.T.nolimit hg hobj hints (Nat.le_trans hlen hz) hr hF hb (fun H hO hS => ⟨a, ns, rfl, hS, Nat.le_trans hlen h63, fun _ => rfl⟩) fun H e s' ⟨_, _, _, _, _, _, _, _, _, _, _, _, z⟩ => z
theorem loose_str {h : Heap} {mg : Str → Option Value} {x s : Str} (e : ∃ v, mg x = some v ∧ PySem.W.ReadsLit h v (.str s) []) : ∃ t, mg x = some (.str s t) := by
  obtain ⟨v, e1, r⟩ := e
  cases r
  exact ⟨_, e1⟩
end DL
namespace DL
open PySem L2
-- @hash d4cc7186
-- @raw
-- @level 1
-- @hash 6b07265e
-- @raw
-- @level 1
-- @hash eb31e4bc
def sp_is_name : DSp := fun ds mu c P PX => ∃ d, ds = [d] ∧ d.ty.isSome = true ∧ (∀ s, d = .str s → s.length ≤ LINE) ∧ P (.bl (isNameD d)) mu c
def m_is_name : MS := (mSeq (mIfS (mOr (mNot (mB (mIsi "str" (mVar 0)))) (mOr (mNot (mChain leD leD (mC (.int 1)) (mCB lenD (mCons (mVar 0) mNil)) (mC (.int 12)))) (mB (mOp (inD not) (mOp subD (mVar 0) (mC (.int 0))) (mC (.str "abcdefghijklmnopqrstuvwxyz")))))) (mRet (mC (.bl false))) mNext)
  (mRet (mCB allD (mCons (mLc (mItems (mVar 0)) [1] (gN 1) mYes (mOp (inD id) (mVar 1) (mC (.str "abcdefghijklmnopqrstuvwxyz0123456789")))) mNil))))
theorem rd_is_name (ds : List D) (mu : Mu) (c : Nat) (P : D → Mu → Nat → Prop) (PX : Ex → Mu → Nat → Prop) (h : sp_is_name ds mu c P PX) : m_is_name (S0 ["value", "sign"] ["value"] ds mu c) (EF P) (XF PX) := by
  obtain ⟨d, rfl, hty, hl, h⟩ := h
  refine ⟨d, rfl, hty, _, rfl, ?_⟩
  have no : isNameD d = false → ∃ c', c ≤ c' ∧ P (.bl false) mu c' := fun e => ⟨c, Nat.le_refl _, by rw [e] at h; exact h⟩
  cases d <;> first | exact iteT (iteT (no rfl)) | cases hty | skip
  rename_i s
  have hs := hl s rfl
  refine iteF ⟨_, rfl, hs, _, rfl, ?_⟩
  refine ite2 (fun c1 => ?_) (fun c1 => ?_)
  · have c1' : 1 ≤ s.length := by have := of_decide_eq_true c1; omega
    refine ⟨_, rfl, ?_⟩
    obtain ⟨k, r, e⟩ : ∃ k r, s.cps.toList = k :: r := by
      cases e : s.cps.toList with
      | nil => rw [str_len, e] at c1'; simp at c1'
      | cons k r => exact ⟨k, r, rfl⟩
    refine ite2 (fun c2 => ?_) (fun c2 => ?_)
    · have c2' : ¬ s.length ≤ 12 := fun z => by
        have e2 : decide ((s.length : Int) ≤ 12) = true := decide_eq_true (by omega)
        have e3 : (!decide ((s.length : Int) ≤ 12)) = true := c2
        rw [e2] at e3; cases e3
      refine iteT (no ?_)
      simp only [isNameD, e, isNameL]
      rw [← e, ← str_len, decide_eq_false c2', Bool.false_and]
    · have c2' : s.length ≤ 12 := by
        have e3 : ¬ (!decide ((s.length : Int) ≤ 12)) = true := c2
        simp at e3
        omega
      refine ⟨_, rfl, hs, k, ?_, ?_⟩
      · show atI s.cps.toList ((0 : Nat) : Int) = some k
        exact atI_nat (by rw [e]; rfl)
      refine ⟨_, rfl, ?_⟩
      rw [show hasStr ⟨#[k]⟩ (Str.ofString "abcdefghijklmnopqrstuvwxyz") = decide (k ∈ letters) from hasStr_one k _]
      refine ite2 (fun c3 => ?_) (fun c3 => ?_)
      · have c3' : decide (k ∈ letters) = false := by simpa using c3
        refine no ?_
        simp only [isNameD, e, isNameL]
        rw [c3', Bool.false_and, Bool.and_false]
      · have c3' : decide (k ∈ letters) = true := by simpa using c3
        refine ⟨_, rfl, ?_⟩
        refine lc_fun (fun d => match d with | .str z => .bl (decide ((z.cps.toList.head?.getD 0) ∈ alnum)) | d => d) (signs s) [] (fun d hd K hK => ?_) (by simp [signs]; exact hs) ?_
        · obtain ⟨j, hj, rfl⟩ := List.mem_map.mp hd
          refine ⟨_, rfl, ?_⟩
          show K (some (.bl (hasStr ⟨#[j]⟩ (Str.ofString "abcdefghijklmnopqrstuvwxyz0123456789")))) _
          rw [hasStr_one]
          exact hK
        · refine ⟨s.cps.toList.map fun k => decide (k ∈ alnum), ?_, c, Nat.le_refl _, ?_⟩
          · rw [List.nil_append]
            unfold signs
            rw [List.map_map]
            exact blsOf_map (fun k => decide (k ∈ alnum)) _
          · have e4 : isNameL s.cps.toList = (s.cps.toList.map fun k => decide (k ∈ alnum)).all id := by
              rw [List.all_map]
              simp only [e, isNameL]
              rw [← e, ← str_len, decide_eq_true c2', c3', Bool.true_and, Bool.true_and]
              rfl
            have h2 : P (.bl (isNameL s.cps.toList)) mu c := h
            rw [e4] at h2
            exact h2
  · have e0 : s.cps.toList = [] := by
      have c1' : ¬ (1 ≤ s.length) := fun z => c1 (decide_eq_true (by omega))
      rw [str_len] at c1'
      exact List.length_eq_zero_iff.mp (by omega)
    refine no ?_
    simp only [isNameD, e0, isNameL]
-- @hash 971c66e0
-- @rec 14
def spn_depth_within (n : Nat) : DSp := fun ds mu c P PX => ∃ dm : D × Nat, ds = [dm.1, .int dm.2] ∧ dm.2 < n ∧ fineD dm.2 dm.1 = true ∧ P (optD (depthIn dm.2 dm.1)) mu c
def sp_depth_within : DSp := spn_depth_within 14
def m_depth_within (self : DSp) : MS := (mSeq (mIfS (mOr (mNot (mB (mIsi "tuple" (mVar 0)))) (mB (mOp (inD not) (mCB lenD (mCons (mVar 0) mNil)) (mTup (mCons (mC (.int 2)) (mCons (mC (.int 3)) mNil)))))) (mRet (mC .non)) mNext)
  (mSeq (mIfS (mB (mOp eqD (mCB lenD (mCons (mVar 0) mNil)) (mC (.int 2)))) (mRet (mIf (mAnd (mB (mOp (inD id) (mOp subD (mVar 0) (mC (.int 0))) (mC (.tup [(.str "good"), (.str "counter")])))) (mB (mCall sp_is_name (mCons (mOp subD (mVar 0) (mC (.int 1))) mNil)))) (mC (.int 0)) (mC .non))) mNext)
  (mSeq (mIfS (mOr (mB (mOp (inD not) (mOp subD (mVar 0) (mC (.int 0))) (mC (.tup [(.str "both"), (.str "between"), (.str "offered"), (.str "chosen")])))) (mB (mOp eqD (mVar 1) (mC (.int 0))))) (mRet (mC .non)) mNext)
  (mSeq (mSet 2 (mCall self (mCons (mOp subD (mVar 0) (mC (.int 1))) (mCons (mOp subtD (mVar 1) (mC (.int 1))) mNil))))
  (mSeq (mSet 3 (mIf (mB (mOp notND (mVar 2) (mC .non))) (mCall self (mCons (mOp subD (mVar 0) (mC (.int 2))) (mCons (mOp subtD (mVar 1) (mC (.int 1))) mNil))) (mC .non)))
  (mRet (mIf (mB (mOp isND (mVar 3) (mC .non))) (mC .non) (mOp addD (mCB maxD (mCons (mVar 2) (mCons (mVar 3) mNil))) (mC (.int 1))))))))))
theorem rd_depth_within (n : Nat) (ds : List D) (mu : Mu) (c : Nat) (P : D → Mu → Nat → Prop) (PX : Ex → Mu → Nat → Prop) (h : spn_depth_within (n + 1) ds mu c P PX) : m_depth_within (spn_depth_within n) (S0 ["value", "most", "one", "other"] ["value", "most"] ds mu c) (EF P) (XF PX) := by
  obtain ⟨⟨d, m⟩, rfl, hm, hf, h⟩ := h
  simp only at hm hf h
  have fin : ∀ x : D, optD (depthIn m d) = x → ∃ c', c ≤ c' ∧ P x mu c' := fun x e => ⟨c, Nat.le_refl _, by rw [← e]; exact h⟩
  refine ⟨d, rfl, fineD_ty hf, _, rfl, ?_⟩
  cases d with
  | tup ds =>
    refine iteF ⟨_, rfl, ?_⟩
    refine ⟨by decide, ceq_of (n := 0) (m := 1) rfl rfl, _, rfl, ?_⟩
    rw [len_in]
    match ds, hf, fin with
    | [], hf, fin => exact fin _ (by cases m <;> rfl)
    | [x], hf, fin => exact fin _ (by cases m <;> rfl)
    | x :: y :: z :: u :: r, hf, fin => exact iteT (fin _ (by cases m <;> rfl))
    | [w, x], hf, fin =>
      have hf' : (w.ok 64 && nameFine x) = true := by cases m <;> exact hf
      obtain ⟨hw, hx⟩ := Bool.and_eq_true_iff.mp hf'
      refine iteF ?_
      refine ⟨_, rfl, ceq_of (n := 0) (m := 0) rfl rfl, _, rfl, ?_⟩
      refine iteT ?_
      refine ⟨_, rfl, w, rfl, ceq_of hw leafWs_ok, _, rfl, ?_⟩
      have e0 : depthIn m (.tup [w, x]) = if (leafW w && isNameD x) = true then some 0 else none := by cases m <;> rfl
      refine ite2 (fun c1 => ?_) (fun c1 => ?_)
      · have c1' : leafW w = true := c1
        refine ⟨_, rfl, x, rfl, x, rfl, nameFine_ty hx, nameFine_len hx, _, rfl, ?_⟩
        rw [c1', Bool.true_and] at e0
        refine ite2 (fun c2 => ?_) (fun c2 => ?_)
        · exact fin _ (by rw [e0, if_pos c2]; rfl)
        · exact fin _ (by rw [e0, if_neg c2]; rfl)
      · have c1' : leafW w = false := bF c1
        rw [c1', Bool.false_and] at e0
        exact fin _ (by rw [e0]; rfl)
    | [w, a, b], hf, fin =>
      refine iteF ?_
      refine ⟨_, rfl, ceq_of (n := 0) (m := 0) rfl rfl, _, rfl, ?_⟩
      refine iteF ?_
      have hw : w.ok 64 = true := by cases m <;> first | exact hf | exact (Bool.and_eq_true_iff.mp hf).1
      refine ⟨_, rfl, w, rfl, ceq_of hw halfWs_ok, _, rfl, ?_⟩
      refine ite2 (fun c1 => ?_) (fun c1 => ?_)
      · have c1' : halfW w = false := bN c1
        have e0 : depthIn m (.tup [w, a, b]) = none := by
          cases m with
          | zero => rfl
          | succ m => show (if halfW w = true then _ else none) = none; rw [c1', if_neg Bool.false_ne_true]
        exact fin _ (by rw [e0]; rfl)
      · have c1' : halfW w = true := bT c1
        refine ⟨_, rfl, ceq_of (n := 0) (m := 0) rfl rfl, _, rfl, ?_⟩
        rw [show eqvD (.int (m : Int)) (.int 0) = decide (m = 0) by rw [eqv_int2, Bool.eq_iff_iff]; simp]
        cases m with
        | zero => exact fin _ rfl
        | succ m =>
          refine iteF ?_
          have hf' := Bool.and_eq_true_iff.mp (Bool.and_eq_true_iff.mp hf).2
          have es : ((m + 1 : Nat) : Int) - 1 = (m : Int) := by omega
          have e0 : depthIn (m + 1) (.tup [w, a, b]) = (depthIn m a).bind fun x => (depthIn m b).map fun y => max x y + 1 := by
            show (if halfW w = true then _ else none) = _
            rw [c1', if_pos rfl]
          refine ⟨_, rfl, a, rfl, _, rfl, (a, m), by show [a, D.int (((m + 1 : Nat) : Int) - 1)] = _; rw [es], by show m < n; omega, hf'.1, ?_⟩
          refine ⟨_, rfl, rfl, _, rfl, ?_⟩
          cases ea : depthIn m a with
          | none =>
            rw [ea] at e0
            refine iteF ?_
            refine ⟨_, rfl, rfl, _, rfl, ?_⟩
            exact fin _ (by rw [e0]; rfl)
          | some x =>
            rw [ea] at e0
            refine iteT ?_
            refine ⟨_, rfl, b, rfl, _, rfl, (b, m), by show [b, D.int (((m + 1 : Nat) : Int) - 1)] = _; rw [es], by show m < n; omega, hf'.2, ?_⟩
            refine ⟨_, rfl, rfl, _, rfl, ?_⟩
            cases eb : depthIn m b with
            | none =>
              rw [eb] at e0
              exact fin _ (by rw [e0]; rfl)
            | some y =>
              rw [eb] at e0
              refine iteF ?_
              refine ⟨_, rfl, _, rfl, ?_⟩
              refine fin _ ?_
              rw [e0]
              show D.int ((max x y + 1 : Nat) : Int) = D.int ((if (y : Int) > (x : Int) then (y : Int) else (x : Int)) + 1)
              congr 1
              split <;> omega
  | non => exact iteT (iteT (fin _ (by cases m <;> rfl)))
  | bl b => exact iteT (iteT (fin _ (by cases m <;> rfl)))
  | int b => exact iteT (iteT (fin _ (by cases m <;> rfl)))
  | str b => exact iteT (iteT (fin _ (by cases m <;> rfl)))
  | lst b => exact iteT (iteT (fin _ (by cases m <;> rfl)))
  | dct b => exact iteT (iteT (fin _ (by cases m <;> rfl)))
  | pen => have := fineD_ty hf; cases this
  | ref a => have := fineD_ty hf; cases this
-- @hash 50981e59
def isFormD (d : D) : Bool := (depthIn 12 d).isSome
def sp_is_form : DSp := fun ds mu c P PX => ∃ d, ds = [d] ∧ fineD 12 d = true ∧ P (.bl (isFormD d)) mu c
def m_is_form : MS := (mRet (mOp notND (mCall sp_depth_within (mCons (mVar 0) (mCons (mC (.int 12)) mNil))) (mC .non)))
theorem rd_is_form (ds : List D) (mu : Mu) (c : Nat) (P : D → Mu → Nat → Prop) (PX : Ex → Mu → Nat → Prop) (h : sp_is_form ds mu c P PX) : m_is_form (S0 ["value"] ["value"] ds mu c) (EF P) (XF PX) := by
  obtain ⟨d, rfl, hf, h⟩ := h
  refine ⟨d, rfl, (d, 12), rfl, (by show 12 < 14; decide), hf, rfl, c, Nat.le_refl _, ?_⟩
  have e : (!(optD (depthIn 12 d)).isN) = isFormD d := by
    unfold isFormD
    cases depthIn 12 d <;> rfl
  rw [e]
  exact h
-- @hash 2a9950ea
def m__law_pick : MS := (mRet (mOp subD (mVar 1) (mCall sp__law_draw (mCons (mVar 0) (mCons (mCB lenD (mCons (mVar 1) mNil)) mNil)))))
theorem rd__law_pick (ds : List D) (mu : Mu) (c : Nat) (P : D → Mu → Nat → Prop) (PX : Ex → Mu → Nat → Prop) (h : sp__law_pick ds mu c P PX) : m__law_pick (S0 ["_law_pen", "_law_some"] ["_law_pen", "_law_some"] ds mu c) (EF P) (XF PX) := by
  obtain ⟨d, rfl, hc, h⟩ := h
  cases d <;> first | exact h.elim | skip
  · rename_i z
    obtain ⟨h1, h2, h3⟩ := h
    have e1 : z.length = z.cps.toList.length := by show z.cps.size = _; simp
    refine ⟨_, rfl, _, rfl, _, rfl, h2, z.length, rfl, by omega, by have : (LINE : Nat) = 16777216 := rfl; omega, hc, fun m m0 m1 => ?_⟩
    obtain ⟨j, rfl⟩ := Int.eq_ofNat_of_zero_le m0
    have hj : j < z.cps.toList.length := by omega
    exact ⟨h2, _, atI_nat (List.getElem?_eq_getElem hj), _, Nat.le_refl _, h3 _ (List.getElem_mem hj)⟩
  all_goals
    rename_i a
    obtain ⟨h1, h2, h3⟩ := h
    refine ⟨_, rfl, _, rfl, _, rfl, a.length, rfl, by omega, by omega, hc, fun m m0 m1 => ?_⟩
    obtain ⟨j, rfl⟩ := Int.eq_ofNat_of_zero_le m0
    have hj : j < a.length := by omega
    exact ⟨_, atI_nat (List.getElem?_eq_getElem hj), _, Nat.le_refl _, h3 _ (List.getElem_mem hj)⟩
-- @hash 7c7b63a7
-- @rec 14
def spn__law_depth (n : Nat) : DSp := fun ds mu c P PX => ∃ f : Fm, ds = [f.toD] ∧ f.depth < n ∧ P (.int f.depth) mu c
def sp__law_depth : DSp := spn__law_depth 14
def m__law_depth (self : DSp) : MS := (mRet (mIf (mB (mOp eqD (mCB lenD (mCons (mVar 0) mNil)) (mC (.int 2)))) (mC (.int 0)) (mOp addD (mC (.int 1)) (mCB maxD (mCons (mLst (mCons (mCall self (mCons (mOp subD (mVar 0) (mC (.int 1))) mNil)) (mCons (mCall self (mCons (mOp subD (mVar 0) (mC (.int 2))) mNil)) mNil))) mNil)))))
theorem rd__law_depth (n : Nat) (ds : List D) (mu : Mu) (c : Nat) (P : D → Mu → Nat → Prop) (PX : Ex → Mu → Nat → Prop) (h : spn__law_depth (n + 1) ds mu c P PX) : m__law_depth (spn__law_depth n) (S0 ["_law_form"] ["_law_form"] ds mu c) (EF P) (XF PX) := by
  obtain ⟨f, rfl, hn, h⟩ := h
  cases f with
  | leaf w x =>
    refine ⟨_, rfl, ceq_of (n := 0) (m := 0) rfl rfl, _, rfl, ?_⟩
    refine iteT ?_
    exact ⟨c, Nat.le_refl _, h⟩
  | node w l r =>
    have hd : max l.depth r.depth + 1 < n + 1 := hn
    refine ⟨_, rfl, ceq_of (n := 0) (m := 0) rfl rfl, _, rfl, ?_⟩
    refine iteF ?_
    refine ⟨_, rfl, _, rfl, l, rfl, by omega, ?_⟩
    refine ⟨_, rfl, _, rfl, r, rfl, by omega, ?_⟩
    refine ⟨shortL 2 rfl, [(l.depth : Int), (r.depth : Int)], rfl, Nat.succ_pos _, fun m hm hm2 => ?_⟩
    refine ⟨c, Nat.le_refl _, ?_⟩
    have e : (1 : Int) + m = ((max l.depth r.depth + 1 : Nat) : Int) := by
      have h1 := hm2 l.depth (by simp)
      have h2 := hm2 r.depth (by simp)
      simp only [List.mem_cons, List.not_mem_nil, or_false] at hm
      omega
    show P (.int (1 + m)) mu c
    rw [e]
    exact h
-- @hash 907b268a
def sp__law_name : DSp := fun ds mu c P PX => ∃ _u : Unit, ds = [.pen] ∧ c + 13 ≤ LIM ∧ ∀ s : Str, isNameL s.cps.toList = true → P (.str s) mu (c + 13)
def m__law_name : MS := (mSeq (mSet 1 (mC (.str "abcdefghijklmnopqrstuvwxyz")))
  (mSeq (mSet 2 (mCall sp__law_pick (mCons (mVar 0) (mCons (mLst (mCons (mC (.int 0)) (mCons (mC (.int 0)) (mCons (mC (.int 1)) (mCons (mC (.int 2)) (mCons (mC (.int 5)) (mCons (mC (.int 10)) (mCons (mC (.int 11)) mNil)))))))) mNil))))
  (mSeq (mSet 3 (mLc (mRng1 (mCons (mVar 2) mNil)) [4] (gN 4) mYes (mCall sp__law_pick (mCons (mVar 0) (mCons (mOp addD (mVar 1) (mC (.str "0123456789"))) mNil)))))
  (mRet (mM1 joinD (mC (.str "")) (mOp addD (mLst (mCons (mCall sp__law_pick (mCons (mVar 0) (mCons (mVar 1) mNil))) mNil)) (mVar 3)))))))
theorem sum_ones : ∀ l : List Nat, ((l.map fun k => (⟨#[k]⟩ : Str)).map (·.length)).sum = l.length
  | [] => rfl
  | k :: l => by rw [List.map_cons, List.map_cons, List.sum_cons, sum_ones l, List.length_cons, Nat.add_comm]; rfl
theorem rd__law_name (ds : List D) (mu : Mu) (c : Nat) (P : D → Mu → Nat → Prop) (PX : Ex → Mu → Nat → Prop) (h : sp__law_name ds mu c P PX) : m__law_name (S0 ["_law_pen", "_law_letters", "_law_many", "_law_rest", "_law_k"] ["_law_pen"] ds mu c) (EF P) (XF PX) := by
  obtain ⟨_, rfl, hc, h⟩ := h
  have hL : (LINE : Nat) = 16777216 := rfl
  refine ⟨_, rfl, by decide, _, rfl, by show c < LIM; omega, by decide, by decide, fun x hx => ?_⟩
  have hj : ∃ j : Int, x = .int j ∧ 0 ≤ j ∧ j ≤ 11 := by
    simp only [List.mem_cons, List.not_mem_nil, or_false] at hx
    rcases hx with rfl | rfl | rfl | rfl | rfl | rfl | rfl <;> exact ⟨_, rfl, by decide, by decide⟩
  obtain ⟨j, rfl, j0, j1⟩ := hj
  obtain ⟨j, rfl⟩ := Int.eq_ofNat_of_zero_le j0
  refine ⟨_, rfl, j, rfl, by omega, by omega, ?_⟩
  refine lc_rel (fun _ y => ∃ k : Nat, y = .str ⟨#[k]⟩ ∧ k ∈ alnum) 1 (c + 12) _ _ _ (fun d hd c1 K hc1 hK => ?_) ?_ ?_ (fun ys hys => ?_)
  · refine ⟨_, rfl, _, rfl, by decide +kernel, _, rfl, by show c1 < LIM; omega, by decide +kernel, by decide +kernel, fun k hk => ?_⟩
    exact hK _ ⟨k, rfl, hk⟩
  · rw [rngD_len]; simp; omega
  · rw [rngD_len]
    show c + 1 + 1 * ((j : Nat) : Int).toNat ≤ c + 12
    omega
  · obtain ⟨ks, rfl, hl, hks⟩ := all2_ex (fun k : Nat => D.str ⟨#[k]⟩) (fun k => k ∈ alnum) hys
    rw [rngD_len] at hl
    have hl' : ks.length = j := by simpa using hl
    refine ⟨⟨_, rfl⟩, _, rfl, _, rfl, _, rfl, ?_, by decide +kernel, by decide +kernel, fun k hk => ?_⟩
    · show c + 1 + 1 * (rngD 0 ((j : Nat) : Int).toNat).length < LIM
      rw [rngD_len]
      simp only [Int.toNat_natCast]
      omega
    refine ⟨shortL 1 rfl, _, rfl, ?_, (k :: ks).map fun k => ⟨#[k]⟩, strsOf_map (fun k : Nat => (⟨#[k]⟩ : Str)) (k :: ks), ?_, c + 13, ?_, ?_⟩
    · show [D.str ⟨#[k]⟩].length + ([] ++ ks.map fun k : Nat => D.str ⟨#[k]⟩).length ≤ LINE
      simp
      omega
    · rw [sum_ones]
      show (k :: ks).length + _ * 0 ≤ LINE
      simp
      omega
    · show c + 1 + 1 * (rngD 0 ((j : Nat) : Int).toNat).length + 1 ≤ c + 13
      rw [rngD_len]
      simp only [Int.toNat_natCast]
      omega
    · refine h _ ?_
      rw [join_ones]
      simp only [isNameL, Bool.and_eq_true, decide_eq_true_eq]
      refine ⟨by simp; omega, hk, ?_⟩
      rw [List.all_eq_true]
      intro x hx
      rcases List.mem_cons.mp hx with e | e
      · rw [e]; exact decide_eq_true (letters_alnum k hk)
      · exact decide_eq_true (hks x e)
-- @hash ba47f826
def sp__law_names : DSp := fun ds mu c P PX => ∃ most : Nat, ds = [.pen, .int most] ∧ 0 < most ∧ most ≤ 1000 ∧ c + (1 + 13 * most) ≤ LIM ∧ ∀ ns : List Str, 0 < ns.length → ns.length ≤ most → (∀ s ∈ ns, isNameL s.cps.toList = true) → P (.lst (ns.map D.str)) mu (c + (1 + 13 * most))
def m__law_names : MS := (mRet (mLc (mRng1 (mCons (mOp addD (mC (.int 1)) (mCall sp__law_draw (mCons (mVar 0) (mCons (mVar 1) mNil)))) mNil)) [2] (gN 2) mYes (mCall sp__law_name (mCons (mVar 0) mNil))))
theorem rd__law_names (ds : List D) (mu : Mu) (c : Nat) (P : D → Mu → Nat → Prop) (PX : Ex → Mu → Nat → Prop) (h : sp__law_names ds mu c P PX) : m__law_names (S0 ["_law_pen", "_law_most", "_law_k"] ["_law_pen", "_law_most"] ds mu c) (EF P) (XF PX) := by
  obtain ⟨most, rfl, h0, h1, hc, h⟩ := h
  have hL : (LINE : Nat) = 16777216 := rfl
  refine ⟨_, rfl, _, rfl, (most : Int), rfl, by omega, by omega, by show c < LIM; omega, fun m m0 m1 => ?_⟩
  obtain ⟨j, rfl⟩ := Int.eq_ofNat_of_zero_le m0
  refine ⟨1 + (j : Int), rfl, by omega, by omega, ?_⟩
  have ej : ((1 : Int) + (j : Int)).toNat = j + 1 := by omega
  rw [ej]
  refine lc_rel (fun _ y => ∃ s : Str, y = .str s ∧ isNameL s.cps.toList = true) 13 (c + (1 + 13 * most)) _ _ _ (fun d hd c1 K hc1 hK => ?_) ?_ ?_ (fun ys hys => ?_)
  · refine ⟨_, rfl, (), rfl, by show c1 + 13 ≤ LIM; omega, fun s hs => ?_⟩
    exact hK _ ⟨s, rfl, hs⟩
  · rw [rngD_len]; simp; omega
  · rw [rngD_len]
    show c + 1 + 13 * (j + 1) ≤ _
    omega
  · obtain ⟨ks, rfl, hl, hks⟩ := all2_ex D.str (fun s => isNameL s.cps.toList = true) hys
    rw [rngD_len] at hl
    refine ⟨c + (1 + 13 * most), ?_, h ks (by omega) (by omega) hks⟩
    show c + 1 + 13 * (rngD 0 (j + 1)).length ≤ _
    rw [rngD_len]
    omega
-- @hash d4c79e00
-- @rec 13
structure ShA where
  ns : List Str
  many : Nat
  tall : Nat
def spn__law_shape (n : Nat) : DSp := fun ds mu c P PX => ∃ q : ShA, ds = [.pen, .lst (q.ns.map D.str), .int q.many, .int q.tall] ∧ q.tall < n ∧ q.tall ≤ 12 ∧ 1 ≤ q.many ∧ q.many ≤ 2 ^ q.tall ∧ 0 < q.ns.length ∧ q.ns.length ≤ 1000 ∧ (∀ s ∈ q.ns, isNameL s.cps.toList = true) ∧ c + (5 * q.many - 3) ≤ LIM ∧
  ∀ f : Fm, f.ok = true → f.depth ≤ q.tall → P f.toD mu (c + (5 * q.many - 3))
def sp__law_shape : DSp := spn__law_shape 13
def m__law_shape (self : DSp) : MS := (mSeq (mIfS (mB (mOp eqD (mVar 2) (mC (.int 1)))) (mRet (mTup (mCons (mCall sp__law_pick (mCons (mVar 0) (mCons (mLst (mCons (mC (.str "good")) (mCons (mC (.str "counter")) mNil))) mNil))) (mCons (mCall sp__law_pick (mCons (mVar 0) (mCons (mVar 1) mNil))) mNil)))) mNext)
  (mSeq (mSet 4 (mOp shlD (mC (.int 1)) (mOp subtD (mVar 3) (mC (.int 1)))))
  (mSeq (mPar 5 6 (mCons (mCB maxD (mCons (mC (.int 1)) (mCons (mOp subtD (mVar 2) (mVar 4)) mNil))) (mCons (mCB minD (mCons (mOp subtD (mVar 2) (mC (.int 1))) (mCons (mVar 4) mNil))) mNil)))
  (mSeq (mSet 7 (mCall sp__law_draw (mCons (mVar 0) (mCons (mC (.int 5)) mNil))))
  (mSeq (mSet 8 (mOp addD (mVar 5) (mCall sp__law_draw (mCons (mVar 0) (mCons (mOp addD (mOp subtD (mVar 6) (mVar 5)) (mC (.int 1))) mNil)))))
  (mSeq (mIfS (mB (mOp ltD (mVar 7) (mC (.int 2)))) (mSet 8 (mIf (mB (mOp eqD (mVar 7) (mC (.int 0)))) (mVar 5) (mVar 6))) mNext)
  (mSeq (mSet 9 (mCall sp__law_pick (mCons (mVar 0) (mCons (mLst (mCons (mC (.str "both")) (mCons (mC (.str "between")) (mCons (mC (.str "offered")) (mCons (mC (.str "chosen")) mNil))))) mNil))))
  (mSeq (mSet 10 (mCall self (mCons (mVar 0) (mCons (mVar 1) (mCons (mVar 8) (mCons (mOp subtD (mVar 3) (mC (.int 1))) mNil))))))
  (mRet (mTup (mCons (mVar 9) (mCons (mVar 10) (mCons (mCall self (mCons (mVar 0) (mCons (mVar 1) (mCons (mOp subtD (mVar 2) (mVar 8)) (mCons (mOp subtD (mVar 3) (mC (.int 1))) mNil))))) mNil)))))))))))))
theorem rd__law_shape (n : Nat) (ds : List D) (mu : Mu) (c : Nat) (P : D → Mu → Nat → Prop) (PX : Ex → Mu → Nat → Prop) (h : spn__law_shape (n + 1) ds mu c P PX) : m__law_shape (spn__law_shape n) (S0 ["_law_pen", "_law_names_here", "_law_many", "_law_tall", "_law_room", "_law_low", "_law_high", "_law_way", "_law_left", "_law_word", "_law_one"] ["_law_pen", "_law_names_here", "_law_many", "_law_tall"] ds mu c) (EF P) (XF PX) := by
  obtain ⟨⟨ns, many, tall⟩, rfl, hn, ht, h1, h2, hns, hns2, hnm, hc, h⟩ := h
  simp only at hn ht h1 h2 hns hns2 hnm hc h
  have hL : LIM = 1152921504606846976 := rfl
  refine ⟨_, rfl, ceq_of (n := 0) (m := 0) rfl rfl, _, rfl, ?_⟩
  rw [show eqvD (.int (many : Int)) (.int 1) = decide (many = 1) by rw [eqv_int2, Bool.eq_iff_iff]; simp; omega]
  refine ite2 (fun c1 => ?_) (fun c1 => ?_)
  · have c1' : many = 1 := of_decide_eq_true c1
    subst c1'
    refine ⟨_, rfl, shortL 2 rfl, _, rfl, by show c < LIM; omega, Nat.succ_pos _, by show 2 < 1073741824; decide, fun w hw => ?_⟩
    refine ⟨_, rfl, _, rfl, _, rfl, by show c + 1 < LIM; omega, by rw [List.length_map]; exact hns, by rw [List.length_map]; show ns.length < 1073741824; omega, fun x hx => ?_⟩
    obtain ⟨s, hs, rfl⟩ := List.mem_map.mp hx
    have hw' : ∃ t : Str, w = .str t ∧ leafW (.str t) = true := by
      simp only [List.mem_cons, List.not_mem_nil, or_false] at hw
      rcases hw with rfl | rfl
      · exact ⟨_, rfl, by decide +kernel⟩
      · exact ⟨_, rfl, by decide +kernel⟩
    obtain ⟨t, rfl, ht'⟩ := hw'
    refine ⟨shortL 2 rfl, c + (5 * 1 - 3), Nat.le_refl _, h (.leaf t s) ?_ (Nat.zero_le _)⟩
    exact Bool.and_eq_true_iff.mpr ⟨ht', hnm s hs⟩
  · have c1' : many ≠ 1 := fun z => c1 (decide_eq_true z)
    obtain ⟨tall, rfl⟩ : ∃ t, tall = t + 1 := by
      cases tall with
      | zero => simp at h2; omega
      | succ t => exact ⟨t, rfl⟩
    have hp : (2 : Nat) ^ (tall + 1) = 2 * 2 ^ tall := by rw [Nat.pow_succ, Nat.mul_comm]
    have hp2 : (2 : Nat) ^ tall ≤ 2 ^ 12 := Nat.pow_le_pow_right (by decide) (by omega)
    have hp3 : (2 : Nat) ^ 12 = 4096 := by decide
    obtain ⟨room, hr⟩ : ∃ r, r = 2 ^ tall := ⟨_, rfl⟩
    rw [hp] at h2
    rw [hp3] at hp2
    rw [← hr] at h2 hp2
    have er : (1 : Int) * 2 ^ ((((tall + 1 : Nat) : Int) - 1).toNat) = (room : Int) := by
      have : (((tall + 1 : Nat) : Int) - 1).toNat = tall := by omega
      rw [this, Int.one_mul, hr]
      push_cast
      rfl
    refine ⟨_, rfl, ⟨by show (0 : Int) ≤ ((tall + 1 : Nat) : Int) - 1; omega, by show ((tall + 1 : Nat) : Int) - 1 ≤ 1000000; omega, by decide⟩, ?_⟩
    dsimp only
    rw [er]
    have hlow : ∃ low : Nat, (if (many : Int) - room > 1 then (many : Int) - room else 1) = (low : Int) ∧ 1 ≤ low ∧ many ≤ low + room ∧ low ≤ many - 1 ∧ low ≤ room := by
      by_cases z : (many : Int) - room > 1
      · exact ⟨many - room, by rw [if_pos z]; omega, by omega, by omega, by omega, by omega⟩
      · exact ⟨1, by rw [if_neg z]; rfl, by omega, by omega, by omega, by omega⟩
    have hhigh : ∃ high : Nat, (if (room : Int) < (many : Int) - 1 then (room : Int) else (many : Int) - 1) = (high : Int) ∧ high ≤ many - 1 ∧ high ≤ room ∧ 1 ≤ high ∧ (high = room ∨ high = many - 1) := by
      by_cases z : (room : Int) < (many : Int) - 1
      · exact ⟨room, by rw [if_pos z], by omega, by omega, by omega, .inl rfl⟩
      · exact ⟨many - 1, by rw [if_neg z]; omega, by omega, by omega, by omega, .inr rfl⟩
    obtain ⟨low, el, l1, l2, l3, l4⟩ := hlow
    obtain ⟨high, eh, g1, g2, g3, g4⟩ := hhigh
    refine ⟨_, rfl, _, rfl, ?_⟩
    dsimp only [subtD, intD0, mNil, maxD]
    rw [el]
    refine ⟨_, rfl, _, rfl, ?_⟩
    dsimp only [subtD, intD0, mNil, minD]
    rw [eh]
    refine ⟨_, _, rfl, ?_⟩
    refine ⟨_, rfl, (5 : Int), rfl, by decide, by decide, by show c < LIM; omega, fun way w0 w1 => ?_⟩
    refine ⟨_, rfl, _, rfl, _, rfl, _, rfl, ((high : Int) - low + 1), rfl, by omega, by omega, by show c + 1 < LIM; omega, fun k k0 k1 => ?_⟩
    obtain ⟨k, rfl⟩ := Int.eq_ofNat_of_zero_le k0
    dsimp only [addD]
    rw [show (low : Int) + (k : Int) = ((low + k : Nat) : Int) by omega]
    have hk : k < high - low + 1 := by omega
    refine ⟨_, rfl, _, rfl, ?_⟩
    refine ite2 (fun c2 => ?_) (fun c2 => ?_)
    · refine ⟨_, rfl, ceq_of (n := 0) (m := 0) rfl rfl, _, rfl, ?_⟩
      refine ite2 (fun c3 => ?_) (fun c3 => ?_)
      · refine ⟨_, rfl, ?_⟩
        have b1 := l1
        have b2 := l2
        have b3 := l3
        have b4 := l4
        dsimp only
        revert b1 b2 b3 b4
        generalize low = left
        intro b1 b2 b3 b4
        refine ⟨_, rfl, shortL 4 rfl, _, rfl, by show c + 2 < LIM; omega, Nat.succ_pos _, by show 4 < 1073741824; decide, fun w hw => ?_⟩
        have hw' : ∃ t : Str, w = .str t ∧ halfW (.str t) = true := by
          simp only [List.mem_cons, List.not_mem_nil, or_false] at hw
          rcases hw with rfl | rfl | rfl | rfl <;> exact ⟨_, rfl, by decide +kernel⟩
        obtain ⟨t, rfl, ht'⟩ := hw'
        have et : (((tall + 1 : Nat) : Int) - 1) = (tall : Int) := by omega
        have em : (many : Int) - (left : Int) = ((many - left : Nat) : Int) := by omega
        refine ⟨_, rfl, _, rfl, _, rfl, _, rfl, ⟨ns, left, tall⟩, by show [D.pen, D.lst (ns.map D.str), D.int left, D.int (((tall + 1 : Nat) : Int) - 1)] = _; rw [et], by show tall < n; omega, by show tall ≤ 12; omega, b1, by show left ≤ 2 ^ tall; rw [← hr]; exact b4, hns, hns2, hnm, by show c + 3 + (5 * left - 3) ≤ LIM; omega, fun f1 f1o f1d => ?_⟩
        refine ⟨_, rfl, _, rfl, _, rfl, _, rfl, _, rfl, _, rfl, _, rfl, ⟨ns, many - left, tall⟩, by show [D.pen, D.lst (ns.map D.str), D.int ((many : Int) - (left : Int)), D.int (((tall + 1 : Nat) : Int) - 1)] = _; rw [et, em], by show tall < n; omega, by show tall ≤ 12; omega, by show 1 ≤ many - left; omega, by show many - left ≤ 2 ^ tall; rw [← hr]; omega, hns, hns2, hnm, by show c + 3 + (5 * left - 3) + (5 * (many - left) - 3) ≤ LIM; omega, fun f2 f2o f2d => ?_⟩
        refine ⟨shortL 3 rfl, c + (5 * many - 3), by show c + 3 + (5 * left - 3) + (5 * (many - left) - 3) ≤ c + (5 * many - 3); omega, h (.node t f1 f2) ?_ ?_⟩
        · exact Bool.and_eq_true_iff.mpr ⟨ht', Bool.and_eq_true_iff.mpr ⟨f1o, f2o⟩⟩
        · show max f1.depth f2.depth + 1 ≤ tall + 1
          have d1 : f1.depth ≤ tall := f1d
          have d2 : f2.depth ≤ tall := f2d
          omega
      · refine ⟨_, rfl, ?_⟩
        have b1 := g3
        have b2 : many ≤ high + room := by omega
        have b3 := g1
        have b4 := g2
        dsimp only
        revert b1 b2 b3 b4
        generalize high = left
        intro b1 b2 b3 b4
        refine ⟨_, rfl, shortL 4 rfl, _, rfl, by show c + 2 < LIM; omega, Nat.succ_pos _, by show 4 < 1073741824; decide, fun w hw => ?_⟩
        have hw' : ∃ t : Str, w = .str t ∧ halfW (.str t) = true := by
          simp only [List.mem_cons, List.not_mem_nil, or_false] at hw
          rcases hw with rfl | rfl | rfl | rfl <;> exact ⟨_, rfl, by decide +kernel⟩
        obtain ⟨t, rfl, ht'⟩ := hw'
        have et : (((tall + 1 : Nat) : Int) - 1) = (tall : Int) := by omega
        have em : (many : Int) - (left : Int) = ((many - left : Nat) : Int) := by omega
        refine ⟨_, rfl, _, rfl, _, rfl, _, rfl, ⟨ns, left, tall⟩, by show [D.pen, D.lst (ns.map D.str), D.int left, D.int (((tall + 1 : Nat) : Int) - 1)] = _; rw [et], by show tall < n; omega, by show tall ≤ 12; omega, b1, by show left ≤ 2 ^ tall; rw [← hr]; exact b4, hns, hns2, hnm, by show c + 3 + (5 * left - 3) ≤ LIM; omega, fun f1 f1o f1d => ?_⟩
        refine ⟨_, rfl, _, rfl, _, rfl, _, rfl, _, rfl, _, rfl, _, rfl, ⟨ns, many - left, tall⟩, by show [D.pen, D.lst (ns.map D.str), D.int ((many : Int) - (left : Int)), D.int (((tall + 1 : Nat) : Int) - 1)] = _; rw [et, em], by show tall < n; omega, by show tall ≤ 12; omega, by show 1 ≤ many - left; omega, by show many - left ≤ 2 ^ tall; rw [← hr]; omega, hns, hns2, hnm, by show c + 3 + (5 * left - 3) + (5 * (many - left) - 3) ≤ LIM; omega, fun f2 f2o f2d => ?_⟩
        refine ⟨shortL 3 rfl, c + (5 * many - 3), by show c + 3 + (5 * left - 3) + (5 * (many - left) - 3) ≤ c + (5 * many - 3); omega, h (.node t f1 f2) ?_ ?_⟩
        · exact Bool.and_eq_true_iff.mpr ⟨ht', Bool.and_eq_true_iff.mpr ⟨f1o, f2o⟩⟩
        · show max f1.depth f2.depth + 1 ≤ tall + 1
          have d1 : f1.depth ≤ tall := f1d
          have d2 : f2.depth ≤ tall := f2d
          omega
    · have b1 : 1 ≤ low + k := by omega
      have b2 : many ≤ low + k + room := by omega
      have b3 : low + k ≤ many - 1 := by omega
      have b4 : low + k ≤ room := by omega
      revert b1 b2 b3 b4
      generalize low + k = left
      intro b1 b2 b3 b4
      refine ⟨_, rfl, shortL 4 rfl, _, rfl, by show c + 2 < LIM; omega, Nat.succ_pos _, by show 4 < 1073741824; decide, fun w hw => ?_⟩
      have hw' : ∃ t : Str, w = .str t ∧ halfW (.str t) = true := by
        simp only [List.mem_cons, List.not_mem_nil, or_false] at hw
        rcases hw with rfl | rfl | rfl | rfl <;> exact ⟨_, rfl, by decide +kernel⟩
      obtain ⟨t, rfl, ht'⟩ := hw'
      have et : (((tall + 1 : Nat) : Int) - 1) = (tall : Int) := by omega
      have em : (many : Int) - (left : Int) = ((many - left : Nat) : Int) := by omega
      refine ⟨_, rfl, _, rfl, _, rfl, _, rfl, ⟨ns, left, tall⟩, by show [D.pen, D.lst (ns.map D.str), D.int left, D.int (((tall + 1 : Nat) : Int) - 1)] = _; rw [et], by show tall < n; omega, by show tall ≤ 12; omega, b1, by show left ≤ 2 ^ tall; rw [← hr]; exact b4, hns, hns2, hnm, by show c + 3 + (5 * left - 3) ≤ LIM; omega, fun f1 f1o f1d => ?_⟩
      refine ⟨_, rfl, _, rfl, _, rfl, _, rfl, _, rfl, _, rfl, _, rfl, ⟨ns, many - left, tall⟩, by show [D.pen, D.lst (ns.map D.str), D.int ((many : Int) - (left : Int)), D.int (((tall + 1 : Nat) : Int) - 1)] = _; rw [et, em], by show tall < n; omega, by show tall ≤ 12; omega, by show 1 ≤ many - left; omega, by show many - left ≤ 2 ^ tall; rw [← hr]; omega, hns, hns2, hnm, by show c + 3 + (5 * left - 3) + (5 * (many - left) - 3) ≤ LIM; omega, fun f2 f2o f2d => ?_⟩
      refine ⟨shortL 3 rfl, c + (5 * many - 3), by show c + 3 + (5 * left - 3) + (5 * (many - left) - 3) ≤ c + (5 * many - 3); omega, h (.node t f1 f2) ?_ ?_⟩
      · exact Bool.and_eq_true_iff.mpr ⟨ht', Bool.and_eq_true_iff.mpr ⟨f1o, f2o⟩⟩
      · show max f1.depth f2.depth + 1 ≤ tall + 1
        have d1 : f1.depth ≤ tall := f1d
        have d2 : f2.depth ≤ tall := f2d
        omega
-- @hash a8304b68
def sp__law_is_name : DSp := fun ds mu c P PX => ∃ d, ds = [d] ∧ d.ty.isSome = true ∧ (∀ s, d = .str s → s.length ≤ LINE) ∧ P (.bl (isNameD d)) mu c
def m__law_is_name : MS := (mSeq (mIfS (mOr (mNot (mB (mIsi "str" (mVar 0)))) (mOr (mNot (mChain leD leD (mC (.int 1)) (mCB lenD (mCons (mVar 0) mNil)) (mC (.int 12)))) (mB (mOp (inD not) (mOp subD (mVar 0) (mC (.int 0))) (mC (.str "abcdefghijklmnopqrstuvwxyz")))))) (mRet (mC (.bl false))) mNext)
  (mRet (mCB allD (mCons (mLc (mItems (mVar 0)) [1] (gN 1) mYes (mOp (inD id) (mVar 1) (mC (.str "abcdefghijklmnopqrstuvwxyz0123456789")))) mNil))))
theorem rd__law_is_name (ds : List D) (mu : Mu) (c : Nat) (P : D → Mu → Nat → Prop) (PX : Ex → Mu → Nat → Prop) (h : sp__law_is_name ds mu c P PX) : m__law_is_name (S0 ["_law_value", "_law_sign"] ["_law_value"] ds mu c) (EF P) (XF PX) := by
  obtain ⟨d, rfl, hty, hl, h⟩ := h
  refine ⟨d, rfl, hty, _, rfl, ?_⟩
  have no : isNameD d = false → ∃ c', c ≤ c' ∧ P (.bl false) mu c' := fun e => ⟨c, Nat.le_refl _, by rw [e] at h; exact h⟩
  cases d <;> first | exact iteT (iteT (no rfl)) | cases hty | skip
  rename_i s
  have hs := hl s rfl
  refine iteF ⟨_, rfl, hs, _, rfl, ?_⟩
  refine ite2 (fun c1 => ?_) (fun c1 => ?_)
  · have c1' : 1 ≤ s.length := by have := of_decide_eq_true c1; omega
    refine ⟨_, rfl, ?_⟩
    obtain ⟨k, r, e⟩ : ∃ k r, s.cps.toList = k :: r := by
      cases e : s.cps.toList with
      | nil => rw [str_len, e] at c1'; simp at c1'
      | cons k r => exact ⟨k, r, rfl⟩
    refine ite2 (fun c2 => ?_) (fun c2 => ?_)
    · have c2' : ¬ s.length ≤ 12 := fun z => by
        have e2 : decide ((s.length : Int) ≤ 12) = true := decide_eq_true (by omega)
        have e3 : (!decide ((s.length : Int) ≤ 12)) = true := c2
        rw [e2] at e3; cases e3
      refine iteT (no ?_)
      simp only [isNameD, e, isNameL]
      rw [← e, ← str_len, decide_eq_false c2', Bool.false_and]
    · have c2' : s.length ≤ 12 := by
        have e3 : ¬ (!decide ((s.length : Int) ≤ 12)) = true := c2
        simp at e3
        omega
      refine ⟨_, rfl, hs, k, ?_, ?_⟩
      · show atI s.cps.toList ((0 : Nat) : Int) = some k
        exact atI_nat (by rw [e]; rfl)
      refine ⟨_, rfl, ?_⟩
      rw [show hasStr ⟨#[k]⟩ (Str.ofString "abcdefghijklmnopqrstuvwxyz") = decide (k ∈ letters) from hasStr_one k _]
      refine ite2 (fun c3 => ?_) (fun c3 => ?_)
      · have c3' : decide (k ∈ letters) = false := by simpa using c3
        refine no ?_
        simp only [isNameD, e, isNameL]
        rw [c3', Bool.false_and, Bool.and_false]
      · have c3' : decide (k ∈ letters) = true := by simpa using c3
        refine ⟨_, rfl, ?_⟩
        refine lc_fun (fun d => match d with | .str z => .bl (decide ((z.cps.toList.head?.getD 0) ∈ alnum)) | d => d) (signs s) [] (fun d hd K hK => ?_) (by simp [signs]; exact hs) ?_
        · obtain ⟨j, hj, rfl⟩ := List.mem_map.mp hd
          refine ⟨_, rfl, ?_⟩
          show K (some (.bl (hasStr ⟨#[j]⟩ (Str.ofString "abcdefghijklmnopqrstuvwxyz0123456789")))) _
          rw [hasStr_one]
          exact hK
        · refine ⟨s.cps.toList.map fun k => decide (k ∈ alnum), ?_, c, Nat.le_refl _, ?_⟩
          · rw [List.nil_append]
            unfold signs
            rw [List.map_map]
            exact blsOf_map (fun k => decide (k ∈ alnum)) _
          · have e4 : isNameL s.cps.toList = (s.cps.toList.map fun k => decide (k ∈ alnum)).all id := by
              rw [List.all_map]
              simp only [e, isNameL]
              rw [← e, ← str_len, decide_eq_true c2', c3', Bool.true_and, Bool.true_and]
              rfl
            have h2 : P (.bl (isNameL s.cps.toList)) mu c := h
            rw [e4] at h2
            exact h2
  · have e0 : s.cps.toList = [] := by
      have c1' : ¬ (1 ≤ s.length) := fun z => c1 (decide_eq_true (by omega))
      rw [str_len] at c1'
      exact List.length_eq_zero_iff.mp (by omega)
    refine no ?_
    simp only [isNameD, e0, isNameL]
-- @hash 0dedc280
-- @rec 14
def spn__law_is_form (n : Nat) : DSp := fun ds mu c P PX => ∃ dm : D × Nat, ds = [dm.1, .int dm.2] ∧ dm.2 < n ∧ fineD dm.2 dm.1 = true ∧ P (.bl (isFormIn dm.2 dm.1)) mu c
def sp__law_is_form : DSp := spn__law_is_form 14
def m__law_is_form (self : DSp) : MS := (mSeq (mIfS (mOr (mNot (mB (mIsi "tuple" (mVar 0)))) (mB (mOp (inD not) (mCB lenD (mCons (mVar 0) mNil)) (mLst (mCons (mC (.int 2)) (mCons (mC (.int 3)) mNil)))))) (mRet (mC (.bl false))) mNext)
  (mSeq (mIfS (mB (mOp eqD (mCB lenD (mCons (mVar 0) mNil)) (mC (.int 2)))) (mRet (mAndV (mOp (inD id) (mOp subD (mVar 0) (mC (.int 0))) (mLst (mCons (mC (.str "good")) (mCons (mC (.str "counter")) mNil)))) (mCall sp__law_is_name (mCons (mOp subD (mVar 0) (mC (.int 1))) mNil)))) mNext)
  (mSeq (mIfS (mOr (mB (mOp eqD (mVar 1) (mC (.int 0)))) (mB (mOp (inD not) (mOp subD (mVar 0) (mC (.int 0))) (mLst (mCons (mC (.str "both")) (mCons (mC (.str "between")) (mCons (mC (.str "offered")) (mCons (mC (.str "chosen")) mNil)))))))) (mRet (mC (.bl false))) mNext)
  (mRet (mAndV (mCall self (mCons (mOp subD (mVar 0) (mC (.int 1))) (mCons (mOp subtD (mVar 1) (mC (.int 1))) mNil))) (mCall self (mCons (mOp subD (mVar 0) (mC (.int 2))) (mCons (mOp subtD (mVar 1) (mC (.int 1))) mNil))))))))
theorem rd__law_is_form (n : Nat) (ds : List D) (mu : Mu) (c : Nat) (P : D → Mu → Nat → Prop) (PX : Ex → Mu → Nat → Prop) (h : spn__law_is_form (n + 1) ds mu c P PX) : m__law_is_form (spn__law_is_form n) (S0 ["_law_value", "_law_tall"] ["_law_value", "_law_tall"] ds mu c) (EF P) (XF PX) := by
  obtain ⟨⟨d, m⟩, rfl, hm, hf, h⟩ := h
  simp only at hm hf h
  have fin : ∀ x : Bool, isFormIn m d = x → ∃ c', c ≤ c' ∧ P (.bl x) mu c' := fun x e => ⟨c, Nat.le_refl _, by rw [← e]; exact h⟩
  refine ⟨d, rfl, fineD_ty hf, _, rfl, ?_⟩
  cases d with
  | tup ds =>
    refine iteF ⟨_, rfl, shortL 2 rfl, ?_⟩
    refine ⟨ceq_of (n := 0) (m := 1) rfl rfl, _, rfl, ?_⟩
    rw [len_in]
    match ds, hf, fin with
    | [], hf, fin => exact fin _ (by cases m <;> rfl)
    | [x], hf, fin => exact fin _ (by cases m <;> rfl)
    | x :: y :: z :: u :: r, hf, fin => exact iteT (fin _ (by cases m <;> rfl))
    | [w, x], hf, fin =>
      have hf' : (w.ok 64 && nameFine x) = true := by cases m <;> exact hf
      obtain ⟨hw, hx⟩ := Bool.and_eq_true_iff.mp hf'
      refine iteF ?_
      refine ⟨_, rfl, ceq_of (n := 0) (m := 0) rfl rfl, _, rfl, ?_⟩
      refine iteT ?_
      refine ⟨_, rfl, w, rfl, shortL 2 rfl, ceq_of hw leafWs_okl, _, rfl, ?_⟩
      have e0 : isFormIn m (.tup [w, x]) = (leafW w && isNameD x) := by
        have e1 : depthIn m (.tup [w, x]) = if (leafW w && isNameD x) = true then some 0 else none := by cases m <;> rfl
        unfold isFormIn
        rw [e1]
        cases leafW w && isNameD x <;> rfl
      refine ite2 (fun c1 => ?_) (fun c1 => ?_)
      · have c1' : leafW w = true := c1
        refine ⟨_, rfl, x, rfl, x, rfl, nameFine_ty hx, nameFine_len hx, ?_⟩
        refine fin _ ?_
        rw [e0, c1', Bool.true_and]
      · have c1' : leafW w = false := bF c1
        refine fin _ ?_
        rw [e0, c1', Bool.false_and]
    | [w, a, b], hf, fin =>
      refine iteF ?_
      refine ⟨_, rfl, ceq_of (n := 0) (m := 0) rfl rfl, _, rfl, ?_⟩
      refine iteF ?_
      refine ⟨_, rfl, ceq_of (n := 0) (m := 0) rfl rfl, _, rfl, ?_⟩
      rw [show eqvD (.int (m : Int)) (.int 0) = decide (m = 0) by rw [eqv_int2, Bool.eq_iff_iff]; simp]
      cases m with
      | zero => exact fin _ rfl
      | succ m =>
        refine iteF ?_
        have hw : w.ok 64 = true := (Bool.and_eq_true_iff.mp hf).1
        refine ⟨_, rfl, w, rfl, shortL 4 rfl, ceq_of hw halfWs_okl, _, rfl, ?_⟩
        refine ite2 (fun c1 => ?_) (fun c1 => ?_)
        · have c1' : halfW w = false := bN c1
          refine fin _ ?_
          show (if halfW w = true then _ else none).isSome = false
          rw [c1', if_neg Bool.false_ne_true]
          rfl
        · have c1' : halfW w = true := bT c1
          have hf' := Bool.and_eq_true_iff.mp (Bool.and_eq_true_iff.mp hf).2
          have es : ((m + 1 : Nat) : Int) - 1 = (m : Int) := by omega
          have e0 : isFormIn (m + 1) (.tup [w, a, b]) = (isFormIn m a && isFormIn m b) := by
            show (if halfW w = true then _ else none).isSome = _
            rw [c1', if_pos rfl]
            unfold isFormIn
            cases depthIn m a <;> cases depthIn m b <;> rfl
          refine ⟨_, rfl, a, rfl, _, rfl, (a, m), by show [a, D.int (((m + 1 : Nat) : Int) - 1)] = _; rw [es], by show m < n; omega, hf'.1, ?_⟩
          refine ⟨_, rfl, ?_⟩
          show (fun k : Bool => _) (isFormIn m a)
          cases ea : isFormIn m a with
          | false =>
            rw [ea] at e0
            refine iteF ?_
            exact fin _ (by rw [e0]; rfl)
          | true =>
            rw [ea] at e0
            refine iteT ?_
            refine ⟨_, rfl, b, rfl, _, rfl, (b, m), by show [b, D.int (((m + 1 : Nat) : Int) - 1)] = _; rw [es], by show m < n; omega, hf'.2, ?_⟩
            exact fin _ (by rw [e0]; rfl)
  | non => exact iteT (fin _ (by cases m <;> rfl))
  | bl b => exact iteT (fin _ (by cases m <;> rfl))
  | int b => exact iteT (fin _ (by cases m <;> rfl))
  | str b => exact iteT (fin _ (by cases m <;> rfl))
  | lst b => exact iteT (fin _ (by cases m <;> rfl))
  | dct b => exact iteT (fin _ (by cases m <;> rfl))
  | pen => have := fineD_ty hf; cases this
  | ref a => have := fineD_ty hf; cases this
-- @hash 8959ae1d
def sp__law_bent_name : DSp := fun ds mu c P PX => ∃ s : Str, ds = [.pen, .str s] ∧ isNameL s.cps.toList = true ∧ c + 4 ≤ LIM ∧ ∀ d : D, d.pl 1 = true → P d mu (c + 4)
def m__law_bent_name : MS := (mSeq (mPar 2 3 (mCons (mCall sp__law_draw (mCons (mVar 0) (mCons (mCB lenD (mCons (mVar 1) mNil)) mNil))) (mCons (mCall sp__law_pick (mCons (mVar 0) (mCons (mC (.str "AZ_-~ .,()*|&+09az\n\t")) mNil))) mNil)))
  (mSeq (mSet 4 (mCall sp__law_draw (mCons (mVar 0) (mCons (mC (.int 12)) mNil))))
  (mSeq (mIfS (mB (mOp ltD (mVar 4) (mC (.int 3)))) (mRet (mOp addD (mOp addD (mSl (mVar 1) mONone (mOSome (mVar 2))) (mVar 3)) (mSl (mVar 1) (mOSome (mOp addD (mVar 2) (mC (.int 1)))) mONone))) mNext)
  (mSeq (mIfS (mB (mOp ltD (mVar 4) (mC (.int 5)))) (mRet (mOp addD (mOp addD (mSl (mVar 1) mONone (mOSome (mVar 2))) (mVar 3)) (mSl (mVar 1) (mOSome (mVar 2)) mONone))) mNext)
  (mSeq (mIfS (mB (mOp ltD (mVar 4) (mC (.int 7)))) (mRet (mSl (mOp addD (mVar 1) (mC (.str "a1b2c3d4e5f6"))) mONone (mOSome (mOp addD (mC (.int 12)) (mCall sp__law_draw (mCons (mVar 0) (mCons (mC (.int 2)) mNil))))))) mNext)
  (mRet (mOp subD (mLst (mCons (mOp addD (mSl (mVar 1) mONone (mOSome (mVar 2))) (mSl (mVar 1) (mOSome (mOp addD (mVar 2) (mC (.int 1)))) mONone)) (mCons (mOp addD (mVar 1) (mVar 3)) (mCons (mUn upperD (mVar 1)) (mCons (mLst (mCons (mVar 1) mNil)) (mCons (mC (.int 5)) mNil)))))) (mOp subtD (mVar 4) (mC (.int 7))))))))))
theorem rd__law_bent_name (ds : List D) (mu : Mu) (c : Nat) (P : D → Mu → Nat → Prop) (PX : Ex → Mu → Nat → Prop) (h : sp__law_bent_name ds mu c P PX) : m__law_bent_name (S0 ["_law_pen", "_law_name_here", "_law_at", "_law_sign", "_law_way"] ["_law_pen", "_law_name_here"] ds mu c) (EF P) (XF PX) := by
  obtain ⟨s, rfl, hn, hc, h⟩ := h
  have hs := sA_name hn
  have hl := hs.len
  have hl1 : 1 ≤ s.length := by rw [str_len]; exact (isNameL_len hn).1
  refine ⟨_, rfl, _, rfl, hs.line, (s.length : Int), rfl, by omega, by omega, by show c < LIM; omega, fun at0 a0 a1 => ?_⟩
  refine ⟨_, rfl, _, rfl, by show c + 1 < LIM; omega, by decide +kernel, by decide +kernel, fun k hk => ?_⟩
  have hk' : sA 1 ⟨#[k]⟩ := sA_one ((by decide +kernel : ∀ k ∈ (Str.ofString "AZ_-~ .,()*|&+09az\n\t").cps.toList, k < 128) k hk)
  refine ⟨_, _, rfl, ?_⟩
  refine ⟨_, rfl, (12 : Int), rfl, by decide, by decide, by show c + 2 < LIM; omega, fun way w0 w1 => ?_⟩
  refine ⟨_, rfl, _, rfl, ?_⟩
  refine ite2 (fun c1 => ?_) (fun c1 => ?_)
  · refine ⟨_, rfl, _, rfl, _, rfl, hs.line, _, rfl, (sA_cut hs _ _).two hk', _, rfl, _, rfl, _, rfl, hs.line, (sA_app (sA_cut hs _ _) hk').two (sA_cut hs _ _), c + 4, by show c + 3 ≤ c + 4; omega, h _ ?_⟩
    exact (sA_app (sA_app (sA_cut hs _ _) hk') (sA_cut hs _ _)).pl
  have c1' : ¬ way < 3 := fun z => c1 (decide_eq_true z)
  refine ⟨_, rfl, _, rfl, ?_⟩
  refine ite2 (fun c2 => ?_) (fun c2 => ?_)
  · refine ⟨_, rfl, _, rfl, _, rfl, hs.line, _, rfl, (sA_cut hs _ _).two hk', _, rfl, _, rfl, _, rfl, hs.line, (sA_app (sA_cut hs _ _) hk').two (sA_cut hs _ _), c + 4, by show c + 3 ≤ c + 4; omega, h _ ?_⟩
    exact (sA_app (sA_app (sA_cut hs _ _) hk') (sA_cut hs _ _)).pl
  have c2' : ¬ way < 5 := fun z => c2 (decide_eq_true z)
  refine ⟨_, rfl, _, rfl, ?_⟩
  have ht : sA 12 (Str.ofString "a1b2c3d4e5f6") := by unfold sA asc; decide +kernel
  refine ite2 (fun c3 => ?_) (fun c3 => ?_)
  · refine ⟨_, rfl, hs.two ht, _, rfl, (2 : Int), rfl, by decide, by decide, by show c + 3 < LIM; omega, fun j j0 j1 => ?_⟩
    refine ⟨_, rfl, (sA_app hs ht).line, c + 4, Nat.le_refl _, h _ ?_⟩
    exact (sA_cut (sA_app hs ht) _ _).pl
  have c3' : ¬ way < 7 := fun z => c3 (decide_eq_true z)
  refine ⟨_, rfl, _, rfl, _, rfl, hs.line, _, rfl, _, rfl, _, rfl, hs.line, (sA_cut hs _ _).two (sA_cut hs _ _), ?_⟩
  refine ⟨_, rfl, _, rfl, hs.two hk', ?_⟩
  refine ⟨_, rfl, by omega, ?_⟩
  refine ⟨_, rfl, shortL 1 rfl, shortL 5 rfl, _, rfl, ?_⟩
  obtain ⟨z, hz, ez⟩ := atI_mem (l := [D.str (⟨(cutD s.cps.toList none (some at0)).toArray⟩ ++ ⟨(cutD s.cps.toList (some (at0 + 1)) none).toArray⟩), D.str (s ++ ⟨#[k]⟩), D.str (Txt.upper s), D.lst [D.str s], D.int 5]) (i := way - 7) (by omega) (by show way - 7 < 5; omega)
  refine ⟨z, ez, c + 4, by show c + 3 ≤ c + 4; omega, h z ?_⟩
  revert z
  have all : ∀ z ∈ [D.str (⟨(cutD s.cps.toList none (some at0)).toArray⟩ ++ ⟨(cutD s.cps.toList (some (at0 + 1)) none).toArray⟩), D.str (s ++ ⟨#[k]⟩), D.str (Txt.upper s), D.lst [D.str s], D.int 5], z.pl 1 = true :=
    al_cons (sA_app (sA_cut hs _ _) (sA_cut hs _ _)).pl (al_cons (sA_app hs hk').pl (al_cons (sA_upper hn).pl (al_cons (lstP (al_one hs.pl)) (al_one rfl))))
  exact fun z hz _ => all z hz
-- @hash a1e518fc
-- @rec 13
def spn__law_bent (n : Nat) : DSp := fun ds mu c P PX => ∃ f : Fm, ds = [.pen, f.toD] ∧ f.depth < n ∧ f.ok = true ∧ c + (2 * n + 6) ≤ LIM ∧ ∀ d : D, d.pl (n + 3) = true → P d mu (c + (2 * n + 6))
def sp__law_bent : DSp := spn__law_bent 13
def m__law_bent (self : DSp) : MS := (mSeq (mIfS (mAnd (mB (mOp eqD (mCB lenD (mCons (mVar 1) mNil)) (mC (.int 3)))) (mB (mOp gtD (mCall sp__law_draw (mCons (mVar 0) (mCons (mC (.int 4)) mNil))) (mC (.int 0))))) (mSeq (mSet 2 (mOp addD (mC (.int 1)) (mCall sp__law_draw (mCons (mVar 0) (mCons (mC (.int 2)) mNil)))))
  (mRet (mOp addD (mOp addD (mSl (mVar 1) mONone (mOSome (mVar 2))) (mTup (mCons (mCall self (mCons (mVar 0) (mCons (mOp subD (mVar 1) (mVar 2)) mNil))) mNil))) (mSl (mVar 1) (mOSome (mOp addD (mVar 2) (mC (.int 1)))) mONone)))) mNext)
  (mSeq (mIfS (mAnd (mB (mOp eqD (mCB lenD (mCons (mVar 1) mNil)) (mC (.int 2)))) (mB (mOp eqD (mCall sp__law_draw (mCons (mVar 0) (mCons (mC (.int 2)) mNil))) (mC (.int 0))))) (mRet (mTup (mCons (mOp subD (mVar 1) (mC (.int 0))) (mCons (mCall sp__law_bent_name (mCons (mVar 0) (mCons (mOp subD (mVar 1) (mC (.int 1))) mNil))) mNil)))) mNext)
  (mSeq (mSet 3 (mSl (mVar 1) (mOSome (mC (.int 1))) mONone))
  (mSeq (mSet 4 (mLst (mCons (mCB listD (mCons (mVar 1) mNil)) (mCons (mOp addD (mVar 1) (mTup (mCons (mOp subD (mVar 1) (mUn negD (mC (.int 1)))) mNil))) (mCons (mSl (mVar 1) mONone (mOSome (mUn negD (mC (.int 1))))) (mCons (mOp addD (mTup (mCons (mOp addD (mOp subD (mVar 1) (mC (.int 0))) (mC (.str "s"))) mNil)) (mVar 3)) (mCons (mOp addD (mTup (mCons (mC (.int 1)) mNil)) (mVar 3)) (mCons (mOp subD (mVar 1) (mC (.int 1))) (mCons (mC .non) (mCons (mC (.bl true)) (mCons (mTup mNil) mNil)))))))))))
  (mSeq (mSet 4 (mOp addD (mVar 4) (mLst (mCons (mOp addD (mTup (mCons (mC (.str "both")) mNil)) (mVar 3)) (mCons (mOp addD (mTup (mCons (mC (.str "counter")) mNil)) (mVar 3)) (mCons (mUn revD (mVar 1)) (mCons (mOp addD (mTup (mCons (mOp subD (mVar 1) (mC (.int 0))) (mCons (mLst (mCons (mOp subD (mVar 1) (mC (.int 1))) mNil)) mNil))) (mSl (mVar 1) (mOSome (mC (.int 2))) mONone)) (mCons (mTup (mCons (mVar 1) mNil)) mNil))))))))
  (mRet (mCall sp__law_pick (mCons (mVar 0) (mCons (mVar 4) mNil)))))))))
theorem rd__law_bent (n : Nat) (ds : List D) (mu : Mu) (c : Nat) (P : D → Mu → Nat → Prop) (PX : Ex → Mu → Nat → Prop) (h : spn__law_bent (n + 1) ds mu c P PX) : m__law_bent (spn__law_bent n) (S0 ["_law_pen", "_law_form", "_law_at", "_law_rest", "_law_odd"] ["_law_pen", "_law_form"] ds mu c) (EF P) (XF PX) := by
  obtain ⟨f, rfl, hn, ho, hc, h⟩ := h
  have hpl0 := Fm.plain f (n + 1) ho hn
  have hsw : sA 1 (Str.ofString "s") := by unfold sA asc; decide +kernel
  have hbo : sA 10 (Str.ofString "both") := by unfold sA asc; decide +kernel
  have hco : sA 10 (Str.ofString "counter") := by unfold sA asc; decide +kernel
  cases f with
  | node w l r =>
    have hd : max l.depth r.depth + 1 < n + 1 := hn
    have ho' := Bool.and_eq_true_iff.mp ho
    have ho2 := Bool.and_eq_true_iff.mp ho'.2
    have hw : sA 10 w := halfW_asc ho'.1
    have hxs : ∀ d ∈ [D.str w, l.toD, r.toD], d.pl (n + 3) = true := fun d hd => D.pl_mono _ _ _ (by omega) (D.pls_mem (D.pl_tupI hpl0).2 d hd)
    refine ⟨_, rfl, ceq_of (n := 0) (m := 0) rfl rfl, _, rfl, ?_⟩
    refine iteT ?_
    refine ⟨_, rfl, (4 : Int), rfl, by decide, by decide, by show c < LIM; omega, fun a a0 a1 => ?_⟩
    refine ⟨_, rfl, ?_⟩
    refine ite2 (fun c1 => ?_) (fun c1 => ?_)
    · refine ⟨_, rfl, (2 : Int), rfl, by decide, by decide, by show c + 1 < LIM; omega, fun b b0 b1 => ?_⟩
      obtain rfl | rfl : b = 0 ∨ b = 1 := by omega
      · refine ⟨_, rfl, _, rfl, _, rfl, _, rfl, _, rfl, _, rfl, _, rfl, l, rfl, by omega, ho2.1, by show c + 2 + (2 * n + 6) ≤ LIM; omega, fun d hd => ?_⟩
        refine ⟨shortL 1 rfl, two_le 3 1 (cut_le (Nat.le_refl 3) _ _) (Nat.le_refl 1), _, rfl, _, rfl, _, rfl, two_le 4 3 (app_le (n := 3) (m := 1) (cut_le (Nat.le_refl 3) _ _) (Nat.le_refl 1)) (cut_le (Nat.le_refl 3) _ _), c + (2 * (n + 1) + 6), by show c + 2 + (2 * n + 6) ≤ _; omega, h _ (tupP ?_)⟩
        exact al_app (al_app (al_cut hxs _ _) (al_one hd)) (al_cut hxs _ _)
      · refine ⟨_, rfl, _, rfl, _, rfl, _, rfl, _, rfl, _, rfl, _, rfl, r, rfl, by omega, ho2.2, by show c + 2 + (2 * n + 6) ≤ LIM; omega, fun d hd => ?_⟩
        refine ⟨shortL 1 rfl, two_le 3 1 (cut_le (Nat.le_refl 3) _ _) (Nat.le_refl 1), _, rfl, _, rfl, _, rfl, two_le 4 3 (app_le (n := 3) (m := 1) (cut_le (Nat.le_refl 3) _ _) (Nat.le_refl 1)) (cut_le (Nat.le_refl 3) _ _), c + (2 * (n + 1) + 6), by show c + 2 + (2 * n + 6) ≤ _; omega, h _ (tupP ?_)⟩
        exact al_app (al_app (al_cut hxs _ _) (al_one hd)) (al_cut hxs _ _)
    · refine ⟨_, rfl, ceq_of (n := 0) (m := 0) rfl rfl, _, rfl, ?_⟩
      refine iteF ?_
      refine ⟨_, rfl, _, rfl, ?_⟩
      have hx3 : [D.str w, l.toD, r.toD].length ≤ 3 := Nat.le_refl 3
      have hcut := fun lo hi => cut_le hx3 lo hi
      refine ⟨_, rfl, ?_⟩
      refine ⟨_, rfl, _, rfl, _, rfl, shortL 1 rfl, two_le 3 1 (Nat.le_refl 3) (Nat.le_refl 1), ?_⟩
      refine ⟨_, rfl, _, rfl, ?_⟩
      refine ⟨_, rfl, _, rfl, hw.two hsw, shortL 1 rfl, _, rfl, two_le 1 3 (Nat.le_refl 1) (hcut _ _), ?_⟩
      refine ⟨shortL 1 rfl, _, rfl, two_le 1 3 (Nat.le_refl 1) (hcut _ _), ?_⟩
      refine ⟨_, rfl, _, rfl, shortL 0 rfl, shortL 9 rfl, ?_⟩
      refine ⟨_, rfl, shortL 1 rfl, _, rfl, two_le 1 3 (Nat.le_refl 1) (hcut _ _), ?_⟩
      refine ⟨shortL 1 rfl, _, rfl, two_le 1 3 (Nat.le_refl 1) (hcut _ _), ?_⟩
      refine ⟨_, rfl, ?_⟩
      refine ⟨_, rfl, _, rfl, _, rfl, _, rfl, shortL 1 rfl, shortL 2 rfl, _, rfl, _, rfl, two_le 2 3 (Nat.le_refl 2) (hcut _ _), ?_⟩
      refine ⟨_, rfl, shortL 1 rfl, shortL 5 rfl, two_le 9 5 (Nat.le_refl 9) (Nat.le_refl 5), ?_⟩
      refine ⟨_, rfl, _, rfl, _, rfl, by show c + 1 < LIM; omega, Nat.succ_pos _, by show 14 < 1073741824; decide, fun z hz => ?_⟩
      refine ⟨c + (2 * (n + 1) + 6), by show c + 1 + 1 ≤ _; omega, h z ?_⟩
      have h0 : (D.str w).pl (n + 3) = true := hw.pl
      have h1 : (l.toD).pl (n + 2) = true := Fm.plain l (n + 2) ho2.1 (by omega)
      have hls : ∀ d ∈ cutD [D.str w, l.toD, r.toD] (some 1) none, d.pl (n + 3) = true := al_cut hxs _ _
      refine al_app (p := fun z : D => z.pl (n + 4) = true) ?_ ?_ z hz
      · exact al_cons (lstP hxs) (al_cons (tupP (al_app hxs (al_one (Fm.plain r (n + 3) ho2.2 (by omega))))) (al_cons (tupP (al_cut hxs _ _)) (al_cons (tupP (al_app (al_one (sA_app hw hsw).pl) hls)) (al_cons (tupP (al_app (al_one rfl) hls))
          (al_cons (D.pl_mono _ _ _ (by omega) h1) (al_cons rfl (al_cons rfl (al_one (tupP al_nil)))))))))
      · exact al_cons (tupP (al_app (al_one hbo.pl) hls)) (al_cons (tupP (al_app (al_one hco.pl) hls)) (al_cons (tupP (al_rev hxs)) (al_cons (tupP (al_app (al_cons h0 (al_one (lstP (al_one h1)))) (al_cut hxs _ _))) (al_one (tupP (al_one (D.pl_mono _ _ _ (by omega) hpl0)))))))
  | leaf w x =>
    have ho' := Bool.and_eq_true_iff.mp ho
    have hw : sA 10 w := leafW_asc ho'.1
    have hxs : ∀ d ∈ [D.str w, D.str x], d.pl (n + 3) = true := fun d hd => D.pl_mono _ _ _ (by omega) (D.pls_mem (D.pl_tupI hpl0).2 d hd)
    refine ⟨_, rfl, ceq_of (n := 0) (m := 0) rfl rfl, _, rfl, ?_⟩
    refine iteF ?_
    refine ⟨_, rfl, ceq_of (n := 0) (m := 0) rfl rfl, _, rfl, ?_⟩
    refine iteT ?_
    refine ⟨_, rfl, (2 : Int), rfl, by decide, by decide, by show c < LIM; omega, fun a a0 a1 => ?_⟩
    refine ⟨ceq_of (n := 0) (m := 0) rfl rfl, _, rfl, ?_⟩
    refine ite2 (fun c1 => ?_) (fun c1 => ?_)
    · refine ⟨_, rfl, _, rfl, _, rfl, _, rfl, _, rfl, x, rfl, ho'.2, by show c + 1 + 4 ≤ LIM; omega, fun d hd => ?_⟩
      refine ⟨shortL 2 rfl, c + (2 * (n + 1) + 6), by show c + 1 + 4 ≤ _; omega, h _ (tupP ?_)⟩
      exact al_cons hw.pl (al_one (D.pl_mono _ _ _ (by omega) hd))
    · skip
      refine ⟨_, rfl, _, rfl, ?_⟩
      have hx3 : [D.str w, D.str x].length ≤ 2 := Nat.le_refl 2
      have hcut := fun lo hi => cut_le hx3 lo hi
      refine ⟨_, rfl, ?_⟩
      refine ⟨_, rfl, _, rfl, _, rfl, shortL 1 rfl, two_le 2 1 (Nat.le_refl 2) (Nat.le_refl 1), ?_⟩
      refine ⟨_, rfl, _, rfl, ?_⟩
      refine ⟨_, rfl, _, rfl, hw.two hsw, shortL 1 rfl, _, rfl, two_le 1 2 (Nat.le_refl 1) (hcut _ _), ?_⟩
      refine ⟨shortL 1 rfl, _, rfl, two_le 1 2 (Nat.le_refl 1) (hcut _ _), ?_⟩
      refine ⟨_, rfl, _, rfl, shortL 0 rfl, shortL 9 rfl, ?_⟩
      refine ⟨_, rfl, shortL 1 rfl, _, rfl, two_le 1 2 (Nat.le_refl 1) (hcut _ _), ?_⟩
      refine ⟨shortL 1 rfl, _, rfl, two_le 1 2 (Nat.le_refl 1) (hcut _ _), ?_⟩
      refine ⟨_, rfl, ?_⟩
      refine ⟨_, rfl, _, rfl, _, rfl, _, rfl, shortL 1 rfl, shortL 2 rfl, _, rfl, _, rfl, two_le 2 2 (Nat.le_refl 2) (hcut _ _), ?_⟩
      refine ⟨_, rfl, shortL 1 rfl, shortL 5 rfl, two_le 9 5 (Nat.le_refl 9) (Nat.le_refl 5), ?_⟩
      refine ⟨_, rfl, _, rfl, _, rfl, by show c + 1 < LIM; omega, Nat.succ_pos _, by show 14 < 1073741824; decide, fun z hz => ?_⟩
      refine ⟨c + (2 * (n + 1) + 6), by show c + 1 + 1 ≤ _; omega, h z ?_⟩
      have h0 : (D.str w).pl (n + 3) = true := hw.pl
      have h1 : (D.str x).pl (n + 2) = true := (sA_name ho'.2).pl
      have hls : ∀ d ∈ cutD [D.str w, D.str x] (some 1) none, d.pl (n + 3) = true := al_cut hxs _ _
      refine al_app (p := fun z : D => z.pl (n + 4) = true) ?_ ?_ z hz
      · exact al_cons (lstP hxs) (al_cons (tupP (al_app hxs (al_one (sA_name ho'.2).pl))) (al_cons (tupP (al_cut hxs _ _)) (al_cons (tupP (al_app (al_one (sA_app hw hsw).pl) hls)) (al_cons (tupP (al_app (al_one rfl) hls))
          (al_cons (D.pl_mono _ _ _ (by omega) h1) (al_cons rfl (al_cons rfl (al_one (tupP al_nil)))))))))
      · exact al_cons (tupP (al_app (al_one hbo.pl) hls)) (al_cons (tupP (al_app (al_one hco.pl) hls)) (al_cons (tupP (al_rev hxs)) (al_cons (tupP (al_app (al_cons h0 (al_one (lstP (al_one h1)))) (al_cut hxs _ _))) (al_one (tupP (al_one (D.pl_mono _ _ _ (by omega) hpl0)))))))
-- @hash 4fbecb79
def sp__law_deeper : DSp := fun ds mu c P PX => ∃ q : Fm × Nat, ds = [q.1.toD, .int q.2] ∧ q.1.ok = true ∧ q.1.depth ≤ 12 ∧ q.1.depth ≤ q.2 ∧ q.2 ≤ 10000 ∧ ∀ f : Fm, f.ok = true → f.depth = q.2 → P f.toD mu c
def m__law_deeper : MS := (mSeq (mFor (mRng1 (mCons (mOp subtD (mVar 1) (mCall sp__law_depth (mCons (mVar 0) mNil))) mNil)) (gN 2) (mSet 0 (mIf (mB (mOp eqD (mOp modD (mCB toIntD (mCons (mVar 2) mNil)) (mC (.int 2))) (mC (.int 0)))) (mTup (mCons (mC (.str "both")) (mCons (mVar 0) (mCons (mTup (mCons (mC (.str "good")) (mCons (mC (.str "a")) mNil))) mNil)))) (mTup (mCons (mC (.str "chosen")) (mCons (mTup (mCons (mC (.str "counter")) (mCons (mC (.str "b")) mNil))) (mCons (mVar 0) mNil)))))))
  (mRet (mVar 0)))
theorem deeper_go {g : MG} {body : MS} {E : DEnds} {PX : PXT} {mu : Mu} {c : Nat} {r1 : Option D} : ∀ (k i : Nat) (f : Fm), f.ok = true →
    (∀ (f : Fm) (i : Nat) (r2 : Option D) (K : S → Prop), f.ok = true → (∀ (f' : Fm) r3, f'.ok = true → f'.depth = f.depth + 1 → K ⟨[some f'.toD, r1, r3], mu, c⟩) → g (.int (0 + (i : Int))) ⟨[some f.toD, r1, r2], mu, c⟩ fun s2 => body s2 { nx := K, ct := K, bk := E.nx, rt := E.rt } PX) →
    (∀ (f' : Fm) r3, f'.ok = true → f'.depth = f.depth + k → E.nx ⟨[some f'.toD, r1, r3], mu, c⟩) →
    ∀ r2, forGo g body E PX ((List.range' i k).map fun i : Nat => D.int (0 + (i : Int))) ⟨[some f.toD, r1, r2], mu, c⟩
  | 0, i, f, ho, hb, hE, r2 => hE f r2 ho rfl
  | k + 1, i, f, ho, hb, hE, r2 => by
    rw [List.range'_succ, List.map_cons]
    refine hb f i r2 _ ho fun f' r3 ho' hd => ?_
    exact deeper_go k (i + 1) f' ho' hb (fun f'' r4 ho'' hd' => hE f'' r4 ho'' (by omega)) r3
theorem rd__law_deeper (ds : List D) (mu : Mu) (c : Nat) (P : D → Mu → Nat → Prop) (PX : Ex → Mu → Nat → Prop) (h : sp__law_deeper ds mu c P PX) : m__law_deeper (S0 ["_law_form", "_law_tall", "_law_k"] ["_law_form", "_law_tall"] ds mu c) (EF P) (XF PX) := by
  obtain ⟨⟨f, tall⟩, rfl, ho, hd, ht, ht2, h⟩ := h
  simp only at ho hd ht ht2 h
  refine ⟨_, rfl, _, rfl, f, rfl, by omega, ?_⟩
  refine ⟨(tall : Int) - (f.depth : Int), rfl, by omega, by omega, ?_⟩
  have e : ((tall : Int) - (f.depth : Int)).toNat = tall - f.depth := by omega
  rw [e]
  unfold rngD
  rw [List.range_eq_range']
  refine deeper_go (tall - f.depth) 0 f ho (fun f i r2 K ho hK => ?_) (fun f' r3 ho' hd' => ?_) none
  · refine ⟨_, rfl, by show (0 : Int) < 2; decide, ceq_of (n := 0) (m := 0) rfl rfl, _, rfl, ?_⟩
    refine ite2 (fun c1 => ?_) (fun c1 => ?_)
    · refine ⟨_, rfl, shortL 2 rfl, shortL 3 rfl, ?_⟩
      refine hK (.node "both" f (.leaf "good" "a")) _ ?_ ?_
      · exact Bool.and_eq_true_iff.mpr ⟨by decide +kernel, Bool.and_eq_true_iff.mpr ⟨ho, by decide +kernel⟩⟩
      · show max f.depth 0 + 1 = f.depth + 1
        omega
    · refine ⟨shortL 2 rfl, _, rfl, shortL 3 rfl, ?_⟩
      refine hK (.node "chosen" (.leaf "counter" "b") f) _ ?_ ?_
      · exact Bool.and_eq_true_iff.mpr ⟨by decide +kernel, Bool.and_eq_true_iff.mpr ⟨by decide +kernel, ho⟩⟩
      · show max 0 f.depth + 1 = f.depth + 1
        omega
  · exact ⟨_, rfl, c, Nat.le_refl _, h f' ho' (by omega)⟩
-- @hash 0f9e3d73
def sp__law_says : DSp := fun ds mu c P PX => ∃ d : D × Bool, ds = [d.1, .bl d.2] ∧ ∃ b, d.1 = .bl b ∧ P (.bl (b == d.2)) mu c
def m__law_says : MS := (mRet (mAndV (mIsi "bool" (mVar 0)) (mOp eqD (mVar 0) (mVar 1))))
theorem rd__law_says (ds : List D) (mu : Mu) (c : Nat) (P : D → Mu → Nat → Prop) (PX : Ex → Mu → Nat → Prop) (h : sp__law_says ds mu c P PX) : m__law_says (S0 ["_law_told", "_law_due"] ["_law_told", "_law_due"] ds mu c) (EF P) (XF PX) := by
  obtain ⟨⟨d, e⟩, rfl, b, e1, h⟩ := h
  simp only at e1 h
  subst e1
  refine ⟨_, rfl, rfl, true, rfl, ?_⟩
  refine iteT ⟨_, rfl, _, rfl, ceq_of (n := 0) (m := 0) rfl rfl, c, Nat.le_refl _, ?_⟩
  rw [eqv_bl2]
  exact h
-- @hash 7ca9a0a7
def sp__law_names_known : DSp := fun ds mu c P PX => ∃ _u : Unit, ds = [.pen] ∧ c + 17 ≤ LIM ∧ P (.bl true) mu (c + 17)
def m__law_names_known : MS := (mSeq (mSet 1 (mCall sp__law_name (mCons (mVar 0) mNil)))
  (mSeq (mSet 2 (mCall sp__law_bent_name (mCons (mVar 0) (mCons (mVar 1) mNil))))
  (mSeq (mIfS (mOr (mNot (mB (mCall sp__law_says (mCons (mCall sp_is_name (mCons (mVar 1) mNil)) (mCons (mC (.bl true)) mNil))))) (mNot (mB (mCall sp__law_says (mCons (mCall sp_is_name (mCons (mVar 2) mNil)) (mCons (mCall sp__law_is_name (mCons (mVar 2) mNil)) mNil)))))) (mRet (mC (.bl false))) mNext)
  (mSeq (mSet 3 (mLst (mCons (mC .non) (mCons (mC (.bl true)) (mCons (mC (.int 1)) (mCons (mTup mNil) (mCons (mTup (mCons (mVar 1) mNil)) (mCons (mLst (mCons (mVar 1) mNil)) (mCons (mDisp [((mVar 1), (mC (.int 1)))]) (mCons (mC (.str "")) (mCons (mOp mulD (mVar 1) (mC (.int 13))) (mCons (mOp addD (mSl (mVar 1) mONone (mOSome (mC (.int 11)))) (mC (.str "_"))) mNil))))))))))))
  (mRet (mCB allD (mCons (mLc (mItems (mVar 3)) [4] (gN 4) mYes (mCall sp__law_says (mCons (mCall sp_is_name (mCons (mVar 4) mNil)) (mCons (mC (.bl false)) mNil)))) mNil)))))))
theorem rd__law_names_known (ds : List D) (mu : Mu) (c : Nat) (P : D → Mu → Nat → Prop) (PX : Ex → Mu → Nat → Prop) (h : sp__law_names_known ds mu c P PX) : m__law_names_known (S0 ["_law_pen", "_law_name_here", "_law_odd", "_law_others", "_law_other"] ["_law_pen"] ds mu c) (EF P) (XF PX) := by
  obtain ⟨_, rfl, hc, h⟩ := h
  refine ⟨_, rfl, (), rfl, by show c + 13 ≤ LIM; omega, fun s hn => ?_⟩
  have hs := sA_name hn
  refine ⟨_, rfl, _, rfl, s, rfl, hn, by show c + 13 + 4 ≤ LIM; omega, fun d hd => ?_⟩
  refine ⟨_, rfl, .str s, rfl, rfl, fun t e => by cases e; exact hs.line, (.bl (isNameL s.cps.toList), true), rfl, _, rfl, _, rfl, ?_⟩
  rw [hn]
  refine iteF ?_
  have hdl := nameFine_len (nameFine_pl hd)
  refine ⟨_, rfl, d, rfl, D.pl_ty hd, hdl, _, rfl, d, rfl, D.pl_ty hd, hdl, (.bl (isNameD d), isNameD d), rfl, _, rfl, _, rfl, ?_⟩
  dsimp only
  rw [beq_self_eq_true]
  refine iteF ?_
  refine ⟨shortL 0 rfl, ?_⟩
  refine ⟨_, rfl, shortL 1 rfl, _, rfl, shortL 1 rfl, ?_⟩
  refine ⟨_, rfl, _, rfl, by show 1 ≤ 15; decide, ?_⟩
  refine ⟨_, rfl, by decide, by decide, by show s.length * 13 ≤ LINE; have := hs.len; have e : (LINE : Nat) = 16777216 := rfl; omega, ?_⟩
  refine ⟨_, rfl, _, rfl, hs.line, (sA_cut hs _ _).two (m := 1) (by unfold sA asc; decide +kernel), shortL 10 rfl, ?_⟩
  refine ⟨_, rfl, ?_⟩
  refine lc_fun (fun _ => .bl true) _ _ (fun d hd K hK => ?_) (by show 10 ≤ LINE; decide) ?_
  · have hh : noN d := al_cons noN_non (al_cons noN_bl (al_cons noN_int (al_cons noN_tup (al_cons noN_tup (al_cons noN_lst (al_cons noN_dct (al_cons ?_ (al_cons ?_ (al_one ?_))))))))) d hd
    · refine ⟨_, rfl, d, rfl, hh.2.1, hh.2.2, (.bl (isNameD d), false), rfl, _, rfl, ?_⟩
      rw [hh.1]
      exact hK
    · exact noN_str rfl (by decide)
    · refine noN_str (noName_long ?_) ?_
      · rw [ofL_cps, rep_len]
        have := (isNameL_len hn).1
        show 12 < 13 * s.cps.toList.length
        omega
      · rw [str_len, ofL_cps, rep_len]
        have := (isNameL_len hn).2
        have e : (LINE : Nat) = 16777216 := rfl
        show 13 * s.cps.toList.length ≤ LINE
        omega
    · refine noN_str ?_ (sA_app (sA_cut hs _ _) (by unfold sA asc; decide +kernel : sA 1 (Str.ofString "_"))).line
      rw [app_cps]
      exact noName_us _
  · exact ⟨_, blsOf_map (fun _ => true) _, c + 17, Nat.le_refl _, by rw [all_true]; exact h⟩
-- @hash 8b0c0704
def sp__law_forms_known : DSp := fun ds mu c P PX => ∃ _u : Unit, ds = [.pen] ∧ c + 400 ≤ LIM ∧ P (.bl true) mu (c + 400)
def noF (d : D) : Prop := isFormD d = false ∧ fineD 12 d = true
theorem Fm.listE {mu : Mu} {P : D → Prop} (f : Fm) (h : ∀ xs, P (.lst xs)) : listD mu [f.toD] P := by
  cases f
  · exact h _
  · exact h _
theorem Fm.isFormD (f : Fm) (h : f.ok = true) : DL.isFormD f.toD = decide (f.depth ≤ 12) := f.isForm 12 h
def m__law_forms_known : MS := (mSeq (mSet 1 (mCall sp__law_shape (mCons (mVar 0) (mCons (mCall sp__law_names (mCons (mVar 0) (mCons (mC (.int 4)) mNil))) (mCons (mOp addD (mC (.int 1)) (mCall sp__law_draw (mCons (mVar 0) (mCons (mC (.int 40)) mNil)))) (mCons (mCall sp__law_pick (mCons (mVar 0) (mCons (mLst (mCons (mC (.int 6)) (mCons (mC (.int 12)) mNil))) mNil))) mNil))))))
  (mSeq (mSet 2 (mCall sp__law_bent (mCons (mVar 0) (mCons (mVar 1) mNil))))
  (mSeq (mIfS (mOr (mNot (mB (mCall sp__law_says (mCons (mCall sp_is_form (mCons (mVar 1) mNil)) (mCons (mC (.bl true)) mNil))))) (mNot (mB (mCall sp__law_says (mCons (mCall sp_is_form (mCons (mVar 2) mNil)) (mCons (mCall sp__law_is_form (mCons (mVar 2) (mCons (mC (.int 12)) mNil))) mNil)))))) (mRet (mC (.bl false))) mNext)
  (mSeq (mIfS (mNot (mB (mCall sp__law_says (mCons (mCall sp_is_form (mCons (mCall sp__law_deeper (mCons (mVar 1) (mCons (mC (.int 12)) mNil))) mNil)) (mCons (mC (.bl true)) mNil))))) (mRet (mC (.bl false))) mNext)
  (mSeq (mFor (mItems (mLst (mCons (mC (.int 13)) (mCons (mOp addD (mC (.int 14)) (mCall sp__law_draw (mCons (mVar 0) (mCons (mC (.int 287)) mNil)))) (mCons (mC (.int 1200)) mNil))))) (gN 3) (mIfS (mNot (mB (mCall sp__law_says (mCons (mCall sp_is_form (mCons (mCall sp__law_deeper (mCons (mVar 1) (mCons (mVar 3) mNil))) mNil)) (mCons (mC (.bl false)) mNil))))) (mRet (mC (.bl false))) mNext))
  (mSeq (mSet 4 (mTup (mCons (mC (.str "between")) (mCons (mVar 2) (mCons (mCall sp__law_bent (mCons (mVar 0) (mCons (mVar 1) mNil))) mNil)))))
  (mSeq (mIfS (mNot (mB (mCall sp__law_says (mCons (mCall sp_is_form (mCons (mVar 4) mNil)) (mCons (mCall sp__law_is_form (mCons (mVar 4) (mCons (mC (.int 12)) mNil))) mNil))))) (mRet (mC (.bl false))) mNext)
  (mRet (mCB allD (mCons (mLc (mItems (mLst (mCons (mC .non) (mCons (mC (.bl true)) (mCons (mC (.int 0)) (mCons (mC (.str "a")) (mCons (mLst mNil) (mCons (mTup mNil) (mCons (mLst (mCons (mVar 1) mNil)) (mCons (mC (.dct [])) (mCons (mCB listD (mCons (mVar 1) mNil)) mNil))))))))))) [5] (gN 5) mYes (mCall sp__law_says (mCons (mCall sp_is_form (mCons (mVar 5) mNil)) (mCons (mC (.bl false)) mNil)))) mNil))))))))))
theorem rd__law_forms_known (ds : List D) (mu : Mu) (c : Nat) (P : D → Mu → Nat → Prop) (PX : Ex → Mu → Nat → Prop) (h : sp__law_forms_known ds mu c P PX) : m__law_forms_known (S0 ["_law_pen", "_law_form", "_law_odd", "_law_tall", "_law_twice", "_law_other"] ["_law_pen"] ds mu c) (EF P) (XF PX) := by
  obtain ⟨_, rfl, hc, h⟩ := h
  refine ⟨_, rfl, _, rfl, 4, rfl, by decide, by decide, by show c + (1 + 13 * 4) ≤ LIM; omega, fun ns n0 n1 hns => ?_⟩
  refine ⟨_, rfl, (40 : Int), rfl, by decide, by decide, by show c + (1 + 13 * 4) < LIM; omega, fun m m0 m1 => ?_⟩
  obtain ⟨m, rfl⟩ := Int.eq_ofNat_of_zero_le m0
  refine ⟨_, rfl, shortL 2 rfl, _, rfl, by show c + (1 + 13 * 4) + 1 < LIM; omega, Nat.succ_pos _, by show 2 < 1073741824; decide, fun x hx => ?_⟩
  have hx' : ∃ t : Nat, x = .int (t : Nat) ∧ t ≤ 12 ∧ 64 ≤ 2 ^ t := by
    simp only [List.mem_cons, List.not_mem_nil, or_false] at hx
    rcases hx with rfl | rfl
    · exact ⟨6, rfl, by decide, by decide⟩
    · exact ⟨12, rfl, by decide, by decide⟩
  obtain ⟨t, rfl, t1, t2⟩ := hx'
  refine ⟨⟨ns, 1 + m, t⟩, ?_, by show t < 13; omega, t1, by show 1 ≤ 1 + m; omega, by show 1 + m ≤ 2 ^ t; omega, n0, by show ns.length ≤ 1000; omega, hns, by show c + (1 + 13 * 4) + 1 + 1 + (5 * (1 + m) - 3) ≤ LIM; omega, fun f fo fd => ?_⟩
  · show [D.pen, D.lst (ns.map D.str), D.int (1 + (m : Int)), D.int (t : Int)] = [D.pen, D.lst (ns.map D.str), D.int ((1 + m : Nat) : Int), D.int (t : Int)]
    rw [show (1 : Int) + (m : Int) = ((1 + m : Nat) : Int) by omega]
  have fd' : f.depth ≤ 12 := Nat.le_trans fd t1
  have ef : isFormD f.toD = true := by rw [Fm.isFormD f fo]; exact decide_eq_true fd'
  refine ⟨_, rfl, _, rfl, f, rfl, by omega, fo, by show c + (1 + 13 * 4) + 1 + 1 + (5 * (1 + m) - 3) + (2 * 13 + 6) ≤ LIM; omega, fun d hd => ?_⟩
  refine ⟨_, rfl, f.toD, rfl, f.fine 12 fo, (.bl (isFormD f.toD), true), rfl, _, rfl, _, rfl, ?_⟩
  dsimp only
  rw [ef]
  refine iteF ?_
  have hd12 : fineD 12 d = true := fineD_pl 12 16 d (by decide) hd
  refine ⟨_, rfl, d, rfl, hd12, _, rfl, (d, 12), rfl, by show 12 < 14; decide, hd12, (.bl (isFormD d), isFormIn 12 d), rfl, _, rfl, _, rfl, ?_⟩
  dsimp only
  rw [show (isFormD d == isFormIn 12 d) = true from beq_self_eq_true (isFormD d)]
  refine iteF ?_
  refine ⟨_, rfl, (f, 12), rfl, fo, fd', fd', by show 12 ≤ 10000; decide, fun g go gd => ?_⟩
  refine ⟨g.toD, rfl, g.fine 12 go, (.bl (isFormD g.toD), true), rfl, _, rfl, _, rfl, ?_⟩
  dsimp only
  rw [show isFormD g.toD = true by rw [Fm.isFormD g go]; exact decide_eq_true (by have : g.depth = 12 := gd; omega)]
  refine iteF ?_
  have no : ∀ (t : Nat) (g : Fm), 13 ≤ t → g.ok = true → g.depth = t → isFormD g.toD = false := fun t g h1 h2 h3 => by
    rw [Fm.isFormD g h2]
    exact decide_eq_false (by omega)
  refine ⟨_, rfl, (287 : Int), rfl, by decide, by decide, by show c + (1 + 13 * 4) + 1 + 1 + (5 * (1 + m) - 3) + (2 * 13 + 6) < LIM; omega, fun q q0 q1 => ?_⟩
  obtain ⟨q, rfl⟩ := Int.eq_ofNat_of_zero_le q0
  refine ⟨shortL 3 rfl, ?_⟩
  refine ⟨_, rfl, _, rfl, (f, 13), rfl, fo, fd', by show f.depth ≤ 13; omega, by show 13 ≤ 10000; decide, fun g1 g1o g1d => ?_⟩
  refine ⟨g1.toD, rfl, g1.fine 12 g1o, (.bl (isFormD g1.toD), false), rfl, _, rfl, _, rfl, ?_⟩
  dsimp only
  rw [no 13 g1 (by decide) g1o g1d]
  refine iteF ?_
  refine ⟨_, rfl, _, rfl, (f, 14 + q), ?_, fo, fd', by show f.depth ≤ 14 + q; omega, by show 14 + q ≤ 10000; omega, fun g2 g2o g2d => ?_⟩
  · show [f.toD, D.int (14 + (q : Int))] = [f.toD, D.int ((14 + q : Nat) : Int)]
    rw [show (14 : Int) + (q : Int) = ((14 + q : Nat) : Int) by omega]
  refine ⟨g2.toD, rfl, g2.fine 12 g2o, (.bl (isFormD g2.toD), false), rfl, _, rfl, _, rfl, ?_⟩
  dsimp only
  rw [no (14 + q) g2 (by omega) g2o g2d]
  refine iteF ?_
  refine ⟨_, rfl, _, rfl, (f, 1200), rfl, fo, fd', by show f.depth ≤ 1200; omega, by show 1200 ≤ 10000; decide, fun g3 g3o g3d => ?_⟩
  refine ⟨g3.toD, rfl, g3.fine 12 g3o, (.bl (isFormD g3.toD), false), rfl, _, rfl, _, rfl, ?_⟩
  dsimp only
  rw [no 1200 g3 (by decide) g3o g3d]
  refine iteF ?_
  refine ⟨_, rfl, _, rfl, _, rfl, f, rfl, by omega, fo, by show c + (1 + 13 * 4) + 1 + 1 + (5 * (1 + m) - 3) + (2 * 13 + 6) + 1 + (2 * 13 + 6) ≤ LIM; omega, fun d2 hd2 => ?_⟩
  refine ⟨shortL 3 rfl, ?_⟩
  have hbt : sA 10 (Str.ofString "between") := by unfold sA asc; decide +kernel
  have htw : (D.tup [D.str (Str.ofString "between"), d, d2]).pl 17 = true := tupP (al_cons hbt.pl (al_cons hd (al_one hd2)))
  have ht12 := fineD_pl 12 17 _ (by decide) htw
  refine ⟨_, rfl, _, rfl, ht12, _, rfl, (_, 12), rfl, by show 12 < 14; decide, ht12, (.bl (isFormD _), isFormIn 12 _), rfl, _, rfl, _, rfl, ?_⟩
  dsimp only
  rw [show (isFormD (D.tup [D.str (Str.ofString "between"), d, d2]) == isFormIn 12 (D.tup [D.str (Str.ofString "between"), d, d2])) = true from beq_self_eq_true (isFormD _)]
  refine iteF ?_
  refine ⟨shortL 0 rfl, shortL 0 rfl, ?_⟩
  refine ⟨_, rfl, shortL 1 rfl, ?_⟩
  refine ⟨_, rfl, ?_⟩
  dsimp only [mNil]
  refine f.listE fun xs => ?_
  refine ⟨shortL 9 rfl, ?_⟩
  refine lc_fun (fun _ => .bl true) _ _ (fun d hd K hK => ?_) (by show 9 ≤ LINE; decide) ?_
  · have hh : noF d := al_cons ⟨rfl, rfl⟩ (al_cons ⟨rfl, rfl⟩ (al_cons ⟨rfl, rfl⟩ (al_cons ⟨rfl, rfl⟩ (al_cons ⟨rfl, rfl⟩ (al_cons ⟨rfl, rfl⟩ (al_cons ⟨rfl, rfl⟩ (al_cons ⟨rfl, rfl⟩ (al_one ⟨rfl, rfl⟩)))))))) d hd
    refine ⟨_, rfl, d, rfl, hh.2, (.bl (isFormD d), false), rfl, _, rfl, ?_⟩
    rw [hh.1]
    exact hK
  · refine ⟨_, blsOf_map (fun _ => true) _, c + 400, ?_, by rw [all_true]; exact h⟩
    show c + (1 + 13 * 4) + 1 + 1 + (5 * (1 + m) - 3) + (2 * 13 + 6) + 1 + (2 * 13 + 6) ≤ c + 400
    omega
-- @hash b751f764
def m_law : MS := (mRet (mCB allD (mCons (mLc (mRng1 (mCons (mC (.int 2)) mNil)) [2] (gN 2) mYes (mAndV (mCall sp__law_names_known (mCons (mVar 1) mNil)) (mCall sp__law_forms_known (mCons (mVar 1) mNil)))) mNil)))
theorem rd_law (mu : Mu) : m_law ⟨none :: some .pen :: List.replicate 1 none, mu, 0⟩ lawEnd PX0 := by
  have hL : LIM = 1152921504606846976 := rfl
  refine ⟨2, rfl, by decide, by decide, ?_⟩
  refine lc_rel (fun _ y => y = .bl true) 417 1000 _ _ _ (fun d hd c1 K hc1 hK => ?_) (by show 2 ≤ LINE; decide) (by decide) (fun ys hys => ?_)
  · refine ⟨_, rfl, (), rfl, by show c1 + 17 ≤ LIM; omega, true, rfl, ?_⟩
    refine iteT ⟨_, rfl, (), rfl, by show c1 + 17 + 400 ≤ LIM; omega, ?_⟩
    exact hK _ rfl
  · obtain ⟨bs, e1, e2⟩ := all_rel hys
    refine ⟨bs, e1, ?_⟩
    rw [e2]
    exact rfl
end DL
namespace DL
open PySem L2
def top (i : Nat) : Stmt := PySem.Challenge.pw_alldeeds_k02_names_and_forms.main.body.getD i (.Pass ⟨0, 0, 0, 0⟩)
structure Tx (K : PySem.W.Frag) (mg : Str → Option Value) : Prop where
  g_HALVED_WORDS : GlobD K mg "HALVED_WORDS" (.tup [(.str "both"), (.str "between"), (.str "offered"), (.str "chosen")])
  g_LEAF_WORDS : GlobD K mg "LEAF_WORDS" (.tup [(.str "good"), (.str "counter")])
  g_LETTERS : GlobD K mg "LETTERS" (.str "abcdefghijklmnopqrstuvwxyz")
  g_MOST_DEPTH : GlobD K mg "MOST_DEPTH" (.int 12)
  g_MOST_SIGNS : GlobD K mg "MOST_SIGNS" (.int 12)
  g_SIGNS : GlobD K mg "SIGNS" (.str "abcdefghijklmnopqrstuvwxyz0123456789")
  b_abs : mg "abs" = none
  b_all : mg "all" = none
  b_bool : mg "bool" = none
  b_int : mg "int" = none
  b_isinstance : mg "isinstance" = none
  b_len : mg "len" = none
  b_list : mg "list" = none
  b_max : mg "max" = none
  b_min : mg "min" = none
  b_range : mg "range" = none
  b_str : mg "str" = none
  b_tuple : mg "tuple" = none
section
variable {P : Program} {w : World} {K : PySem.W.Frag} {mg : Str → Option Value} {base : Heap}
abbrev s__law_begin : Stmt := top 11
theorem sc__law_begin : FnScope ["_law_script"] ["_law_script"] (defScope s__law_begin) := ⟨rfl, rfl, rfl, by decide +kernel, rfl, by decide +kernel, by decide +kernel⟩
theorem ok__law_begin {f : Addr} {fd : FuncData} (F : Fun K "_law_begin" "_law_begin" s__law_begin f fd) (T : Tx K mg) : FnOk P w K mg base (L2.CX P w) 1 f fd ["_law_script"] (spBegin0 K) := by
  refine F.okX sc__law_begin (fun vs H Q E h => ?_) (fun cdv A outer s H vs Q E hr h => ?_)
  · obtain ⟨a, ns, rfl, _⟩ := h
    rfl
  · refine ⟨_, pss_one (ps_ret (pe_disp (pps_cons pe_str (pe_callTy call_list_of (by rfl) T.b_list (by decide +kernel) (pa_cons (pe_slice sl_list (pv 0) po_none (po_some pe_int)) pa_nil)) (pps_cons pe_str pe_int (pps_cons pe_str pe_int pps_nil))) (by rfl) (by rfl) (fun z => by cases z) (by decide))), ?_⟩
    obtain ⟨a, ns, rfl, hS, hl, k⟩ := h
    intro p hp
    have hS1 : SqL K (upd H p (.dK [])) a (ns.map V.int) := by
      rcases hS with (h | ⟨o, h⟩) | h
      · exact .inl (.inl (by rw [upd_ne (ne_of_none h hp)]; exact h))
      · exact .inl (.inr ⟨o, by rw [upd_ne (ne_of_none h hp)]; exact h⟩)
      · exact .inr h
    have hcut : cutV (ns.map V.int) none (some 63) = ns.map V.int := by
      refine cutV_all ⟨rfl, ?_⟩
      rw [List.length_map]
      have := HT.sIx_nat ns.length ns.length 63
      rw [show ((63 : Nat) : Int) = 63 from rfl] at this
      rw [this]
      omega
    refine ⟨_, rfl, _, rfl, _, _, rfl, hS1, fun q hq => ?_⟩
    have npq : p ≠ q := ne_of_none upd_same hq
    refine ⟨_, _, rfl, .inl (SqL.of upd_same), fun ca hca => ?_⟩
    have npc : p ≠ ca := ne_of_none (by rw [upd_ne npq]; exact upd_same) hca
    have nqc : q ≠ ca := ne_of_none upd_same hca
    refine ⟨by rw [upd_ne npc, upd_ne npq]; exact upd_same, penKvs ca 0 0, rfl, (by show 3 ≤ 15; decide), ?_⟩
    have em : mergeK [] (penKvs ca 0 0) = penKvs ca 0 0 := by
      show putK (putK (putK [] (.inr "cells" : Key) (.ref ca)) (.inr "begun" : Key) (.int 0)) (.inr "left" : Key) (.int 0) = _
      have e1 : putK [] (.inr "cells" : Key) (.ref ca) = [((.inr "cells" : Key), .ref ca)] := rfl
      have e2 : putK [((.inr "cells" : Key), V.ref ca)] (.inr "begun" : Key) (.int 0) = [((.inr "cells" : Key), .ref ca), ((.inr "begun" : Key), .int 0)] := putK_new _ (by rw [valV_neg k_cb]; rfl)
      have e3 : putK [((.inr "cells" : Key), V.ref ca), ((.inr "begun" : Key), .int 0)] (.inr "left" : Key) (.int 0) = penKvs ca 0 0 := putK_new _ (by rw [valV_neg k_cl, valV_neg k_bl]; rfl)
      rw [e1, e2, e3]
    rw [em]
    refine k p ca _ hp ?_ npc upd_same (by rw [upd_ne npc.symm, upd_same, hcut]) fun b o e => ?_
    · rw [upd_ne nqc.symm, upd_ne npc.symm] at hca
      exact hca
    · have n1 := ne_of_none e hp
      rw [upd_ne n1]
      have e1 : (upd H p (.dK [])) b = some o := by rw [upd_ne n1]; exact e
      have n2 := ne_of_none e1 hq
      have e2 : (upd (upd H p (.dK [])) q (.lst (cutV (ns.map V.int) none (some 63)))) b = some o := by rw [upd_ne n2]; exact e1
      rw [upd_ne (ne_of_none e2 hca)]
      exact e2
abbrev s__law_draw : Stmt := top 12
theorem sc__law_draw : FnScope ["_law_pen", "_law_span", "_law_digit", "_law_at", "_law_cell", "_law_n"] ["_law_pen", "_law_span"] (defScope s__law_draw) := ⟨rfl, rfl, rfl, by decide +kernel, rfl, by decide +kernel, by decide +kernel⟩
theorem ok__law_draw {f : Addr} {fd : FuncData} (F : Fun K "_law_draw" "_law_draw" s__law_draw f fd) (T : Tx K mg) : FnOk P w K mg base (L2.CX P w) 1 f fd ["_law_pen", "_law_span"] spDraw0 := by
  refine F.okX sc__law_draw (fun vs H Q E h => ?_) (fun cdv A outer s H vs Q E hr h => ?_)
  · obtain ⟨p, ca, n, b, l, ns, rfl, _⟩ := h
    rfl
  · have hu := u1 hr
    have nd := sc__law_draw.nd
    have getL : ∀ {X : Cx} {x : Str} {p1 p2 p3 : Pos} {j : Nat} (hu : X.A.units + 1 < cLine) (hN : X.N[(0 : Nat)]? = some (Str.ofString "_law_pen")) (hv : Vis X.env.scope (Str.ofString "_law_pen")), PE X (.Subscript (.Name (Str.ofString "_law_pen") p1) (.Constant (.str x) j p2) p3) (tDGet (tVar 0) (tC (.str x))) :=
      fun hu hN hv => pe_dget hu (pe_var hN hv) pe_str (fun _ _ => rfl)
    refine ⟨_, pss_cons (ps_if (pt_cmpR op_gt (getL hu rfl (Or.inl rfl)) pe_int (nomark _))
        (pss_cons (ps_set (i := 2) nd rfl (Or.inl rfl) (pe_op op_mod (pe_callTy call_int1 (by rfl) T.b_int PyProof.Rows.boot_int (pa_cons (getL hu rfl (Or.inl rfl)) pa_nil)) (pv 1)))
        (pss_cons (ps_dput hu (pv 0) pe_str (pe_op op_fdiv (getL hu rfl (Or.inl rfl)) (pv 1)) rfl)
        (pss_one (ps_ret (pv 2))))) pss_nil)
      (pss_cons (ps_set (i := 3) nd rfl (Or.inl rfl) (getL hu rfl (Or.inl rfl)))
      (pss_cons (ps_dput hu (pv 0) pe_str (pe_op op_add (pv 3) pe_int) rfl)
      (pss_cons (ps_set (i := 4) nd rfl (Or.inl rfl) (pe_op op_add (pe_op op_mul pe_int (pv 3)) pe_int))
      (pss_cons (ps_if (pt_cmpR (op_neD hr.units) (getL hu rfl (Or.inl rfl)) (pe_lst pa_nil) (nomark _))
        (pss_one (ps_set (i := 4) nd rfl (Or.inl rfl) (pe_ix ix_list (getL hu rfl (Or.inl rfl)) (pe_op op_mod (pe_callTy call_int1 (by rfl) T.b_int PyProof.Rows.boot_int (pa_cons (pv 3) pa_nil)) (pe_callB call_len_seq (by rfl) T.b_len boot_len (pa_cons (getL hu rfl (Or.inl rfl)) pa_nil))) (fun _ _ => rfl)))) pss_nil)
      (pss_cons (ps_if (PW.pt (pw_and (pt_cmpR op_lt (pv 3) (pe_callB call_len_seq (by rfl) T.b_len boot_len (pa_cons (getL hu rfl (Or.inl rfl)) pa_nil)) (nomark _))
          (pw_and1 (pt_cmpR op_ge (pe_callB call_abs (by rfl) T.b_abs (by decide +kernel) (pa_cons (pv 4) pa_nil)) (pe_op op_pow pe_int pe_int) (nomark _)))))
        (pss_cons (ps_dput hu (pv 0) pe_str (pe_op op_fdiv (pe_op op_sub (pe_callB call_abs (by rfl) T.b_abs (by decide +kernel) (pa_cons (pv 4) pa_nil)) (pe_op op_pow pe_int pe_int)) (pv 1)) rfl)
        (pss_one (ps_ret (pe_op op_mod (pe_callTy call_int1 (by rfl) T.b_int PyProof.Rows.boot_int (pa_cons (pe_op op_sub (pe_callB call_abs (by rfl) T.b_abs (by decide +kernel) (pa_cons (pv 4) pa_nil)) (pe_op op_pow pe_int pe_int)) pa_nil)) (pv 1))))) pss_nil)
      (pss_cons (ps_set (i := 5) nd rfl (Or.inl rfl) (pe_op op_add (pe_op op_mul (pe_op op_mod (pe_callTy call_int1 (by rfl) T.b_int PyProof.Rows.boot_int (pa_cons (pv 4) pa_nil)) pe_int) pe_int) (pe_op op_mul (pe_op op_mul pe_int (pv 3)) (pv 3))))
      (pss_cons (ps_set (i := 5) nd rfl (Or.inl rfl) (pe_op op_mod (pe_callTy call_int1 (by rfl) T.b_int PyProof.Rows.boot_int (pa_cons (pe_op op_add (pe_op op_add (pv 5) (pe_op op_mul pe_int (pv 3))) pe_int) pa_nil)) pe_int))
      (pss_cons (ps_set (i := 5) nd rfl (Or.inl rfl) (pe_op op_mod (pe_callTy call_int1 (by rfl) T.b_int PyProof.Rows.boot_int (pa_cons (pe_op op_add (pe_op op_add (pe_op op_add (pe_op op_mul (pv 5) (pv 5)) (pe_op op_mul pe_int (pv 5))) (pe_op op_mul pe_int (pv 3))) pe_int) pa_nil)) pe_int))
      (pss_cons (ps_set (i := 5) nd rfl (Or.inl rfl) (pe_op op_mod (pe_callTy call_int1 (by rfl) T.b_int PyProof.Rows.boot_int (pa_cons (pe_op op_add (pe_op op_add (pe_op op_mul (pv 5) (pv 5)) (pe_op op_mul pe_int (pv 5))) (pv 3)) pa_nil)) pe_int))
      (pss_one (ps_ret (pe_op op_mod (pe_callTy call_int1 (by rfl) T.b_int PyProof.Rows.boot_int (pa_cons (pe_op op_fdiv (pe_op op_mod (pe_callTy call_int1 (by rfl) T.b_int PyProof.Rows.boot_int (pa_cons (pe_op op_mul (pv 5) (pe_op op_add (pv 5) pe_int)) pa_nil)) pe_int) pe_int) pa_nil)) (pv 1))))))))))))), ?_⟩
    obtain ⟨p, ca, n, b, l, ns, rfl, hn0, hn1, hp, hca, hns, hb0, hb1, hl0, k⟩ := h
    refine ⟨_, rfl, _, _, rfl, pen_left hp, _, _, rfl, rfl, _, rfl, ?_⟩
    have npc : ca ≠ p := fun z => by rw [z, hp] at hca; cases hca
    refine ite2 (fun c0 => ?_) (fun c0 => ?_)
    · refine ⟨_, rfl, _, _, rfl, pen_left hp, .inl ⟨_, rfl, _, rfl, _, _, rfl, rfl, hn0, ?_⟩⟩
      refine ⟨_, rfl, _, _, rfl, pen_left hp, _, rfl, _, _, rfl, rfl, ⟨hn0, hn1⟩, _, rfl, _, _, rfl, pen_left_put _ hp, _, rfl, ?_⟩
      exact k _ b _ _ (fmod_nn hn0).1 (fmod_nn hn0).2 (Int.le_refl _) (by omega) (Int.ediv_nonneg hl0 (by omega)) upd_same fun a o h1 h2 => by rw [upd_ne h2]; exact h1
    · refine ⟨_, rfl, _, _, rfl, pen_begun hp, ?_⟩
      refine ⟨_, rfl, _, _, rfl, rfl, _, rfl, _, _, rfl, pen_begun_put _ hp, ?_⟩
      have hp1 : (upd H p (.dK (penKvs ca (b + 1) l))) p = some (.dK (penKvs ca (b + 1) l)) := upd_same
      have hc1 : (upd H p (.dK (penKvs ca (b + 1) l))) ca = some (.lst (ns.map V.int)) := by rw [upd_ne npc]; exact hca
      have fr1 : ∀ a o, H a = some o → a ≠ p → (upd H p (.dK (penKvs ca (b + 1) l))) a = some o := fun a o h1 h2 => by rw [upd_ne h2]; exact h1
      generalize upd H p (.dK (penKvs ca (b + 1) l)) = H1 at hp1 hc1 fr1
      refine ⟨_, rfl, _, _, rfl, rfl, .inl (by decide), _, _, rfl, rfl, ?_⟩
      refine ⟨_, rfl, _, _, rfl, pen_cells hp1, Nat.zero_le _, fun q hq => ?_⟩
      have hp2 : (upd H1 q (.lst [])) p = some (.dK (penKvs ca (b + 1) l)) := by rw [upd_ne (ne_of_none hp1 hq)]; exact hp1
      have hc2 : (upd H1 q (.lst [])) ca = some (.lst (ns.map V.int)) := by rw [upd_ne (ne_of_none hc1 hq)]; exact hc1
      have fr2 : ∀ a o, H a = some o → a ≠ p → (upd H1 q (.lst [])) a = some o := fun a o h1 h2 => by rw [upd_ne (ne_of_none (fr1 a o h1 h2) hq)]; exact fr1 a o h1 h2
      have hq2 : (upd H1 q (.lst [])) q = some (.lst []) := upd_same
      generalize upd H1 q (.lst []) = H2 at hp2 hc2 fr2 hq2
      refine ⟨.list (ns.map PyData.int), .list [], dp_ints hc2, .lst (SqL.of hq2) .nil, shaped_ints ns, rfl, _, rfl, ?_⟩
      have two : ∀ {A B : Prop}, (ns = [] → B) → (ns ≠ [] → A) → if (!(PyData.list (ns.map PyData.int)).eqv (PyData.list [])) = true then A else B := by
        intro A B h1 h2
        cases ns with
        | nil => exact h1 rfl
        | cons x r => exact h2 (List.cons_ne_nil _ _)
      have hlen : (ns.map V.int).length = ns.length := List.length_map ..
      refine two (fun hne => ?_) (fun hne => ?_)
      case' refine_2 =>
        have hpos : 0 < ns.length := List.length_pos_iff.mpr hne
        have hb' : (0 : Int) < ((ns.map V.int).length : Nat) := by rw [hlen]; omega
        obtain ⟨j, hj, hjl⟩ : ∃ j : Nat, b % (((ns.map V.int).length : Nat) : Int) = (j : Int) ∧ j < ns.length := by
          have h1 := fmod_nn (a := b) hb'
          refine ⟨(b % (((ns.map V.int).length : Nat) : Int)).toNat, (Int.toNat_of_nonneg h1.1).symm, ?_⟩
          have h2 := h1.2
          rw [hlen] at h2 ⊢
          omega
        refine ⟨_, rfl, _, _, rfl, pen_cells hp2, _, rfl, .inl ⟨_, rfl, _, rfl, _, _, rfl, pen_cells hp2, _, _, rfl, .inl (SqL.of hc2), _, _, rfl, rfl, hb', _, _, _, V.int (ns[j]), rfl, rfl, SqL.of hc2, by rw [hj]; exact atI_nat (by simp [hjl]), ?_⟩⟩
        generalize ns[j] = cell
      case' refine_1 =>
        refine (?_ : L2.tNext _ _ _)
        show L2.tSeq _ _ _ [some (V.ref p), some (V.int n), none, some (V.int b), some (V.int (101 * b + 47)), none] H2
        generalize 101 * b + 47 = cell
      case' refine_2 =>
        show L2.tSeq _ _ _ [some (V.ref p), some (V.int n), none, some (V.int b), some (V.int cell), none] H2
      all_goals
        refine ⟨_, rfl, _, rfl, _, _, rfl, pen_cells hp2, _, _, rfl, .inl (SqL.of hc2), _, _, rfl, rfl, _, rfl, ?_⟩
        have tail : ∀ {A : Prop}, (∀ n1 : Int, 0 ≤ n1 → n1 < n → A) → A := fun h => h 0 (Int.le_refl _) hn0
        have last : ∀ (a m : Int), 0 < m → 0 ≤ a % m ∧ a % m < m := fun a m hm => fmod_nn hm
        have pw : CPow 10 18 := ⟨by decide, by decide, by decide⟩
        refine ite2 (fun c1 => ?_) (fun c1 => ?_)
        · refine ⟨_, rfl, _, rfl, _, _, rfl, rfl, pw, _, _, rfl, rfl, _, rfl, ?_⟩
          refine ite2 (fun c2 => ?_) (fun c2 => ?_)
          · refine ⟨_, rfl, _, rfl, _, _, rfl, rfl, pw, _, _, rfl, rfl, _, rfl, _, _, rfl, rfl, ⟨hn0, hn1⟩, _, rfl, _, _, rfl, pen_left_put _ hp2, ?_⟩
            refine ⟨_, rfl, _, rfl, _, _, rfl, rfl, pw, _, _, rfl, rfl, .inl ⟨_, rfl, _, rfl, _, _, rfl, rfl, hn0, ?_⟩⟩
            have c3 : (10 : Int) ^ (18 : Int).toNat ≤ (if cell < 0 then -cell else cell) := of_decide_eq_true c2
            refine k _ (b + 1) _ _ (last _ _ hn0).1 (last _ _ hn0).2 (by omega) (Int.le_refl _) (Int.ediv_nonneg (by omega) (by omega)) upd_same fun a o h1 h2 => by rw [upd_ne h2]; exact fr2 a o h1 h2
          · refine ⟨_, rfl, .inl ⟨_, rfl, _, _, rfl, rfl, (by show (0 : Int) < _; decide), _, _, rfl, rfl, .inr ⟨by decide, by decide⟩, _, rfl, _, _, rfl, rfl, .inl ⟨by decide, by decide⟩, _, rfl, _, _, rfl, rfl, .inr ⟨by omega, by omega⟩, _, _, rfl, rfl, ?_⟩⟩
            generalize (cell % 2147483423 * 48611 + 29501 * b * b) = n1
            refine ⟨_, rfl, _, rfl, _, _, rfl, rfl, .inl ⟨by decide, by decide⟩, _, _, rfl, rfl, _, _, rfl, rfl, .inl ⟨_, rfl, _, _, rfl, rfl, (by show (0 : Int) < _; decide), ?_⟩⟩
            have b2 := last (n1 + 811 * b + 53) 2147483399 (by decide)
            generalize (n1 + 811 * b + 53) % 2147483399 = n2 at b2
            refine ⟨_, rfl, _, rfl, _, _, rfl, rfl, .inl ⟨by omega, by omega⟩, _, rfl, _, _, rfl, rfl, .inl ⟨by decide, by decide⟩, _, _, rfl, rfl, _, rfl, _, _, rfl, rfl, .inl ⟨by decide, by decide⟩, _, _, rfl, rfl, _, _, rfl, rfl, .inl ⟨_, rfl, _, _, rfl, rfl, (by show (0 : Int) < _; decide), ?_⟩⟩
            have b3 := last (n2 * n2 + 37813 * n2 + 71 * b + 23) 2147483353 (by decide)
            generalize (n2 * n2 + 37813 * n2 + 71 * b + 23) % 2147483353 = n3 at b3
            refine ⟨_, rfl, _, rfl, _, _, rfl, rfl, .inl ⟨by omega, by omega⟩, _, rfl, _, _, rfl, rfl, .inl ⟨by decide, by decide⟩, _, _, rfl, rfl, _, rfl, _, _, rfl, rfl, .inl ⟨_, rfl, _, _, rfl, rfl, (by show (0 : Int) < _; decide), ?_⟩⟩
            have b4 := last (n3 * n3 + 31181 * n3 + b) 2147483323 (by decide)
            generalize (n3 * n3 + 31181 * n3 + b) % 2147483323 = n4 at b4
            refine ⟨_, rfl, _, rfl, _, _, rfl, rfl, _, _, rfl, rfl, .inl ⟨by omega, by omega⟩, .inl ⟨_, rfl, _, _, rfl, rfl, (by show (0 : Int) < _; decide), _, _, rfl, rfl, ⟨by decide, by decide⟩, .inl ⟨_, rfl, _, rfl, _, _, rfl, rfl, hn0, ?_⟩⟩⟩
            exact k _ (b + 1) _ _ (last _ _ hn0).1 (last _ _ hn0).2 (by omega) (Int.le_refl _) hl0 hp2 fr2
        · refine ⟨_, rfl, .inl ⟨_, rfl, _, _, rfl, rfl, (by show (0 : Int) < _; decide), _, _, rfl, rfl, .inr ⟨by decide, by decide⟩, _, rfl, _, _, rfl, rfl, .inl ⟨by decide, by decide⟩, _, rfl, _, _, rfl, rfl, .inr ⟨by omega, by omega⟩, _, _, rfl, rfl, ?_⟩⟩
          generalize (cell % 2147483423 * 48611 + 29501 * b * b) = n1
          refine ⟨_, rfl, _, rfl, _, _, rfl, rfl, .inl ⟨by decide, by decide⟩, _, _, rfl, rfl, _, _, rfl, rfl, .inl ⟨_, rfl, _, _, rfl, rfl, (by show (0 : Int) < _; decide), ?_⟩⟩
          have b2 := last (n1 + 811 * b + 53) 2147483399 (by decide)
          generalize (n1 + 811 * b + 53) % 2147483399 = n2 at b2
          refine ⟨_, rfl, _, rfl, _, _, rfl, rfl, .inl ⟨by omega, by omega⟩, _, rfl, _, _, rfl, rfl, .inl ⟨by decide, by decide⟩, _, _, rfl, rfl, _, rfl, _, _, rfl, rfl, .inl ⟨by decide, by decide⟩, _, _, rfl, rfl, _, _, rfl, rfl, .inl ⟨_, rfl, _, _, rfl, rfl, (by show (0 : Int) < _; decide), ?_⟩⟩
          have b3 := last (n2 * n2 + 37813 * n2 + 71 * b + 23) 2147483353 (by decide)
          generalize (n2 * n2 + 37813 * n2 + 71 * b + 23) % 2147483353 = n3 at b3
          refine ⟨_, rfl, _, rfl, _, _, rfl, rfl, .inl ⟨by omega, by omega⟩, _, rfl, _, _, rfl, rfl, .inl ⟨by decide, by decide⟩, _, _, rfl, rfl, _, rfl, _, _, rfl, rfl, .inl ⟨_, rfl, _, _, rfl, rfl, (by show (0 : Int) < _; decide), ?_⟩⟩
          have b4 := last (n3 * n3 + 31181 * n3 + b) 2147483323 (by decide)
          generalize (n3 * n3 + 31181 * n3 + b) % 2147483323 = n4 at b4
          refine ⟨_, rfl, _, rfl, _, _, rfl, rfl, _, _, rfl, rfl, .inl ⟨by omega, by omega⟩, .inl ⟨_, rfl, _, _, rfl, rfl, (by show (0 : Int) < _; decide), _, _, rfl, rfl, ⟨by decide, by decide⟩, .inl ⟨_, rfl, _, rfl, _, _, rfl, rfl, hn0, ?_⟩⟩⟩
          exact k _ (b + 1) _ _ (last _ _ hn0).1 (last _ _ hn0).2 (by omega) (Int.le_refl _) hl0 hp2 fr2
theorem fn__law_draw {f : Addr} {fd : FuncData} (F : Fun K "_law_draw" "_law_draw" s__law_draw f fd) (hmg : mg "_law_draw" = some (.ref f)) (b : Binds K fd ["_law_pen", "_law_span"] []) (T : Tx K mg) : FnD P w K mg base 1 "_law_draw" ["_law_pen", "_law_span"] sp__law_draw :=
  .raw (ok__law_draw F T) hmg F.kp b fun _ => draw_of
abbrev s_is_name : Stmt := top 7
abbrev N_is_name : List Str := ["value", "sign"]
theorem sc_is_name : FnScope N_is_name ["value"] (defScope s_is_name) := ⟨rfl, rfl, rfl, by decide +kernel, rfl, by decide +kernel, by decide +kernel⟩
theorem fn_is_name {f : Addr} {fd : FuncData} (F : Fun K "is_name" "is_name" s_is_name f fd) (hmg : mg "is_name" = some (.ref f)) (b : Binds K fd ["value"] []) (T : Tx K mg) : FnD P w K mg base 1 "is_name" ["value"] sp_is_name := by
  refine fnD (k := 0) F hmg b sc_is_name (fun _ _ _ _ _ h => by obtain ⟨_, rfl, _⟩ := h; rfl) ?_
  rintro _ q W ⟨cdv, A, outer, s, H, E, rfl⟩ tk hr hp
  have nd := sc_is_name.nd
  exact ⟨m_is_name, (dss_cons (ds_if (dt_bool (dw_or (dt_not (dt_val (de_isi rfl rfl T.b_isinstance (de_var (i := 0)) rfl T.b_str bb_str kits_str))) (dw_or (dt_not (dt_chain od_le od_le de_int (de_callB (cd_len rfl) rfl T.b_len boot_len (da_cons (de_var (i := 0)) da_nil)) (de_gl T.g_MOST_SIGNS rfl rfl))) (dw_or1 (dt_cmp (od_notIn rfl (u65 hr)) (de_sub rfl (u1 hr) (de_var (i := 0)) de_int) (de_gl T.g_LETTERS rfl rfl)))))) (dss_one (ds_ret de_bl)) dss_nil)
  (dss_one (ds_ret (de_callB (cd_all rfl) rfl T.b_all bb_all (da_cons (de_lc (own := [("sign", 1)]) rfl nd (di_any rfl (de_var (i := 0))) (blkOk_by (own := [("sign", 1)]) (N := N_is_name) (sc := defScope s_is_name) (by decide +kernel)) (gw_name (i := 1) (by decide)) (fun _ _ _ _ _ => pg_name (i := 1) nd rfl (Or.inl rfl)) (fun _ _ _ _ _ => dts_nil) (fun _ _ _ _ _ => (de_cmp (od_in rfl (u65 hr)) (de_var (i := 1)) (de_gl T.g_SIGNS rfl rfl)))) da_nil))))), rd_is_name⟩
abbrev s_depth_within : Stmt := top 8
abbrev N_depth_within : List Str := ["value", "most", "one", "other"]
theorem sc_depth_within : FnScope N_depth_within ["value", "most"] (defScope s_depth_within) := ⟨rfl, rfl, rfl, by decide +kernel, rfl, by decide +kernel, by decide +kernel⟩
theorem fnn_depth_within {f : Addr} {fd : FuncData} (F : Fun K "depth_within" "depth_within" s_depth_within f fd) (hmg : mg "depth_within" = some (.ref f)) (b : Binds K fd ["value", "most"] []) (T : Tx K mg) (F_is_name : FnD P w K mg base 1 "is_name" ["value"] sp_is_name) : ∀ n, FnD P w K mg base (2 + n) "depth_within" ["value", "most"] (spn_depth_within n)
  | 0 => FnD.none F hmg b sc_depth_within fun _ _ _ _ _ h => by obtain ⟨_, _, h0, _⟩ := h; exact Nat.not_lt_zero _ h0
  | n + 1 => by
    have Fself := fnn_depth_within F hmg b T F_is_name n
    refine fnD (k := 2 + n) F hmg b sc_depth_within (fun _ _ _ _ _ h => by obtain ⟨_, rfl, _⟩ := h; rfl) ?_
    rintro _ q W ⟨cdv, A, outer, s, H, E, rfl⟩ tk hr hp
    have nd := sc_depth_within.nd
    exact ⟨m_depth_within (spn_depth_within n), (dss_cons (ds_if (dt_bool (dw_or (dt_not (dt_val (de_isi rfl rfl T.b_isinstance (de_var (i := 0)) rfl T.b_tuple bb_tuple kits_tuple))) (dw_or1 (dt_cmp (od_notIn rfl (u65 hr)) (de_callB (cd_len rfl) rfl T.b_len boot_len (da_cons (de_var (i := 0)) da_nil)) (de_tup (da_cons de_int (da_cons de_int da_nil))))))) (dss_one (ds_ret de_non)) dss_nil)
  (dss_cons (ds_if (dt_cmp (od_eq rfl hr.units) (de_callB (cd_len rfl) rfl T.b_len boot_len (da_cons (de_var (i := 0)) da_nil)) de_int) (dss_one (ds_ret (de_if (dt_bool (dw_and (dt_cmp (od_in rfl (u65 hr)) (de_sub rfl (u1 hr) (de_var (i := 0)) de_int) (de_gl T.g_LEAF_WORDS rfl rfl)) (dw_and1 (dt_val (de_call (F_is_name.mono (by omega)) tk hr rfl (da_cons (de_sub rfl (u1 hr) (de_var (i := 0)) de_int) da_nil)))))) de_int de_non))) dss_nil)
  (dss_cons (ds_if (dt_bool (dw_or (dt_cmp (od_notIn rfl (u65 hr)) (de_sub rfl (u1 hr) (de_var (i := 0)) de_int) (de_gl T.g_HALVED_WORDS rfl rfl)) (dw_or1 (dt_cmp (od_eq rfl hr.units) (de_var (i := 1)) de_int)))) (dss_one (ds_ret de_non)) dss_nil)
  (dss_cons (ds_set (i := 2) nd rfl (Or.inl rfl) (de_call Fself tk hr rfl (da_cons (de_sub rfl (u1 hr) (de_var (i := 0)) de_int) (da_cons (de_op od_sub (de_var (i := 1)) de_int) da_nil))))
  (dss_cons (ds_set (i := 3) nd rfl (Or.inl rfl) (de_if (dt_cmp od_notN (de_var (i := 2)) de_non) (de_call Fself tk hr rfl (da_cons (de_sub rfl (u1 hr) (de_var (i := 0)) de_int) (da_cons (de_op od_sub (de_var (i := 1)) de_int) da_nil))) de_non))
  (dss_one (ds_ret (de_if (dt_cmp od_isN (de_var (i := 3)) de_non) de_non (de_op (od_add rfl) (de_callB (cd_max rfl) rfl T.b_max bb_max (da_cons (de_var (i := 2)) (da_cons (de_var (i := 3)) da_nil))) de_int))))))))), rd_depth_within n⟩
theorem fn_depth_within {f : Addr} {fd : FuncData} (F : Fun K "depth_within" "depth_within" s_depth_within f fd) (hmg : mg "depth_within" = some (.ref f)) (b : Binds K fd ["value", "most"] []) (T : Tx K mg) (F_is_name : FnD P w K mg base 1 "is_name" ["value"] sp_is_name) : FnD P w K mg base 16 "depth_within" ["value", "most"] sp_depth_within := fnn_depth_within F hmg b T F_is_name 14
abbrev s_is_form : Stmt := top 9
abbrev N_is_form : List Str := ["value"]
theorem sc_is_form : FnScope N_is_form ["value"] (defScope s_is_form) := ⟨rfl, rfl, rfl, by decide +kernel, rfl, by decide +kernel, by decide +kernel⟩
theorem fn_is_form {f : Addr} {fd : FuncData} (F : Fun K "is_form" "is_form" s_is_form f fd) (hmg : mg "is_form" = some (.ref f)) (b : Binds K fd ["value"] []) (T : Tx K mg) (F_depth_within : FnD P w K mg base 16 "depth_within" ["value", "most"] sp_depth_within) : FnD P w K mg base 17 "is_form" ["value"] sp_is_form := by
  refine fnD (k := 16) F hmg b sc_is_form (fun _ _ _ _ _ h => by obtain ⟨_, rfl, _⟩ := h; rfl) ?_
  rintro _ q W ⟨cdv, A, outer, s, H, E, rfl⟩ tk hr hp
  have nd := sc_is_form.nd
  exact ⟨m_is_form, (dss_one (ds_ret (de_cmp od_notN (de_call (F_depth_within.mono (by omega)) tk hr rfl (da_cons (de_var (i := 0)) (da_cons (de_gl T.g_MOST_DEPTH rfl rfl) da_nil))) de_non))), rd_is_form⟩
abbrev s__law_pick : Stmt := top 13
abbrev N__law_pick : List Str := ["_law_pen", "_law_some"]
theorem sc__law_pick : FnScope N__law_pick ["_law_pen", "_law_some"] (defScope s__law_pick) := ⟨rfl, rfl, rfl, by decide +kernel, rfl, by decide +kernel, by decide +kernel⟩
theorem fn__law_pick {f : Addr} {fd : FuncData} (F : Fun K "_law_pick" "_law_pick" s__law_pick f fd) (hmg : mg "_law_pick" = some (.ref f)) (b : Binds K fd ["_law_pen", "_law_some"] []) (T : Tx K mg) (F__law_draw : FnD P w K mg base 1 "_law_draw" ["_law_pen", "_law_span"] sp__law_draw) : FnD P w K mg base 2 "_law_pick" ["_law_pen", "_law_some"] sp__law_pick := by
  refine fnD (k := 1) F hmg b sc__law_pick (fun _ _ _ _ _ h => by obtain ⟨_, rfl, _⟩ := h; rfl) ?_
  rintro _ q W ⟨cdv, A, outer, s, H, E, rfl⟩ tk hr hp
  have nd := sc__law_pick.nd
  exact ⟨m__law_pick, (dss_one (ds_ret (de_sub rfl (u1 hr) (de_var (i := 1)) (de_call (F__law_draw.mono (by omega)) tk hr rfl (da_cons (de_var (i := 0)) (da_cons (de_callB (cd_len rfl) rfl T.b_len boot_len (da_cons (de_var (i := 1)) da_nil)) da_nil)))))), rd__law_pick⟩
abbrev s__law_depth : Stmt := top 14
abbrev N__law_depth : List Str := ["_law_form"]
theorem sc__law_depth : FnScope N__law_depth ["_law_form"] (defScope s__law_depth) := ⟨rfl, rfl, rfl, by decide +kernel, rfl, by decide +kernel, by decide +kernel⟩
theorem fnn__law_depth {f : Addr} {fd : FuncData} (F : Fun K "_law_depth" "_law_depth" s__law_depth f fd) (hmg : mg "_law_depth" = some (.ref f)) (b : Binds K fd ["_law_form"] []) (T : Tx K mg) : ∀ n, FnD P w K mg base (1 + n) "_law_depth" ["_law_form"] (spn__law_depth n)
  | 0 => FnD.none F hmg b sc__law_depth fun _ _ _ _ _ h => by obtain ⟨_, _, h0, _⟩ := h; exact Nat.not_lt_zero _ h0
  | n + 1 => by
    have Fself := fnn__law_depth F hmg b T n
    refine fnD (k := 1 + n) F hmg b sc__law_depth (fun _ _ _ _ _ h => by obtain ⟨_, rfl, _⟩ := h; rfl) ?_
    rintro _ q W ⟨cdv, A, outer, s, H, E, rfl⟩ tk hr hp
    have nd := sc__law_depth.nd
    exact ⟨m__law_depth (spn__law_depth n), (dss_one (ds_ret (de_if (dt_cmp (od_eq rfl hr.units) (de_callB (cd_len rfl) rfl T.b_len boot_len (da_cons (de_var (i := 0)) da_nil)) de_int) de_int (de_op (od_add rfl) de_int (de_callB (cd_max rfl) rfl T.b_max bb_max (da_cons (de_lst (da_cons (de_call Fself tk hr rfl (da_cons (de_sub rfl (u1 hr) (de_var (i := 0)) de_int) da_nil)) (da_cons (de_call Fself tk hr rfl (da_cons (de_sub rfl (u1 hr) (de_var (i := 0)) de_int) da_nil)) da_nil))) da_nil)))))), rd__law_depth n⟩
theorem fn__law_depth {f : Addr} {fd : FuncData} (F : Fun K "_law_depth" "_law_depth" s__law_depth f fd) (hmg : mg "_law_depth" = some (.ref f)) (b : Binds K fd ["_law_form"] []) (T : Tx K mg) : FnD P w K mg base 15 "_law_depth" ["_law_form"] sp__law_depth := fnn__law_depth F hmg b T 14
abbrev s__law_name : Stmt := top 15
abbrev N__law_name : List Str := ["_law_pen", "_law_letters", "_law_many", "_law_rest", "_law_k"]
theorem sc__law_name : FnScope N__law_name ["_law_pen"] (defScope s__law_name) := ⟨rfl, rfl, rfl, by decide +kernel, rfl, by decide +kernel, by decide +kernel⟩
theorem fn__law_name {f : Addr} {fd : FuncData} (F : Fun K "_law_name" "_law_name" s__law_name f fd) (hmg : mg "_law_name" = some (.ref f)) (b : Binds K fd ["_law_pen"] []) (T : Tx K mg) (F__law_pick : FnD P w K mg base 2 "_law_pick" ["_law_pen", "_law_some"] sp__law_pick) : FnD P w K mg base 3 "_law_name" ["_law_pen"] sp__law_name := by
  refine fnD (k := 2) F hmg b sc__law_name (fun _ _ _ _ _ h => by obtain ⟨_, rfl, _⟩ := h; rfl) ?_
  rintro _ q W ⟨cdv, A, outer, s, H, E, rfl⟩ tk hr hp
  have nd := sc__law_name.nd
  exact ⟨m__law_name, (dss_cons (ds_set (i := 1) nd rfl (Or.inr rfl) de_str)
  (dss_cons (ds_set (i := 2) nd rfl (Or.inl rfl) (de_call (F__law_pick.mono (by omega)) tk hr rfl (da_cons (de_var (i := 0)) (da_cons (de_lst (da_cons de_int (da_cons de_int (da_cons de_int (da_cons de_int (da_cons de_int (da_cons de_int (da_cons de_int da_nil)))))))) da_nil))))
  (dss_cons (ds_setLc (i := 3) (own := [("_law_k", 4)]) rfl nd rfl rfl (sw_true rfl rfl rfl (by decide +kernel)) (di_rng1 rfl T.b_range (da_cons (de_var (i := 2)) da_nil)) (blkOk_by (own := [("_law_k", 4)]) (N := N__law_name) (sc := defScope s__law_name) (by decide +kernel)) (gw_name (i := 4) (by decide)) (fun _ _ _ _ _ => pg_name (i := 4) nd rfl (Or.inl rfl)) (fun _ _ _ _ _ => dts_nil) (fun _ _ _ _ _ => (de_call (F__law_pick.mono (by omega)) takes0 hr rfl (da_cons (de_var (i := 0)) (da_cons (de_op (od_add rfl) (de_var (i := 1)) de_str) da_nil)))))
  (dss_one (ds_ret (de_join rfl de_str (de_op (od_add rfl) (de_lst (da_cons (de_call (F__law_pick.mono (by omega)) tk hr rfl (da_cons (de_var (i := 0)) (da_cons (de_var (i := 1)) da_nil))) da_nil)) (de_var (i := 3))))))))), rd__law_name⟩
abbrev s__law_names : Stmt := top 16
abbrev N__law_names : List Str := ["_law_pen", "_law_most", "_law_k"]
theorem sc__law_names : FnScope N__law_names ["_law_pen", "_law_most"] (defScope s__law_names) := ⟨rfl, rfl, rfl, by decide +kernel, rfl, by decide +kernel, by decide +kernel⟩
theorem fn__law_names {f : Addr} {fd : FuncData} (F : Fun K "_law_names" "_law_names" s__law_names f fd) (hmg : mg "_law_names" = some (.ref f)) (b : Binds K fd ["_law_pen", "_law_most"] []) (T : Tx K mg) (F__law_draw : FnD P w K mg base 1 "_law_draw" ["_law_pen", "_law_span"] sp__law_draw) (F__law_name : FnD P w K mg base 3 "_law_name" ["_law_pen"] sp__law_name) : FnD P w K mg base 4 "_law_names" ["_law_pen", "_law_most"] sp__law_names := by
  refine fnD (k := 3) F hmg b sc__law_names (fun _ _ _ _ _ h => by obtain ⟨_, rfl, _⟩ := h; rfl) ?_
  rintro _ q W ⟨cdv, A, outer, s, H, E, rfl⟩ tk hr hp
  have nd := sc__law_names.nd
  exact ⟨m__law_names, (dss_one (ds_ret (de_lc (own := [("_law_k", 2)]) rfl nd (di_rng1 rfl T.b_range (da_cons (de_op (od_add rfl) de_int (de_call (F__law_draw.mono (by omega)) tk hr rfl (da_cons (de_var (i := 0)) (da_cons (de_var (i := 1)) da_nil)))) da_nil)) (blkOk_by (own := [("_law_k", 2)]) (N := N__law_names) (sc := defScope s__law_names) (by decide +kernel)) (gw_name (i := 2) (by decide)) (fun _ _ _ _ _ => pg_name (i := 2) nd rfl (Or.inl rfl)) (fun _ _ _ _ _ => dts_nil) (fun _ _ _ _ _ => (de_call (F__law_name.mono (by omega)) takes0 hr rfl (da_cons (de_var (i := 0)) da_nil)))))), rd__law_names⟩
abbrev s__law_shape : Stmt := top 17
abbrev N__law_shape : List Str := ["_law_pen", "_law_names_here", "_law_many", "_law_tall", "_law_room", "_law_low", "_law_high", "_law_way", "_law_left", "_law_word", "_law_one"]
theorem sc__law_shape : FnScope N__law_shape ["_law_pen", "_law_names_here", "_law_many", "_law_tall"] (defScope s__law_shape) := ⟨rfl, rfl, rfl, by decide +kernel, rfl, by decide +kernel, by decide +kernel⟩
theorem fnn__law_shape {f : Addr} {fd : FuncData} (F : Fun K "_law_shape" "_law_shape" s__law_shape f fd) (hmg : mg "_law_shape" = some (.ref f)) (b : Binds K fd ["_law_pen", "_law_names_here", "_law_many", "_law_tall"] []) (T : Tx K mg) (F__law_draw : FnD P w K mg base 1 "_law_draw" ["_law_pen", "_law_span"] sp__law_draw) (F__law_pick : FnD P w K mg base 2 "_law_pick" ["_law_pen", "_law_some"] sp__law_pick) : ∀ n, FnD P w K mg base (3 + n) "_law_shape" ["_law_pen", "_law_names_here", "_law_many", "_law_tall"] (spn__law_shape n)
  | 0 => FnD.none F hmg b sc__law_shape fun _ _ _ _ _ h => by obtain ⟨_, _, h0, _⟩ := h; exact Nat.not_lt_zero _ h0
  | n + 1 => by
    have Fself := fnn__law_shape F hmg b T F__law_draw F__law_pick n
    refine fnD (k := 3 + n) F hmg b sc__law_shape (fun _ _ _ _ _ h => by obtain ⟨_, rfl, _⟩ := h; rfl) ?_
    rintro _ q W ⟨cdv, A, outer, s, H, E, rfl⟩ tk hr hp
    have nd := sc__law_shape.nd
    exact ⟨m__law_shape (spn__law_shape n), (dss_cons (ds_if (dt_cmp (od_eq rfl hr.units) (de_var (i := 2)) de_int) (dss_one (ds_ret (de_tup (da_cons (de_call (F__law_pick.mono (by omega)) tk hr rfl (da_cons (de_var (i := 0)) (da_cons (de_lst (da_cons de_str (da_cons de_str da_nil))) da_nil))) (da_cons (de_call (F__law_pick.mono (by omega)) tk hr rfl (da_cons (de_var (i := 0)) (da_cons (de_var (i := 1)) da_nil))) da_nil))))) dss_nil)
  (dss_cons (ds_set (i := 4) nd rfl (Or.inl rfl) (de_op od_shl de_int (de_op od_sub (de_var (i := 3)) de_int)))
  (dss_cons (ds_par (i := 5) (j := 6) rfl nd rfl rfl (by decide) rfl rfl (da_cons (de_callB (cd_max rfl) rfl T.b_max bb_max (da_cons de_int (da_cons (de_op od_sub (de_var (i := 2)) (de_var (i := 4))) da_nil))) (da_cons (de_callB (cd_min rfl) rfl T.b_min bb_min (da_cons (de_op od_sub (de_var (i := 2)) de_int) (da_cons (de_var (i := 4)) da_nil))) da_nil)))
  (dss_cons (ds_set (i := 7) nd rfl (Or.inl rfl) (de_call (F__law_draw.mono (by omega)) tk hr rfl (da_cons (de_var (i := 0)) (da_cons de_int da_nil))))
  (dss_cons (ds_set (i := 8) nd rfl (Or.inl rfl) (de_op (od_add rfl) (de_var (i := 5)) (de_call (F__law_draw.mono (by omega)) tk hr rfl (da_cons (de_var (i := 0)) (da_cons (de_op (od_add rfl) (de_op od_sub (de_var (i := 6)) (de_var (i := 5))) de_int) da_nil)))))
  (dss_cons (ds_if (dt_cmp od_lt (de_var (i := 7)) de_int) (dss_one (ds_set (i := 8) nd rfl (Or.inl rfl) (de_if (dt_cmp (od_eq rfl hr.units) (de_var (i := 7)) de_int) (de_var (i := 5)) (de_var (i := 6))))) dss_nil)
  (dss_cons (ds_set (i := 9) nd rfl (Or.inl rfl) (de_call (F__law_pick.mono (by omega)) tk hr rfl (da_cons (de_var (i := 0)) (da_cons (de_lst (da_cons de_str (da_cons de_str (da_cons de_str (da_cons de_str da_nil))))) da_nil))))
  (dss_cons (ds_set (i := 10) nd rfl (Or.inl rfl) (de_call Fself tk hr rfl (da_cons (de_var (i := 0)) (da_cons (de_var (i := 1)) (da_cons (de_var (i := 8)) (da_cons (de_op od_sub (de_var (i := 3)) de_int) da_nil))))))
  (dss_one (ds_ret (de_tup (da_cons (de_var (i := 9)) (da_cons (de_var (i := 10)) (da_cons (de_call Fself tk hr rfl (da_cons (de_var (i := 0)) (da_cons (de_var (i := 1)) (da_cons (de_op od_sub (de_var (i := 2)) (de_var (i := 8))) (da_cons (de_op od_sub (de_var (i := 3)) de_int) da_nil))))) da_nil)))))))))))))), rd__law_shape n⟩
theorem fn__law_shape {f : Addr} {fd : FuncData} (F : Fun K "_law_shape" "_law_shape" s__law_shape f fd) (hmg : mg "_law_shape" = some (.ref f)) (b : Binds K fd ["_law_pen", "_law_names_here", "_law_many", "_law_tall"] []) (T : Tx K mg) (F__law_draw : FnD P w K mg base 1 "_law_draw" ["_law_pen", "_law_span"] sp__law_draw) (F__law_pick : FnD P w K mg base 2 "_law_pick" ["_law_pen", "_law_some"] sp__law_pick) : FnD P w K mg base 16 "_law_shape" ["_law_pen", "_law_names_here", "_law_many", "_law_tall"] sp__law_shape := fnn__law_shape F hmg b T F__law_draw F__law_pick 13
abbrev s__law_is_name : Stmt := top 18
abbrev N__law_is_name : List Str := ["_law_value", "_law_sign"]
theorem sc__law_is_name : FnScope N__law_is_name ["_law_value"] (defScope s__law_is_name) := ⟨rfl, rfl, rfl, by decide +kernel, rfl, by decide +kernel, by decide +kernel⟩
theorem fn__law_is_name {f : Addr} {fd : FuncData} (F : Fun K "_law_is_name" "_law_is_name" s__law_is_name f fd) (hmg : mg "_law_is_name" = some (.ref f)) (b : Binds K fd ["_law_value"] []) (T : Tx K mg) : FnD P w K mg base 1 "_law_is_name" ["_law_value"] sp__law_is_name := by
  refine fnD (k := 0) F hmg b sc__law_is_name (fun _ _ _ _ _ h => by obtain ⟨_, rfl, _⟩ := h; rfl) ?_
  rintro _ q W ⟨cdv, A, outer, s, H, E, rfl⟩ tk hr hp
  have nd := sc__law_is_name.nd
  exact ⟨m__law_is_name, (dss_cons (ds_if (dt_bool (dw_or (dt_not (dt_val (de_isi rfl rfl T.b_isinstance (de_var (i := 0)) rfl T.b_str bb_str kits_str))) (dw_or (dt_not (dt_chain od_le od_le de_int (de_callB (cd_len rfl) rfl T.b_len boot_len (da_cons (de_var (i := 0)) da_nil)) de_int)) (dw_or1 (dt_cmp (od_notIn rfl (u65 hr)) (de_sub rfl (u1 hr) (de_var (i := 0)) de_int) de_str))))) (dss_one (ds_ret de_bl)) dss_nil)
  (dss_one (ds_ret (de_callB (cd_all rfl) rfl T.b_all bb_all (da_cons (de_lc (own := [("_law_sign", 1)]) rfl nd (di_any rfl (de_var (i := 0))) (blkOk_by (own := [("_law_sign", 1)]) (N := N__law_is_name) (sc := defScope s__law_is_name) (by decide +kernel)) (gw_name (i := 1) (by decide)) (fun _ _ _ _ _ => pg_name (i := 1) nd rfl (Or.inl rfl)) (fun _ _ _ _ _ => dts_nil) (fun _ _ _ _ _ => (de_cmp (od_in rfl (u65 hr)) (de_var (i := 1)) de_str))) da_nil))))), rd__law_is_name⟩
abbrev s__law_is_form : Stmt := top 19
abbrev N__law_is_form : List Str := ["_law_value", "_law_tall"]
theorem sc__law_is_form : FnScope N__law_is_form ["_law_value", "_law_tall"] (defScope s__law_is_form) := ⟨rfl, rfl, rfl, by decide +kernel, rfl, by decide +kernel, by decide +kernel⟩
theorem fnn__law_is_form {f : Addr} {fd : FuncData} (F : Fun K "_law_is_form" "_law_is_form" s__law_is_form f fd) (hmg : mg "_law_is_form" = some (.ref f)) (b : Binds K fd ["_law_value", "_law_tall"] []) (T : Tx K mg) (F__law_is_name : FnD P w K mg base 1 "_law_is_name" ["_law_value"] sp__law_is_name) : ∀ n, FnD P w K mg base (2 + n) "_law_is_form" ["_law_value", "_law_tall"] (spn__law_is_form n)
  | 0 => FnD.none F hmg b sc__law_is_form fun _ _ _ _ _ h => by obtain ⟨_, _, h0, _⟩ := h; exact Nat.not_lt_zero _ h0
  | n + 1 => by
    have Fself := fnn__law_is_form F hmg b T F__law_is_name n
    refine fnD (k := 2 + n) F hmg b sc__law_is_form (fun _ _ _ _ _ h => by obtain ⟨_, rfl, _⟩ := h; rfl) ?_
    rintro _ q W ⟨cdv, A, outer, s, H, E, rfl⟩ tk hr hp
    have nd := sc__law_is_form.nd
    exact ⟨m__law_is_form (spn__law_is_form n), (dss_cons (ds_if (dt_bool (dw_or (dt_not (dt_val (de_isi rfl rfl T.b_isinstance (de_var (i := 0)) rfl T.b_tuple bb_tuple kits_tuple))) (dw_or1 (dt_cmp (od_notIn rfl (u65 hr)) (de_callB (cd_len rfl) rfl T.b_len boot_len (da_cons (de_var (i := 0)) da_nil)) (de_lst (da_cons de_int (da_cons de_int da_nil))))))) (dss_one (ds_ret de_bl)) dss_nil)
  (dss_cons (ds_if (dt_cmp (od_eq rfl hr.units) (de_callB (cd_len rfl) rfl T.b_len boot_len (da_cons (de_var (i := 0)) da_nil)) de_int) (dss_one (ds_ret (de_and (de_cmp (od_in rfl (u65 hr)) (de_sub rfl (u1 hr) (de_var (i := 0)) de_int) (de_lst (da_cons de_str (da_cons de_str da_nil)))) (de_one (de_call (F__law_is_name.mono (by omega)) tk hr rfl (da_cons (de_sub rfl (u1 hr) (de_var (i := 0)) de_int) da_nil)))))) dss_nil)
  (dss_cons (ds_if (dt_bool (dw_or (dt_cmp (od_eq rfl hr.units) (de_var (i := 1)) de_int) (dw_or1 (dt_cmp (od_notIn rfl (u65 hr)) (de_sub rfl (u1 hr) (de_var (i := 0)) de_int) (de_lst (da_cons de_str (da_cons de_str (da_cons de_str (da_cons de_str da_nil))))))))) (dss_one (ds_ret de_bl)) dss_nil)
  (dss_one (ds_ret (de_and (de_call Fself tk hr rfl (da_cons (de_sub rfl (u1 hr) (de_var (i := 0)) de_int) (da_cons (de_op od_sub (de_var (i := 1)) de_int) da_nil))) (de_one (de_call Fself tk hr rfl (da_cons (de_sub rfl (u1 hr) (de_var (i := 0)) de_int) (da_cons (de_op od_sub (de_var (i := 1)) de_int) da_nil)))))))))), rd__law_is_form n⟩
theorem fn__law_is_form {f : Addr} {fd : FuncData} (F : Fun K "_law_is_form" "_law_is_form" s__law_is_form f fd) (hmg : mg "_law_is_form" = some (.ref f)) (b : Binds K fd ["_law_value", "_law_tall"] []) (T : Tx K mg) (F__law_is_name : FnD P w K mg base 1 "_law_is_name" ["_law_value"] sp__law_is_name) : FnD P w K mg base 16 "_law_is_form" ["_law_value", "_law_tall"] sp__law_is_form := fnn__law_is_form F hmg b T F__law_is_name 14
abbrev s__law_bent_name : Stmt := top 20
abbrev N__law_bent_name : List Str := ["_law_pen", "_law_name_here", "_law_at", "_law_sign", "_law_way"]
theorem sc__law_bent_name : FnScope N__law_bent_name ["_law_pen", "_law_name_here"] (defScope s__law_bent_name) := ⟨rfl, rfl, rfl, by decide +kernel, rfl, by decide +kernel, by decide +kernel⟩
theorem fn__law_bent_name {f : Addr} {fd : FuncData} (F : Fun K "_law_bent_name" "_law_bent_name" s__law_bent_name f fd) (hmg : mg "_law_bent_name" = some (.ref f)) (b : Binds K fd ["_law_pen", "_law_name_here"] []) (T : Tx K mg) (F__law_draw : FnD P w K mg base 1 "_law_draw" ["_law_pen", "_law_span"] sp__law_draw) (F__law_pick : FnD P w K mg base 2 "_law_pick" ["_law_pen", "_law_some"] sp__law_pick) : FnD P w K mg base 3 "_law_bent_name" ["_law_pen", "_law_name_here"] sp__law_bent_name := by
  refine fnD (k := 2) F hmg b sc__law_bent_name (fun _ _ _ _ _ h => by obtain ⟨_, rfl, _⟩ := h; rfl) ?_
  rintro _ q W ⟨cdv, A, outer, s, H, E, rfl⟩ tk hr hp
  have nd := sc__law_bent_name.nd
  exact ⟨m__law_bent_name, (dss_cons (ds_par (i := 2) (j := 3) rfl nd rfl rfl (by decide) rfl rfl (da_cons (de_call (F__law_draw.mono (by omega)) tk hr rfl (da_cons (de_var (i := 0)) (da_cons (de_callB (cd_len rfl) rfl T.b_len boot_len (da_cons (de_var (i := 1)) da_nil)) da_nil))) (da_cons (de_call (F__law_pick.mono (by omega)) tk hr rfl (da_cons (de_var (i := 0)) (da_cons de_str da_nil))) da_nil)))
  (dss_cons (ds_set (i := 4) nd rfl (Or.inl rfl) (de_call (F__law_draw.mono (by omega)) tk hr rfl (da_cons (de_var (i := 0)) (da_cons de_int da_nil))))
  (dss_cons (ds_if (dt_cmp od_lt (de_var (i := 4)) de_int) (dss_one (ds_ret (de_op (od_add rfl) (de_op (od_add rfl) (de_sl rfl (de_var (i := 1)) do_none (do_some (de_var (i := 2)))) (de_var (i := 3))) (de_sl rfl (de_var (i := 1)) (do_some (de_op (od_add rfl) (de_var (i := 2)) de_int)) do_none)))) dss_nil)
  (dss_cons (ds_if (dt_cmp od_lt (de_var (i := 4)) de_int) (dss_one (ds_ret (de_op (od_add rfl) (de_op (od_add rfl) (de_sl rfl (de_var (i := 1)) do_none (do_some (de_var (i := 2)))) (de_var (i := 3))) (de_sl rfl (de_var (i := 1)) (do_some (de_var (i := 2))) do_none)))) dss_nil)
  (dss_cons (ds_if (dt_cmp od_lt (de_var (i := 4)) de_int) (dss_one (ds_ret (de_sl rfl (de_op (od_add rfl) (de_var (i := 1)) de_str) do_none (do_some (de_op (od_add rfl) de_int (de_call (F__law_draw.mono (by omega)) tk hr rfl (da_cons (de_var (i := 0)) (da_cons de_int da_nil)))))))) dss_nil)
  (dss_one (ds_ret (de_sub rfl (u1 hr) (de_lst (da_cons (de_op (od_add rfl) (de_sl rfl (de_var (i := 1)) do_none (do_some (de_var (i := 2)))) (de_sl rfl (de_var (i := 1)) (do_some (de_op (od_add rfl) (de_var (i := 2)) de_int)) do_none)) (da_cons (de_op (od_add rfl) (de_var (i := 1)) (de_var (i := 3))) (da_cons (de_upper (de_var (i := 1))) (da_cons (de_lst (da_cons (de_var (i := 1)) da_nil)) (da_cons de_int da_nil)))))) (de_op od_sub (de_var (i := 4)) de_int))))))))), rd__law_bent_name⟩
abbrev s__law_bent : Stmt := top 21
abbrev N__law_bent : List Str := ["_law_pen", "_law_form", "_law_at", "_law_rest", "_law_odd"]
theorem sc__law_bent : FnScope N__law_bent ["_law_pen", "_law_form"] (defScope s__law_bent) := ⟨rfl, rfl, rfl, by decide +kernel, rfl, by decide +kernel, by decide +kernel⟩
theorem fnn__law_bent {f : Addr} {fd : FuncData} (F : Fun K "_law_bent" "_law_bent" s__law_bent f fd) (hmg : mg "_law_bent" = some (.ref f)) (b : Binds K fd ["_law_pen", "_law_form"] []) (T : Tx K mg) (F__law_bent_name : FnD P w K mg base 3 "_law_bent_name" ["_law_pen", "_law_name_here"] sp__law_bent_name) (F__law_draw : FnD P w K mg base 1 "_law_draw" ["_law_pen", "_law_span"] sp__law_draw) (F__law_pick : FnD P w K mg base 2 "_law_pick" ["_law_pen", "_law_some"] sp__law_pick) : ∀ n, FnD P w K mg base (4 + n) "_law_bent" ["_law_pen", "_law_form"] (spn__law_bent n)
  | 0 => FnD.none F hmg b sc__law_bent fun _ _ _ _ _ h => by obtain ⟨_, _, h0, _⟩ := h; exact Nat.not_lt_zero _ h0
  | n + 1 => by
    have Fself := fnn__law_bent F hmg b T F__law_bent_name F__law_draw F__law_pick n
    refine fnD (k := 4 + n) F hmg b sc__law_bent (fun _ _ _ _ _ h => by obtain ⟨_, rfl, _⟩ := h; rfl) ?_
    rintro _ q W ⟨cdv, A, outer, s, H, E, rfl⟩ tk hr hp
    have nd := sc__law_bent.nd
    exact ⟨m__law_bent (spn__law_bent n), (dss_cons (ds_if (dt_bool (dw_and (dt_cmp (od_eq rfl hr.units) (de_callB (cd_len rfl) rfl T.b_len boot_len (da_cons (de_var (i := 1)) da_nil)) de_int) (dw_and1 (dt_cmp od_gt (de_call (F__law_draw.mono (by omega)) tk hr rfl (da_cons (de_var (i := 0)) (da_cons de_int da_nil))) de_int)))) (dss_cons (ds_set (i := 2) nd rfl (Or.inl rfl) (de_op (od_add rfl) de_int (de_call (F__law_draw.mono (by omega)) tk hr rfl (da_cons (de_var (i := 0)) (da_cons de_int da_nil)))))
  (dss_one (ds_ret (de_op (od_add rfl) (de_op (od_add rfl) (de_sl rfl (de_var (i := 1)) do_none (do_some (de_var (i := 2)))) (de_tup (da_cons (de_call Fself tk hr rfl (da_cons (de_var (i := 0)) (da_cons (de_sub rfl (u1 hr) (de_var (i := 1)) (de_var (i := 2))) da_nil))) da_nil))) (de_sl rfl (de_var (i := 1)) (do_some (de_op (od_add rfl) (de_var (i := 2)) de_int)) do_none))))) dss_nil)
  (dss_cons (ds_if (dt_bool (dw_and (dt_cmp (od_eq rfl hr.units) (de_callB (cd_len rfl) rfl T.b_len boot_len (da_cons (de_var (i := 1)) da_nil)) de_int) (dw_and1 (dt_cmp (od_eq rfl hr.units) (de_call (F__law_draw.mono (by omega)) tk hr rfl (da_cons (de_var (i := 0)) (da_cons de_int da_nil))) de_int)))) (dss_one (ds_ret (de_tup (da_cons (de_sub rfl (u1 hr) (de_var (i := 1)) de_int) (da_cons (de_call (F__law_bent_name.mono (by omega)) tk hr rfl (da_cons (de_var (i := 0)) (da_cons (de_sub rfl (u1 hr) (de_var (i := 1)) de_int) da_nil))) da_nil))))) dss_nil)
  (dss_cons (ds_set (i := 3) nd rfl (Or.inl rfl) (de_sl rfl (de_var (i := 1)) (do_some de_int) do_none))
  (dss_cons (ds_set (i := 4) nd rfl (Or.inl rfl) (de_lst (da_cons (de_callTy (cd_list rfl) rfl T.b_list bb_list (da_cons (de_var (i := 1)) da_nil)) (da_cons (de_op (od_add rfl) (de_var (i := 1)) (de_tup (da_cons (de_sub rfl (u1 hr) (de_var (i := 1)) (de_un ud_neg de_int)) da_nil))) (da_cons (de_sl rfl (de_var (i := 1)) do_none (do_some (de_un ud_neg de_int))) (da_cons (de_op (od_add rfl) (de_tup (da_cons (de_op (od_add rfl) (de_sub rfl (u1 hr) (de_var (i := 1)) de_int) de_str) da_nil)) (de_var (i := 3))) (da_cons (de_op (od_add rfl) (de_tup (da_cons de_int da_nil)) (de_var (i := 3))) (da_cons (de_sub rfl (u1 hr) (de_var (i := 1)) de_int) (da_cons de_non (da_cons de_bl (da_cons (de_tup da_nil) da_nil)))))))))))
  (dss_cons (ds_set (i := 4) nd rfl (Or.inl rfl) (de_op (od_add rfl) (de_var (i := 4)) (de_lst (da_cons (de_op (od_add rfl) (de_tup (da_cons de_str da_nil)) (de_var (i := 3))) (da_cons (de_op (od_add rfl) (de_tup (da_cons de_str da_nil)) (de_var (i := 3))) (da_cons (de_rev rfl (de_var (i := 1))) (da_cons (de_op (od_add rfl) (de_tup (da_cons (de_sub rfl (u1 hr) (de_var (i := 1)) de_int) (da_cons (de_lst (da_cons (de_sub rfl (u1 hr) (de_var (i := 1)) de_int) da_nil)) da_nil))) (de_sl rfl (de_var (i := 1)) (do_some de_int) do_none)) (da_cons (de_tup (da_cons (de_var (i := 1)) da_nil)) da_nil))))))))
  (dss_one (ds_ret (de_call (F__law_pick.mono (by omega)) tk hr rfl (da_cons (de_var (i := 0)) (da_cons (de_var (i := 4)) da_nil)))))))))), rd__law_bent n⟩
theorem fn__law_bent {f : Addr} {fd : FuncData} (F : Fun K "_law_bent" "_law_bent" s__law_bent f fd) (hmg : mg "_law_bent" = some (.ref f)) (b : Binds K fd ["_law_pen", "_law_form"] []) (T : Tx K mg) (F__law_bent_name : FnD P w K mg base 3 "_law_bent_name" ["_law_pen", "_law_name_here"] sp__law_bent_name) (F__law_draw : FnD P w K mg base 1 "_law_draw" ["_law_pen", "_law_span"] sp__law_draw) (F__law_pick : FnD P w K mg base 2 "_law_pick" ["_law_pen", "_law_some"] sp__law_pick) : FnD P w K mg base 17 "_law_bent" ["_law_pen", "_law_form"] sp__law_bent := fnn__law_bent F hmg b T F__law_bent_name F__law_draw F__law_pick 13
abbrev s__law_deeper : Stmt := top 22
abbrev N__law_deeper : List Str := ["_law_form", "_law_tall", "_law_k"]
theorem sc__law_deeper : FnScope N__law_deeper ["_law_form", "_law_tall"] (defScope s__law_deeper) := ⟨rfl, rfl, rfl, by decide +kernel, rfl, by decide +kernel, by decide +kernel⟩
theorem fn__law_deeper {f : Addr} {fd : FuncData} (F : Fun K "_law_deeper" "_law_deeper" s__law_deeper f fd) (hmg : mg "_law_deeper" = some (.ref f)) (b : Binds K fd ["_law_form", "_law_tall"] []) (T : Tx K mg) (F__law_depth : FnD P w K mg base 15 "_law_depth" ["_law_form"] sp__law_depth) : FnD P w K mg base 16 "_law_deeper" ["_law_form", "_law_tall"] sp__law_deeper := by
  refine fnD (k := 15) F hmg b sc__law_deeper (fun _ _ _ _ _ h => by obtain ⟨_, rfl, _⟩ := h; rfl) ?_
  rintro _ q W ⟨cdv, A, outer, s, H, E, rfl⟩ tk hr hp
  have nd := sc__law_deeper.nd
  exact ⟨m__law_deeper, (dss_cons (ds_for hp rfl (di_rng1 rfl T.b_range (da_cons (de_op od_sub (de_var (i := 1)) (de_call (F__law_depth.mono (by omega)) tk hr rfl (da_cons (de_var (i := 0)) da_nil))) da_nil)) (dg_name (i := 2) nd rfl (Or.inl rfl)) (dss_one (ds_set (i := 0) nd rfl (Or.inl rfl) (de_if (dt_cmp (od_eq rfl hr.units) (de_op od_mod (de_callTy cd_int rfl T.b_int PyProof.Rows.boot_int (da_cons (de_var (i := 2)) da_nil)) de_int) de_int) (de_tup (da_cons de_str (da_cons (de_var (i := 0)) (da_cons (de_tup (da_cons de_str (da_cons de_str da_nil))) da_nil)))) (de_tup (da_cons de_str (da_cons (de_tup (da_cons de_str (da_cons de_str da_nil))) (da_cons (de_var (i := 0)) da_nil))))))))
  (dss_one (ds_ret (de_var (i := 0))))), rd__law_deeper⟩
abbrev s__law_says : Stmt := top 23
abbrev N__law_says : List Str := ["_law_told", "_law_due"]
theorem sc__law_says : FnScope N__law_says ["_law_told", "_law_due"] (defScope s__law_says) := ⟨rfl, rfl, rfl, by decide +kernel, rfl, by decide +kernel, by decide +kernel⟩
theorem fn__law_says {f : Addr} {fd : FuncData} (F : Fun K "_law_says" "_law_says" s__law_says f fd) (hmg : mg "_law_says" = some (.ref f)) (b : Binds K fd ["_law_told", "_law_due"] []) (T : Tx K mg) : FnD P w K mg base 1 "_law_says" ["_law_told", "_law_due"] sp__law_says := by
  refine fnD (k := 0) F hmg b sc__law_says (fun _ _ _ _ _ h => by obtain ⟨_, rfl, _⟩ := h; rfl) ?_
  rintro _ q W ⟨cdv, A, outer, s, H, E, rfl⟩ tk hr hp
  have nd := sc__law_says.nd
  exact ⟨m__law_says, (dss_one (ds_ret (de_and (de_isi rfl rfl T.b_isinstance (de_var (i := 0)) rfl T.b_bool bb_bool kits_bool) (de_one (de_cmp (od_eq rfl hr.units) (de_var (i := 0)) (de_var (i := 1))))))), rd__law_says⟩
abbrev s__law_names_known : Stmt := top 24
abbrev N__law_names_known : List Str := ["_law_pen", "_law_name_here", "_law_odd", "_law_others", "_law_other"]
theorem sc__law_names_known : FnScope N__law_names_known ["_law_pen"] (defScope s__law_names_known) := ⟨rfl, rfl, rfl, by decide +kernel, rfl, by decide +kernel, by decide +kernel⟩
theorem fn__law_names_known {f : Addr} {fd : FuncData} (F : Fun K "_law_names_known" "_law_names_known" s__law_names_known f fd) (hmg : mg "_law_names_known" = some (.ref f)) (b : Binds K fd ["_law_pen"] []) (T : Tx K mg) (F__law_bent_name : FnD P w K mg base 3 "_law_bent_name" ["_law_pen", "_law_name_here"] sp__law_bent_name) (F__law_is_name : FnD P w K mg base 1 "_law_is_name" ["_law_value"] sp__law_is_name) (F__law_name : FnD P w K mg base 3 "_law_name" ["_law_pen"] sp__law_name) (F__law_says : FnD P w K mg base 1 "_law_says" ["_law_told", "_law_due"] sp__law_says) (F_is_name : FnD P w K mg base 1 "is_name" ["value"] sp_is_name) : FnD P w K mg base 4 "_law_names_known" ["_law_pen"] sp__law_names_known := by
  refine fnD (k := 3) F hmg b sc__law_names_known (fun _ _ _ _ _ h => by obtain ⟨_, rfl, _⟩ := h; rfl) ?_
  rintro _ q W ⟨cdv, A, outer, s, H, E, rfl⟩ tk hr hp
  have nd := sc__law_names_known.nd
  exact ⟨m__law_names_known, (dss_cons (ds_set (i := 1) nd rfl (Or.inl rfl) (de_call (F__law_name.mono (by omega)) tk hr rfl (da_cons (de_var (i := 0)) da_nil)))
  (dss_cons (ds_set (i := 2) nd rfl (Or.inl rfl) (de_call (F__law_bent_name.mono (by omega)) tk hr rfl (da_cons (de_var (i := 0)) (da_cons (de_var (i := 1)) da_nil))))
  (dss_cons (ds_if (dt_bool (dw_or (dt_not (dt_val (de_call (F__law_says.mono (by omega)) tk hr rfl (da_cons (de_call (F_is_name.mono (by omega)) tk hr rfl (da_cons (de_var (i := 1)) da_nil)) (da_cons de_bl da_nil))))) (dw_or1 (dt_not (dt_val (de_call (F__law_says.mono (by omega)) tk hr rfl (da_cons (de_call (F_is_name.mono (by omega)) tk hr rfl (da_cons (de_var (i := 2)) da_nil)) (da_cons (de_call (F__law_is_name.mono (by omega)) tk hr rfl (da_cons (de_var (i := 2)) da_nil)) da_nil)))))))) (dss_one (ds_ret de_bl)) dss_nil)
  (dss_cons (ds_set (i := 3) nd rfl (Or.inl rfl) (de_lst (da_cons de_non (da_cons de_bl (da_cons de_int (da_cons (de_tup da_nil) (da_cons (de_tup (da_cons (de_var (i := 1)) da_nil)) (da_cons (de_lst (da_cons (de_var (i := 1)) da_nil)) (da_cons (de_disp (.cons (de_var (i := 1)) de_int .nil)) (da_cons de_str (da_cons (de_op od_mul (de_var (i := 1)) de_int) (da_cons (de_op (od_add rfl) (de_sl rfl (de_var (i := 1)) do_none (do_some de_int)) de_str) da_nil))))))))))))
  (dss_one (ds_ret (de_callB (cd_all rfl) rfl T.b_all bb_all (da_cons (de_lc (own := [("_law_other", 4)]) rfl nd (di_any rfl (de_var (i := 3))) (blkOk_by (own := [("_law_other", 4)]) (N := N__law_names_known) (sc := defScope s__law_names_known) (by decide +kernel)) (gw_name (i := 4) (by decide)) (fun _ _ _ _ _ => pg_name (i := 4) nd rfl (Or.inl rfl)) (fun _ _ _ _ _ => dts_nil) (fun _ _ _ _ _ => (de_call (F__law_says.mono (by omega)) takes0 hr rfl (da_cons (de_call (F_is_name.mono (by omega)) takes0 hr rfl (da_cons (de_var (i := 4)) da_nil)) (da_cons de_bl da_nil))))) da_nil)))))))), rd__law_names_known⟩
abbrev s__law_forms_known : Stmt := top 25
abbrev N__law_forms_known : List Str := ["_law_pen", "_law_form", "_law_odd", "_law_tall", "_law_twice", "_law_other"]
theorem sc__law_forms_known : FnScope N__law_forms_known ["_law_pen"] (defScope s__law_forms_known) := ⟨rfl, rfl, rfl, by decide +kernel, rfl, by decide +kernel, by decide +kernel⟩
theorem fn__law_forms_known {f : Addr} {fd : FuncData} (F : Fun K "_law_forms_known" "_law_forms_known" s__law_forms_known f fd) (hmg : mg "_law_forms_known" = some (.ref f)) (b : Binds K fd ["_law_pen"] []) (T : Tx K mg) (F__law_bent : FnD P w K mg base 17 "_law_bent" ["_law_pen", "_law_form"] sp__law_bent) (F__law_deeper : FnD P w K mg base 16 "_law_deeper" ["_law_form", "_law_tall"] sp__law_deeper) (F__law_draw : FnD P w K mg base 1 "_law_draw" ["_law_pen", "_law_span"] sp__law_draw) (F__law_is_form : FnD P w K mg base 16 "_law_is_form" ["_law_value", "_law_tall"] sp__law_is_form) (F__law_names : FnD P w K mg base 4 "_law_names" ["_law_pen", "_law_most"] sp__law_names) (F__law_pick : FnD P w K mg base 2 "_law_pick" ["_law_pen", "_law_some"] sp__law_pick) (F__law_says : FnD P w K mg base 1 "_law_says" ["_law_told", "_law_due"] sp__law_says) (F__law_shape : FnD P w K mg base 16 "_law_shape" ["_law_pen", "_law_names_here", "_law_many", "_law_tall"] sp__law_shape) (F_is_form : FnD P w K mg base 17 "is_form" ["value"] sp_is_form) : FnD P w K mg base 18 "_law_forms_known" ["_law_pen"] sp__law_forms_known := by
  refine fnD (k := 17) F hmg b sc__law_forms_known (fun _ _ _ _ _ h => by obtain ⟨_, rfl, _⟩ := h; rfl) ?_
  rintro _ q W ⟨cdv, A, outer, s, H, E, rfl⟩ tk hr hp
  have nd := sc__law_forms_known.nd
  exact ⟨m__law_forms_known, (dss_cons (ds_set (i := 1) nd rfl (Or.inl rfl) (de_call (F__law_shape.mono (by omega)) tk hr rfl (da_cons (de_var (i := 0)) (da_cons (de_call (F__law_names.mono (by omega)) tk hr rfl (da_cons (de_var (i := 0)) (da_cons de_int da_nil))) (da_cons (de_op (od_add rfl) de_int (de_call (F__law_draw.mono (by omega)) tk hr rfl (da_cons (de_var (i := 0)) (da_cons de_int da_nil)))) (da_cons (de_call (F__law_pick.mono (by omega)) tk hr rfl (da_cons (de_var (i := 0)) (da_cons (de_lst (da_cons de_int (da_cons de_int da_nil))) da_nil))) da_nil))))))
  (dss_cons (ds_set (i := 2) nd rfl (Or.inl rfl) (de_call (F__law_bent.mono (by omega)) tk hr rfl (da_cons (de_var (i := 0)) (da_cons (de_var (i := 1)) da_nil))))
  (dss_cons (ds_if (dt_bool (dw_or (dt_not (dt_val (de_call (F__law_says.mono (by omega)) tk hr rfl (da_cons (de_call (F_is_form.mono (by omega)) tk hr rfl (da_cons (de_var (i := 1)) da_nil)) (da_cons de_bl da_nil))))) (dw_or1 (dt_not (dt_val (de_call (F__law_says.mono (by omega)) tk hr rfl (da_cons (de_call (F_is_form.mono (by omega)) tk hr rfl (da_cons (de_var (i := 2)) da_nil)) (da_cons (de_call (F__law_is_form.mono (by omega)) tk hr rfl (da_cons (de_var (i := 2)) (da_cons de_int da_nil))) da_nil)))))))) (dss_one (ds_ret de_bl)) dss_nil)
  (dss_cons (ds_if (dt_not (dt_val (de_call (F__law_says.mono (by omega)) tk hr rfl (da_cons (de_call (F_is_form.mono (by omega)) tk hr rfl (da_cons (de_call (F__law_deeper.mono (by omega)) tk hr rfl (da_cons (de_var (i := 1)) (da_cons de_int da_nil))) da_nil)) (da_cons de_bl da_nil))))) (dss_one (ds_ret de_bl)) dss_nil)
  (dss_cons (ds_for hp rfl (di_any rfl (de_lst (da_cons de_int (da_cons (de_op (od_add rfl) de_int (de_call (F__law_draw.mono (by omega)) tk hr rfl (da_cons (de_var (i := 0)) (da_cons de_int da_nil)))) (da_cons de_int da_nil))))) (dg_name (i := 3) nd rfl (Or.inl rfl)) (dss_one (ds_if (dt_not (dt_val (de_call (F__law_says.mono (by omega)) tk hr rfl (da_cons (de_call (F_is_form.mono (by omega)) tk hr rfl (da_cons (de_call (F__law_deeper.mono (by omega)) tk hr rfl (da_cons (de_var (i := 1)) (da_cons (de_var (i := 3)) da_nil))) da_nil)) (da_cons de_bl da_nil))))) (dss_one (ds_ret de_bl)) dss_nil)))
  (dss_cons (ds_set (i := 4) nd rfl (Or.inl rfl) (de_tup (da_cons de_str (da_cons (de_var (i := 2)) (da_cons (de_call (F__law_bent.mono (by omega)) tk hr rfl (da_cons (de_var (i := 0)) (da_cons (de_var (i := 1)) da_nil))) da_nil)))))
  (dss_cons (ds_if (dt_not (dt_val (de_call (F__law_says.mono (by omega)) tk hr rfl (da_cons (de_call (F_is_form.mono (by omega)) tk hr rfl (da_cons (de_var (i := 4)) da_nil)) (da_cons (de_call (F__law_is_form.mono (by omega)) tk hr rfl (da_cons (de_var (i := 4)) (da_cons de_int da_nil))) da_nil))))) (dss_one (ds_ret de_bl)) dss_nil)
  (dss_one (ds_ret (de_callB (cd_all rfl) rfl T.b_all bb_all (da_cons (de_lc (own := [("_law_other", 5)]) rfl nd (di_any rfl (de_lst (da_cons de_non (da_cons de_bl (da_cons de_int (da_cons de_str (da_cons (de_lst da_nil) (da_cons (de_tup da_nil) (da_cons (de_lst (da_cons (de_var (i := 1)) da_nil)) (da_cons de_dct0 (da_cons (de_callTy (cd_list rfl) rfl T.b_list bb_list (da_cons (de_var (i := 1)) da_nil)) da_nil))))))))))) (blkOk_by (own := [("_law_other", 5)]) (N := N__law_forms_known) (sc := defScope s__law_forms_known) (by decide +kernel)) (gw_name (i := 5) (by decide)) (fun _ _ _ _ _ => pg_name (i := 5) nd rfl (Or.inl rfl)) (fun _ _ _ _ _ => dts_nil) (fun _ _ _ _ _ => (de_call (F__law_says.mono (by omega)) takes0 hr rfl (da_cons (de_call (F_is_form.mono (by omega)) takes0 hr rfl (da_cons (de_var (i := 5)) da_nil)) (da_cons de_bl da_nil))))) da_nil))))))))))), rd__law_forms_known⟩
abbrev s_law : Stmt := top 26
abbrev N_law : List Str := ["_law_script", "_law_pen", "_law_k"]
theorem sc_law : FnScope N_law ["_law_script"] (defScope s_law) := ⟨rfl, rfl, rfl, by decide +kernel, rfl, by decide +kernel, by decide +kernel⟩
theorem ok_law {f fb : Addr} {fd fdb : FuncData} (F : Fun K "law" "law" s_law f fd) (FB : Fun K "_law_begin" "_law_begin" s__law_begin fb fdb) (mb : mg "_law_begin" = some (.ref fb)) (bb : Binds K fdb ["_law_script"] []) (T : Tx K mg) (F__law_forms_known : FnD P w K mg base 18 "_law_forms_known" ["_law_pen"] sp__law_forms_known) (F__law_names_known : FnD P w K mg base 4 "_law_names_known" ["_law_pen"] sp__law_names_known) : FnOk P w K mg base (L2.CX P w) 19 f fd ["_law_script"] (spLaw K) := by
  refine F.okX sc_law (fun vs H Q E h => ?_) (fun cdv A outer s H vs Q E hr h => ?_)
  · obtain ⟨a, ns, rfl, _⟩ := h
    rfl
  · have nd := sc_law.nd
    have tk : Takes (cxOf (L2.CX P w) P w K mg base N_law "law" (defScope s_law) f cdv A outer s H E) (fun cls d _ H => E cls d H) := takes_of rfl rfl rfl rfl
    have hp : PassesOwn (model (cxOf (L2.CX P w) P w K mg base N_law "law" (defScope s_law) f cdv A outer s H E).prog (cxOf (L2.CX P w) P w K mg base N_law "law" (defScope s_law) f cdv A outer s H E).w) (cxOf (L2.CX P w) P w K mg base N_law "law" (defScope s_law) f cdv A outer s H E).A (cxOf (L2.CX P w) P w K mg base N_law "law" (defScope s_law) f cdv A outer s H E).env (cxOf (L2.CX P w) P w K mg base N_law "law" (defScope s_law) f cdv A outer s H E).xe := passes_of rfl
    have rest : ∀ p, DSs (cxOf (L2.CX P w) P w K mg base N_law "law" (defScope s_law) f cdv A outer s H E) (Yp K p) (fun cls d _ H => E cls d H) (defBody s_law).tail m_law := fun p => (dss_one (ds_ret (de_callB (cd_all rfl) rfl T.b_all bb_all (da_cons (de_lc (own := [("_law_k", 2)]) rfl nd (di_rng1 rfl T.b_range (da_cons de_int da_nil)) (blkOk_by (own := [("_law_k", 2)]) (N := N_law) (sc := defScope s_law) (by decide +kernel)) (gw_name (i := 2) (by decide)) (fun _ _ _ _ _ => pg_name (i := 2) nd rfl (Or.inl rfl)) (fun _ _ _ _ _ => dts_nil) (fun _ _ _ _ _ => (de_and (de_call (F__law_names_known.mono (by omega)) takes0 hr rfl (da_cons (de_var (i := 1)) da_nil)) (de_one (de_call (F__law_forms_known.mono (by omega)) takes0 hr rfl (da_cons (de_var (i := 1)) da_nil)))))) da_nil))))
    refine ⟨_, pss_cons (ps_set (i := 1) nd rfl (Or.inr rfl) (pe_callS (ok__law_begin FB T) (hr.mono (by decide)) rfl mb FB.kp bb (fun σ => passAt tk σ) (pa_cons (pv 0) pa_nil))) (rest_pen rest), ?_⟩
    obtain ⟨a, ns, rfl, hS, hl, k⟩ := h
    refine ⟨_, rfl, a, ns, rfl, hS, hl, fun p ca H1 z1 z2 z3 z4 z5 z6 => ⟨p, ?_⟩⟩
    exact law_fin 1 z3 z4 z5 hl rd_law k
end
end DL
namespace DL
open PySem L2
theorem all_mk {P : Program} {w : World} {K : PySem.W.Frag} {h : Heap} {mg : Str → Option Value} {fa f0 f1 f2 f3 f4 f5 f6 f7 f8 f9 f10 f11 f12 f13 f14 f15 f16 f17 f18 : Addr} (X : K.In h) (G : h.Ns mainGlobals mg) (hfa : mg "law" = some (.ref fa))
    {od0 od1 od2 od3 od4 od5 od6 od7 od8 od9 od10 od11 od12 od13 od14 od15 od16 od17 od18 an0 an1 an2 an3 an4 an5 an6 an7 an8 an9 an10 an11 an12 an13 an14 an15 an16 an17 an18 : Option Addr} {sl0 sl1 sl2 sl3 sl4 sl5 sl6 sl7 sl8 sl9 sl10 sl11 sl12 sl13 sl14 sl15 sl16 sl17 sl18 : Array (Option Value)} {oc0 oc1 oc2 oc3 oc4 oc5 oc6 oc7 oc8 oc9 oc10 oc11 oc12 oc13 oc14 oc15 oc16 oc17 oc18 kV0 kV1 kV2 kV3 kV4 kV5 kV6 kV7 kV8 kV9 kV10 kV11 kV12 kV13 kV14 kV15 kV16 kV17 kV18 dc0 dc1 dc2 dc3 dc4 dc5 dc6 dc7 dc8 dc9 dc10 dc11 dc12 dc13 dc14 dc15 dc16 dc17 dc18 pm0 pm1 pm2 pm3 pm4 pm5 pm6 pm7 pm8 pm9 pm10 pm11 pm12 pm13 pm14 pm15 pm16 pm17 pm18 cd0 cd1 cd2 cd3 cd4 cd5 cd6 cd7 cd8 cd9 cd10 cd11 cd12 cd13 cd14 cd15 cd16 cd17 cd18 ct0 ct1 ct2 ct3 ct4 ct5 ct6 ct7 ct8 ct9 ct10 ct11 ct12 ct13 ct14 ct15 ct16 ct17 ct18 : Value}
    (a0 : PySem.W.nsIn K mainGlobals "is_name" = some (some (.ref f0)))
    (l0 : K.lookup f0 = some ⟨oc0, od0, .func (PySem.W.fnOf "is_name" "is_name" (defArgs s_is_name) (defBody s_is_name) (defScope s_is_name) .none kV0 dc0 pm0 an0 cd0 ct0), sl0⟩)
    (c0 : PySem.W.codeIn K cd0 "is_name" = true) (k0 : PySem.W.keepIn K (.ref f0) = true)
    (a1 : PySem.W.nsIn K mainGlobals "depth_within" = some (some (.ref f1)))
    (l1 : K.lookup f1 = some ⟨oc1, od1, .func (PySem.W.fnOf "depth_within" "depth_within" (defArgs s_depth_within) (defBody s_depth_within) (defScope s_depth_within) .none kV1 dc1 pm1 an1 cd1 ct1), sl1⟩)
    (c1 : PySem.W.codeIn K cd1 "depth_within" = true) (k1 : PySem.W.keepIn K (.ref f1) = true)
    (a2 : PySem.W.nsIn K mainGlobals "is_form" = some (some (.ref f2)))
    (l2 : K.lookup f2 = some ⟨oc2, od2, .func (PySem.W.fnOf "is_form" "is_form" (defArgs s_is_form) (defBody s_is_form) (defScope s_is_form) .none kV2 dc2 pm2 an2 cd2 ct2), sl2⟩)
    (c2 : PySem.W.codeIn K cd2 "is_form" = true) (k2 : PySem.W.keepIn K (.ref f2) = true)
    (a3 : PySem.W.nsIn K mainGlobals "_law_begin" = some (some (.ref f3)))
    (l3 : K.lookup f3 = some ⟨oc3, od3, .func (PySem.W.fnOf "_law_begin" "_law_begin" (defArgs s__law_begin) (defBody s__law_begin) (defScope s__law_begin) .none kV3 dc3 pm3 an3 cd3 ct3), sl3⟩)
    (c3 : PySem.W.codeIn K cd3 "_law_begin" = true) (k3 : PySem.W.keepIn K (.ref f3) = true)
    (a4 : PySem.W.nsIn K mainGlobals "_law_draw" = some (some (.ref f4)))
    (l4 : K.lookup f4 = some ⟨oc4, od4, .func (PySem.W.fnOf "_law_draw" "_law_draw" (defArgs s__law_draw) (defBody s__law_draw) (defScope s__law_draw) .none kV4 dc4 pm4 an4 cd4 ct4), sl4⟩)
    (c4 : PySem.W.codeIn K cd4 "_law_draw" = true) (k4 : PySem.W.keepIn K (.ref f4) = true)
    (a5 : PySem.W.nsIn K mainGlobals "_law_pick" = some (some (.ref f5)))
    (l5 : K.lookup f5 = some ⟨oc5, od5, .func (PySem.W.fnOf "_law_pick" "_law_pick" (defArgs s__law_pick) (defBody s__law_pick) (defScope s__law_pick) .none kV5 dc5 pm5 an5 cd5 ct5), sl5⟩)
    (c5 : PySem.W.codeIn K cd5 "_law_pick" = true) (k5 : PySem.W.keepIn K (.ref f5) = true)
    (a6 : PySem.W.nsIn K mainGlobals "_law_depth" = some (some (.ref f6)))
    (l6 : K.lookup f6 = some ⟨oc6, od6, .func (PySem.W.fnOf "_law_depth" "_law_depth" (defArgs s__law_depth) (defBody s__law_depth) (defScope s__law_depth) .none kV6 dc6 pm6 an6 cd6 ct6), sl6⟩)
    (c6 : PySem.W.codeIn K cd6 "_law_depth" = true) (k6 : PySem.W.keepIn K (.ref f6) = true)
    (a7 : PySem.W.nsIn K mainGlobals "_law_name" = some (some (.ref f7)))
    (l7 : K.lookup f7 = some ⟨oc7, od7, .func (PySem.W.fnOf "_law_name" "_law_name" (defArgs s__law_name) (defBody s__law_name) (defScope s__law_name) .none kV7 dc7 pm7 an7 cd7 ct7), sl7⟩)
    (c7 : PySem.W.codeIn K cd7 "_law_name" = true) (k7 : PySem.W.keepIn K (.ref f7) = true)
    (a8 : PySem.W.nsIn K mainGlobals "_law_names" = some (some (.ref f8)))
    (l8 : K.lookup f8 = some ⟨oc8, od8, .func (PySem.W.fnOf "_law_names" "_law_names" (defArgs s__law_names) (defBody s__law_names) (defScope s__law_names) .none kV8 dc8 pm8 an8 cd8 ct8), sl8⟩)
    (c8 : PySem.W.codeIn K cd8 "_law_names" = true) (k8 : PySem.W.keepIn K (.ref f8) = true)
    (a9 : PySem.W.nsIn K mainGlobals "_law_shape" = some (some (.ref f9)))
    (l9 : K.lookup f9 = some ⟨oc9, od9, .func (PySem.W.fnOf "_law_shape" "_law_shape" (defArgs s__law_shape) (defBody s__law_shape) (defScope s__law_shape) .none kV9 dc9 pm9 an9 cd9 ct9), sl9⟩)
    (c9 : PySem.W.codeIn K cd9 "_law_shape" = true) (k9 : PySem.W.keepIn K (.ref f9) = true)
    (a10 : PySem.W.nsIn K mainGlobals "_law_is_name" = some (some (.ref f10)))
    (l10 : K.lookup f10 = some ⟨oc10, od10, .func (PySem.W.fnOf "_law_is_name" "_law_is_name" (defArgs s__law_is_name) (defBody s__law_is_name) (defScope s__law_is_name) .none kV10 dc10 pm10 an10 cd10 ct10), sl10⟩)
    (c10 : PySem.W.codeIn K cd10 "_law_is_name" = true) (k10 : PySem.W.keepIn K (.ref f10) = true)
    (a11 : PySem.W.nsIn K mainGlobals "_law_is_form" = some (some (.ref f11)))
    (l11 : K.lookup f11 = some ⟨oc11, od11, .func (PySem.W.fnOf "_law_is_form" "_law_is_form" (defArgs s__law_is_form) (defBody s__law_is_form) (defScope s__law_is_form) .none kV11 dc11 pm11 an11 cd11 ct11), sl11⟩)
    (c11 : PySem.W.codeIn K cd11 "_law_is_form" = true) (k11 : PySem.W.keepIn K (.ref f11) = true)
    (a12 : PySem.W.nsIn K mainGlobals "_law_bent_name" = some (some (.ref f12)))
    (l12 : K.lookup f12 = some ⟨oc12, od12, .func (PySem.W.fnOf "_law_bent_name" "_law_bent_name" (defArgs s__law_bent_name) (defBody s__law_bent_name) (defScope s__law_bent_name) .none kV12 dc12 pm12 an12 cd12 ct12), sl12⟩)
    (c12 : PySem.W.codeIn K cd12 "_law_bent_name" = true) (k12 : PySem.W.keepIn K (.ref f12) = true)
    (a13 : PySem.W.nsIn K mainGlobals "_law_bent" = some (some (.ref f13)))
    (l13 : K.lookup f13 = some ⟨oc13, od13, .func (PySem.W.fnOf "_law_bent" "_law_bent" (defArgs s__law_bent) (defBody s__law_bent) (defScope s__law_bent) .none kV13 dc13 pm13 an13 cd13 ct13), sl13⟩)
    (c13 : PySem.W.codeIn K cd13 "_law_bent" = true) (k13 : PySem.W.keepIn K (.ref f13) = true)
    (a14 : PySem.W.nsIn K mainGlobals "_law_deeper" = some (some (.ref f14)))
    (l14 : K.lookup f14 = some ⟨oc14, od14, .func (PySem.W.fnOf "_law_deeper" "_law_deeper" (defArgs s__law_deeper) (defBody s__law_deeper) (defScope s__law_deeper) .none kV14 dc14 pm14 an14 cd14 ct14), sl14⟩)
    (c14 : PySem.W.codeIn K cd14 "_law_deeper" = true) (k14 : PySem.W.keepIn K (.ref f14) = true)
    (a15 : PySem.W.nsIn K mainGlobals "_law_says" = some (some (.ref f15)))
    (l15 : K.lookup f15 = some ⟨oc15, od15, .func (PySem.W.fnOf "_law_says" "_law_says" (defArgs s__law_says) (defBody s__law_says) (defScope s__law_says) .none kV15 dc15 pm15 an15 cd15 ct15), sl15⟩)
    (c15 : PySem.W.codeIn K cd15 "_law_says" = true) (k15 : PySem.W.keepIn K (.ref f15) = true)
    (a16 : PySem.W.nsIn K mainGlobals "_law_names_known" = some (some (.ref f16)))
    (l16 : K.lookup f16 = some ⟨oc16, od16, .func (PySem.W.fnOf "_law_names_known" "_law_names_known" (defArgs s__law_names_known) (defBody s__law_names_known) (defScope s__law_names_known) .none kV16 dc16 pm16 an16 cd16 ct16), sl16⟩)
    (c16 : PySem.W.codeIn K cd16 "_law_names_known" = true) (k16 : PySem.W.keepIn K (.ref f16) = true)
    (a17 : PySem.W.nsIn K mainGlobals "_law_forms_known" = some (some (.ref f17)))
    (l17 : K.lookup f17 = some ⟨oc17, od17, .func (PySem.W.fnOf "_law_forms_known" "_law_forms_known" (defArgs s__law_forms_known) (defBody s__law_forms_known) (defScope s__law_forms_known) .none kV17 dc17 pm17 an17 cd17 ct17), sl17⟩)
    (c17 : PySem.W.codeIn K cd17 "_law_forms_known" = true) (k17 : PySem.W.keepIn K (.ref f17) = true)
    (a18 : PySem.W.nsIn K mainGlobals "law" = some (some (.ref f18)))
    (l18 : K.lookup f18 = some ⟨oc18, od18, .func (PySem.W.fnOf "law" "law" (defArgs s_law) (defBody s_law) (defScope s_law) .none kV18 dc18 pm18 an18 cd18 ct18), sl18⟩)
    (c18 : PySem.W.codeIn K cd18 "law" = true) (k18 : PySem.W.keepIn K (.ref f18) = true)
    {t1 : Tok}
    {t2 : Tok}
    {t3 : Tok}
    {t4 : Tok}
    {q5 : Addr} {qo5 : Option Addr} {qn5 : Nat} {qs5 : Array (Option Value)} (h5 : K.lookup q5 = some ⟨.type "tuple", qo5, .seq #[(.str "both" t1), (.str "between" t2), (.str "offered" t3), (.str "chosen" t4)] qn5, qs5⟩)
    (g_HALVED_WORDS : PySem.W.nsIn K mainGlobals "HALVED_WORDS" = some (some (.ref q5)))
    {t6 : Tok}
    {t7 : Tok}
    {q8 : Addr} {qo8 : Option Addr} {qn8 : Nat} {qs8 : Array (Option Value)} (h8 : K.lookup q8 = some ⟨.type "tuple", qo8, .seq #[(.str "good" t6), (.str "counter" t7)] qn8, qs8⟩)
    (g_LEAF_WORDS : PySem.W.nsIn K mainGlobals "LEAF_WORDS" = some (some (.ref q8)))
    {t9 : Tok}
    (g_LETTERS : PySem.W.nsIn K mainGlobals "LETTERS" = some (some (.str "abcdefghijklmnopqrstuvwxyz" t9)))
    {t10 : Tok}
    (g_MOST_DEPTH : PySem.W.nsIn K mainGlobals "MOST_DEPTH" = some (some (.int 12 t10)))
    {t11 : Tok}
    (g_MOST_SIGNS : PySem.W.nsIn K mainGlobals "MOST_SIGNS" = some (some (.int 12 t11)))
    (x_SIGNS : ∃ t, mg "SIGNS" = some (.str ⟨#[97, 98, 99, 100, 101, 102, 103, 104, 105, 106, 107, 108, 109, 110, 111, 112, 113, 114, 115, 116, 117, 118, 119, 120, 121, 122, 48, 49, 50, 51, 52, 53, 54, 55, 56, 57]⟩ t))
    (z_abs : PySem.W.nsIn K mainGlobals "abs" = some none)
    (z_all : PySem.W.nsIn K mainGlobals "all" = some none)
    (z_bool : PySem.W.nsIn K mainGlobals "bool" = some none)
    (z_int : PySem.W.nsIn K mainGlobals "int" = some none)
    (z_isinstance : PySem.W.nsIn K mainGlobals "isinstance" = some none)
    (z_len : PySem.W.nsIn K mainGlobals "len" = some none)
    (z_list : PySem.W.nsIn K mainGlobals "list" = some none)
    (z_max : PySem.W.nsIn K mainGlobals "max" = some none)
    (z_min : PySem.W.nsIn K mainGlobals "min" = some none)
    (z_range : PySem.W.nsIn K mainGlobals "range" = some none)
    (z_str : PySem.W.nsIn K mainGlobals "str" = some none)
    (z_tuple : PySem.W.nsIn K mainGlobals "tuple" = some none)
    : ∃ fd : FuncData, (∀ (s : Shared) (u : Value), BindsTo s fd ⟨[u], []⟩ [("_law_script", u)]) ∧ ∀ base : Heap, K.In base → base.Ns mainGlobals mg → FnOk P w K mg base (L2.CX P w) 19 fa fd ["_law_script"] (spLaw K) := by
  have e := hfa.symm.trans (PySem.W.mg_of X G a18)
  cases e
  have T : Tx K mg := ⟨glob_kd X G g_HALVED_WORDS (.tup h5 (by show 4 ≤ sizeLine; rw [sizeLine_eq]; decide) (.cons (.str _ _) (.cons (.str _ _) (.cons (.str _ _) (.cons (.str _ _) .nil))))), glob_kd X G g_LEAF_WORDS (.tup h8 (by show 2 ≤ sizeLine; rw [sizeLine_eq]; decide) (.cons (.str _ _) (.cons (.str _ _) .nil))), glob_kd X G g_LETTERS (.str _ _), glob_kd X G g_MOST_DEPTH (.int _ _), glob_kd X G g_MOST_SIGNS (.int _ _), glob_strL (by rw [show (PySem.Str.ofString "abcdefghijklmnopqrstuvwxyz0123456789" : Str) = ⟨#[97, 98, 99, 100, 101, 102, 103, 104, 105, 106, 107, 108, 109, 110, 111, 112, 113, 114, 115, 116, 117, 118, 119, 120, 121, 122, 48, 49, 50, 51, 52, 53, 54, 55, 56, 57]⟩ by decide +kernel]; exact x_SIGNS), PySem.W.mg_none_of X G z_abs, PySem.W.mg_none_of X G z_all, PySem.W.mg_none_of X G z_bool, PySem.W.mg_none_of X G z_int, PySem.W.mg_none_of X G z_isinstance, PySem.W.mg_none_of X G z_len, PySem.W.mg_none_of X G z_list, PySem.W.mg_none_of X G z_max, PySem.W.mg_none_of X G z_min, PySem.W.mg_none_of X G z_range, PySem.W.mg_none_of X G z_str, PySem.W.mg_none_of X G z_tuple⟩
  have F0 := fun_mk (st := s_is_name) l0 c0 k0
  have b0 := F0.binds (ps := ["value"]) fun _ _ _ _ _ _ us hl => match us, hl with | [_], _ => rfl
  have m0 := PySem.W.mg_of X G a0
  have F1 := fun_mk (st := s_depth_within) l1 c1 k1
  have b1 := F1.binds (ps := ["value", "most"]) fun _ _ _ _ _ _ us hl => match us, hl with | [_, _], _ => rfl
  have m1 := PySem.W.mg_of X G a1
  have F2 := fun_mk (st := s_is_form) l2 c2 k2
  have b2 := F2.binds (ps := ["value"]) fun _ _ _ _ _ _ us hl => match us, hl with | [_], _ => rfl
  have m2 := PySem.W.mg_of X G a2
  have F3 := fun_mk (st := s__law_begin) l3 c3 k3
  have b3 := F3.binds (ps := ["_law_script"]) fun _ _ _ _ _ _ us hl => match us, hl with | [_], _ => rfl
  have m3 := PySem.W.mg_of X G a3
  have F4 := fun_mk (st := s__law_draw) l4 c4 k4
  have b4 := F4.binds (ps := ["_law_pen", "_law_span"]) fun _ _ _ _ _ _ us hl => match us, hl with | [_, _], _ => rfl
  have m4 := PySem.W.mg_of X G a4
  have F5 := fun_mk (st := s__law_pick) l5 c5 k5
  have b5 := F5.binds (ps := ["_law_pen", "_law_some"]) fun _ _ _ _ _ _ us hl => match us, hl with | [_, _], _ => rfl
  have m5 := PySem.W.mg_of X G a5
  have F6 := fun_mk (st := s__law_depth) l6 c6 k6
  have b6 := F6.binds (ps := ["_law_form"]) fun _ _ _ _ _ _ us hl => match us, hl with | [_], _ => rfl
  have m6 := PySem.W.mg_of X G a6
  have F7 := fun_mk (st := s__law_name) l7 c7 k7
  have b7 := F7.binds (ps := ["_law_pen"]) fun _ _ _ _ _ _ us hl => match us, hl with | [_], _ => rfl
  have m7 := PySem.W.mg_of X G a7
  have F8 := fun_mk (st := s__law_names) l8 c8 k8
  have b8 := F8.binds (ps := ["_law_pen", "_law_most"]) fun _ _ _ _ _ _ us hl => match us, hl with | [_, _], _ => rfl
  have m8 := PySem.W.mg_of X G a8
  have F9 := fun_mk (st := s__law_shape) l9 c9 k9
  have b9 := F9.binds (ps := ["_law_pen", "_law_names_here", "_law_many", "_law_tall"]) fun _ _ _ _ _ _ us hl => match us, hl with | [_, _, _, _], _ => rfl
  have m9 := PySem.W.mg_of X G a9
  have F10 := fun_mk (st := s__law_is_name) l10 c10 k10
  have b10 := F10.binds (ps := ["_law_value"]) fun _ _ _ _ _ _ us hl => match us, hl with | [_], _ => rfl
  have m10 := PySem.W.mg_of X G a10
  have F11 := fun_mk (st := s__law_is_form) l11 c11 k11
  have b11 := F11.binds (ps := ["_law_value", "_law_tall"]) fun _ _ _ _ _ _ us hl => match us, hl with | [_, _], _ => rfl
  have m11 := PySem.W.mg_of X G a11
  have F12 := fun_mk (st := s__law_bent_name) l12 c12 k12
  have b12 := F12.binds (ps := ["_law_pen", "_law_name_here"]) fun _ _ _ _ _ _ us hl => match us, hl with | [_, _], _ => rfl
  have m12 := PySem.W.mg_of X G a12
  have F13 := fun_mk (st := s__law_bent) l13 c13 k13
  have b13 := F13.binds (ps := ["_law_pen", "_law_form"]) fun _ _ _ _ _ _ us hl => match us, hl with | [_, _], _ => rfl
  have m13 := PySem.W.mg_of X G a13
  have F14 := fun_mk (st := s__law_deeper) l14 c14 k14
  have b14 := F14.binds (ps := ["_law_form", "_law_tall"]) fun _ _ _ _ _ _ us hl => match us, hl with | [_, _], _ => rfl
  have m14 := PySem.W.mg_of X G a14
  have F15 := fun_mk (st := s__law_says) l15 c15 k15
  have b15 := F15.binds (ps := ["_law_told", "_law_due"]) fun _ _ _ _ _ _ us hl => match us, hl with | [_, _], _ => rfl
  have m15 := PySem.W.mg_of X G a15
  have F16 := fun_mk (st := s__law_names_known) l16 c16 k16
  have b16 := F16.binds (ps := ["_law_pen"]) fun _ _ _ _ _ _ us hl => match us, hl with | [_], _ => rfl
  have m16 := PySem.W.mg_of X G a16
  have F17 := fun_mk (st := s__law_forms_known) l17 c17 k17
  have b17 := F17.binds (ps := ["_law_pen"]) fun _ _ _ _ _ _ us hl => match us, hl with | [_], _ => rfl
  have m17 := PySem.W.mg_of X G a17
  have F18 := fun_mk (st := s_law) l18 c18 k18
  refine ⟨PySem.W.fnOf "law" "law" (defArgs s_law) (defBody s_law) (defScope s_law) .none kV18 dc18 pm18 an18 cd18 ct18, fun s v => .of_eq rfl, fun base _ _ => ?_⟩
  have D4 := fn__law_draw (P := P) (w := w) (base := base) F4 m4 b4 T
  have D0 := fn_is_name (P := P) (w := w) (base := base) F0 m0 b0 T
  have D1 := fn_depth_within (P := P) (w := w) (base := base) F1 m1 b1 T D0
  have D2 := fn_is_form (P := P) (w := w) (base := base) F2 m2 b2 T D1
  have D5 := fn__law_pick (P := P) (w := w) (base := base) F5 m5 b5 T D4
  have D6 := fn__law_depth (P := P) (w := w) (base := base) F6 m6 b6 T
  have D7 := fn__law_name (P := P) (w := w) (base := base) F7 m7 b7 T D5
  have D8 := fn__law_names (P := P) (w := w) (base := base) F8 m8 b8 T D4 D7
  have D9 := fn__law_shape (P := P) (w := w) (base := base) F9 m9 b9 T D4 D5
  have D10 := fn__law_is_name (P := P) (w := w) (base := base) F10 m10 b10 T
  have D11 := fn__law_is_form (P := P) (w := w) (base := base) F11 m11 b11 T D10
  have D12 := fn__law_bent_name (P := P) (w := w) (base := base) F12 m12 b12 T D4 D5
  have D13 := fn__law_bent (P := P) (w := w) (base := base) F13 m13 b13 T D12 D4 D5
  have D14 := fn__law_deeper (P := P) (w := w) (base := base) F14 m14 b14 T D6
  have D15 := fn__law_says (P := P) (w := w) (base := base) F15 m15 b15 T
  have D16 := fn__law_names_known (P := P) (w := w) (base := base) F16 m16 b16 T D12 D10 D7 D15 D0
  have D17 := fn__law_forms_known (P := P) (w := w) (base := base) F17 m17 b17 T D13 D14 D4 D11 D8 D5 D15 D9 D2
  exact ok_law F18 F3 m3 b3 T D17 D16
end DL
open PySem PySem.W PyProof.Rows
set_option maxRecDepth 100000 in
set_option maxHeartbeats 0 in
theorem PySem.Challenge.cw_alldeeds_k02_names_and_forms_holds : PySem.Challenge.rw_alldeeds_k02_names_and_forms.Holds := by
  w_on; o_law; k_head; (case hw => w_witness2)
  k_fill
  refine DL.endX (l := PySem.Challenge.rw_alldeeds_k02_names_and_forms) (n := 63) (k := 19) (x := "_law_script") rfl (by decide) (by decide) rfl ⟨rfl, by decide, by decide⟩ (fun w h Y => PySem.W.kIn_of Y) ?F
  case F =>
    intro w mg fa h XQ KX G hmg
    refine' DL.all_mk KX G hmg ?a0 ?l0 ?c0 ?k0 ?a1 ?l1 ?c1 ?k1 ?a2 ?l2 ?c2 ?k2 ?a3 ?l3 ?c3 ?k3 ?a4 ?l4 ?c4 ?k4 ?a5 ?l5 ?c5 ?k5 ?a6 ?l6 ?c6 ?k6 ?a7 ?l7 ?c7 ?k7 ?a8 ?l8 ?c8 ?k8 ?a9 ?l9 ?c9 ?k9 ?a10 ?l10 ?c10 ?k10 ?a11 ?l11 ?c11 ?k11 ?a12 ?l12 ?c12 ?k12 ?a13 ?l13 ?c13 ?k13 ?a14 ?l14 ?c14 ?k14 ?a15 ?l15 ?c15 ?k15 ?a16 ?l16 ?c16 ?k16 ?a17 ?l17 ?c17 ?k17 ?a18 ?l18 ?c18 ?k18 ?h5 ?g_HALVED_WORDS ?h8 ?g_LEAF_WORDS ?g_LETTERS ?g_MOST_DEPTH ?g_MOST_SIGNS ?x_SIGNS ?z_abs ?z_all ?z_bool ?z_int ?z_isinstance ?z_len ?z_list ?z_max ?z_min ?z_range ?z_str ?z_tuple
    (case a0 => k_is)
    (case l0 => k_is)
    (case c0 => k_is)
    (case k0 => k_is)
    (case a1 => k_is)
    (case l1 => k_is)
    (case c1 => k_is)
    (case k1 => k_is)
    (case a2 => k_is)
    (case l2 => k_is)
    (case c2 => k_is)
    (case k2 => k_is)
    (case a3 => k_is)
    (case l3 => k_is)
    (case c3 => k_is)
    (case k3 => k_is)
    (case a4 => k_is)
    (case l4 => k_is)
    (case c4 => k_is)
    (case k4 => k_is)
    (case a5 => k_is)
    (case l5 => k_is)
    (case c5 => k_is)
    (case k5 => k_is)
    (case a6 => k_is)
    (case l6 => k_is)
    (case c6 => k_is)
    (case k6 => k_is)
    (case a7 => k_is)
    (case l7 => k_is)
    (case c7 => k_is)
    (case k7 => k_is)
    (case a8 => k_is)
    (case l8 => k_is)
    (case c8 => k_is)
    (case k8 => k_is)
    (case a9 => k_is)
    (case l9 => k_is)
    (case c9 => k_is)
    (case k9 => k_is)
    (case a10 => k_is)
    (case l10 => k_is)
    (case c10 => k_is)
    (case k10 => k_is)
    (case a11 => k_is)
    (case l11 => k_is)
    (case c11 => k_is)
    (case k11 => k_is)
    (case a12 => k_is)
    (case l12 => k_is)
    (case c12 => k_is)
    (case k12 => k_is)
    (case a13 => k_is)
    (case l13 => k_is)
    (case c13 => k_is)
    (case k13 => k_is)
    (case a14 => k_is)
    (case l14 => k_is)
    (case c14 => k_is)
    (case k14 => k_is)
    (case a15 => k_is)
    (case l15 => k_is)
    (case c15 => k_is)
    (case k15 => k_is)
    (case a16 => k_is)
    (case l16 => k_is)
    (case c16 => k_is)
    (case k16 => k_is)
    (case a17 => k_is)
    (case l17 => k_is)
    (case c17 => k_is)
    (case k17 => k_is)
    (case a18 => k_is)
    (case l18 => k_is)
    (case c18 => k_is)
    (case k18 => k_is)
    (case g_HALVED_WORDS => k_is)
    (case g_LEAF_WORDS => k_is)
    (case g_LETTERS => k_is)
    (case g_MOST_DEPTH => k_is)
    (case g_MOST_SIGNS => k_is)
    (case x_SIGNS => exact DL.loose_str (XQ.2.val _ (by first | exact List.mem_cons_self | simp)))
    (case z_abs => k_is)
    (case z_all => k_is)
    (case z_bool => k_is)
    (case z_int => k_is)
    (case z_isinstance => k_is)
    (case z_len => k_is)
    (case z_list => k_is)
    (case z_max => k_is)
    (case z_min => k_is)
    (case z_range => k_is)
    (case z_str => k_is)
    (case z_tuple => k_is)
    (case h8 => k_is)
    (case h5 => k_is)
