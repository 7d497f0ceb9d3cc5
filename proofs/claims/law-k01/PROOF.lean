import PyProof.Rows.All
import Wide.All
import OpenK.AllK
import Wide.FinOn
import PySem.Challenge.RW_squadwords_k01_rows_ways_and_periods
import HandS.ForMost
import HandS.ForSpec
import HandS.Wide
import HandS.IsInst
import HandS.Conv
import HandS.Deep
import HandS.TupAny
import HandS.TupMul
import HandS.TupLe
import HandS.Zip
import HandS.Walk
import HandS.Style
import HandS.StrMore
import HandS.SortInts
import HandS.HeadHook3
import HandS.More
set_option Elab.async false
set_option linter.all false
set_option maxRecDepth 100000
set_option maxHeartbeats 1000000
/-! PD: pure data over the hand layer: what a def does, said of data alone. -/
namespace PD
open PySem PySem.Spec PyProof.Rows L2

/-- data, without a heap; src: the law's source of drawn numbers -/
inductive D where
  | non | bl (b : Bool) | int (i : Int) | str (x : Str) | tup (xs : List D) | lst (xs : List D) | src | ty (n : String)

abbrev As := Addr → Prop
def SrcO (o : HO) : Prop := ∃ c s p : Int, o = .lst [.int c, .int s, .int p] ∧ 0 ≤ c ∧ 0 ≤ s ∧ s < 4294967296 ∧ 1073741824 < p ∧ p < 2147483648
def SrcAt (H : Hp) (a : Addr) : Prop := ∃ o, H a = some o ∧ SrcO o
def KL (K : PySem.W.Frag) (a : Addr) (xs : List V) : Prop :=
  ∃ (o : Obj) (its : Array Value) (n : Nat), K.lookup a = some o ∧ o.cls = .type "list" ∧ o.dict = none ∧ o.data = .seq its n ∧ its.size ≤ sizeLine ∧ Vals xs its.toList
/-- a list that nobody changes any more -/
def FzL (K : PySem.W.Frag) (H : Hp) (a : Addr) (xs : List V) : Prop := (∃ o, H a = some (.frz o (.lst xs))) ∨ KL K a xs
theorem FzL.sq {K : PySem.W.Frag} {H : Hp} {a : Addr} {xs : List V} (h : FzL K H a xs) : SqL K H a xs := by
  rcases h with ⟨o, h⟩ | h
  · exact .inl (.inr ⟨o, h⟩)
  · exact .inr h

mutual
inductive Rep (K : PySem.W.Frag) (S : As) (H : Hp) : V → D → Prop
  | non : Rep K S H .non .non
  | bl (b : Bool) : Rep K S H (.bl b) (.bl b)
  | int (i : Int) : Rep K S H (.int i) (.int i)
  | str (x : Str) : Rep K S H (.str x) (.str x)
  | ty (n : String) : Rep K S H (.ty n) (.ty n)
  | tup {a : Addr} {xs : List V} {ds : List D} : SqT K H a xs → Reps K S H xs ds → Rep K S H (.ref a) (.tup ds)
  | lst {a : Addr} {xs : List V} {ds : List D} : FzL K H a xs → Reps K S H xs ds → Rep K S H (.ref a) (.lst ds)
  | src {a : Addr} : S a → Rep K S H (.ref a) .src
inductive Reps (K : PySem.W.Frag) (S : As) (H : Hp) : List V → List D → Prop
  | nil : Reps K S H [] []
  | cons {v : V} {vs : List V} {d : D} {ds : List D} : Rep K S H v d → Reps K S H vs ds → Reps K S H (v :: vs) (d :: ds)
end

/-- what data leans on stays -/
structure Stb (S : As) (H : Hp) (S' : As) (H' : Hp) : Prop where
  tup : ∀ b xs, H b = some (.tup xs) → H' b = some (.tup xs)
  frz : ∀ b o u, H b = some (.frz o u) → H' b = some (.frz o u)
  src : ∀ b, S b → S' b
def Ws (S : As) (H : Hp) : Prop := ∀ b, S b → SrcAt H b
/-- behind an expression: all that was tracked is as it was, but the sources may have turned -/
structure Ev (S : As) (H : Hp) (S' : As) (H' : Hp) : Prop where
  keep : ∀ b o, H b = some o → ¬ S b → H' b = some o
  src : ∀ b, S b → S' b
  new : ∀ b, S' b → S b ∨ H b = none
section
variable {K : PySem.W.Frag} {S S' S1 : As} {H H' H1 : Hp}
theorem SqT.stb {a : Addr} {xs : List V} (s : Stb S H S' H') (h : SqT K H a xs) : SqT K H' a xs := by
  rcases h with (h | ⟨o, h⟩) | h
  · exact .inl (.inl (s.tup _ _ h))
  · exact .inl (.inr ⟨o, s.frz _ _ _ h⟩)
  · exact .inr h
theorem FzL.stb {a : Addr} {xs : List V} (s : Stb S H S' H') (h : FzL K H a xs) : FzL K H' a xs := by
  rcases h with ⟨o, h⟩ | h
  · exact .inl ⟨o, s.frz _ _ _ h⟩
  · exact .inr h
mutual
theorem Rep.stb (s : Stb S H S' H') : ∀ (d : D) (v : V), Rep K S H v d → Rep K S' H' v d
  | .non, _, h => by cases h; exact .non
  | .bl _, _, h => by cases h; exact .bl _
  | .int _, _, h => by cases h; exact .int _
  | .str _, _, h => by cases h; exact .str _
  | .ty _, _, h => by cases h; exact .ty _
  | .src, _, h => by cases h with | src h => exact .src (s.src _ h)
  | .tup ds, _, h => by cases h with | tup h r => exact .tup (SqT.stb s h) (Reps.stb s ds _ r)
  | .lst ds, _, h => by cases h with | lst h r => exact .lst (FzL.stb s h) (Reps.stb s ds _ r)
theorem Reps.stb (s : Stb S H S' H') : ∀ (ds : List D) (vs : List V), Reps K S H vs ds → Reps K S' H' vs ds
  | [], _, h => by cases h; exact .nil
  | d :: ds, _, h => by cases h with | cons h r => exact .cons (Rep.stb s d _ h) (Reps.stb s ds _ r)
end
theorem SrcO.lst {o : HO} (h : SrcO o) : ∃ xs, o = .lst xs := by
  obtain ⟨c, s, p, e, _⟩ := h
  exact ⟨_, e⟩
theorem Ws.ne {b : Addr} {o : HO} (w : Ws S H) (e : H b = some o) (h : ∀ xs, o ≠ .lst xs) : ¬ S b := fun z => by
  obtain ⟨o', e', q⟩ := w b z
  rw [e] at e'
  cases e'
  obtain ⟨xs, e2⟩ := q.lst
  exact h xs e2
theorem Ws.at {b : Addr} (w : Ws S H) (e : H b = none) : ¬ S b := fun z => by
  obtain ⟨o', e', q⟩ := w b z
  rw [e] at e'
  cases e'
theorem Ev.stb (w : Ws S H) (e : Ev S H S' H') : Stb S H S' H' :=
  ⟨fun b xs h => e.keep b _ h (w.ne h (fun _ z => nomatch z)), fun b o u h => e.keep b _ h (w.ne h (fun _ z => nomatch z)), e.src⟩
theorem Ev.refl : Ev S H S H := ⟨fun _ _ h _ => h, fun _ h => h, fun _ h => .inl h⟩
theorem Ev.free {b : Addr} (e : Ev S H S' H') (w : Ws S' H') (h : H' b = none) : H b = none := by
  cases q : H b with
  | none => rfl
  | some o =>
    by_cases z : S b
    · obtain ⟨o', e', _⟩ := w b (e.src b z)
      rw [h] at e'; cases e'
    · have := e.keep b o q z
      rw [h] at this; cases this
theorem Ev.trans {S2 : As} {H2 : Hp} (w : Ws S1 H1) (a : Ev S H S1 H1) (b : Ev S1 H1 S2 H2) : Ev S H S2 H2 where
  keep := fun c o h z => by
    refine b.keep c o (a.keep c o h z) fun y => ?_
    rcases a.new c y with y | y
    · exact z y
    · rw [h] at y; cases y
  src := fun c h => b.src c (a.src c h)
  new := fun c h => by
    rcases b.new c h with y | y
    · exact a.new c y
    · exact .inr (a.free w y)
theorem Ev.upd {p : Addr} {o : HO} (h : H p = none) : Ev S H S (upd H p o) := ⟨fun b x e _ => by rw [upd_ne (ne_of_none e h)]; exact e, fun _ h => h, fun _ h => .inl h⟩
theorem Ws.upd {p : Addr} {o : HO} (w : Ws S H) (h : H p = none) : Ws S (upd H p o) := fun b z => by
  obtain ⟨o', e, q⟩ := w b z
  exact ⟨o', by rw [upd_ne (ne_of_none e h)]; exact e, q⟩
/-- a list that one has is frozen -/
theorem Ev.frz {p : Addr} {xs : List V} {o : Obj} (h : H p = none) (h' : H' p = some (.lst xs)) (ws : Ws S H) (e : Ev S H S' H') (ns : ¬ S' p) : Ev S H S' (L2.upd H' p (.frz o (.lst xs))) where
  keep := fun b x q z => by rw [upd_ne (ne_of_none q h)]; exact e.keep b x q z
  src := e.src
  new := e.new
theorem Ws.frz {p : Addr} {xs : List V} {o : Obj} (ws : Ws S H) (ns : ¬ S p) : Ws S (L2.upd H p (.frz o (.lst xs))) := fun b z => by
  obtain ⟨o', e, q⟩ := ws b z
  exact ⟨o', by rw [upd_ne (fun y => ns (by rw [← y]; exact z))]; exact e, q⟩
theorem Stb.refl : Stb S H S H := ⟨fun _ _ h => h, fun _ _ _ h => h, fun _ h => h⟩
theorem Stb.trans {S2 : As} {H2 : Hp} (a : Stb S H S1 H1) (b : Stb S1 H1 S2 H2) : Stb S H S2 H2 := ⟨fun c x h => b.tup c x (a.tup c x h), fun c o x h => b.frz c o x (a.frz c o x h), fun c h => b.src c (a.src c h)⟩
theorem Stb.wr {p : Addr} {xs : List V} {o : HO} (h : H p = some (.lst xs)) : Stb S H S (L2.upd H p o) :=
  ⟨fun b x e => by rw [upd_ne (fun z => by rw [z, h] at e; cases e)]; exact e, fun b u x e => by rw [upd_ne (fun z => by rw [z, h] at e; cases e)]; exact e, fun _ h => h⟩
theorem Reps.length : ∀ {vs : List V} {ds : List D}, Reps K S H vs ds → vs.length = ds.length
  | _, [], h => by cases h; rfl
  | _, d :: ds, h => by cases h with | cons h r => simp [Reps.length r]
theorem Reps.get : ∀ {vs : List V} {ds : List D} {i : Nat} {d : D}, Reps K S H vs ds → ds[i]? = some d → ∃ v, vs[i]? = some v ∧ Rep K S H v d
  | _, [], _, _, _, e => by simp at e
  | _, d :: ds, 0, _, h, e => by cases h with | cons h r => simp at e; subst e; exact ⟨_, rfl, h⟩
  | _, d :: ds, i + 1, _, h, e => by cases h with | cons h r => exact Reps.get (i := i) r (by simpa using e)
theorem Reps.getV : ∀ {vs : List V} {ds : List D} {i : Nat} {v : V}, Reps K S H vs ds → vs[i]? = some v → ∃ d, ds[i]? = some d ∧ Rep K S H v d
  | _, [], _, _, h, e => by cases h; simp at e
  | _, d :: ds, 0, _, h, e => by cases h with | cons h r => simp at e; subst e; exact ⟨_, rfl, h⟩
  | _, d :: ds, i + 1, _, h, e => by cases h with | cons h r => exact Reps.getV (i := i) r (by simpa using e)
theorem Reps.append : ∀ {vs us : List V} {ds es : List D}, Reps K S H vs ds → Reps K S H us es → Reps K S H (vs ++ us) (ds ++ es)
  | _, _, [], _, h, r => by cases h; exact r
  | _, _, _ :: _, _, h, r => by cases h with | cons h q => exact .cons h (Reps.append q r)
theorem Reps.set : ∀ {vs : List V} {ds : List D} {v : V} {d : D} (i : Nat), Reps K S H vs ds → Rep K S H v d → Reps K S H (vs.set i v) (ds.set i d)
  | _, [], _, _, _, h, _ => by cases h; exact .nil
  | _, _ :: _, _, _, 0, h, r => by cases h with | cons h q => exact .cons r q
  | _, _ :: _, _, _, i + 1, h, r => by cases h with | cons h q => exact .cons h (Reps.set i q r)
theorem Reps.take : ∀ {vs : List V} {ds : List D} (n : Nat), Reps K S H vs ds → Reps K S H (vs.take n) (ds.take n)
  | _, [], _, h => by cases h; simp; exact .nil
  | _, _ :: _, 0, h => .nil
  | _, _ :: _, n + 1, h => by cases h with | cons h q => exact .cons h (Reps.take n q)
theorem Reps.drop : ∀ {vs : List V} {ds : List D} (n : Nat), Reps K S H vs ds → Reps K S H (vs.drop n) (ds.drop n)
  | _, [], n, h => by cases h; simp; exact .nil
  | _, _ :: _, 0, h => h
  | _, _ :: _, n + 1, h => by cases h with | cons h q => exact Reps.drop n q
end

/-! ### slots -/
inductive Sl where
  | no | dat (d : D) | own (ds : List D)
def SlotOk (K : PySem.W.Frag) (O S : As) (H : Hp) (x : Option (Option V)) : Sl → Prop
  | .no => True
  | .dat d => ∃ v, x = some (some v) ∧ Rep K S H v d
  | .own ds => ∃ a vs, x = some (some (.ref a)) ∧ H a = some (.lst vs) ∧ (¬ S a ∧ O a) ∧ Reps K S H vs ds
structure Mat (K : PySem.W.Frag) (O S : As) (H : Hp) (σ : L2.St) (Γ : List Sl) : Prop where
  len : Γ.length = σ.length
  at_ : ∀ (i : Nat) (sl : Sl), Γ[i]? = some sl → SlotOk K O S H (σ[i]?) sl
  dist : ∀ (i j : Nat) (a : Addr) (ds es : List D), Γ[i]? = some (.own ds) → Γ[j]? = some (.own es) → σ[i]? = some (some (.ref a)) → σ[j]? = some (some (.ref a)) → i = j
section
variable {K : PySem.W.Frag} {O S S' S1 : As} {H H' H1 : Hp} {σ : L2.St} {Γ : List Sl}
theorem SlotOk.ev {x : Option (Option V)} {sl : Sl} (ws : Ws S H) (w' : Ws S' H') (e : Ev S H S' H') (h : SlotOk K O S H x sl) : SlotOk K O S' H' x sl := by
  cases sl with
  | no => trivial
  | dat d =>
    obtain ⟨v, e1, r⟩ := h
    exact ⟨v, e1, Rep.stb (e.stb ws) _ _ r⟩
  | own ds =>
    obtain ⟨a, vs, e1, e2, n, r⟩ := h
    refine ⟨a, vs, e1, e.keep _ _ e2 n.1, ⟨fun z => ?_, n.2⟩, Reps.stb (e.stb ws) _ _ r⟩
    rcases e.new a z with y | y
    · exact n.1 y
    · rw [e2] at y; cases y
theorem Mat.ev (ws : Ws S H) (w' : Ws S' H') (e : Ev S H S' H') (m : Mat K O S H σ Γ) : Mat K O S' H' σ Γ :=
  ⟨m.len, fun i sl h => (m.at_ i sl h).ev ws w' e, m.dist⟩
theorem Mat.setDat {i : Nat} {v : V} {d : D} (m : Mat K O S H σ Γ) (r : Rep K S H v d) : Mat K O S H (σ.set i (some v)) (Γ.set i (.dat d)) := by
  refine ⟨by simpa using m.len, fun j sl h => ?_, fun j k a ds es h1 h2 h3 h4 => ?_⟩
  · by_cases hj : i = j
    · subst hj
      by_cases hl : i < Γ.length
      · rw [List.getElem?_set_self hl] at h
        cases h
        exact ⟨v, by rw [List.getElem?_set_self (by rw [← m.len]; exact hl)], r⟩
      · rw [List.getElem?_eq_none (by simp; omega)] at h; cases h
    · rw [List.getElem?_set_ne hj] at h ⊢
      exact m.at_ j sl h
  · have nj : ∀ {k : Nat} {ds : List D}, (Γ.set i (.dat d))[k]? = some (.own ds) → i ≠ k := fun {k ds} h z => by
      subst z
      by_cases hl : i < Γ.length
      · rw [List.getElem?_set_self hl] at h; cases h
      · rw [List.getElem?_eq_none (by simp; omega)] at h; cases h
    have n1 := nj h1
    have n2 := nj h2
    rw [List.getElem?_set_ne n1] at h1 h3
    rw [List.getElem?_set_ne n2] at h2 h4
    exact m.dist j k a ds es h1 h2 h3 h4
theorem Mat.setNo {i : Nat} {x : Option V} (m : Mat K O S H σ Γ) : Mat K O S H (σ.set i x) (Γ.set i .no) := by
  refine ⟨by simpa using m.len, fun j sl h => ?_, fun j k a ds es h1 h2 h3 h4 => ?_⟩
  · by_cases hj : i = j
    · subst hj
      by_cases hl : i < Γ.length
      · rw [List.getElem?_set_self hl] at h
        cases h
        trivial
      · rw [List.getElem?_eq_none (by simp; omega)] at h; cases h
    · rw [List.getElem?_set_ne hj] at h ⊢
      exact m.at_ j sl h
  · have nj : ∀ {k : Nat} {ds : List D}, (Γ.set i .no)[k]? = some (.own ds) → i ≠ k := fun {k ds} h z => by
      subst z
      by_cases hl : i < Γ.length
      · rw [List.getElem?_set_self hl] at h; cases h
      · rw [List.getElem?_eq_none (by simp; omega)] at h; cases h
    have n1 := nj h1
    have n2 := nj h2
    rw [List.getElem?_set_ne n1] at h1 h3
    rw [List.getElem?_set_ne n2] at h2 h4
    exact m.dist j k a ds es h1 h2 h3 h4
end

/-! ### the readings over data -/
abbrev Ex := Value → Prop
abbrev Ev0 : Ex := fun _ => False
abbrev WE := List Sl → (D → Prop) → Ex → Prop
abbrev WA := List Sl → (List D → Prop) → Ex → Prop
abbrev WB := List Sl → (Bool → Prop) → Ex → Prop
abbrev WS := (List Sl → Prop) → (D → Prop) → Ex → List Sl → Prop

section
variable (K : PySem.W.Frag) (E : XK)
def kE (S : As) (H : Hp) (Ed : Ex) : Prop := ∀ c S' H', Ed c → Ev S H S' H' → Ws S' H' → E c none H'
def tD (w : WE) : TE := fun σ H Q => ∃ O S Γ Qd Ed, Ws S H ∧ Mat K O S H σ Γ ∧ w Γ Qd Ed ∧ (∀ v d S' H', Qd d → Ev S H S' H' → Ws S' H' → Rep K S' H' v d → Q v H') ∧ kE E S H Ed
def tDA (w : WA) : TA := fun σ H Q => ∃ O S Γ Qd Ed, Ws S H ∧ Mat K O S H σ Γ ∧ w Γ Qd Ed ∧ (∀ vs ds S' H', Qd ds → Ev S H S' H' → Ws S' H' → Reps K S' H' vs ds → Q vs H') ∧ kE E S H Ed
def tDB (w : WB) : TT := fun σ H Q => ∃ O S Γ Qd Ed, Ws S H ∧ Mat K O S H σ Γ ∧ w Γ Qd Ed ∧ (∀ b S' H', Qd b → Ev S H S' H' → Ws S' H' → Q b H') ∧ kE E S H Ed
end
section
variable {E : XK} {S S' : As} {H H' : Hp} {Ed : Ex}
theorem kE.ev (ws : Ws S' H') (h : kE E S H Ed) (e : Ev S H S' H') : kE E S' H' Ed := fun c S2 H2 q e2 w2 => h c S2 H2 q (e.trans ws e2) w2
theorem kE.zero : kE E S H Ev0 := fun _ _ _ h => h.elim
end

/-! ### weakening -/
theorem _root_.L2.PE.imp {X : Cx} {e : Expr} {t t' : TE} (h : PE X e t) (q : ∀ σ H Q, t' σ H Q → t σ H Q) : PE X e t' := ⟨fun pins s σ H Q I w => h.run pins s σ H Q I (q _ _ _ w)⟩
theorem _root_.L2.PT.imp {X : Cx} {e : Expr} {t t' : TT} (h : PT X e t) (q : ∀ σ H Q, t' σ H Q → t σ H Q) : PT X e t' := ⟨fun pins s σ H Q I w => h.run pins s σ H Q I (q _ _ _ w)⟩
theorem _root_.L2.PA.imp {X : Cx} {e : List Expr} {t t' : TA} (h : PA X e t) (q : ∀ σ H Q, t' σ H Q → t σ H Q) : PA X e t' := ⟨fun pos pins s σ H Q I w => h.run pos pins s σ H Q I (q _ _ _ w)⟩
theorem _root_.L2.PS.imp {X : Cx} {e : Stmt} {t t' : TS} (h : PS X e t) (q : ∀ D σ H, t' D σ H → t D σ H) : PS X e t' := ⟨fun pins s σ H D I w => h.run pins s σ H D I (q _ _ _ w)⟩
theorem _root_.L2.PSs.imp {X : Cx} {e : List Stmt} {t t' : TS} (h : PSs X e t) (q : ∀ D σ H, t' D σ H → t D σ H) : PSs X e t' := ⟨fun pins s σ H D I w => h.run pins s σ H D I (q _ _ _ w)⟩
/-- a list that an expression gives may be frozen -/
def fzQ (Q : VK) : VK := fun v H => Q v H ∨ ∃ a xs, v = .ref a ∧ H a = some (.lst xs) ∧ ∀ o, Q v (upd H a (.frz o (.lst xs)))
theorem _root_.L2.PE.frz {X : Cx} {e : Expr} {t : TE} (h : PE X e t) : PE X e (fun σ H Q => t σ H (fzQ Q)) := by
  refine ⟨fun pins s σ H Q I w => thn (h.run pins s σ H _ I w) fun u s1 hh => ?_⟩
  obtain ⟨v, H', I', r, q⟩ := hh
  rcases q with q | ⟨a, xs, e1, e2, q⟩
  · exact ⟨v, H', I', r, q⟩
  · obtain ⟨od, I2⟩ := I'.lock e2 (show Mut (some (.lst xs)) from trivial)
    exact ⟨v, _, I2, r, q od⟩
/-! ### atoms -/
@[simp] def wVar (i : Nat) : WE := fun Γ Q _ => ∃ d, Γ[i]? = some (.dat d) ∧ Q d
@[simp] def wC (d : D) : WE := fun _ Q _ => Q d
section
variable {X : Cx} {E : XK}
theorem d_var (i : Nat) {x : Str} {pos : Pos} (hN : X.N[i]? = some x := by rfl) (hv : Vis X.env.scope x := by first | exact Or.inl rfl | exact Or.inr (Or.inl rfl) | exact Or.inr (Or.inr rfl)) (hd : (x == ("__debug__" : Str)) = false := by decide)
    (hcd : (x == ("__classdict__" : Str)) = false := by decide) : PE X (.Name x pos) (tD X.K E (wVar i)) := (pv i hN hv hd hcd).imp fun σ H Q h => by
  obtain ⟨O, S, Γ, Qd, Ed, ws, m, ⟨d, e, q⟩, k, _⟩ := h
  obtain ⟨v, e1, r⟩ := m.at_ i _ e
  exact ⟨v, e1, k v d S H q .refl ws r⟩
/-- an atom's value -/
theorem d_c {e : Expr} {v : V} {d : D} (h : PE X e (tC v)) (r : ∀ S H, Rep X.K S H v d) : PE X e (tD X.K E (wC d)) := h.imp fun σ H Q h => by
  obtain ⟨O, S, Γ, Qd, Ed, ws, m, q, k, _⟩ := h
  exact k v d S H q .refl ws (r S H)
theorem d_int {i j pos} : PE X (.Constant (.int i) j pos) (tD X.K E (wC (.int i))) := d_c pe_int fun _ _ => .int _
theorem d_bl {i j pos} : PE X (.Constant (.bool i) j pos) (tD X.K E (wC (.bl i))) := d_c pe_bl fun _ _ => .bl _
theorem d_non {j pos} : PE X (.Constant .none j pos) (tD X.K E (wC .non)) := d_c pe_non fun _ _ => .non
theorem d_str {x j pos} : PE X (.Constant (.str x) j pos) (tD X.K E (wC (.str x))) := d_c pe_str fun _ _ => .str _
end
end PD

set_option Elab.async false
set_option linter.all false
set_option maxRecDepth 100000
set_option maxHeartbeats 1000000
namespace PD
open PySem PySem.Spec PyProof.Rows L2
/-! ### data as the library's -/
mutual
def D.pd : D → PyData
  | .non => .none
  | .bl b => .bool b
  | .int i => .int i
  | .str x => .str x
  | .tup xs => .tuple (D.pds xs)
  | .lst xs => .list (D.pds xs)
  | .src => .none
  | .ty _ => .none
def D.pds : List D → List PyData
  | [] => []
  | x :: xs => D.pd x :: D.pds xs
end
/-- plain data of so many levels -/
def D.fl : Nat → D → Bool
  | _, .non => true
  | _, .bl _ => true
  | _, .int _ => true
  | _, .str x => PyData.strOk x
  | n + 1, .tup xs => xs.all (D.fl n)
  | n + 1, .lst xs => xs.all (D.fl n)
  | _, _ => false
/-- == -/
def D.eq (x y : D) : Bool := PyData.eqv x.pd y.pd
theorem D.fl_ok : ∀ (n : Nat) (d : D), d.fl n = true → d.pd.canLay0 = true ∧ d.pd.depth ≤ n := by
  have all : ∀ (n : Nat), (∀ d : D, d.fl n = true → d.pd.canLay0 = true ∧ d.pd.depth ≤ n) → ∀ ds : List D, ds.all (D.fl n) = true → PyData.canLayAll0 (D.pds ds) = true ∧ PyData.depthAll (D.pds ds) ≤ n := by
    intro n h ds
    induction ds with
    | nil => intro _; simp [D.pds, PyData.canLayAll0, PyData.depthAll]
    | cons d r ih =>
      intro e
      simp only [List.all_cons, Bool.and_eq_true] at e
      obtain ⟨a1, a2⟩ := h d e.1
      obtain ⟨b1, b2⟩ := ih e.2
      simp only [D.pds, PyData.canLayAll0, PyData.depthAll, Bool.and_eq_true]
      exact ⟨⟨a1, b1⟩, Nat.max_le.mpr ⟨a2, b2⟩⟩
  intro n
  induction n with
  | zero =>
    intro d h
    cases d <;> simp_all [D.fl, D.pd, PyData.canLay0, PyData.depth]
  | succ n ih =>
    intro d h
    cases d with
    | tup xs =>
      obtain ⟨a, b⟩ := all n ih xs (by simpa [D.fl] using h)
      simp only [D.pd, PyData.canLay0, PyData.depth]
      exact ⟨a, by omega⟩
    | lst xs =>
      obtain ⟨a, b⟩ := all n ih xs (by simpa [D.fl] using h)
      simp only [D.pd, PyData.canLay0, PyData.depth]
      exact ⟨a, by omega⟩
    | _ => simp_all [D.fl, D.pd, PyData.canLay0, PyData.depth]
theorem D.shaped {n : Nat} {d : D} (hn : n ≤ 64) (h : d.fl n = true) : SeqAt.shaped d.pd = true := by
  obtain ⟨a, b⟩ := D.fl_ok n d h
  unfold SeqAt.shaped
  rw [a, decide_eq_true (by omega)]
  rfl
section
variable {K : PySem.W.Frag} {S : As} {H : Hp}
theorem Rep.dp : ∀ (n : Nat) (d : D) (v : V), d.fl n = true → Rep K S H v d → Dp K H v d.pd := by
  have all : ∀ (n : Nat), (∀ (d : D) (v : V), d.fl n = true → Rep K S H v d → Dp K H v d.pd) → ∀ (ds : List D) (vs : List V), ds.all (D.fl n) = true → Reps K S H vs ds → DpAll K H vs (D.pds ds) := by
    intro n h ds
    induction ds with
    | nil => intro vs _ r; cases r; exact .nil
    | cons d r ih =>
      intro vs e q
      simp only [List.all_cons, Bool.and_eq_true] at e
      cases q with
      | cons q1 q2 => exact .cons (h _ _ e.1 q1) (ih _ e.2 q2)
  intro n
  induction n with
  | zero =>
    intro d v h r
    cases r with
    | non => exact .non
    | bl => exact .bl _
    | int => exact .int _
    | str => exact .str _
    | ty => cases h
    | src => cases h
    | tup => cases h
    | lst => cases h
  | succ n ih =>
    intro d v h r
    cases r with
    | non => exact .non
    | bl => exact .bl _
    | int => exact .int _
    | str => exact .str _
    | ty => cases h
    | src => cases h
    | tup a b => exact .tup a (all n ih _ _ (by simpa [D.fl] using h) b)
    | lst a b => exact .lst a.sq (all n ih _ _ (by simpa [D.fl] using h) b)
end

/-! ### operators -/
/-- what a value rule does, said of data: the frozen list too -/
def FR (K : PySem.W.Frag) (r : R2) (f : D → D → (D → Prop) → Prop) : Prop := ∀ (S : As) (H : Hp) (ws : Ws S H) (x y : D) (Qd : D → Prop) (Q : VK) (vx vy : V), Rep K S H vx x → Rep K S H vy y → f x y Qd →
  (∀ v d S' H', Qd d → Ev S H S' H' → Ws S' H' → Rep K S' H' v d → Q v H') → r vx vy H (fzQ Q)
def FU (K : PySem.W.Frag) (r : V → Hp → VK → Prop) (f : D → (D → Prop) → Prop) : Prop := ∀ (S : As) (H : Hp) (ws : Ws S H) (x : D) (Qd : D → Prop) (Q : VK) (vx : V), Rep K S H vx x → f x Qd →
  (∀ v d S' H', Qd d → Ev S H S' H' → Ws S' H' → Rep K S' H' v d → Q v H') → r vx H (fzQ Q)
def FC (K : PySem.W.Frag) (r : List V → Hp → VK → Prop) (f : List D → (D → Prop) → Prop) : Prop := ∀ (S : As) (H : Hp) (ws : Ws S H) (xs : List D) (Qd : D → Prop) (Q : VK) (vs : List V), Reps K S H vs xs → f xs Qd →
  (∀ v d S' H', Qd d → Ev S H S' H' → Ws S' H' → Rep K S' H' v d → Q v H') → r vs H (fzQ Q)
@[simp] def wBin (f : D → D → (D → Prop) → Prop) (wa wb : WE) : WE := fun Γ Q E => wa Γ (fun x => wb Γ (fun y => f x y Q) E) E
@[simp] def wUn (f : D → (D → Prop) → Prop) (wa : WE) : WE := fun Γ Q E => wa Γ (fun x => f x Q) E
@[simp] def wNil : WA := fun _ Q _ => Q []
@[simp] def wCons (wa : WE) (wr : WA) : WA := fun Γ Q E => wa Γ (fun x => wr Γ (fun xs => Q (x :: xs)) E) E
@[simp] def wCB (f : List D → (D → Prop) → Prop) (w : WA) : WE := fun Γ Q E => w Γ (fun xs => f xs Q) E
section
variable {X : Cx} {E : XK}
theorem tD_op {r : R2} {f : D → D → (D → Prop) → Prop} {wa wb : WE} {σ : L2.St} {H : Hp} {Q : VK} (hf : FR X.K r f) (h : tD X.K E (wBin f wa wb) σ H Q) : tOp r (tD X.K E wa) (tD X.K E wb) σ H (fzQ Q) := by
  obtain ⟨O, S, Γ, Qd, Ed, ws, m, w, k, ke⟩ := h
  refine ⟨O, S, Γ, _, Ed, ws, m, w, fun vx x S1 H1 q1 e1 w1 r1 => ?_, ke⟩
  refine ⟨O, S1, Γ, _, Ed, w1, m.ev ws w1 e1, q1, fun vy y S2 H2 q2 e2 w2 r2 => ?_, ke.ev w1 e1⟩
  exact hf S2 H2 w2 x y Qd Q vx vy (Rep.stb (e2.stb w1) _ _ r1) r2 q2 fun v d S' H' q e w' r => k v d S' H' q (e1.trans w1 (e2.trans w2 e)) w' r
theorem d_op {op : Operator} {r : R2} {f : D → D → (D → Prop) → Prop} {a b : Expr} {wa wb : WE} {pos : Pos} (hr : OpR X (binaryOp op) r) (hf : FR X.K r f) (ha : PE X a (tD X.K E wa)) (hb : PE X b (tD X.K E wb)) :
    PE X (.BinOp a op b pos) (tD X.K E (wBin f wa wb)) := (pe_op hr ha hb).frz.imp fun _ _ _ h => tD_op hf h
theorem d_cmp {op : CmpOp} {r : R2} {f : D → D → (D → Prop) → Prop} {a b : Expr} {wa wb : WE} {pos : Pos} (hr : OpR X (compareOp op) r) (hf : FR X.K r f) (ha : PE X a (tD X.K E wa)) (hb : PE X b (tD X.K E wb)) (hm : behindInMarks op b = false) :
    PE X (.Compare a [op] [b] pos) (tD X.K E (wBin f wa wb)) := (pe_cmpR hr ha hb hm).frz.imp fun _ _ _ h => tD_op hf h
theorem d_un {op : UnaryOp} {r : V → Hp → VK → Prop} {f : D → (D → Prop) → Prop} {a : Expr} {wa : WE} {pos : Pos} (hr : UnR X (unaryOp op) r) (hf : FU X.K r f) (ha : PE X a (tD X.K E wa)) :
    PE X (.UnaryOp op a pos) (tD X.K E (wUn f wa)) := (pe_un hr ha).frz.imp fun σ H Q h => by
  obtain ⟨O, S, Γ, Qd, Ed, ws, m, w, k, ke⟩ := h
  exact ⟨O, S, Γ, _, Ed, ws, m, w, fun vx x S1 H1 q1 e1 w1 r1 => hf S1 H1 w1 x Qd Q vx r1 q1 fun v d S' H' q e w' r => k v d S' H' q (e1.trans w1 e) w' r, ke⟩
theorem d_ix {r : R2} {f : D → D → (D → Prop) → Prop} {a b : Expr} {wa wb : WE} {pos : Pos} (hr : IxR X r) (hf : FR X.K r f) (ha : PE X a (tD X.K E wa)) (hb : PE X b (tD X.K E wb)) (hs : PlainIx b) :
    PE X (.Subscript a b pos) (tD X.K E (wBin f wa wb)) := (pe_ix hr ha hb hs).frz.imp fun _ _ _ h => tD_op hf h
/-! arguments -/
theorem da_nil : PA X [] (tDA X.K E wNil) := pa_nil.imp fun σ H Q h => by
  obtain ⟨O, S, Γ, Qd, Ed, ws, m, w, k, ke⟩ := h
  exact k [] [] S H w .refl ws .nil
theorem da_cons {e : Expr} {es : List Expr} {wa : WE} {wr : WA} (ha : PE X e (tD X.K E wa)) (hr : PA X es (tDA X.K E wr)) (hs : starEach (e :: es) X.env = (false, eval e X.env) :: starEach es X.env := by rfl) : PA X (e :: es) (tDA X.K E (wCons wa wr)) :=
  (pa_cons ha hr hs).imp fun σ H Q h => by
    obtain ⟨O, S, Γ, Qd, Ed, ws, m, w, k, ke⟩ := h
    refine ⟨O, S, Γ, _, Ed, ws, m, w, fun vx x S1 H1 q1 e1 w1 r1 => ?_, ke⟩
    exact ⟨O, S1, Γ, _, Ed, w1, m.ev ws w1 e1, q1, fun vs xs S2 H2 q2 e2 w2 r2 => k (vx :: vs) (x :: xs) S2 H2 q2 (e1.trans w1 e2) w2 (.cons (Rep.stb (e2.stb w1) _ _ r1) r2), ke.ev w1 e1⟩
theorem tD_cb {r : List V → Hp → VK → Prop} {f : List D → (D → Prop) → Prop} {w : WA} {σ : L2.St} {H : Hp} {Q : VK} (hf : FC X.K r f) (h : tD X.K E (wCB f w) σ H Q) : tCB r (tDA X.K E w) σ H (fzQ Q) := by
  obtain ⟨O, S, Γ, Qd, Ed, ws, m, w, k, ke⟩ := h
  exact ⟨O, S, Γ, _, Ed, ws, m, w, fun vs xs S1 H1 q1 e1 w1 r1 => hf S1 H1 w1 xs Qd Q vs r1 q1 fun v d S' H' q e w' r => k v d S' H' q (e1.trans w1 e) w' r, ke⟩
theorem d_callB {id : String} {r : List V → Hp → VK → Prop} {f : List D → (D → Prop) → Prop} {x : Str} {p pos : Pos} {e : Expr} {es : List Expr} {w : WA} (hc : CallR X (.builtin id) r) (hf : FC X.K r f) (hg : Gl X x) (hm : X.mg x = none) (hv : bootBuiltins x = some (.builtin id)) (ha : PA X (e :: es) (tDA X.K E w))
    (hn : x ≠ "__name__" := by decide) (hdb : (x == ("__debug__" : Str)) = false := by decide) (he : starEach (e :: es) X.env = (false, eval e X.env) :: starEach es X.env := by rfl) (hpl : (backTo pos (starEach es X.env)).any (·.1) = false := by rfl) :
    PE X (.Call (.Name x p) (e :: es) [] pos) (tD X.K E (wCB f w)) := (pe_callB hc hg hm hv ha hn hdb he hpl).frz.imp fun _ _ _ h => tD_cb hf h
theorem d_callTy {id : String} {r : List V → Hp → VK → Prop} {f : List D → (D → Prop) → Prop} {x : Str} {p pos : Pos} {e : Expr} {es : List Expr} {w : WA} (hc : CallR X (.type id) r) (hf : FC X.K r f) (hg : Gl X x) (hm : X.mg x = none) (hv : bootBuiltins x = some (.type id)) (ha : PA X (e :: es) (tDA X.K E w))
    (hn : x ≠ "__name__" := by decide) (hdb : (x == ("__debug__" : Str)) = false := by decide) (he : starEach (e :: es) X.env = (false, eval e X.env) :: starEach es X.env := by rfl) (hpl : (backTo pos (starEach es X.env)).any (·.1) = false := by rfl) :
    PE X (.Call (.Name x p) (e :: es) [] pos) (tD X.K E (wCB f w)) := (pe_callTy hc hg hm hv ha hn hdb he hpl).frz.imp fun _ _ _ h => tD_cb hf h
end
/-! ### lists that are only read -/
def rCatL (K : PySem.W.Frag) : R2 := fun x y H Q => ∃ l b xs zs, x = .ref l ∧ y = .ref b ∧ SqL K H l xs ∧ SqL K H b zs ∧ xs.length + zs.length ≤ sizeLine ∧ ∀ p, H p = none → Q (.ref p) (upd H p (.lst (xs ++ zs)))
theorem op_catL {X : Cx} : OpR X (binaryOp .Add) (rCatL X.K) := by
  intro pins s σ H x y v u Q I rx ry h
  obtain ⟨l, b, xs, zs, rfl, rfl, hH, hB, hz, q⟩ := h
  cases rx
  cases ry
  obtain ⟨its, r, ⟨⟨cls, dd, data, sl⟩, n, ho, hc, hdd, hd⟩, hl⟩ := I.list hH
  obtain ⟨its2, r2, ⟨⟨cls2, dd2, data2, sl2⟩, n2, ho2, hc2, hdd2, hd2⟩, hl2⟩ := I.list hB
  simp only at hc hd hc2 hd2
  subst hc hd hc2 hd2
  have h1 := r.length
  have h2 := r2.length
  have e : its.toArray ++ its2.toArray = (its ++ its2).toArray := by simp
  refine concat_meets ⟨_, ho, rfl⟩ ⟨_, ho2, rfl⟩ noFill_list_add seq_list_add PySem.F.slot_list_add PySem.F.entry_list_add (PySem.F.args_list_add_2 _ _) (PyProof.Rows.list_addW l b its.toArray its2.toArray n n2 dd dd2 sl sl2 (by simp; omega)) ⟨ho, ho2, ?_⟩
  rw [e]
  exact ⟨.ref _, _, I.lnew (t' := s.toks) (r.append r2) (by rw [List.length_append]; omega), rfl, q _ I.fresh⟩
def rRepL (K : PySem.W.Frag) : R2 := fun x y H Q => ∃ l k xs, x = .ref l ∧ y = .int k ∧ SqL K H l xs ∧ -(2 ^ 63) ≤ k ∧ k < 2 ^ 63 ∧ xs.length * k.toNat ≤ sizeLine ∧
  ∀ p, H p = none → Q (.ref p) (upd H p (.lst (List.replicate k.toNat xs).flatten))
theorem op_repL {X : Cx} : OpR X (binaryOp .Mult) (rRepL X.K) := by
  intro pins s σ H x y v u Q I rx ry h
  obtain ⟨l, k, xs, rfl, rfl, hH, h1, h2, hz, q⟩ := h
  cases rx
  obtain ⟨t, rfl⟩ := ry
  obtain ⟨its, r, ⟨⟨cls, dd, data, sl⟩, n, ho, hc, hdd, hd⟩, hl⟩ := I.list hH
  simp only at hc hd
  subst hc hd
  have hlen := r.length
  have hz2 : its.toArray.size * k.toNat ≤ sizeLine := by rw [List.size_toArray, ← hlen]; exact hz
  have hz3 : its.toArray.size * k.toNat ≤ 2 ^ 24 := by rw [sizeLine_eq] at hz2; omega
  refine wpAny_binaryOp_repeat_ref (T := "list") (U := "int") (by decide) ⟨_, ho, rfl⟩ (fun s' => typeIs_int s' k t) noFill_list_mul F.fills_int_mul F.slot_int_rmul repeat_list F.slot_int_index.lookup
    (call_meets F.slot_int_rmul (typeIs_int s k t) F.entry_int_rmul (F.args_int_rmul_2 _ _) (lm_int_rmul_list_any k t l its.toArray n dd sl)
      ⟨ho, rfl, ⟨_, ho, rfl⟩, call_meets F.slot_list_mul ⟨_, ho, rfl⟩ F.entry_list_mul (F.args_list_mul_2 _ _)
        (lm_list_mul_any l its.toArray n dd sl k t (by simp [Builtin.List.listFitsIndex]; omega) (by omega) (by simp only [Builtin.List.listTooLong, sizeLine_eq]; exact fun z => absurd (of_decide_eq_true z) (by omega)))
        ⟨ho, ?_⟩⟩)
  have f0 : List.foldl (fun x1 x2 => x1 ++ x2) #[] (List.replicate (if its.toArray.isEmpty = true then 0 else k.toNat) its.toArray) = (List.replicate k.toNat its).flatten.toArray := listMul_foldl_if ..
  rw [f0]
  exact ⟨.ref _, _, I.lnew (t' := s.toks) (r.rep k.toNat) (by rw [PyProof.Rows.lm_len_rep_flat, Nat.mul_comm]; exact hz), rfl, q _ I.fresh⟩
end PD

set_option Elab.async false
set_option linter.all false
set_option maxRecDepth 100000
set_option maxHeartbeats 1000000
namespace PD
open PySem PySem.Spec PyProof.Rows L2
/-! ### the operators, said of data -/
/-- small enough to be multiplied -/
def Sm (i : Int) : Prop := i.natAbs < 2 ^ 300
theorem Sm.of {i : Int} (h : -1000000000000000000000000000000 < i) (h2 : i < 1000000000000000000000000000000) : Sm i := by
  unfold Sm
  exact Nat.lt_trans (show i.natAbs < 10 ^ 30 by omega) (by decide +kernel)
def fAdd : D → D → (D → Prop) → Prop
  | .int i, .int j, Q => Q (.int (i + j))
  | .str a, .str b, Q => a.length + b.length ≤ sizeLine ∧ Q (.str (a ++ b))
  | .tup a, .tup b, Q => a.length + b.length ≤ sizeLine ∧ Q (.tup (a ++ b))
  | .lst a, .lst b, Q => a.length + b.length ≤ sizeLine ∧ Q (.lst (a ++ b))
  | _, _, _ => False
@[simp] theorem fAdd_1 (i : Int) (j : Int) (Q : D → Prop) : fAdd (.int i : D) (.int j : D) Q = (Q (.int (i + j))) := by first | rfl | (cases x <;> rfl)
@[simp] theorem fAdd_2 (a : Str) (b : Str) (Q : D → Prop) : fAdd (.str a : D) (.str b : D) Q = (a.length + b.length ≤ sizeLine ∧ Q (.str (a ++ b))) := by first | rfl | (cases x <;> rfl)
@[simp] theorem fAdd_3 (a : List D) (b : List D) (Q : D → Prop) : fAdd (.tup a : D) (.tup b : D) Q = (a.length + b.length ≤ sizeLine ∧ Q (.tup (a ++ b))) := by first | rfl | (cases x <;> rfl)
@[simp] theorem fAdd_4 (a : List D) (b : List D) (Q : D → Prop) : fAdd (.lst a : D) (.lst b : D) Q = (a.length + b.length ≤ sizeLine ∧ Q (.lst (a ++ b))) := by first | rfl | (cases x <;> rfl)
def fSub : D → D → (D → Prop) → Prop
  | .int i, .int j, Q => Q (.int (i - j))
  | _, _, _ => False
@[simp] theorem fSub_1 (i : Int) (j : Int) (Q : D → Prop) : fSub (.int i : D) (.int j : D) Q = (Q (.int (i - j))) := by first | rfl | (cases x <;> rfl)
/-- numbers of at most 300 bits each; a list or a tuple, so many times -/
def fMul : D → D → (D → Prop) → Prop
  | .int i, .int j, Q => (Sm i ∧ Sm j) ∧ Q (.int (i * j))
  | .lst a, .int j, Q => (j < 2 ^ 62 ∧ -(2 ^ 62) < j ∧ a.length * j.toNat ≤ sizeLine) ∧ Q (.lst (List.replicate j.toNat a).flatten)
  | .tup a, .int j, Q => (a ≠ [] ∧ 2 ≤ j ∧ j ≤ 1000 ∧ a.length ≤ 1000) ∧ Q (.tup (List.replicate j.toNat a).flatten)
  | _, _, _ => False
@[simp] theorem fMul_1 (i : Int) (j : Int) (Q : D → Prop) : fMul (.int i : D) (.int j : D) Q = ((Sm i ∧ Sm j) ∧ Q (.int (i * j))) := by first | rfl | (cases x <;> rfl)
@[simp] theorem fMul_2 (a : List D) (j : Int) (Q : D → Prop) : fMul (.lst a : D) (.int j : D) Q = ((j < 2 ^ 62 ∧ -(2 ^ 62) < j ∧ a.length * j.toNat ≤ sizeLine) ∧ Q (.lst (List.replicate j.toNat a).flatten)) := by first | rfl | (cases x <;> rfl)
@[simp] theorem fMul_3 (a : List D) (j : Int) (Q : D → Prop) : fMul (.tup a : D) (.int j : D) Q = ((a ≠ [] ∧ 2 ≤ j ∧ j ≤ 1000 ∧ a.length ≤ 1000) ∧ Q (.tup (List.replicate j.toNat a).flatten)) := by first | rfl | (cases x <;> rfl)
def fDiv : D → D → (D → Prop) → Prop
  | .int i, .int j, Q => if 0 < j then Sm j ∧ Q (.int (i / j)) else (j ≠ 0 ∧ -1000000 < j) ∧ Q (.int (i.fdiv j))
  | _, _, _ => False
@[simp] theorem fDiv_1 (i : Int) (j : Int) (Q : D → Prop) : fDiv (.int i : D) (.int j : D) Q = (if 0 < j then Sm j ∧ Q (.int (i / j)) else (j ≠ 0 ∧ -1000000 < j) ∧ Q (.int (i.fdiv j))) := by first | rfl | (cases x <;> rfl)
def fMod : D → D → (D → Prop) → Prop
  | .int i, .int j, Q => if 0 < j then Q (.int (i % j)) else j ≠ 0 ∧ Q (.int (i.fmod j))
  | _, _, _ => False
@[simp] theorem fMod_1 (i : Int) (j : Int) (Q : D → Prop) : fMod (.int i : D) (.int j : D) Q = (if 0 < j then Q (.int (i % j)) else j ≠ 0 ∧ Q (.int (i.fmod j))) := by first | rfl | (cases x <;> rfl)
def fPow : D → D → (D → Prop) → Prop
  | .int i, .int j, Q => (0 ≤ j ∧ j ≤ 1000000 ∧ i.natAbs < 2 ^ 64) ∧ Q (.int (i ^ j.toNat))
  | _, _, _ => False
@[simp] theorem fPow_1 (i : Int) (j : Int) (Q : D → Prop) : fPow (.int i : D) (.int j : D) Q = ((0 ≤ j ∧ j ≤ 1000000 ∧ i.natAbs < 2 ^ 64) ∧ Q (.int (i ^ j.toNat))) := by first | rfl | (cases x <;> rfl)
def fNeg : D → (D → Prop) → Prop
  | .int i, Q => Q (.int (-i))
  | _, _ => False
@[simp] theorem fNeg_1 (i : Int) (Q : D → Prop) : fNeg (.int i : D) Q = (Q (.int (-i))) := by first | rfl | (cases x <;> rfl)
@[simp] def fEq : D → D → (D → Prop) → Prop := fun x y Q => x.fl 12 = true ∧ y.fl 12 = true ∧ Q (.bl (D.eq x y))
@[simp] def fNe : D → D → (D → Prop) → Prop := fun x y Q => x.fl 12 = true ∧ y.fl 12 = true ∧ Q (.bl (!D.eq x y))
def fIcmp (p : Int → Int → Bool) : D → D → (D → Prop) → Prop
  | .int i, .int j, Q => Q (.bl (p i j))
  | _, _, _ => False
@[simp] theorem fIcmp_1 (p : Int → Int → Bool) (i : Int) (j : Int) (Q : D → Prop) : fIcmp p (.int i : D) (.int j : D) Q = (Q (.bl (p i j))) := by first | rfl | (cases x <;> rfl)
@[simp] abbrev fLt := fIcmp fun i j => decide (i < j)
@[simp] abbrev fLe := fIcmp fun i j => decide (i ≤ j)
@[simp] abbrev fGt := fIcmp fun i j => decide (j < i)
@[simp] abbrev fGe := fIcmp fun i j => decide (j ≤ i)
def D.isNon : D → Bool
  | .non => true
  | _ => false
/-- is None, is True, is False -/
def fIs : D → D → (D → Prop) → Prop
  | x, .non, Q => Q (.bl x.isNon)
  | .bl a, .bl b, Q => Q (.bl (decide (a = b)))
  | _, _, _ => False
@[simp] theorem fIs_1 (x : D) (Q : D → Prop) : fIs x (.non : D) Q = (Q (.bl x.isNon)) := by first | rfl | (cases x <;> rfl)
@[simp] theorem fIs_2 (a : Bool) (b : Bool) (Q : D → Prop) : fIs (.bl a : D) (.bl b : D) Q = (Q (.bl (decide (a = b)))) := by first | rfl | (cases x <;> rfl)
def fNis : D → D → (D → Prop) → Prop
  | x, .non, Q => Q (.bl (!x.isNon))
  | .bl a, .bl b, Q => Q (.bl (!decide (a = b)))
  | _, _, _ => False
@[simp] theorem fNis_1 (x : D) (Q : D → Prop) : fNis x (.non : D) Q = (Q (.bl (!x.isNon))) := by first | rfl | (cases x <;> rfl)
@[simp] theorem fNis_2 (a : Bool) (b : Bool) (Q : D → Prop) : fNis (.bl a : D) (.bl b : D) Q = (Q (.bl (!decide (a = b)))) := by first | rfl | (cases x <;> rfl)
def D.flat : D → Bool
  | .non => true
  | .bl _ => true
  | .int _ => true
  | .str _ => true
  | _ => false
def D.inl (x : D) (xs : List D) : Bool := xs.any fun z => D.eq z x
def fIn : D → D → (D → Prop) → Prop
  | x, .lst ys, Q => (x.fl 10 = true ∧ ys.all (D.fl 10) = true) ∧ Q (.bl (x.inl ys))
  | x, .tup ys, Q => (x.flat = true ∧ ys.all D.flat = true) ∧ Q (.bl (x.inl ys))
  | _, _, _ => False
@[simp] theorem fIn_1 (x : D) (ys : List D) (Q : D → Prop) : fIn x (.lst ys : D) Q = ((x.fl 10 = true ∧ ys.all (D.fl 10) = true) ∧ Q (.bl (x.inl ys))) := by first | rfl | (cases x <;> rfl)
@[simp] theorem fIn_2 (x : D) (ys : List D) (Q : D → Prop) : fIn x (.tup ys : D) Q = ((x.flat = true ∧ ys.all D.flat = true) ∧ Q (.bl (x.inl ys))) := by first | rfl | (cases x <;> rfl)
def fNin : D → D → (D → Prop) → Prop
  | x, .lst ys, Q => (x.fl 10 = true ∧ ys.all (D.fl 10) = true) ∧ Q (.bl (!x.inl ys))
  | x, .tup ys, Q => (x.flat = true ∧ ys.all D.flat = true) ∧ Q (.bl (!x.inl ys))
  | _, _, _ => False
@[simp] theorem fNin_1 (x : D) (ys : List D) (Q : D → Prop) : fNin x (.lst ys : D) Q = ((x.fl 10 = true ∧ ys.all (D.fl 10) = true) ∧ Q (.bl (!x.inl ys))) := by first | rfl | (cases x <;> rfl)
@[simp] theorem fNin_2 (x : D) (ys : List D) (Q : D → Prop) : fNin x (.tup ys : D) Q = ((x.flat = true ∧ ys.all D.flat = true) ∧ Q (.bl (!x.inl ys))) := by first | rfl | (cases x <;> rfl)
/-- xs[i] -/
def fIx : D → D → (D → Prop) → Prop
  | .lst xs, .int i, Q => ∃ d, atI xs i = some d ∧ Q d
  | .tup xs, .int i, Q => ∃ d, atI xs i = some d ∧ Q d
  | _, _, _ => False
@[simp] theorem fIx_1 (xs : List D) (i : Int) (Q : D → Prop) : fIx (.lst xs : D) (.int i : D) Q = (∃ d, atI xs i = some d ∧ Q d) := by first | rfl | (cases x <;> rfl)
@[simp] theorem fIx_2 (xs : List D) (i : Int) (Q : D → Prop) : fIx (.tup xs : D) (.int i : D) Q = (∃ d, atI xs i = some d ∧ Q d) := by first | rfl | (cases x <;> rfl)
section
variable {K : PySem.W.Frag} {S : As} {H : Hp}
theorem Rep.flat {v : V} {d : D} (r : Rep K S H v d) (h : d.flat = true) : flatV v = true := by
  cases r <;> first | rfl | cases h
theorem Reps.flat : ∀ {vs : List V} {ds : List D}, Reps K S H vs ds → ds.all D.flat = true → vs.all flatV = true
  | _, [], h, _ => by cases h; rfl
  | _, d :: ds, h, e => by
    cases h with
    | cons h r =>
      simp only [List.all_cons, Bool.and_eq_true] at e ⊢
      exact ⟨h.flat e.1, Reps.flat r e.2⟩
theorem Rep.eqV {v u : V} {d e : D} (r : Rep K S H v d) (q : Rep K S H u e) (h : d.flat = true) (h' : e.flat = true) : L2.eqV v u = D.eq d e := by
  cases r <;> cases q <;> first | (cases h; done) | (cases h'; done) | (simp [L2.eqV, D.eq, D.pd, PyData.eqv]; done) | rfl
theorem Reps.inV {v : V} {d : D} (r : Rep K S H v d) (h : d.flat = true) : ∀ {vs : List V} {ds : List D}, Reps K S H vs ds → ds.all D.flat = true → L2.inV v vs = d.inl ds
  | _, [], q, _ => by cases q; rfl
  | _, e :: ds, q, a => by
    cases q with
    | cons q1 q2 =>
      simp only [List.all_cons, Bool.and_eq_true] at a
      have ih := Reps.inV r h q2 a.2
      have e1 := Rep.eqV q1 r a.1 h
      simp only [L2.inV, D.inl, List.any_cons] at ih ⊢
      rw [e1, ih]
theorem Reps.atI {vs : List V} {ds : List D} {i : Int} {d : D} (r : Reps K S H vs ds) (h : L2.atI ds i = some d) : ∃ v, L2.atI vs i = some v ∧ Rep K S H v d := by
  unfold L2.atI at h ⊢
  rw [r.length]
  cases q : ixN ds.length i with
  | none => rw [q] at h; cases h
  | some j =>
    rw [q] at h
    exact r.get h
theorem pds_any {x : D} : ∀ (ys : List D), ((D.pds ys).any fun z => PyData.eqv z x.pd) = x.inl ys
  | [] => rfl
  | y :: ys => by simp only [D.pds, List.any_cons, D.inl, D.eq, pds_any ys]
end
section
variable {X : Cx}
def rAddD (K : PySem.W.Frag) : R2 := fun x y H Q => ((∃ i j, x = .int i ∧ y = .int j ∧ Q (.int (i + j)) H) ∨ (∃ i j, x = .str i ∧ y = .str j ∧ i.length + j.length ≤ sizeLine ∧ Q (.str (i ++ j)) H)) ∨ (rCatA K x y H Q ∨ rCatL K x y H Q)
theorem op_addD : OpR X (binaryOp .Add) (rAddD X.K) := OpR.or (OpR.or op_add op_add_str) (OpR.or op_catA op_catL)
theorem fr_add : FR X.K (rAddD X.K) fAdd := by
  intro S H ws x y Qd Q vx vy rx ry h k
  cases rx <;> cases ry <;> first | exact (show False from h).elim | skip
  · exact .inl (.inl ⟨_, _, rfl, rfl, .inl (k _ _ S H h .refl ws (.int _))⟩)
  · exact .inl (.inr ⟨_, _, rfl, rfl, h.1, .inl (k _ _ S H h.2 .refl ws (.str _))⟩)
  · rename_i a xs ds ha hxs b ys es hb hys
    obtain ⟨h1, h2⟩ := (show ds.length + es.length ≤ sizeLine ∧ Qd (.tup (ds ++ es)) from h)
    refine .inr (.inl ⟨a, b, xs, ys, rfl, rfl, ha, hb, by rw [hxs.length, hys.length]; exact h1, fun e => ?_, fun n e => ?_, fun n1 n2 p hp => ?_⟩)
    · subst e
      have : ds = [] := List.eq_nil_of_length_eq_zero hxs.length.symm
      subst this
      exact .inl (k _ _ S H h2 .refl ws (.tup hb (by simpa using hys)))
    · subst e
      have : es = [] := List.eq_nil_of_length_eq_zero hys.length.symm
      subst this
      exact .inl (k _ _ S H h2 .refl ws (.tup ha (by simpa using hxs)))
    · have ev : Ev S H S (upd H p (.tup (xs ++ ys))) := .upd hp
      exact .inl (k _ _ S _ h2 ev (ws.upd hp) (.tup (SqT.of upd_same) (Reps.stb (ev.stb ws) _ _ (hxs.append hys))))
  · rename_i a xs ds ha hxs b ys es hb hys
    obtain ⟨h1, h2⟩ := (show ds.length + es.length ≤ sizeLine ∧ Qd (.lst (ds ++ es)) from h)
    refine .inr (.inr ⟨a, b, xs, ys, rfl, rfl, ha.sq, hb.sq, by rw [hxs.length, hys.length]; exact h1, fun p hp => ?_⟩)
    refine .inr ⟨p, _, rfl, upd_same, fun o => ?_⟩
    have ev : Ev S H S (upd (upd H p (.lst (xs ++ ys))) p (.frz o (.lst (xs ++ ys)))) := by rw [upd_upd]; exact .upd hp
    exact k _ _ S _ h2 ev (by rw [upd_upd]; exact ws.upd hp) (.lst (.inl ⟨o, upd_same⟩) (Reps.stb (ev.stb ws) _ _ (hxs.append hys)))
theorem fr_sub : FR X.K (rI0 fun i j => .int (i - j)) fSub := by
  intro S H ws x y Qd Q vx vy rx ry h k
  cases rx <;> cases ry <;> first | exact (show False from h).elim | skip
  exact ⟨_, _, rfl, rfl, .inl (k _ _ S H h .refl ws (.int _))⟩
def rMulD (K : PySem.W.Frag) : R2 := fun x y H Q => rI CMulW (fun i j => .int (i * j)) x y H Q ∨ (rRepL K x y H Q ∨ rRepT K x y H Q)
theorem op_mulD : OpR X (binaryOp .Mult) (rMulD X.K) := OpR.or op_mulW (OpR.or op_repL op_repT)
theorem Reps.rep {K : PySem.W.Frag} {S : As} {H : Hp} {vs : List V} {ds : List D} (r : Reps K S H vs ds) : ∀ n : Nat, Reps K S H (List.replicate n vs).flatten (List.replicate n ds).flatten
  | 0 => .nil
  | n + 1 => by rw [List.replicate_succ, List.replicate_succ, List.flatten_cons, List.flatten_cons]; exact r.append (Reps.rep r n)
theorem fr_mul : FR X.K (rMulD X.K) fMul := by
  intro S H ws x y Qd Q vx vy rx ry h k
  cases rx <;> cases ry <;> first | exact (show False from h).elim | skip
  · exact .inl ⟨_, _, rfl, rfl, wide_mul h.1.1 h.1.2 (by decide) (by decide) (by decide), .inl (k _ _ S H h.2 .refl ws (.int _))⟩
  · rename_i a xs ds ha hxs j
    obtain ⟨⟨h1, h2, h3, h4⟩, hq⟩ := (show (ds ≠ [] ∧ 2 ≤ j ∧ j ≤ 1000 ∧ ds.length ≤ 1000) ∧ Qd (.tup (List.replicate j.toNat ds).flatten) from h)
    refine .inr (.inr ⟨a, j, xs, rfl, rfl, ha, fun e => h1 ?_, h2, h3, by rw [hxs.length]; exact h4, fun p hp => ?_⟩)
    · subst e
      exact List.eq_nil_of_length_eq_zero hxs.length.symm
    · have ev : Ev S H S (upd H p (.tup (List.replicate j.toNat xs).flatten)) := .upd hp
      exact .inl (k _ _ S _ hq ev (ws.upd hp) (.tup (SqT.of upd_same) (Reps.stb (ev.stb ws) _ _ (hxs.rep _))))
  · rename_i a xs ds ha hxs j
    obtain ⟨⟨h1, h2, h3⟩, hq⟩ := (show (j < 2 ^ 62 ∧ -(2 ^ 62) < j ∧ ds.length * j.toNat ≤ sizeLine) ∧ Qd (.lst (List.replicate j.toNat ds).flatten) from h)
    refine .inr (.inl ⟨a, j, xs, rfl, rfl, ha.sq, by omega, by omega, by rw [hxs.length]; exact h3, fun p hp => ?_⟩)
    refine .inr ⟨p, _, rfl, upd_same, fun o => ?_⟩
    have ev : Ev S H S (upd (upd H p (.lst (List.replicate j.toNat xs).flatten)) p (.frz o (.lst (List.replicate j.toNat xs).flatten))) := by rw [upd_upd]; exact .upd hp
    exact k _ _ S _ hq ev (by rw [upd_upd]; exact ws.upd hp) (.lst (.inl ⟨o, upd_same⟩) (Reps.stb (ev.stb ws) _ _ (hxs.rep _)))
def rDivD : R2 := fun x y H Q => rI CDivW (fun i j => .int (i / j)) x y H Q ∨ rI CDivN (fun i j => .int (i.fdiv j)) x y H Q
theorem op_divD : OpR X (binaryOp .FloorDiv) rDivD := OpR.or op_fdivW op_fdivN
theorem fr_div : FR X.K rDivD fDiv := by
  intro S H ws x y Qd Q vx vy rx ry h k
  cases rx <;> cases ry <;> first | exact (show False from h).elim | skip
  rename_i i j
  have h' : if 0 < j then Sm j ∧ Qd (.int (i / j)) else (j ≠ 0 ∧ -1000000 < j) ∧ Qd (.int (i.fdiv j)) := h
  split at h'
  · exact .inl ⟨_, _, rfl, rfl, wide_div (by assumption) (b := 300) (by have : j.natAbs < 2 ^ 300 := h'.1; omega) (by decide) (by decide), .inl (k _ _ S H h'.2 .refl ws (.int _))⟩
  · exact .inr ⟨_, _, rfl, rfl, ⟨h'.1.1, by omega⟩, .inl (k _ _ S H h'.2 .refl ws (.int _))⟩
def rModD : R2 := fun x y H Q => rI (fun _ j => 0 < j) (fun i j => .int (i % j)) x y H Q ∨ rI (fun _ j => j ≠ 0) (fun i j => .int (i.fmod j)) x y H Q
theorem op_modD : OpR X (binaryOp .Mod) rModD := OpR.or op_mod op_modN
theorem fr_mod : FR X.K rModD fMod := by
  intro S H ws x y Qd Q vx vy rx ry h k
  cases rx <;> cases ry <;> first | exact (show False from h).elim | skip
  rename_i i j
  have h' : if 0 < j then Qd (.int (i % j)) else j ≠ 0 ∧ Qd (.int (i.fmod j)) := h
  split at h'
  · exact .inl ⟨_, _, rfl, rfl, by assumption, .inl (k _ _ S H h' .refl ws (.int _))⟩
  · exact .inr ⟨_, _, rfl, rfl, h'.1, .inl (k _ _ S H h'.2 .refl ws (.int _))⟩
theorem fr_pow : FR X.K (rI CPow fun i j => .int (i ^ j.toNat)) fPow := by
  intro S H ws x y Qd Q vx vy rx ry h k
  cases rx <;> cases ry <;> first | exact (show False from h).elim | skip
  exact ⟨_, _, rfl, rfl, h.1, .inl (k _ _ S H h.2 .refl ws (.int _))⟩
theorem fu_neg : FU X.K (rU fun i => .int (-i)) fNeg := by
  intro S H ws x Qd Q vx rx h k
  cases rx <;> first | exact (show False from h).elim | skip
  exact ⟨_, rfl, .inl (k _ _ S H h .refl ws (.int _))⟩
theorem fr_eq : FR X.K (rEqD X.K) fEq := by
  intro S H ws x y Qd Q vx vy rx ry h k
  obtain ⟨h1, h2, h3⟩ := h
  exact ⟨_, _, Rep.dp 12 _ _ h1 rx, Rep.dp 12 _ _ h2 ry, D.shaped (by decide) h1, D.shaped (by decide) h2, .inl (k _ _ S H h3 .refl ws (.bl _))⟩
theorem fr_ne : FR X.K (rNeD X.K) fNe := by
  intro S H ws x y Qd Q vx vy rx ry h k
  obtain ⟨h1, h2, h3⟩ := h
  exact ⟨_, _, Rep.dp 12 _ _ h1 rx, Rep.dp 12 _ _ h2 ry, D.shaped (by decide) h1, D.shaped (by decide) h2, .inl (k _ _ S H h3 .refl ws (.bl _))⟩
theorem fr_icmp {p : Int → Int → Bool} : FR X.K (rI0 fun i j => .bl (p i j)) (fIcmp p) := by
  intro S H ws x y Qd Q vx vy rx ry h k
  cases rx <;> cases ry <;> first | exact (show False from h).elim | skip
  exact ⟨_, _, rfl, rfl, .inl (k _ _ S H h .refl ws (.bl _))⟩
def rIsD : R2 := fun x y H Q => (y = .non ∧ Q (.bl (decide (x = .non))) H) ∨ (∃ a b, x = .bl a ∧ y = .bl b ∧ Q (.bl (decide (a = b))) H)
theorem op_isD : OpR X (compareOp .Is) rIsD := OpR.or op_isN op_is_bl
def rNisD : R2 := fun x y H Q => (y = .non ∧ Q (.bl (!decide (x = .non))) H) ∨ (∃ a b, x = .bl a ∧ y = .bl b ∧ Q (.bl (!decide (a = b))) H)
theorem op_nisD : OpR X (compareOp .IsNot) rNisD := OpR.or op_notN op_isnot_bl
theorem Rep.isNon {K : PySem.W.Frag} {S : As} {H : Hp} {v : V} {d : D} (r : Rep K S H v d) : decide (v = .non) = d.isNon := by
  cases r <;> simp [D.isNon]
theorem fr_is : FR X.K rIsD fIs := by
  intro S H ws x y Qd Q vx vy rx ry h k
  cases ry with
  | non =>
    have h' : Qd (.bl x.isNon) := by cases x <;> exact h
    exact .inl ⟨rfl, .inl (k _ _ S H h' .refl ws (by rw [rx.isNon]; exact .bl _))⟩
  | bl b =>
    cases rx <;> first | exact (show False from h).elim | skip
    exact .inr ⟨_, _, rfl, rfl, .inl (k _ _ S H h .refl ws (.bl _))⟩
  | _ => cases x <;> exact (show False from h).elim
theorem fr_nis : FR X.K rNisD fNis := by
  intro S H ws x y Qd Q vx vy rx ry h k
  cases ry with
  | non =>
    have h' : Qd (.bl (!x.isNon)) := by cases x <;> exact h
    exact .inl ⟨rfl, .inl (k _ _ S H h' .refl ws (by rw [rx.isNon]; exact .bl _))⟩
  | bl b =>
    cases rx <;> first | exact (show False from h).elim | skip
    exact .inr ⟨_, _, rfl, rfl, .inl (k _ _ S H h .refl ws (.bl _))⟩
  | _ => cases x <;> exact (show False from h).elim
theorem op_inDD (hu : X.A.units + 65 < cLine) : OpR X (compareOp .In) (fun x y H Q => rInD X.K x y H Q ∨ rIn X.K false x y H Q) := OpR.or (op_inD hu) op_in_seq
theorem op_ninDD (hu : X.A.units + 65 < cLine) : OpR X (compareOp .NotIn) (fun x y H Q => rNotInD X.K x y H Q ∨ rIn X.K true x y H Q) := OpR.or (op_notInD hu) op_notIn_seq
theorem fr_in : FR X.K (fun x y H Q => rInD X.K x y H Q ∨ rIn X.K false x y H Q) fIn := by
  intro S H ws x y Qd Q vx vy rx ry h k
  cases ry with
  | lst ha hys =>
    rename_i a vs ys
    have h' : (x.fl 10 = true ∧ ys.all (D.fl 10) = true) ∧ Qd (.bl (x.inl ys)) := by cases x <;> exact h
    have hl : (D.lst ys).fl 11 = true := h'.1.2
    exact .inl ⟨_, _, Rep.dp 10 _ _ h'.1.1 rx, Rep.dp 11 _ _ hl (.lst ha hys), D.shaped (by decide) h'.1.1, D.shaped (by decide) hl, .inl (k _ _ S H h'.2 .refl ws (by rw [pds_any]; exact .bl _))⟩
  | tup ha hys =>
    rename_i a vs ys
    have h' : (x.flat = true ∧ ys.all D.flat = true) ∧ Qd (.bl (x.inl ys)) := by cases x <;> exact h
    refine .inr ⟨a, vs, rfl, .inr ha, rx.flat h'.1.1, hys.flat h'.1.2, .inl (k _ _ S H h'.2 .refl ws ?_)⟩
    rw [Reps.inV rx h'.1.1 hys h'.1.2]
    exact .bl _
  | _ => cases x <;> exact (show False from h).elim
theorem fr_nin : FR X.K (fun x y H Q => rNotInD X.K x y H Q ∨ rIn X.K true x y H Q) fNin := by
  intro S H ws x y Qd Q vx vy rx ry h k
  cases ry with
  | lst ha hys =>
    rename_i a vs ys
    have h' : (x.fl 10 = true ∧ ys.all (D.fl 10) = true) ∧ Qd (.bl (!x.inl ys)) := by cases x <;> exact h
    have hl : (D.lst ys).fl 11 = true := h'.1.2
    exact .inl ⟨_, _, Rep.dp 10 _ _ h'.1.1 rx, Rep.dp 11 _ _ hl (.lst ha hys), D.shaped (by decide) h'.1.1, D.shaped (by decide) hl, .inl (k _ _ S H h'.2 .refl ws (by rw [pds_any]; exact .bl _))⟩
  | tup ha hys =>
    rename_i a vs ys
    have h' : (x.flat = true ∧ ys.all D.flat = true) ∧ Qd (.bl (!x.inl ys)) := by cases x <;> exact h
    refine .inr ⟨a, vs, rfl, .inr ha, rx.flat h'.1.1, hys.flat h'.1.2, .inl (k _ _ S H h'.2 .refl ws ?_)⟩
    simp only [if_true]
    rw [Reps.inV rx h'.1.1 hys h'.1.2]
    exact .bl _
  | _ => cases x <;> exact (show False from h).elim
theorem ix_D : IxR X (fun x y H Q => rIxL X.K x y H Q ∨ rIxT X.K x y H Q) := IxR.or ix_list ix_tup
theorem fr_ix : FR X.K (fun x y H Q => rIxL X.K x y H Q ∨ rIxT X.K x y H Q) fIx := by
  intro S H ws x y Qd Q vx vy rx ry h k
  cases rx <;> cases ry <;> first | exact (show False from h).elim | skip
  · rename_i a xs ds ha hxs i
    obtain ⟨d, h1, h2⟩ := (show ∃ d, atI ds i = some d ∧ Qd d from h)
    obtain ⟨v, e, r⟩ := hxs.atI h1
    exact .inr ⟨a, xs, i, v, rfl, rfl, ha, e, .inl (k _ _ S H h2 .refl ws r)⟩
  · rename_i a xs ds ha hxs i
    obtain ⟨d, h1, h2⟩ := (show ∃ d, atI ds i = some d ∧ Qd d from h)
    obtain ⟨v, e, r⟩ := hxs.atI h1
    exact .inl ⟨a, xs, i, v, rfl, rfl, ha.sq, e, .inl (k _ _ S H h2 .refl ws r)⟩
end
end PD

set_option Elab.async false
set_option linter.all false
set_option maxRecDepth 100000
set_option maxHeartbeats 1000000
namespace PD
open PySem PySem.Spec PyProof.Rows L2
/-! ### tests, displays, slices -/
@[simp] def wB (w : WE) : WB := fun Γ Q E => w Γ (fun d => ∃ b, d = .bl b ∧ Q b) E
@[simp] def wBnot (w : WB) : WB := fun Γ Q E => w Γ (fun b => Q (!b)) E
@[simp] def wBand (a b : WB) : WB := fun Γ Q E => a Γ (fun c => if c = true then b Γ Q E else Q false) E
@[simp] def wBor (a b : WB) : WB := fun Γ Q E => a Γ (fun c => if c = true then Q true else b Γ Q E) E
@[simp] def wAnd (a b : WE) : WE := fun Γ Q E => a Γ (fun d => ∃ c, d = .bl c ∧ if c = true then b Γ Q E else Q (.bl false)) E
@[simp] def wOr (a b : WE) : WE := fun Γ Q E => a Γ (fun d => ∃ c, d = .bl c ∧ if c = true then Q (.bl true) else b Γ Q E) E
@[simp] def wNot (a : WE) : WE := fun Γ Q E => a Γ (fun d => ∃ c, d = .bl c ∧ Q (.bl (!c))) E
@[simp] def wIfE (c : WB) (a b : WE) : WE := fun Γ Q E => c Γ (fun t => if t = true then a Γ Q E else b Γ Q E) E
@[simp] def wChain (p q : Int → Int → Bool) (a b c : WE) : WE := fun Γ Q E => a Γ (fun x => b Γ (fun y => ∃ i j, x = .int i ∧ y = .int j ∧ if p i j = true then c Γ (fun t => ∃ l, t = .int l ∧ Q (.bl (q j l))) E else Q (.bl false)) E) E
@[simp] def wTup (w : WA) : WE := fun Γ Q E => w Γ (fun ds => ds.length ≤ 1000 ∧ Q (.tup ds)) E
@[simp] def wLst (w : WA) : WE := fun Γ Q E => w Γ (fun ds => ds.length ≤ 1000 ∧ Q (.lst ds)) E
theorem le1000 {n : Nat} (h : n ≤ 1000) : n ≤ sizeLine := Nat.le_of_lt (small1000 h)
section
variable {X : Cx} {E : XK}
theorem t_val {e : Expr} {w : WE} (h : PE X e (tD X.K E w)) (he : ∀ whole, isTrue e X.env whole = (do let v ← whole; standAt e.pos; holding [v] (truthy v)) := by intro _; rfl) : PT X e (tDB X.K E (wB w)) :=
  (pt_val h he).imp fun σ H Q h => by
    obtain ⟨O, S, Γ, Qd, Ed, ws, m, w, k, ke⟩ := h
    refine ⟨O, S, Γ, _, Ed, ws, m, w, fun v d S1 H1 q1 e1 w1 r1 => ?_, ke⟩
    obtain ⟨b, rfl, q⟩ := q1
    cases r1
    exact ⟨b, rfl, k b S1 H1 q e1 w1⟩
theorem pt_cmpF {op : CmpOp} {r : R2} {a b : Expr} {ta tb : TE} {pos : Pos} (ho : OpR X (compareOp op) r) (ha : PE X a ta) (hb : PE X b tb) (hm : behindInMarks op b = false) : PT X (.Compare a [op] [b] pos) (fun σ H Q => tOp r ta tb σ H (fzQ fun x H' => ∃ k, x = .bl k ∧ Q k H')) := by
  refine ⟨fun pins s σ H Q I h => ?_⟩
  refine wpAny_isTrue_Compare1 (thn (ha.run pins s σ H _ I h) fun v s1 ⟨x, H1, I1, r1, q1⟩ => thn (hb.run pins s1 σ H1 _ I1 q1) fun u s2 ⟨y, H2, I2, r2, q2⟩ =>
    thn (ho pins s2 σ H2 x y v u _ I2 r1 r2 q2) fun c s3 ⟨z, H3, I3, r3, q3⟩ => ?_) hm
  rcases q3 with ⟨k, e, q3⟩ | ⟨a, xs, e, _, q3⟩
  · subst e
    cases r3
    exact wpAny_truthy_bool ⟨H3, I3, q3⟩
  · obtain ⟨k, e2, _⟩ := q3 ⟨.none, none, .seq #[] 0, #[]⟩
    rw [e] at e2
    cases e2
theorem t_cmp {op : CmpOp} {r : R2} {f : D → D → (D → Prop) → Prop} {a b : Expr} {wa wb : WE} {pos : Pos} (hr : OpR X (compareOp op) r) (hf : FR X.K r f) (ha : PE X a (tD X.K E wa)) (hb : PE X b (tD X.K E wb)) (hm : behindInMarks op b = false) :
    PT X (.Compare a [op] [b] pos) (tDB X.K E (wB (wBin f wa wb))) := (pt_cmpF hr ha hb hm).imp fun σ H Q h => by
  refine tD_op hf ?_
  obtain ⟨O, S, Γ, Qd, Ed, ws, m, w, k, ke⟩ := h
  refine ⟨O, S, Γ, _, Ed, ws, m, w, fun v d S1 H1 q1 e1 w1 r1 => ?_, ke⟩
  obtain ⟨b, rfl, q⟩ := q1
  cases r1
  exact ⟨b, rfl, k b S1 H1 q e1 w1⟩
theorem t_not {e : Expr} {w : WB} {pos : Pos} (h : PT X e (tDB X.K E w)) : PT X (.UnaryOp .Not e pos) (tDB X.K E (wBnot w)) :=
  (pt_not h).imp fun σ H Q h => by
    obtain ⟨O, S, Γ, Qd, Ed, ws, m, w, k, ke⟩ := h
    exact ⟨O, S, Γ, _, Ed, ws, m, w, fun b S1 H1 q1 e1 w1 => k (!b) S1 H1 q1 e1 w1, ke⟩
theorem tDB_if {wb : WB} {O S S1 : As} {Γ : List Sl} {Qd : Bool → Prop} {Ed : Ex} {H H1 : Hp} {σ : L2.St} {Q : Bool → Hp → Prop} (ws : Ws S H) (m : Mat X.K O S H σ Γ) (e1 : Ev S H S1 H1) (w1 : Ws S1 H1) (k : ∀ b S' H', Qd b → Ev S H S' H' → Ws S' H' → Q b H') (ke : kE E S H Ed)
    (q : wb Γ Qd Ed) : tDB X.K E wb σ H1 Q :=
  ⟨O, S1, Γ, _, Ed, w1, m.ev ws w1 e1, q, fun b S2 H2 q2 e2 w2 => k b S2 H2 q2 (e1.trans w1 e2) w2, ke.ev w1 e1⟩
theorem tD_if {wb : WE} {O S S1 : As} {Γ : List Sl} {Qd : D → Prop} {Ed : Ex} {H H1 : Hp} {σ : L2.St} {Q : VK} (ws : Ws S H) (m : Mat X.K O S H σ Γ) (e1 : Ev S H S1 H1) (w1 : Ws S1 H1) (k : ∀ v d S' H', Qd d → Ev S H S' H' → Ws S' H' → Rep X.K S' H' v d → Q v H') (ke : kE E S H Ed)
    (q : wb Γ Qd Ed) : tD X.K E wb σ H1 Q :=
  ⟨O, S1, Γ, _, Ed, w1, m.ev ws w1 e1, q, fun v d S2 H2 q2 e2 w2 r2 => k v d S2 H2 q2 (e1.trans w1 e2) w2 r2, ke.ev w1 e1⟩
theorem t_and1 {a : Expr} {w : WB} {pos : Pos} (h : PT X a (tDB X.K E w)) : PW X (.BoolOp .And [a] pos) (tDB X.K E w) := pw_and1 h
theorem t_or1 {a : Expr} {w : WB} {pos : Pos} (h : PT X a (tDB X.K E w)) : PW X (.BoolOp .Or [a] pos) (tDB X.K E w) := pw_or1 h
theorem PWimp {e : Expr} {t t' : TT} (h : PW X e t) (q : ∀ σ H Q, t' σ H Q → t σ H Q) : PW X e t' := ⟨fun wh pins s σ H Q I w => h.run wh pins s σ H Q I (q _ _ _ w)⟩
theorem t_and {a b : Expr} {rest : List Expr} {wa wb : WB} {pos : Pos} (ha : PT X a (tDB X.K E wa)) (hb : PW X (.BoolOp .And (b :: rest) pos) (tDB X.K E wb)) : PW X (.BoolOp .And (a :: b :: rest) pos) (tDB X.K E (wBand wa wb)) :=
  PWimp (pw_and ha hb) fun σ H Q h => by
    obtain ⟨O, S, Γ, Qd, Ed, ws, m, w, k, ke⟩ := h
    refine ⟨O, S, Γ, _, Ed, ws, m, w, fun c S1 H1 q1 e1 w1 => ?_, ke⟩
    cases c with
    | true => exact tDB_if ws m e1 w1 k ke q1
    | false => exact k false S1 H1 q1 e1 w1
theorem t_or {a b : Expr} {rest : List Expr} {wa wb : WB} {pos : Pos} (ha : PT X a (tDB X.K E wa)) (hb : PW X (.BoolOp .Or (b :: rest) pos) (tDB X.K E wb)) : PW X (.BoolOp .Or (a :: b :: rest) pos) (tDB X.K E (wBor wa wb)) :=
  PWimp (pw_or ha hb) fun σ H Q h => by
    obtain ⟨O, S, Γ, Qd, Ed, ws, m, w, k, ke⟩ := h
    refine ⟨O, S, Γ, _, Ed, ws, m, w, fun c S1 H1 q1 e1 w1 => ?_, ke⟩
    cases c with
    | true => exact k true S1 H1 q1 e1 w1
    | false => exact tDB_if ws m e1 w1 k ke q1
theorem d_one {op} {a : Expr} {w : WE} {pos : Pos} (h : PE X a (tD X.K E w)) : PE X (.BoolOp op [a] pos) (tD X.K E w) := pe_one h
theorem d_and {a b : Expr} {rest : List Expr} {wa wb : WE} {pos : Pos} (ha : PE X a (tD X.K E wa)) (hb : PE X (.BoolOp .And (b :: rest) pos) (tD X.K E wb)) : PE X (.BoolOp .And (a :: b :: rest) pos) (tD X.K E (wAnd wa wb)) :=
  (pe_and ha hb).imp fun σ H Q h => by
    obtain ⟨O, S, Γ, Qd, Ed, ws, m, w, k, ke⟩ := h
    refine ⟨O, S, Γ, _, Ed, ws, m, w, fun v d S1 H1 q1 e1 w1 r1 => ?_, ke⟩
    obtain ⟨c, rfl, q⟩ := q1
    cases r1
    refine ⟨c, rfl, ?_⟩
    cases c with
    | true => exact tD_if ws m e1 w1 k ke q
    | false => exact k _ _ S1 H1 q e1 w1 (.bl _)
theorem d_or {a b : Expr} {rest : List Expr} {wa wb : WE} {pos : Pos} (ha : PE X a (tD X.K E wa)) (hb : PE X (.BoolOp .Or (b :: rest) pos) (tD X.K E wb)) : PE X (.BoolOp .Or (a :: b :: rest) pos) (tD X.K E (wOr wa wb)) :=
  (pe_or ha hb).imp fun σ H Q h => by
    obtain ⟨O, S, Γ, Qd, Ed, ws, m, w, k, ke⟩ := h
    refine ⟨O, S, Γ, _, Ed, ws, m, w, fun v d S1 H1 q1 e1 w1 r1 => ?_, ke⟩
    obtain ⟨c, rfl, q⟩ := q1
    cases r1
    refine ⟨c, rfl, ?_⟩
    cases c with
    | true => exact k _ _ S1 H1 q e1 w1 (.bl _)
    | false => exact tD_if ws m e1 w1 k ke q
theorem d_not {a : Expr} {wa : WE} {pos : Pos} (ha : PE X a (tD X.K E wa)) : PE X (.UnaryOp .Not a pos) (tD X.K E (wNot wa)) :=
  (pe_not ha).imp fun σ H Q h => by
    obtain ⟨O, S, Γ, Qd, Ed, ws, m, w, k, ke⟩ := h
    refine ⟨O, S, Γ, _, Ed, ws, m, w, fun v d S1 H1 q1 e1 w1 r1 => ?_, ke⟩
    obtain ⟨c, rfl, q⟩ := q1
    cases r1
    exact ⟨c, rfl, k _ _ S1 H1 q e1 w1 (.bl _)⟩
theorem d_ife {c a b : Expr} {wc : WB} {wa wb : WE} {pos : Pos} (hc : PT X c (tDB X.K E wc)) (ha : PE X a (tD X.K E wa)) (hb : PE X b (tD X.K E wb)) : PE X (.IfExp c a b pos) (tD X.K E (wIfE wc wa wb)) :=
  (pe_ifExp hc ha hb).imp fun σ H Q h => by
    obtain ⟨O, S, Γ, Qd, Ed, ws, m, w, k, ke⟩ := h
    refine ⟨O, S, Γ, _, Ed, ws, m, w, fun t S1 H1 q1 e1 w1 => ?_, ke⟩
    cases t with
    | true => exact tD_if ws m e1 w1 k ke q1
    | false => exact tD_if ws m e1 w1 k ke q1
theorem chain_imp {p q : Int → Int → Bool} {wa wb wc : WE} {K : PySem.W.Frag} {σ : L2.St} {H : Hp} {Q : VK} (h : tD K E (wChain p q wa wb wc) σ H Q) :
    tChain (rI0 fun i j => .bl (p i j)) (rI0 fun i j => .bl (q i j)) (tD K E wa) (tD K E wb) (tD K E wc) σ H Q := by
    obtain ⟨O, S, Γ, Qd, Ed, ws, m, w, k, ke⟩ := h
    refine ⟨O, S, Γ, _, Ed, ws, m, w, fun vx x S1 H1 q1 e1 w1 r1 => ?_, ke⟩
    refine ⟨O, S1, Γ, _, Ed, w1, m.ev ws w1 e1, q1, fun vy y S2 H2 q2 e2 w2 r2 => ?_, ke.ev w1 e1⟩
    obtain ⟨i, j, rfl, rfl, qq⟩ := q2
    cases r1
    cases r2
    have ee := e1.trans w1 e2
    refine ⟨i, j, rfl, rfl, _, rfl, ?_⟩
    cases hp : p i j with
    | true =>
      rw [hp] at qq
      refine ⟨O, S2, Γ, _, Ed, w2, m.ev ws w2 ee, qq, fun vt t S3 H3 q3 e3 w3 r3 => ?_, ke.ev w2 ee⟩
      obtain ⟨l, rfl, q4⟩ := q3
      cases r3
      exact ⟨j, l, rfl, rfl, k _ _ S3 H3 q4 (ee.trans w2 e3) w3 (.bl _)⟩
    | false =>
      rw [hp] at qq
      exact k _ _ S2 H2 qq ee w2 (.bl _)
theorem d_chain {op op' : CmpOp} {p q : Int → Int → Bool} {a b c : Expr} {wa wb wc : WE} {pos : Pos} (ho : OpR X (compareOp op) (rI0 fun i j => .bl (p i j))) (ho' : OpR X (compareOp op') (rI0 fun i j => .bl (q i j)))
    (ha : PE X a (tD X.K E wa)) (hb : PE X b (tD X.K E wb)) (hc : PE X c (tD X.K E wc)) (hm : lastMarks [op, op'] [b, c] = false := by rfl) :
    PE X (.Compare a [op, op'] [b, c] pos) (tD X.K E (wChain p q wa wb wc)) :=
  (pe_chain ho ho' ha hb hc hm).imp fun _ _ _ h => chain_imp h
theorem t_chain {op op' : CmpOp} {p q : Int → Int → Bool} {a b c : Expr} {wa wb wc : WE} {pos : Pos} (ho : OpR X (compareOp op) (rI0 fun i j => .bl (p i j))) (ho' : OpR X (compareOp op') (rI0 fun i j => .bl (q i j)))
    (ha : PE X a (tD X.K E wa)) (hb : PE X b (tD X.K E wb)) (hc : PE X c (tD X.K E wc)) (hm : lastMarks [op, op'] [b, c] = false := by with_unfolding_all rfl) :
    PT X (.Compare a [op, op'] [b, c] pos) (tDB X.K E (wB (wChain p q wa wb wc))) :=
  (pt_chain ho ho' ha hb hc hm).imp fun σ H Q h => by
    refine chain_imp ?_
    obtain ⟨O, S, Γ, Qd, Ed, ws, m, w, k, ke⟩ := h
    refine ⟨O, S, Γ, _, Ed, ws, m, w, fun v d S1 H1 q1 e1 w1 r1 => ?_, ke⟩
    obtain ⟨b, rfl, q⟩ := q1
    cases r1
    exact ⟨b, rfl, k b S1 H1 q e1 w1⟩
/-! displays -/
theorem d_tup {es : List Expr} {w : WA} {x1} {pos : Pos} (h : PA X es (tDA X.K E w)) : PE X (.Tuple es x1 pos) (tD X.K E (wTup w)) :=
  (pe_tup h).imp fun σ H Q h => by
    obtain ⟨O, S, Γ, Qd, Ed, ws, m, w, k, ke⟩ := h
    refine ⟨O, S, Γ, _, Ed, ws, m, w, fun vs ds S1 H1 q1 e1 w1 r1 => ⟨by rw [r1.length]; exact le1000 q1.1, fun p hp => ?_⟩, ke⟩
    have ev : Ev S1 H1 S1 (upd H1 p (.tup vs)) := .upd hp
    exact k _ _ S1 _ q1.2 (e1.trans w1 ev) (w1.upd hp) (.tup (SqT.of upd_same) (Reps.stb (ev.stb w1) _ _ r1))
/-- a new list of these, frozen -/
theorem lst_frz {K : PySem.W.Frag} {S : As} {H : Hp} {p : Addr} {vs : List V} {ds : List D} {o : Obj} (ws : Ws S H) (hp : H p = none) (r : Reps K S H vs ds) :
    Ev S H S (upd (upd H p (.lst vs)) p (.frz o (.lst vs))) ∧ Ws S (upd (upd H p (.lst vs)) p (.frz o (.lst vs))) ∧ Rep K S (upd (upd H p (.lst vs)) p (.frz o (.lst vs))) (.ref p) (.lst ds) := by
  rw [upd_upd]
  have ev : Ev S H S (upd H p (.frz o (.lst vs))) := .upd hp
  exact ⟨ev, ws.upd hp, .lst (.inl ⟨o, upd_same⟩) (Reps.stb (ev.stb ws) _ _ r)⟩
theorem new_lst {K : PySem.W.Frag} {S : As} {H : Hp} {vs : List V} {ds : List D} {Qd : D → Prop} {Q : VK} (ws : Ws S H) (r : Reps K S H vs ds) (q : Qd (.lst ds)) (k : ∀ v d S' H', Qd d → Ev S H S' H' → Ws S' H' → Rep K S' H' v d → Q v H') : ∀ p, H p = none → fzQ Q (.ref p) (upd H p (.lst vs)) := fun p hp => by
  refine .inr ⟨p, vs, rfl, upd_same, fun o => ?_⟩
  obtain ⟨a, b, c⟩ := lst_frz (o := o) ws hp r
  exact k _ _ S _ q a b c
theorem new_tup {K : PySem.W.Frag} {S : As} {H : Hp} {vs : List V} {ds : List D} {Qd : D → Prop} {Q : VK} (ws : Ws S H) (r : Reps K S H vs ds) (q : Qd (.tup ds)) (k : ∀ v d S' H', Qd d → Ev S H S' H' → Ws S' H' → Rep K S' H' v d → Q v H') : ∀ p, H p = none → fzQ Q (.ref p) (upd H p (.tup vs)) := fun p hp => by
  have ev : Ev S H S (upd H p (.tup vs)) := .upd hp
  exact .inl (k _ _ S _ q ev (ws.upd hp) (.tup (SqT.of upd_same) (Reps.stb (ev.stb ws) _ _ r)))
theorem d_lst {es : List Expr} {w : WA} {pos : Pos} (h : PA X es (tDA X.K E w)) : PE X (.List es pos) (tD X.K E (wLst w)) :=
  (pe_lst h).frz.imp fun σ H Q h => by
    obtain ⟨O, S, Γ, Qd, Ed, ws, m, w, k, ke⟩ := h
    refine ⟨O, S, Γ, _, Ed, ws, m, w, fun vs ds S1 H1 q1 e1 w1 r1 => ⟨by rw [r1.length]; exact le1000 q1.1, ?_⟩, ke⟩
    exact new_lst w1 r1 q1.2 fun v d S' H' q e w' r => k v d S' H' q (e1.trans w1 e) w' r
/-! slices -/
abbrev WO := List Sl → (Option Int → Prop) → Ex → Prop
@[simp] def wNo : WO := fun _ Q _ => Q none
@[simp] def wSo (w : WE) : WO := fun Γ Q E => w Γ (fun d => ∃ i, d = .int i ∧ Q (some i)) E
def tDO (K : PySem.W.Frag) (E : XK) (w : WO) : L2.St → Hp → (Option Int → Hp → Prop) → Prop := fun σ H Q => ∃ O S Γ Qd Ed, Ws S H ∧ Mat K O S H σ Γ ∧ w Γ Qd Ed ∧ (∀ b S' H', Qd b → Ev S H S' H' → Ws S' H' → Q b H') ∧ kE E S H Ed
def cutD {α : Type} (xs : List α) (lo hi : Option Int) : List α := (xs.drop (HT.sIx xs.length 0 lo)).take (HT.sIx xs.length xs.length hi - HT.sIx xs.length 0 lo)
def fSl : D → Option Int → Option Int → (D → Prop) → Prop
  | .lst xs, lo, hi, Q => Q (.lst (cutD xs lo hi))
  | .tup xs, lo, hi, Q => Q (.tup (cutD xs lo hi))
  | .str x, lo, hi, Q => x.length ≤ sizeLine ∧ Q (.str (cutS x lo hi))
  | _, _, _, _ => False
@[simp] theorem fSl_1 (xs : List D) (lo : Option Int) (hi : Option Int) (Q : D → Prop) : fSl (.lst xs : D) lo hi Q = (Q (.lst (cutD xs lo hi))) := by first | rfl | (cases x <;> rfl)
@[simp] theorem fSl_2 (xs : List D) (lo : Option Int) (hi : Option Int) (Q : D → Prop) : fSl (.tup xs : D) lo hi Q = (Q (.tup (cutD xs lo hi))) := by first | rfl | (cases x <;> rfl)
@[simp] theorem fSl_3 (x : Str) (lo : Option Int) (hi : Option Int) (Q : D → Prop) : fSl (.str x : D) lo hi Q = (x.length ≤ sizeLine ∧ Q (.str (cutS x lo hi))) := by first | rfl | (cases x <;> rfl)
@[simp] def wSl (w : WE) (lo hi : WO) : WE := fun Γ Q E => w Γ (fun x => lo Γ (fun i => hi Γ (fun j => fSl x i j Q) E) E) E
theorem do_no : PO X none (tDO X.K E wNo) := ⟨fun pins s σ H Q I h => po_none.run pins s σ H Q I (by
  obtain ⟨O, S, Γ, Qd, Ed, ws, m, w, k, ke⟩ := h
  exact k none S H w .refl ws)⟩
theorem do_so {e : Expr} {w : WE} (h : PE X e (tD X.K E w)) : PO X (some e) (tDO X.K E (wSo w)) := ⟨fun pins s σ H Q I hh => (po_some h).run pins s σ H Q I (by
  obtain ⟨O, S, Γ, Qd, Ed, ws, m, w, k, ke⟩ := hh
  refine ⟨O, S, Γ, _, Ed, ws, m, w, fun v d S1 H1 q1 e1 w1 r1 => ?_, ke⟩
  obtain ⟨i, rfl, q⟩ := q1
  cases r1
  exact ⟨i, rfl, k _ S1 H1 q e1 w1⟩)⟩
theorem Reps.cut {K : PySem.W.Frag} {S : As} {H : Hp} {vs : List V} {ds : List D} (r : Reps K S H vs ds) (lo hi : Option Int) : Reps K S H (cutV vs lo hi) (cutD ds lo hi) := by
  unfold cutV cutD
  rw [r.length]
  exact (r.drop _).take _
theorem sl_D : SlR X (fun x lo hi H Q => rSlL X.K x lo hi H Q ∨ (rSlA X.K x lo hi H Q ∨ rSlS x lo hi H Q)) := SlR.or sl_list (SlR.or sl_tupA sl_str)
theorem d_sl {e : Expr} {lo hi : Option Expr} {p2 pos : Pos} {w : WE} {wl wh : WO} (he : PE X e (tD X.K E w)) (hl : PO X lo (tDO X.K E wl)) (hh : PO X hi (tDO X.K E wh)) : PE X (.Subscript e (.Slice lo hi none p2) pos) (tD X.K E (wSl w wl wh)) :=
  (pe_slice sl_D he hl hh).frz.imp fun σ H Q h => by
    obtain ⟨O, S, Γ, Qd, Ed, ws, m, w, k, ke⟩ := h
    refine ⟨O, S, Γ, _, Ed, ws, m, w, fun vx x S1 H1 q1 e1 w1 r1 => ?_, ke⟩
    refine ⟨O, S1, Γ, _, Ed, w1, m.ev ws w1 e1, q1, fun i S2 H2 q2 e2 w2 => ?_, ke.ev w1 e1⟩
    refine ⟨O, S2, Γ, _, Ed, w2, (m.ev ws w1 e1).ev w1 w2 e2, q2, fun j S3 H3 q3 e3 w3 => ?_, (ke.ev w1 e1).ev w2 e2⟩
    have ee : Ev S H S3 H3 := e1.trans w1 (e2.trans w2 e3)
    have kk : ∀ v d S' H', Qd d → Ev S3 H3 S' H' → Ws S' H' → Rep X.K S' H' v d → Q v H' := fun v d S' H' q e w' r => k v d S' H' q (ee.trans w3 e) w' r
    have r3 := Rep.stb (e3.stb w2) _ _ (Rep.stb (e2.stb w1) _ _ r1)
    cases r3 <;> first | exact (show False from q3).elim | skip
    · rename_i z
      obtain ⟨h1, h2⟩ := (show z.length ≤ sizeLine ∧ Qd (.str (cutS z i j)) from q3)
      exact .inr (.inr ⟨z, rfl, h1, .inl (kk _ _ S3 H3 h2 .refl w3 (.str _))⟩)
    · rename_i a xs ds ha hxs
      refine .inr (.inl ⟨a, xs, rfl, ha, fun hw => ?_, fun _ => ?_⟩)
      · refine .inl (kk _ (.tup (cutD ds i j)) S3 H3 q3 .refl w3 (.tup ha ?_))
        have e0 : cutD ds i j = ds := by
          unfold cutD
          rw [← hxs.length, hw.1, hw.2]
          simp [hxs.length]
        rw [e0]
        exact hxs
      · exact new_tup w3 (hxs.cut i j) q3 kk
    · rename_i a xs ds ha hxs
      exact .inl ⟨a, xs, rfl, ha.sq, new_lst w3 (hxs.cut i j) q3 kk⟩
def fRev : D → (D → Prop) → Prop
  | .lst xs, Q => Q (.lst xs.reverse)
  | _, _ => False
@[simp] theorem fRev_1 (xs : List D) (Q : D → Prop) : fRev (.lst xs : D) Q = (Q (.lst xs.reverse)) := by first | rfl | (cases x <;> rfl)
theorem Reps.reverse {K : PySem.W.Frag} {S : As} {H : Hp} : ∀ {vs : List V} {ds : List D}, Reps K S H vs ds → Reps K S H vs.reverse ds.reverse
  | _, [], h => by cases h; exact .nil
  | _, d :: ds, h => by
    cases h with
    | cons h r =>
      rw [List.reverse_cons, List.reverse_cons]
      exact (Reps.reverse r).append (.cons h .nil)
theorem d_revL {e : Expr} {w : WE} {k : Nat} {p1 p2 p3 pos : Pos} (he : PE X e (tD X.K E w)) : PE X (.Subscript e (.Slice none none (some (.UnaryOp .USub (.Constant (.int 1) k p1) p2)) p3) pos) (tD X.K E (wUn fRev w)) :=
  (pe_revL he).frz.imp fun σ H Q h => by
    obtain ⟨O, S, Γ, Qd, Ed, ws, m, w, k, ke⟩ := h
    refine ⟨O, S, Γ, _, Ed, ws, m, w, fun vx x S1 H1 q1 e1 w1 r1 => ?_, ke⟩
    cases r1 <;> first | exact (show False from q1).elim | skip
    rename_i a xs ds ha hxs
    exact ⟨a, xs, rfl, ha.sq, new_lst w1 hxs.reverse q1 fun v d S' H' q e w' r => k v d S' H' q (e1.trans w1 e) w' r⟩
end
end PD

set_option Elab.async false
set_option linter.all false
set_option maxRecDepth 100000
set_option maxHeartbeats 1000000
namespace PD
open PySem PySem.Spec PyProof.Rows L2
/-! ### built-ins -/
def D.ints : List D → Option (List Int)
  | [] => some []
  | .int i :: r => (D.ints r).map (i :: ·)
  | _ :: _ => none
def D.bls : List D → Option (List Bool)
  | [] => some []
  | .bl i :: r => (D.bls r).map (i :: ·)
  | _ :: _ => none
def D.strs : List D → Option (List Str)
  | [] => some []
  | .str i :: r => (D.strs r).map (i :: ·)
  | _ :: _ => none
def D.tn : D → String
  | .non => "NoneType" | .bl _ => "bool" | .int _ => "int" | .str _ => "str" | .tup _ => "tuple" | .lst _ => "list" | .src => "list" | .ty _ => "type"
def fLen : List D → (D → Prop) → Prop
  | [.lst xs], Q => Q (.int xs.length)
  | [.tup xs], Q => Q (.int xs.length)
  | [.str x], Q => x.length ≤ sizeLine ∧ Q (.int x.length)
  | _, _ => False
@[simp] theorem fLen_1 (xs : List D) (Q : D → Prop) : fLen ([.lst xs] : List D) Q = (Q (.int xs.length)) := by first | rfl | (cases x <;> rfl)
@[simp] theorem fLen_2 (xs : List D) (Q : D → Prop) : fLen ([.tup xs] : List D) Q = (Q (.int xs.length)) := by first | rfl | (cases x <;> rfl)
@[simp] theorem fLen_3 (x : Str) (Q : D → Prop) : fLen ([.str x] : List D) Q = (x.length ≤ sizeLine ∧ Q (.int x.length)) := by first | rfl | (cases x <;> rfl)
def D.noTy : D → Bool
  | .ty _ => false
  | .src => false
  | _ => true
def isiN (a n : String) : Bool := a == n || (a == "bool" && n == "int")
def D.isi (x : D) (n : String) : Bool := isiN x.tn n
theorem isi_all : ∀ a ∈ ["NoneType", "bool", "int", "str", "tuple", "list"], ∀ n ∈ ["tuple", "str", "int", "bool", "list"], kitB a n = some (isiN a n) := by decide +kernel
def fIsi : List D → (D → Prop) → Prop
  | [x, .ty n], Q => (x.noTy = true ∧ n ∈ ["tuple", "str", "int", "bool", "list"]) ∧ Q (.bl (x.isi n))
  | _, _ => False
@[simp] theorem fIsi_1 (x : D) (n : String) (Q : D → Prop) : fIsi ([x, .ty n] : List D) Q = ((x.noTy = true ∧ n ∈ ["tuple", "str", "int", "bool", "list"]) ∧ Q (.bl (x.isi n))) := by first | rfl | (cases x <;> rfl)
def fAll : List D → (D → Prop) → Prop
  | [.lst xs], Q => ∃ bs, D.bls xs = some bs ∧ Q (.bl (bs.all id))
  | _, _ => False
@[simp] theorem fAll_1 (xs : List D) (Q : D → Prop) : fAll ([.lst xs] : List D) Q = (∃ bs, D.bls xs = some bs ∧ Q (.bl (bs.all id))) := by first | rfl | (cases x <;> rfl)
def fAny : List D → (D → Prop) → Prop
  | [.lst xs], Q => ∃ bs, D.bls xs = some bs ∧ Q (.bl (bs.any id))
  | _, _ => False
@[simp] theorem fAny_1 (xs : List D) (Q : D → Prop) : fAny ([.lst xs] : List D) Q = (∃ bs, D.bls xs = some bs ∧ Q (.bl (bs.any id))) := by first | rfl | (cases x <;> rfl)
def fSum : List D → (D → Prop) → Prop
  | [.lst xs], Q => ∃ ns, D.ints xs = some ns ∧ Q (.int ns.sum)
  | _, _ => False
@[simp] theorem fSum_1 (xs : List D) (Q : D → Prop) : fSum ([.lst xs] : List D) Q = (∃ ns, D.ints xs = some ns ∧ Q (.int ns.sum)) := by first | rfl | (cases x <;> rfl)
/-- the greatest of ints: one list, or two ints -/
def fMax : List D → (D → Prop) → Prop
  | [.lst xs], Q => ∃ ns, D.ints xs = some ns ∧ 0 < ns.length ∧ ∀ m, m ∈ ns → (∀ y ∈ ns, y ≤ m) → Q (.int m)
  | [.int i, .int j], Q => Q (.int (if j > i then j else i))
  | _, _ => False
@[simp] theorem fMax_1 (xs : List D) (Q : D → Prop) : fMax ([.lst xs] : List D) Q = (∃ ns, D.ints xs = some ns ∧ 0 < ns.length ∧ ∀ m, m ∈ ns → (∀ y ∈ ns, y ≤ m) → Q (.int m)) := by first | rfl | (cases x <;> rfl)
@[simp] theorem fMax_2 (i : Int) (j : Int) (Q : D → Prop) : fMax ([.int i, .int j] : List D) Q = (Q (.int (if j > i then j else i))) := by first | rfl | (cases x <;> rfl)
def fMin : List D → (D → Prop) → Prop
  | [.lst xs], Q => ∃ ns, D.ints xs = some ns ∧ 0 < ns.length ∧ ∀ m, m ∈ ns → (∀ y ∈ ns, m ≤ y) → Q (.int m)
  | [.int i, .int j], Q => Q (.int (if j < i then j else i))
  | _, _ => False
@[simp] theorem fMin_1 (xs : List D) (Q : D → Prop) : fMin ([.lst xs] : List D) Q = (∃ ns, D.ints xs = some ns ∧ 0 < ns.length ∧ ∀ m, m ∈ ns → (∀ y ∈ ns, m ≤ y) → Q (.int m)) := by first | rfl | (cases x <;> rfl)
@[simp] theorem fMin_2 (i : Int) (j : Int) (Q : D → Prop) : fMin ([.int i, .int j] : List D) Q = (Q (.int (if j < i then j else i))) := by first | rfl | (cases x <;> rfl)
def fAbs : List D → (D → Prop) → Prop
  | [.int i], Q => Q (.int (if i < 0 then -i else i))
  | _, _ => False
@[simp] theorem fAbs_1 (i : Int) (Q : D → Prop) : fAbs ([.int i] : List D) Q = (Q (.int (if i < 0 then -i else i))) := by first | rfl | (cases x <;> rfl)
def fInt : List D → (D → Prop) → Prop
  | [.int i], Q => Q (.int i)
  | [.bl b], Q => Q (.int (if b then 1 else 0))
  | _, _ => False
@[simp] theorem fInt_1 (i : Int) (Q : D → Prop) : fInt ([.int i] : List D) Q = (Q (.int i)) := by first | rfl | (cases x <;> rfl)
@[simp] theorem fInt_2 (b : Bool) (Q : D → Prop) : fInt ([.bl b] : List D) Q = (Q (.int (if b then 1 else 0))) := by first | rfl | (cases x <;> rfl)
def fBool : List D → (D → Prop) → Prop
  | [.int i], Q => Q (.bl (i != 0))
  | [.bl b], Q => Q (.bl b)
  | _, _ => False
@[simp] theorem fBool_1 (i : Int) (Q : D → Prop) : fBool ([.int i] : List D) Q = (Q (.bl (i != 0))) := by first | rfl | (cases x <;> rfl)
@[simp] theorem fBool_2 (b : Bool) (Q : D → Prop) : fBool ([.bl b] : List D) Q = (Q (.bl b)) := by first | rfl | (cases x <;> rfl)
def fList : List D → (D → Prop) → Prop
  | [.lst xs], Q => Q (.lst xs)
  | [.tup xs], Q => Q (.lst xs)
  | _, _ => False
@[simp] theorem fList_1 (xs : List D) (Q : D → Prop) : fList ([.lst xs] : List D) Q = (Q (.lst xs)) := by first | rfl | (cases x <;> rfl)
@[simp] theorem fList_2 (xs : List D) (Q : D → Prop) : fList ([.tup xs] : List D) Q = (Q (.lst xs)) := by first | rfl | (cases x <;> rfl)
def fTuple : List D → (D → Prop) → Prop
  | [.lst xs], Q => Q (.tup xs)
  | [.tup xs], Q => Q (.tup xs)
  | _, _ => False
@[simp] theorem fTuple_1 (xs : List D) (Q : D → Prop) : fTuple ([.lst xs] : List D) Q = (Q (.tup xs)) := by first | rfl | (cases x <;> rfl)
@[simp] theorem fTuple_2 (xs : List D) (Q : D → Prop) : fTuple ([.tup xs] : List D) Q = (Q (.tup xs)) := by first | rfl | (cases x <;> rfl)
/-- sorted of ints -/
def fSortI : List D → (D → Prop) → Prop
  | [.lst xs], Q => ∃ ns, D.ints xs = some ns ∧ ∀ ms : List Int, ms.Perm ns → ms.Pairwise (· ≤ ·) → Q (.lst (ms.map D.int))
  | _, _ => False
@[simp] theorem fSortI_1 (xs : List D) (Q : D → Prop) : fSortI ([.lst xs] : List D) Q = (∃ ns, D.ints xs = some ns ∧ ∀ ms : List Int, ms.Perm ns → ms.Pairwise (· ≤ ·) → Q (.lst (ms.map D.int))) := by first | rfl | (cases x <;> rfl)
section
variable {K : PySem.W.Frag} {S : As} {H : Hp}
theorem Reps.ints : ∀ {vs : List V} {ds : List D} {ns : List Int}, Reps K S H vs ds → D.ints ds = some ns → vs = ns.map V.int
  | _, [], _, h, e => by cases h; cases e; rfl
  | _, d :: ds, ns, h, e => by
    cases h with
    | cons h r =>
      cases h <;> simp only [D.ints] at e <;> first | (cases e; done) | skip
      cases q : D.ints ds with
      | none => rw [q] at e; cases e
      | some ms =>
        rw [q] at e
        cases e
        rw [Reps.ints r q]
        rfl
theorem Reps.bls : ∀ {vs : List V} {ds : List D} {ns : List Bool}, Reps K S H vs ds → D.bls ds = some ns → vs = ns.map V.bl
  | _, [], _, h, e => by cases h; cases e; rfl
  | _, d :: ds, ns, h, e => by
    cases h with
    | cons h r =>
      cases h <;> simp only [D.bls] at e <;> first | (cases e; done) | skip
      cases q : D.bls ds with
      | none => rw [q] at e; cases e
      | some ms =>
        rw [q] at e
        cases e
        rw [Reps.bls r q]
        rfl
theorem Reps.strs : ∀ {vs : List V} {ds : List D} {ns : List Str}, Reps K S H vs ds → D.strs ds = some ns → vs = ns.map V.str
  | _, [], _, h, e => by cases h; cases e; rfl
  | _, d :: ds, ns, h, e => by
    cases h with
    | cons h r =>
      cases h <;> simp only [D.strs] at e <;> first | (cases e; done) | skip
      cases q : D.strs ds with
      | none => rw [q] at e; cases e
      | some ms =>
        rw [q] at e
        cases e
        rw [Reps.strs r q]
        rfl
theorem D.ints_map : ∀ ns : List Int, D.ints (ns.map D.int) = some ns
  | [] => rfl
  | n :: ns => by simp [D.ints, D.ints_map ns]
theorem D.bls_map : ∀ ns : List Bool, D.bls (ns.map D.bl) = some ns
  | [] => rfl
  | n :: ns => by simp [D.bls, D.bls_map ns]
theorem D.strs_map : ∀ ns : List Str, D.strs (ns.map D.str) = some ns
  | [] => rfl
  | n :: ns => by simp [D.strs, D.strs_map ns]
theorem reps_ints : ∀ ns : List Int, Reps K S H (ns.map V.int) (ns.map D.int)
  | [] => .nil
  | n :: ns => .cons (.int n) (reps_ints ns)
theorem reps_strs : ∀ ns : List Str, Reps K S H (ns.map V.str) (ns.map D.str)
  | [] => .nil
  | n :: ns => .cons (.str n) (reps_strs ns)
theorem reps1 {vs : List V} {d : D} (r : Reps K S H vs [d]) : ∃ v, vs = [v] ∧ Rep K S H v d := by
  cases r with
  | cons h r => cases r; exact ⟨_, rfl, h⟩
theorem reps2 {vs : List V} {d e : D} (r : Reps K S H vs [d, e]) : ∃ v u, vs = [v, u] ∧ Rep K S H v d ∧ Rep K S H u e := by
  cases r with
  | cons h r =>
    cases r with
    | cons h' r => cases r; exact ⟨_, _, rfl, h, h'⟩
/-- the type's name of a value that stands for data -/
theorem Rep.tyx {v : V} {d : D} (r : Rep K S H v d) (h : d.noTy = true) : TyX K H v (.type d.tn) := by
  cases r with
  | non => exact .base .non
  | bl => exact .base (.bl _)
  | int => exact .base (.int _)
  | str => exact .base (.str _)
  | ty => cases h
  | src => cases h
  | tup ha _ =>
    rcases ha with (ha | ⟨o, ha⟩) | ⟨o, its, n, hk, hc, _⟩
    · exact .base (.tup ha)
    · exact .fTuple ha
    · exact .kTuple hk hc
  | lst ha _ =>
    rcases ha with ⟨o, ha⟩ | ⟨o, its, n, hk, hc, _⟩
    · exact .base (.frz ha)
    · exact .kList hk hc
theorem isi_ok {d : D} {n : String} (h : d.noTy = true) (hn : n ∈ ["tuple", "str", "int", "bool", "list"]) : PySem.W.kitOne K (.type d.tn) (.type n) = some (d.isi n) := by
  refine kit_ty (isi_all _ ?_ _ hn)
  cases d <;> first | (cases h; done) | simp [D.tn]
end
section
variable {X : Cx}
theorem call_lenD' : CallR X (.builtin "len") (fun xs H Q => (∃ p ys, xs = [.ref p] ∧ (SqL X.K H p ys ∨ SqT X.K H p ys) ∧ Q (.int ys.length) H) ∨ ∃ z, xs = [.str z] ∧ z.length ≤ sizeLine ∧ Q (.int z.length) H) := CallR.or call_len_seq call_len_str
theorem fc_len : FC X.K (fun xs H Q => (∃ p ys, xs = [.ref p] ∧ (SqL X.K H p ys ∨ SqT X.K H p ys) ∧ Q (.int ys.length) H) ∨ ∃ z, xs = [.str z] ∧ z.length ≤ sizeLine ∧ Q (.int z.length) H) fLen := by
  intro S H ws xs Qd Q vs r h k
  unfold fLen at h
  split at h
  · obtain ⟨v, rfl, q⟩ := reps1 r
    cases q with
    | lst ha hx => exact .inl ⟨_, _, rfl, .inl ha.sq, .inl (k _ _ S H h .refl ws (by rw [hx.length]; exact .int _))⟩
  · obtain ⟨v, rfl, q⟩ := reps1 r
    cases q with
    | tup ha hx => exact .inl ⟨_, _, rfl, .inr ha, .inl (k _ _ S H h .refl ws (by rw [hx.length]; exact .int _))⟩
  · obtain ⟨v, rfl, q⟩ := reps1 r
    cases q
    exact .inr ⟨_, rfl, h.1, .inl (k _ _ S H h.2 .refl ws (.int _))⟩
  · exact h.elim
theorem fc_isi : FC X.K (rIsi X.K) fIsi := by
  intro S H ws xs Qd Q vs r h k
  unfold fIsi at h
  split at h
  · obtain ⟨v, u, rfl, q, q'⟩ := reps2 r
    cases q'
    exact ⟨_, _, _, _, _, rfl, .ty _, q.tyx h.1.1, isi_ok h.1.1 h.1.2, .inl (k _ _ S H h.2 .refl ws (.bl _))⟩
  · exact h.elim
theorem fc_all : FC X.K (rAll X.K) fAll := by
  intro S H ws xs Qd Q vs r h k
  unfold fAll at h
  split at h
  · obtain ⟨v, rfl, q⟩ := reps1 r
    obtain ⟨bs, e, h⟩ := h
    cases q with
    | lst ha hx => exact ⟨_, bs, rfl, by rw [← hx.bls e]; exact ha.sq, .inl (k _ _ S H h .refl ws (.bl _))⟩
  · exact h.elim
theorem fc_any : FC X.K (rAny X.K) fAny := by
  intro S H ws xs Qd Q vs r h k
  unfold fAny at h
  split at h
  · obtain ⟨v, rfl, q⟩ := reps1 r
    obtain ⟨bs, e, h⟩ := h
    cases q with
    | lst ha hx => exact ⟨_, bs, rfl, by rw [← hx.bls e]; exact ha.sq, .inl (k _ _ S H h .refl ws (.bl _))⟩
  · exact h.elim
theorem fc_sum : FC X.K (rSum X.K) fSum := by
  intro S H ws xs Qd Q vs r h k
  unfold fSum at h
  split at h
  · obtain ⟨v, rfl, q⟩ := reps1 r
    obtain ⟨bs, e, h⟩ := h
    cases q with
    | lst ha hx => exact ⟨_, bs, rfl, by rw [← hx.ints e]; exact ha.sq, .inl (k _ _ S H h .refl ws (.int _))⟩
  · exact h.elim
theorem call_maxD (hc : X.calm = true) : CallR X (.builtin "max") (fun xs H Q => rMax X.K xs H Q ∨ ∃ i j, xs = [.int i, .int j] ∧ Q (.int (if j > i then j else i)) H) := CallR.or (cr_max hc) (call_max2 hc)
theorem fc_max : FC X.K (fun xs H Q => rMax X.K xs H Q ∨ ∃ i j, xs = [.int i, .int j] ∧ Q (.int (if j > i then j else i)) H) fMax := by
  intro S H ws xs Qd Q vs r h k
  unfold fMax at h
  split at h
  · obtain ⟨v, rfl, q⟩ := reps1 r
    obtain ⟨ns, e, h0, h⟩ := h
    cases q with
    | lst ha hx => exact .inl ⟨_, ns, rfl, by rw [← hx.ints e]; exact ha.sq, h0, fun m hm hl => .inl (k _ _ S H (h m hm hl) .refl ws (.int _))⟩
  · obtain ⟨v, u, rfl, q, q'⟩ := reps2 r
    cases q; cases q'
    exact .inr ⟨_, _, rfl, .inl (k _ _ S H h .refl ws (.int _))⟩
  · exact h.elim
theorem call_minD (hc : X.calm = true) : CallR X (.builtin "min") (fun xs H Q => rMin X.K xs H Q ∨ ∃ i j, xs = [.int i, .int j] ∧ Q (.int (if j < i then j else i)) H) := CallR.or (cr_min hc) (call_min2 hc)
theorem fc_min : FC X.K (fun xs H Q => rMin X.K xs H Q ∨ ∃ i j, xs = [.int i, .int j] ∧ Q (.int (if j < i then j else i)) H) fMin := by
  intro S H ws xs Qd Q vs r h k
  unfold fMin at h
  split at h
  · obtain ⟨v, rfl, q⟩ := reps1 r
    obtain ⟨ns, e, h0, h⟩ := h
    cases q with
    | lst ha hx => exact .inl ⟨_, ns, rfl, by rw [← hx.ints e]; exact ha.sq, h0, fun m hm hl => .inl (k _ _ S H (h m hm hl) .refl ws (.int _))⟩
  · obtain ⟨v, u, rfl, q, q'⟩ := reps2 r
    cases q; cases q'
    exact .inr ⟨_, _, rfl, .inl (k _ _ S H h .refl ws (.int _))⟩
  · exact h.elim
theorem fc_abs : FC X.K (fun xs H Q => ∃ i, xs = [.int i] ∧ Q (.int (if i < 0 then -i else i)) H) fAbs := by
  intro S H ws xs Qd Q vs r h k
  unfold fAbs at h
  split at h
  · obtain ⟨v, rfl, q⟩ := reps1 r
    cases q
    exact ⟨_, rfl, .inl (k _ _ S H h .refl ws (.int _))⟩
  · exact h.elim
theorem fc_int : FC X.K (fun xs H Q => (∃ i, xs = [.int i] ∧ Q (.int i) H) ∨ ∃ k, xs = [.bl k] ∧ Q (.int (if k then 1 else 0)) H) fInt := by
  intro S H ws xs Qd Q vs r h k
  unfold fInt at h
  split at h
  · obtain ⟨v, rfl, q⟩ := reps1 r
    cases q
    exact .inl ⟨_, rfl, .inl (k _ _ S H h .refl ws (.int _))⟩
  · obtain ⟨v, rfl, q⟩ := reps1 r
    cases q
    exact .inr ⟨_, rfl, .inl (k _ _ S H h .refl ws (.int _))⟩
  · exact h.elim
theorem fc_bool : FC X.K (fun xs H Q => (∃ i, xs = [.int i] ∧ Q (.bl (i != 0)) H) ∨ ∃ k, xs = [.bl k] ∧ Q (.bl k) H) fBool := by
  intro S H ws xs Qd Q vs r h k
  unfold fBool at h
  split at h
  · obtain ⟨v, rfl, q⟩ := reps1 r
    cases q
    exact .inl ⟨_, rfl, .inl (k _ _ S H h .refl ws (.bl _))⟩
  · obtain ⟨v, rfl, q⟩ := reps1 r
    cases q
    exact .inr ⟨_, rfl, .inl (k _ _ S H h .refl ws (.bl _))⟩
  · exact h.elim
theorem fc_list : FC X.K (fun xs H Q => ∃ p ys, xs = [.ref p] ∧ (SqL X.K H p ys ∨ SqT X.K H p ys) ∧ ∀ l, H l = none → Q (.ref l) (upd H l (.lst ys))) fList := by
  intro S H ws xs Qd Q vs r h k
  unfold fList at h
  split at h
  · obtain ⟨v, rfl, q⟩ := reps1 r
    cases q with
    | lst ha hx => exact ⟨_, _, rfl, .inl ha.sq, new_lst ws hx h k⟩
  · obtain ⟨v, rfl, q⟩ := reps1 r
    cases q with
    | tup ha hx => exact ⟨_, _, rfl, .inr ha, new_lst ws hx h k⟩
  · exact h.elim
theorem fc_tuple : FC X.K (fun xs H Q => ∃ p ys, xs = [.ref p] ∧ ((SqL X.K H p ys ∧ ∀ l, H l = none → Q (.ref l) (upd H l (.tup ys))) ∨ (SqT X.K H p ys ∧ Q (.ref p) H))) fTuple := by
  intro S H ws xs Qd Q vs r h k
  unfold fTuple at h
  split at h
  · obtain ⟨v, rfl, q⟩ := reps1 r
    cases q with
    | lst ha hx => exact ⟨_, _, rfl, .inl ⟨ha.sq, new_tup ws hx h k⟩⟩
  · obtain ⟨v, rfl, q⟩ := reps1 r
    cases q with
    | tup ha hx => exact ⟨_, _, rfl, .inr ⟨ha, .inl (k _ _ S H h .refl ws (.tup ha hx))⟩⟩
  · exact h.elim
theorem fc_sortI : FC X.K (rSortedI X.K) fSortI := by
  intro S H ws xs Qd Q vs r h k
  unfold fSortI at h
  split at h
  · obtain ⟨v, rfl, q⟩ := reps1 r
    obtain ⟨ns, e, h⟩ := h
    cases q with
    | lst ha hx => exact ⟨_, ns, rfl, by rw [← hx.ints e]; exact ha.sq, fun ms p hp hs hn => new_lst ws (reps_ints ms) (h ms hp hs) k p hn⟩
  · exact h.elim
end
/-! ### calls of defs -/
abbrev DF := List D → (D → Prop) → Ex → Prop
/-- the promise: n arguments -/
def spD (K : PySem.W.Frag) (n : Nat) (F : DF) : Sp := fun vs H Q E => ∃ S ds Qd Ed, Ws S H ∧ Reps K S H vs ds ∧ ds.length = n ∧ F ds Qd Ed ∧ (∀ v d S' H', Qd d → Ev S H S' H' → Ws S' H' → Rep K S' H' v d → Q v H') ∧ kE E S H Ed
@[simp] def wCall (n : Nat) (F : DF) (w : WA) : WE := fun Γ Q E => w Γ (fun ds => ds.length = n ∧ F ds Q E) E
section
variable {X : Cx} {E : XK} {CX : CXT} {k : Nat} {f : Addr} {fd : FuncData} {ps : List Str} {F : DF} {x : Str} {p pos : Pos} {e : Expr} {es : List Expr} {n : Nat}
theorem passZ : Passes CX0 X E := fun _ _ _ _ _ _ _ h => h.elim
theorem d_call {w : WA} (G : FnOk X.prog X.w X.K X.mg X.base CX k f fd ps (spD X.K n F)) (hr : Room k X.A) (hg : Gl X x) (hm : X.mg x = some (.ref f)) (hk : PySem.W.keepIn X.K (.ref f) = true) (hb : Binds X.K fd ps []) (hx : Passes CX X E) (ha : PA X (e :: es) (tDA X.K E w))
    (hdb : (x == ("__debug__" : Str)) = false := by decide) (he : starEach (e :: es) X.env = (false, eval e X.env) :: starEach es X.env := by rfl) (hpl : (backTo pos (starEach es X.env)).any (·.1) = false := by rfl) :
    PE X (.Call (.Name x p) (e :: es) [] pos) (tD X.K E (wCall n F w)) :=
  (pe_call G hr hg hm hk hb .nil hx ha hdb he hpl).imp fun σ H Q h => by
    obtain ⟨O, S, Γ, Qd, Ed, ws, m, w, k, ke⟩ := h
    refine ⟨O, S, Γ, _, Ed, ws, m, w, fun vs ds S1 H1 q1 e1 w1 r1 => ?_, ke⟩
    exact ⟨S1, ds, Qd, Ed, w1, by rw [List.append_nil]; exact r1, q1.1, q1.2, fun v d S' H' q e w' r => k v d S' H' q (e1.trans w1 e) w' r, ke.ev w1 e1⟩
theorem d_call0 (G : FnOk X.prog X.w X.K X.mg X.base CX k f fd ps (spD X.K 0 F)) (hr : Room k X.A) (hg : Gl X x) (hm : X.mg x = some (.ref f)) (hk : PySem.W.keepIn X.K (.ref f) = true) (hb : Binds X.K fd ps []) (hx : Passes CX X E)
    (hdb : (x == ("__debug__" : Str)) = false := by decide) :
    PE X (.Call (.Name x p) [] [] pos) (tD X.K E (wCall 0 F wNil)) :=
  (pe_call0 G hr hg hm hk hb .nil hx hdb).imp fun σ H Q h => by
    obtain ⟨O, S, Γ, Qd, Ed, ws, m, w, k, ke⟩ := h
    exact ⟨S, [], Qd, Ed, ws, .nil, rfl, w.2, k, ke⟩
end
end PD

set_option Elab.async false
set_option linter.all false
set_option maxRecDepth 100000
set_option maxHeartbeats 1000000
namespace PD
open PySem PySem.Spec PyProof.Rows L2
theorem _root_.L2.PG.imp {X : Cx} {e : Expr} {t t' : TG} (h : PG X e t) (q : ∀ v σ H Q, t' v σ H Q → t v σ H Q) : PG X e t' := ⟨fun pins s σ H v u Q I r w => h.run pins s σ H v u Q I r (q _ _ _ _ w)⟩
theorem _root_.L2.PGs.imp {X : Cx} {e : List Expr} {t t' : TGs} (h : PGs X e t) (q : ∀ v σ H Q, t' v σ H Q → t v σ H Q) : PGs X e t' := ⟨fun pins s σ H v u Q I r w => h.run pins s σ H v u Q I r (q _ _ _ _ w)⟩
theorem _root_.L2.PI.imp {X : Cx} {tg e : Expr} {t t' : TI} (h : PI X tg e t) (q : ∀ σ H Q, t' σ H Q → t σ H Q) : PI X tg e t' := ⟨fun pins s σ H Q I w => h.run pins s σ H Q I (q _ _ _ w)⟩
/-! ### targets -/
abbrev WG := D → List Sl → (List Sl → Prop) → Prop
abbrev WGs := List D → List Sl → (List Sl → Prop) → Prop
theorem wipe_get (σ : L2.St) : ∀ (vs : List Nat) (j : Nat), (wipe σ vs)[j]? = if j ∈ vs then (σ[j]?).map (fun _ => none) else σ[j]?
  | [], j => by simp [wipe]
  | v :: vs, j => by
    unfold wipe
    by_cases h : v = j
    · subst h
      rw [List.getElem?_set]
      simp only [if_true, List.mem_cons, true_or, wipe_length]
      by_cases hl : v < σ.length
      · simp [hl]
      · simp [hl, List.getElem?_eq_none (Nat.le_of_not_lt hl)]
    · rw [List.getElem?_set_ne h, wipe_get σ vs j]
      have : (j ∈ v :: vs) ↔ j ∈ vs := by simp [List.mem_cons, Ne.symm h]
      simp only [this]
theorem wipe_set {σ : L2.St} {i : Nat} {x : Option V} {vs : List Nat} (h : i ∈ vs) : wipe (σ.set i x) vs = wipe σ vs := by
  refine List.ext_getElem? fun j => ?_
  rw [wipe_get, wipe_get]
  by_cases hj : i = j
  · subst hj
    simp only [h, if_true]
    rw [List.getElem?_set]
    by_cases hl : i < σ.length
    · simp [hl]
    · simp [hl, List.getElem?_eq_none (Nat.le_of_not_lt hl)]
  · rw [List.getElem?_set_ne hj]
theorem wipe_wipe {σ : L2.St} {vs : List Nat} : wipe (wipe σ vs) vs = wipe σ vs := by
  refine List.ext_getElem? fun j => ?_
  rw [wipe_get, wipe_get]
  by_cases hj : j ∈ vs
  · simp only [hj, if_true]
    cases σ[j]? <;> rfl
  · simp [hj]
def wipeG (Γ : List Sl) : List Nat → List Sl
  | [] => Γ
  | v :: vs => (wipeG Γ vs).set v .no
def tDG (K : PySem.W.Frag) (is : List Nat) (g : WG) : TG := fun v σ H Q => ∃ O S Γ d k, Ws S H ∧ Mat K O S H σ Γ ∧ Rep K S H v d ∧ g d Γ k ∧ ∀ σ' Γ', k Γ' → Mat K O S H σ' Γ' → (∀ vs : List Nat, (∀ i ∈ is, i ∈ vs) → wipe σ' vs = wipe σ vs) → Q σ' H
def tDGs (K : PySem.W.Frag) (is : List Nat) (g : WGs) : TGs := fun v σ H Q => ∃ O S Γ d k, Ws S H ∧ Mat K O S H σ Γ ∧ Reps K S H v d ∧ g d Γ k ∧ ∀ σ' Γ', k Γ' → Mat K O S H σ' Γ' → (∀ vs : List Nat, (∀ i ∈ is, i ∈ vs) → wipe σ' vs = wipe σ vs) → Q σ' H
@[simp] def gN (i : Nat) : WG := fun d Γ k => k (Γ.set i (.dat d))
@[simp] def gsNil : WGs := fun ds Γ k => ds = [] ∧ k Γ
@[simp] def gsCons (g : WG) (gs : WGs) : WGs := fun ds Γ k => ∃ d r, ds = d :: r ∧ g d Γ (fun Γ' => gs r Γ' k)
@[simp] def gT (n : Nat) (gs : WGs) : WG := fun d Γ k => ∃ ds, d = .tup ds ∧ ds.length = n ∧ gs ds Γ k
section
variable {K : PySem.W.Frag} {O S : As} {H : Hp} {σ : L2.St} {Γ : List Sl}
theorem Mat.wipe (m : Mat K O S H σ Γ) : ∀ vs : List Nat, Mat K O S H (L2.wipe σ vs) (wipeG Γ vs)
  | [] => m
  | v :: vs => (Mat.wipe m vs).setNo
end
section
variable {X : Cx} {E : XK} {pos : Pos}
theorem g_name (i : Nat) {x : Str} (hN : X.N.Nodup) (hi : X.N[i]? = some x) (hx : Loc X.env.scope x) (hf : X.fn x = true ∨ X.env.scope.names.lookup x = some .local := by first | exact .inl rfl | exact .inr rfl | assumption) : PG X (.Name x pos) (tDG X.K [i] (gN i)) :=
  (pg_name hN hi hx hf).imp fun v σ H Q h => by
    obtain ⟨O, S, Γ, d, k, ws, m, r, g, q⟩ := h
    exact q _ _ g (m.setDat r) fun vs h => wipe_set (h i (by simp))
theorem gs_nil : PGs X [] (tDGs X.K [] gsNil) := pgs_nil.imp fun v σ H Q h => by
  obtain ⟨O, S, Γ, d, k, ws, m, r, ⟨e, g⟩, q⟩ := h
  subst e
  cases r
  exact ⟨rfl, q _ _ g m fun _ _ => rfl⟩
theorem gs_cons {e : Expr} {es : List Expr} {is js : List Nat} {g : WG} {gs : WGs} (h1 : PG X e (tDG X.K is g)) (h2 : PGs X es (tDGs X.K js gs))
    (hs : (assignEach (e :: es) X.env).map (·.2) = assign e X.env :: (assignEach es X.env).map (·.2) := by rfl) : PGs X (e :: es) (tDGs X.K (is ++ js) (gsCons g gs)) := (pgs_cons h1 h2 hs).imp fun v σ H Q h => by
  obtain ⟨O, S, Γ, d, k, ws, m, r, ⟨d1, r1, e, g⟩, q⟩ := h
  subst e
  cases r with
  | cons h r =>
    refine ⟨_, _, rfl, O, S, Γ, d1, _, ws, m, h, g, fun σ' Γ' q' m' hw => ?_⟩
    exact ⟨O, S, Γ', r1, k, ws, m', r, q', fun σ2 Γ2 q2 m2 hw2 => q _ _ q2 m2 fun vs hv => (hw2 vs fun i hi => hv i (List.mem_append_right _ hi)).trans (hw vs fun i hi => hv i (List.mem_append_left _ hi))⟩
theorem g_tup {es : List Expr} {k : Nat} {is : List Nat} {gs : WGs} {n : Nat} (hc : X.calm = true) (h : PGs X es (tDGs X.K is gs))
    (hn : (assignEach es X.env).length = n := by rfl) (hst : (assignEach es X.env).findIdx? (·.1) = none := by rfl) : PG X (.Tuple es k pos) (tDG X.K is (gT n gs)) := (pg_tup hc h hn hst).imp fun v σ H Q h => by
  obtain ⟨O, S, Γ, d, k, ws, m, r, ⟨ds, e, hl, g⟩, q⟩ := h
  subst e
  cases r with
  | tup ha hx => exact ⟨_, _, rfl, ha, by rw [hx.length]; exact hl, O, S, Γ, ds, k, ws, m, hx, g, q⟩
/-! ### what is walked -/
def ItD (K : PySem.W.Frag) (J : It) (ds : List D) (S : As) (H : Hp) : Prop := ∀ S2 H2, Stb S H S2 H2 → Ws S2 H2 → J.stop ds.length H2 ∧ ∀ i, i < ds.length → J.go i H2 ∧ ∀ x H3, J.yld i H2 x H3 → Ev S2 H2 S2 H3 ∧ Ws S2 H3 ∧ ∃ d, ds[i]? = some d ∧ Rep K S2 H3 x d
def tDI (K : PySem.W.Frag) (E : XK) (w : WA) : TI := fun σ H R => ∃ O S Γ Qd Ed, Ws S H ∧ Mat K O S H σ Γ ∧ w Γ Qd Ed ∧ (∀ ds J S' H', Qd ds → Ev S H S' H' → Ws S' H' → ItD K J ds S' H' → R J H') ∧ kE E S H Ed
theorem ItD.list {K : PySem.W.Frag} {S : As} {H : Hp} {a : Addr} {xs : List V} {ds : List D} (ha : FzL K H a xs) (r : Reps K S H xs ds) : ItD K (Itl K a) ds S H := fun S2 H2 st ws => by
  have h2 := (FzL.stb st ha).sq
  refine ⟨?_, fun i hi => ⟨?_, fun x H3 y => ?_⟩⟩
  · rw [← r.length]; exact walk_list.stops H2 h2
  · exact walk_list.goes i H2 (by rw [r.length]; exact hi) h2
  · obtain ⟨e, e2⟩ := walk_list.yields i H2 x H3 (by rw [r.length]; exact hi) h2 y
    subst e
    obtain ⟨d, e3, r3⟩ := r.getV e2
    exact ⟨.refl, ws, d, e3, Rep.stb st _ _ r3⟩
theorem ItD.tup {K : PySem.W.Frag} {S : As} {H : Hp} {a : Addr} {xs : List V} {ds : List D} (ha : SqT K H a xs) (r : Reps K S H xs ds) : ItD K (Itt K a) ds S H := fun S2 H2 st ws => by
  have h2 := SqT.stb st ha
  refine ⟨?_, fun i hi => ⟨?_, fun x H3 y => ?_⟩⟩
  · rw [← r.length]; exact walk_tup.stops H2 h2
  · exact walk_tup.goes i H2 (by rw [r.length]; exact hi) h2
  · obtain ⟨e, e2⟩ := walk_tup.yields i H2 x H3 (by rw [r.length]; exact hi) h2 y
    subst e
    obtain ⟨d, e3, r3⟩ := r.getV e2
    exact ⟨.refl, ws, d, e3, Rep.stb st _ _ r3⟩
@[simp] def wIt (w : WE) : WA := fun Γ Q E => w Γ (fun d => ∃ ds, (d = .lst ds ∨ d = .tup ds) ∧ Q ds) E
theorem i_seq {tg l : Expr} {wl : WE} (hl : PE X l (tD X.K E wl)) : PI X tg l (tDI X.K E (wIt wl)) := by
  refine ⟨fun pins s σ H R I h => ?_⟩
  obtain ⟨O, S, Γ, Qd, Ed, ws, m, w, k, ke⟩ := h
  have h2 : tD X.K E wl σ H (fun v H' => (∃ a xs, v = .ref a ∧ SqL X.K H' a xs ∧ R (Itl X.K a) H') ∨ ∃ a xs, v = .ref a ∧ SqT X.K H' a xs ∧ R (Itt X.K a) H') := by
    refine ⟨O, S, Γ, _, Ed, ws, m, w, fun v d S1 H1 q1 e1 w1 r1 => ?_, ke⟩
    obtain ⟨ds, e | e, q⟩ := q1
    · subst e
      cases r1 with
      | lst ha hx => exact .inl ⟨_, _, rfl, ha.sq, k ds _ S1 H1 q e1 w1 (ItD.list ha hx)⟩
    · subst e
      cases r1 with
      | tup ha hx => exact .inr ⟨_, _, rfl, ha, k ds _ S1 H1 q e1 w1 (ItD.tup ha hx)⟩
  refine thn (hl.run pins s σ H _ I h2) fun v s1 ⟨x, H1, I1, r1, q1⟩ => ?_
  rcases q1 with ⟨a, xs, e, hq, q⟩ | ⟨a, xs, e, hq, q⟩
  · subst e
    cases r1
    obtain ⟨its, rv, p, hz⟩ := I1.list hq
    refine wpAny_pyIter_list p.isList ?_
    refine ⟨s1.heap.objs.size, [s1.heap.objs.size], _, _, H1, rfl, I1.kept (t' := s1.toks) fun b o e => Heap.get?_push_of_some _ e, turn_list a _, ⟨_, Heap.get?_push_size _ rfl, rfl, rfl⟩, fun b hb => ?_, q⟩
    have e : b = s1.heap.objs.size := by simpa using hb
    subst e
    exact I1.fpOk (Nat.le_refl _) (I1.hok.fresh (Nat.le_refl _))
  · subst e
    cases r1
    obtain ⟨its, rv, p, hz⟩ := I1.tuple hq
    refine wpAny_pyIter_tuple (show s1.heap.IsTuple a its.toArray from p) ?_
    refine ⟨s1.heap.objs.size, [s1.heap.objs.size], _, _, H1, rfl, I1.kept (t' := s1.toks) fun b o e => Heap.get?_push_of_some _ e, turn_tuple a _, ⟨_, Heap.get?_push_size _ rfl, rfl, rfl⟩, fun b hb => ?_, q⟩
    have e : b = s1.heap.objs.size := by simpa using hb
    subst e
    exact I1.fpOk (Nat.le_refl _) (I1.hok.fresh (Nat.le_refl _))
def rangeL (lo : Int) (n : Nat) : List D := (List.range n).map fun i => D.int (lo + (i : Nat))
def fRange1 : List D → (List D → Prop) → Prop
  | [.int n], Q => (-(2 ^ 60) < n ∧ n < 2 ^ 60) ∧ Q (rangeL 0 n.toNat)
  | _, _ => False
@[simp] theorem fRange1_1 (n : Int) (Q : List D → Prop) : fRange1 ([.int n] : List D) Q = ((-(2 ^ 60) < n ∧ n < 2 ^ 60) ∧ Q (rangeL 0 n.toNat)) := by first | rfl | (cases x <;> rfl)
def fRange2 : List D → (List D → Prop) → Prop
  | [.int a, .int b], Q => (-(2 ^ 60) < a ∧ a < 2 ^ 60 ∧ -(2 ^ 60) < b ∧ b < 2 ^ 60) ∧ Q (rangeL a (b - a).toNat)
  | _, _ => False
@[simp] theorem fRange2_1 (a : Int) (b : Int) (Q : List D → Prop) : fRange2 ([.int a, .int b] : List D) Q = ((-(2 ^ 60) < a ∧ a < 2 ^ 60 ∧ -(2 ^ 60) < b ∧ b < 2 ^ 60) ∧ Q (rangeL a (b - a).toNat)) := by first | rfl | (cases x <;> rfl)
@[simp] def wRange1 (w : WA) : WA := fun Γ Q E => w Γ (fun ds => fRange1 ds Q) E
@[simp] def wRange2 (w : WA) : WA := fun Γ Q E => w Γ (fun ds => fRange2 ds Q) E
theorem ItD.range {K : PySem.W.Frag} {S : As} {H : Hp} {lo : Int} {n : Nat} : ItD K (Itr lo n) (rangeL lo n) S H := fun S2 H2 st ws => by
  have hl : (rangeL lo n).length = n := by simp [rangeL]
  refine ⟨?_, fun i hi => ⟨?_, fun x H3 y => ?_⟩⟩
  · rw [hl]; exact Nat.le_refl _
  · rw [hl] at hi; exact hi
  · obtain ⟨e, e2⟩ := y
    subst e e2
    rw [hl] at hi
    exact ⟨.refl, ws, .int (lo + (i : Nat)), by simp [rangeL, hi], .int _⟩
theorem i_range1 {tg a : Expr} {w : WA} {p pos : Pos} (hg : Gl X "range") (hm : X.mg "range" = none) (ha : PA X [a] (tDA X.K E w)) (hs : starEach [a] X.env = [(false, eval a X.env)] := by rfl) : PI X tg (.Call (.Name "range" p) [a] [] pos) (tDI X.K E (wRange1 w)) :=
  (pi_range1 hg hm ha hs).imp fun σ H R h => by
    obtain ⟨O, S, Γ, Qd, Ed, ws, m, w, k, ke⟩ := h
    refine ⟨O, S, Γ, _, Ed, ws, m, w, fun vs ds S1 H1 q1 e1 w1 r1 => ?_, ke⟩
    unfold fRange1 at q1
    split at q1
    · obtain ⟨v, rfl, q⟩ := reps1 r1
      cases q
      exact ⟨_, rfl, by omega, by omega, k _ _ S1 H1 q1.2 e1 w1 .range⟩
    · exact q1.elim
theorem i_range2 {tg a b : Expr} {w : WA} {p pos : Pos} (hg : Gl X "range") (hm : X.mg "range" = none) (ha : PA X [a, b] (tDA X.K E w)) (hs : starEach [a, b] X.env = [(false, eval a X.env), (false, eval b X.env)] := by rfl) (hs2 : starEach [b] X.env = [(false, eval b X.env)] := by rfl) :
    PI X tg (.Call (.Name "range" p) [a, b] [] pos) (tDI X.K E (wRange2 w)) :=
  (pi_range2 hg hm ha hs hs2).imp fun σ H R h => by
    obtain ⟨O, S, Γ, Qd, Ed, ws, m, w, k, ke⟩ := h
    refine ⟨O, S, Γ, _, Ed, ws, m, w, fun vs ds S1 H1 q1 e1 w1 r1 => ?_, ke⟩
    unfold fRange2 at q1
    split at q1
    · obtain ⟨v, u, rfl, q, q'⟩ := reps2 r1
      cases q; cases q'
      exact ⟨_, _, rfl, by omega, k _ _ S1 H1 q1.2 e1 w1 .range⟩
    · exact q1.elim
end
/-! ### comprehensions -/
def lcD (own : List Nat) (g : WG) (wt : WB) (we : WE) (Γ : List Sl) (Q : D → Prop) (ds : List D) : Prop := ds.length ≤ 16000000 ∧ ∃ I : Nat → List D → Prop, I 0 [] ∧
  (∀ i acc d, ds[i]? = some d → I i acc → g d (wipeG Γ own) fun Γ' => wt Γ' (fun b => if b = true then we Γ' (fun y => I (i + 1) (acc ++ [y])) Ev0 else I (i + 1) acc) Ev0) ∧ ∀ acc, I ds.length acc → Q (.lst acc)
@[simp] def wLc (own : List Nat) (wi : WA) (g : WG) (wt : WB) (we : WE) : WE := fun Γ Q E => wi Γ (fun ds => lcD own g wt we Γ Q ds) E
/-- an item kept or not, and what it gives -/
theorem lcD_pure {own : List Nat} {g : WG} {wt : WB} {we : WE} {Γ : List Sl} {Q : D → Prop} {ds : List D} (p : D → Bool) (f : D → D) (hz : ds.length ≤ 16000000)
    (h : ∀ d ∈ ds, ∀ (Qt : D → Prop) (Qf : Prop), (p d = true → Qt (f d)) → (p d = false → Qf) → g d (wipeG Γ own) fun Γ' => wt Γ' (fun b => if b = true then we Γ' Qt Ev0 else Qf) Ev0)
    (q : Q (.lst ((ds.filter p).map f))) : lcD own g wt we Γ Q ds := by
  refine ⟨hz, fun i acc => acc = ((ds.take i).filter p).map f, rfl, fun i acc d e ha => ?_, fun acc ha => ?_⟩
  · have hd : d ∈ ds := List.mem_of_getElem? e
    have et : ds.take (i + 1) = ds.take i ++ [d] := by rw [List.take_add_one, e]; rfl
    refine h d hd _ _ (fun hp => ?_) (fun hp => ?_)
    · show acc ++ [f d] = ((ds.take (i + 1)).filter p).map f
      rw [ha, et, List.filter_append, List.map_append]
      simp [hp]
    · show acc = ((ds.take (i + 1)).filter p).map f
      rw [ha, et, List.filter_append, List.map_append]
      simp [hp]
  · rw [ha, List.take_length]
    exact q
/-- every item kept -/
theorem lcD_map {own : List Nat} {g : WG} {we : WE} {Γ : List Sl} {Q : D → Prop} {ds : List D} (f : D → D) (hz : ds.length ≤ 16000000)
    (h : ∀ d ∈ ds, ∀ (Qt : D → Prop), Qt (f d) → g d (wipeG Γ own) fun Γ' => we Γ' Qt Ev0)
    (q : Q (.lst (ds.map f))) : lcD own g (fun _ Q _ => Q true) we Γ Q ds := by
  refine lcD_pure (fun _ => true) f hz (fun d hd Qt Qf h1 _ => ?_) (by rw [List.filter_eq_self.2 (fun _ _ => rfl)]; exact q)
  exact h d hd Qt (h1 rfl)
@[simp] def wYes : WB := fun _ Q _ => Q true
section
variable {X : Cx} {E : XK} {pos : Pos}
theorem ts_nil : PTs X [] (tDB X.K E wYes) := ⟨fun pins s σ H Q I h => pts_nil.run pins s σ H Q I (by
  obtain ⟨O, S, Γ, Qd, Ed, ws, m, w, k, ke⟩ := h
  exact k true S H w .refl ws)⟩
theorem ts_one {c : Expr} {w : WB} (h : PT X c (tDB X.K E w)) : PTs X [c] (tDB X.K E w) := pts_one h
/-- the list that grows: what a turn keeps -/
structure LcI (K : PySem.W.Frag) (I : Nat → List D → Prop) (S1 : As) (H1 : Hp) (Dl : Addr) (i : Nat) (H2 : Hp) : Prop where
  ex : ∃ S2 accv acc, Ev S1 H1 S2 H2 ∧ Ws S2 H2 ∧ H2 Dl = some (.lst accv) ∧ ¬ S2 Dl ∧ Reps K S2 H2 accv acc ∧ I i acc ∧ acc.length ≤ i
theorem lc_imp {K : PySem.W.Frag} {own is : List Nat} {wi : WA} {g : WG} {wt : WB} {we : WE} {σ : L2.St} {H : Hp} {O S : As} {Γ : List Sl} {Ed : Ex} {Qd : D → Prop} {Q : VK} (ws : Ws S H) (m : Mat K O S H σ Γ)
    (w : wLc own wi g wt we Γ Qd Ed) (ke : kE E S H Ed) (his : ∀ i ∈ is, i ∈ own)
    (k : ∀ D S1 H1 S2 H2 accv acc, Qd (.lst acc) → Ev S H S1 H1 → Ws S1 H1 → Ev S1 H1 S2 H2 → Ws S2 H2 → H1 D = none → H2 D = some (.lst accv) → ¬ S2 D → Reps K S2 H2 accv acc → Q (.ref D) H2) :
    tLc (tDI K E wi) (tDG K is g) (tDB K E0 wt) (tD K E0 we) own σ H Q := by
  refine ⟨O, S, Γ, _, Ed, ws, m, w, fun ds J S1 H1 q1 e1 w1 it => ?_, ke⟩
  intro Dl hD
  obtain ⟨hz, I, h0, hs, hd⟩ := q1
  have m1 := m.ev ws w1 e1
  refine ⟨fun i n H2 => n = ds.length - i ∧ i ≤ ds.length ∧ LcI K I S1 H1 Dl i H2, ⟨ds.length, by simp, Nat.zero_le _, ⟨S1, [], [], .upd hD, w1.upd hD, upd_same, w1.at hD, .nil, h0, Nat.zero_le _⟩⟩, ?_⟩
  rintro i n H2 ⟨rfl, hi, ⟨S2, accv, acc, e2, w2, hl, nS, ra, hI, ha⟩⟩
  obtain ⟨hstop, hgo⟩ := it S2 H2 (e2.stb w1) w2
  by_cases hlt : i < ds.length
  · obtain ⟨go, hy⟩ := hgo i hlt
    refine .inr ⟨go, LcI K I S1 H1 Dl (i + 1), fun H' h' => ⟨ds.length - (i + 1), by omega, rfl, hlt, h'⟩, fun x H3 y => ?_⟩
    obtain ⟨e3, w3, d, ed, rd⟩ := hy x H3 y
    have m3 : Mat K O S2 H3 (wipe σ own) (wipeG Γ own) := ((m1.ev w1 w2 e2).ev w2 w3 e3).wipe own
    refine ⟨O, S2, _, d, _, w3, m3, rd, hs i acc d ed hI, fun σ4 Γ4 q4 m4 hw => ?_⟩
    refine ⟨(hw own his).trans wipe_wipe, ?_⟩
    have hl3 : H3 Dl = some (.lst accv) := e3.keep _ _ hl nS
    refine ⟨O, S2, Γ4, _, Ev0, w3, m4, q4, fun b S5 H5 q5 e5 w5 => ?_, kE.zero⟩
    have n5 : ¬ S5 Dl := fun z => by
      rcases e5.new _ z with y | y
      · exact nS y
      · rw [hl3] at y; cases y
    have hl5 : H5 Dl = some (.lst accv) := e5.keep _ _ hl3 nS
    have ev5 : Ev S1 H1 S5 H5 := e2.trans w2 (e3.trans w3 e5)
    have ra5 : Reps K S5 H5 accv acc := Reps.stb (e5.stb w3) _ _ (Reps.stb (e3.stb w2) _ _ ra)
    cases b with
    | false => exact ⟨S5, accv, acc, ev5, w5, hl5, n5, ra5, q5, by omega⟩
    | true =>
      refine ⟨O, S5, Γ4, _, Ev0, w5, m4.ev w3 w5 e5, q5, fun v y S6 H6 q6 e6 w6 r6 => ?_, kE.zero⟩
      have n6 : ¬ S6 Dl := fun z => by
        rcases e6.new _ z with y | y
        · exact n5 y
        · rw [hl5] at y; cases y
      have hl6 : H6 Dl = some (.lst accv) := e6.keep _ _ hl5 n5
      have ra6 : Reps K S6 H6 accv acc := Reps.stb (e6.stb w5) _ _ ra5
      have ev6 : Ev S1 H1 S6 H6 := ev5.trans w5 e6
      have st : Stb S6 H6 S6 (upd H6 Dl (.lst (accv ++ [v]))) := .wr hl6
      refine ⟨accv, hl6, ?_, S6, accv ++ [v], acc ++ [y], ⟨fun b o hb nb => ?_, ev6.src, ev6.new⟩, fun b hb => ?_, upd_same, n6, Reps.stb st _ _ (ra6.append (.cons r6 .nil)), q6, by simp; omega⟩
      · rw [ra6.length, sizeLine_eq]; omega
      · rw [upd_ne (ne_of_none hb hD)]; exact ev6.keep b o hb nb
      · obtain ⟨o, e, q⟩ := w6 b hb
        exact ⟨o, by rw [upd_ne (fun z => n6 (by rw [← z]; exact hb))]; exact e, q⟩
  · have e : i = ds.length := by omega
    subst e
    exact .inl ⟨hstop, k Dl S1 H1 S2 H2 accv acc (hd acc hI) e1 w1 e2 w2 hD hl nS ra⟩
theorem d_lc {elt tg iter : Expr} {ifs : List Expr} {scope : Scope} {own : List (Str × Nat)} {is : List Nat} {wi : WA} {g : WG} {wt : WB} {we : WE} (hc : X.calm = true) (hN : X.N.Nodup) (hi : PI X tg iter (tDI X.K E wi)) (ok : BlkOk X.N X.env.scope scope own)
    (hg : ∀ (s : Shared) (H : Hp) (C : Addr) (cl : List (Str × Addr)) (fp : List Addr), PG (X.blk s H scope (compEnvC scope cl C X.env) fp) tg (tDG X.K is g)) (ht : ∀ (s : Shared) (H : Hp) (C : Addr) (cl : List (Str × Addr)) (fp : List Addr), PTs (X.blk s H scope (compEnvC scope cl C X.env) fp) ifs (tDB X.K E0 wt))
    (he : ∀ (s : Shared) (H : Hp) (C : Addr) (cl : List (Str × Addr)) (fp : List Addr), PE (X.blk s H scope (compEnvC scope cl C X.env) fp) elt (tD X.K E0 we)) (his : ∀ i ∈ is, i ∈ own.map (·.2) := by decide) (hs : ∀ x, foldedSetIterable iter X.env x = pure x := by intro _; rfl) :
    PE X (.ListComp elt [⟨tg, iter, ifs, 0⟩] scope pos) (tD X.K E (wLc (own.map (·.2)) wi g wt we)) :=
  (pe_lc hc hN hi ok hg ht he hs).frz.imp fun σ H Q h => by
    obtain ⟨O, S, Γ, Qd, Ed, ws, m, w, k, ke⟩ := h
    refine lc_imp ws m w ke his fun Dl S1 H1 S2 H2 accv acc q e1 w1 e2 w2 hD hl nS ra => ?_
    refine .inr ⟨Dl, accv, rfl, hl, fun o => ?_⟩
    have ev : Ev S1 H1 S2 (upd H2 Dl (.frz o (.lst accv))) := Ev.frz hD hl w1 e2 nS
    have st : Stb S2 H2 S2 (upd H2 Dl (.frz o (.lst accv))) := .wr hl
    exact k _ _ S2 _ q (e1.trans w1 ev) (w2.frz nS) (.lst (.inl ⟨o, upd_same⟩) (Reps.stb st _ _ ra))
end
end PD

set_option Elab.async false
set_option linter.all false
set_option maxRecDepth 100000
set_option maxHeartbeats 1000000
namespace PD
open PySem PySem.Spec PyProof.Rows L2
/-! ### statements -/
/-- the state of a body: S0, H0 the entry -/
structure Stt (K : PySem.W.Frag) (S0 : As) (H0 : Hp) (S : As) (H : Hp) (σ : L2.St) (Γ : List Sl) : Prop where
  ws : Ws S H
  mat : Mat K (fun a => H0 a = none) S H σ Γ
  ev : Ev S0 H0 S H
def tS (K : PySem.W.Frag) (E : XK) (w : WS) : TS := fun Dn σ H => ∃ S0 H0 S Γ N R Ed, Stt K S0 H0 S H σ Γ ∧ w N R Ed Γ ∧ (∀ σ' Γ' S' H', N Γ' → Stt K S0 H0 S' H' σ' Γ' → Stb S H S' H' → Dn.nx σ' H') ∧
  (∀ v d S' H', R d → Ev S0 H0 S' H' → Ws S' H' → Rep K S' H' v d → Dn.rt v H') ∧ kE E S0 H0 Ed
@[simp] def wSeq (a b : WS) : WS := fun N R E Γ => a (b N R E) R E Γ
@[simp] def wSkip : WS := fun N _ _ Γ => N Γ
@[simp] def wDrop (w : WE) : WS := fun N _ E Γ => w Γ (fun _ => N Γ) E
@[simp] def wRet (w : WE) : WS := fun _ R E Γ => w Γ R E
@[simp] def wRetN : WS := fun _ R _ _ => R .non
@[simp] def wIf (c : WB) (a b : WS) : WS := fun N R E Γ => c Γ (fun t => if t = true then a N R E Γ else b N R E Γ) E
@[simp] def wAsg (w : WE) (g : WG) : WS := fun N _ E Γ => w Γ (fun d => g d Γ N) E
def forD (g : WG) (b : WS) (N : List Sl → Prop) (R : D → Prop) (E : Ex) (Γ : List Sl) (ds : List D) : Prop := ∃ I : Nat → List Sl → Prop, I 0 Γ ∧ (∀ i d Γ', ds[i]? = some d → I i Γ' → g d Γ' (b (I (i + 1)) R E)) ∧ ∀ Γ', I ds.length Γ' → N Γ'
@[simp] def wFor (wi : WA) (g : WG) (b : WS) : WS := fun N R E Γ => wi Γ (fun ds => forD g b N R E Γ ds) E
def whD (c : WB) (b : WS) (N : List Sl → Prop) (R : D → Prop) (E : Ex) (Γ : List Sl) : Prop := ∃ I : Nat → List Sl → Prop, (∃ m, I m Γ) ∧ ∀ m Γ', I m Γ' → c Γ' (fun t => if t = true then b (fun Γ2 => ∃ m', m' < m ∧ I m' Γ2) R E Γ' else N Γ') E
@[simp] def wWhile (c : WB) (b : WS) : WS := fun N R E Γ => whD c b N R E Γ
@[simp] def wNever : WS := fun _ _ _ _ => False
section
variable {X : Cx} {E : XK} {pos : Pos}
theorem Stt.next {K : PySem.W.Frag} {S0 S S1 : As} {H0 H H1 : Hp} {σ : L2.St} {Γ : List Sl} (st : Stt K S0 H0 S H σ Γ) (e : Ev S H S1 H1) (w : Ws S1 H1) : Stt K S0 H0 S1 H1 σ Γ := ⟨w, st.mat.ev st.ws w e, st.ev.trans st.ws e⟩
theorem Stt.ke {K : PySem.W.Frag} {S0 S : As} {H0 H : Hp} {σ : L2.St} {Γ : List Sl} {Ed : Ex} (st : Stt K S0 H0 S H σ Γ) (k : kE E S0 H0 Ed) : kE E S H Ed := fun c S2 H2 q e2 w2 => k c S2 H2 q (st.ev.trans st.ws e2) w2
theorem ss_nil : PSs X [] (tS X.K E wSkip) := pss_nil.imp fun Dn σ H h => by
  obtain ⟨S0, H0, S, Γ, N, R, Ed, st, w, kn, kr, ke⟩ := h
  exact kn σ Γ S H w st .refl
theorem ss_cons {st : Stmt} {rest : List Stmt} {wa wb : WS} (ha : PS X st (tS X.K E wa)) (hb : PSs X rest (tS X.K E wb)) : PSs X (st :: rest) (tS X.K E (wSeq wa wb)) := (pss_cons ha hb).imp fun Dn σ H h => by
  obtain ⟨S0, H0, S, Γ, N, R, Ed, st, w, kn, kr, ke⟩ := h
  exact ⟨S0, H0, S, Γ, _, R, Ed, st, w, fun σ' Γ' S' H' q st' sb => ⟨S0, H0, S', Γ', N, R, Ed, st', q, fun σ2 Γ2 S2 H2 q2 st2 sb2 => kn σ2 Γ2 S2 H2 q2 st2 (sb.trans sb2), kr, ke⟩, kr, ke⟩
theorem ss_one {st : Stmt} {wa : WS} (ha : PS X st (tS X.K E wa)) : PSs X [st] (tS X.K E wa) := pss_one ha
theorem s_pass : PS X (.Pass pos) (tS X.K E wSkip) := ps_pass.imp fun Dn σ H h => by
  obtain ⟨S0, H0, S, Γ, N, R, Ed, st, w, kn, kr, ke⟩ := h
  exact kn σ Γ S H w st .refl
theorem s_doc {x j pos'} : PS X (.Expr (.Constant (.str x) j pos) pos') (tS X.K E wSkip) := ps_doc.imp fun Dn σ H h => by
  obtain ⟨S0, H0, S, Γ, N, R, Ed, st, w, kn, kr, ke⟩ := h
  exact kn σ Γ S H w st .refl
theorem s_never {st : Stmt} : PS X st (tS X.K E wNever) := ps_never.imp fun Dn σ H h => by
  obtain ⟨S0, H0, S, Γ, N, R, Ed, st, w, kn, kr, ke⟩ := h
  exact w
theorem s_expr {e : Expr} {w : WE} (he : PE X e (tD X.K E w)) (hs : swapsWith e none pos.line X.env = pure false := by rfl) : PS X (.Expr e pos) (tS X.K E (wDrop w)) := (ps_expr he hs).imp fun Dn σ H h => by
  obtain ⟨S0, H0, S, Γ, N, R, Ed, st, w, kn, kr, ke⟩ := h
  exact ⟨_, S, Γ, _, Ed, st.ws, st.mat, w, fun v d S' H' q e w' r => kn σ Γ S' H' q (st.next e w') (e.stb st.ws), st.ke ke⟩
theorem s_ret {e : Expr} {w : WE} (he : PE X e (tD X.K E w)) : PS X (.Return (some e) pos) (tS X.K E (wRet w)) := (ps_ret he).imp fun Dn σ H h => by
  obtain ⟨S0, H0, S, Γ, N, R, Ed, st, w, kn, kr, ke⟩ := h
  exact ⟨_, S, Γ, _, Ed, st.ws, st.mat, w, fun v d S' H' q e w' r => kr v d S' H' q (st.ev.trans st.ws e) w' r, st.ke ke⟩
theorem s_retN : PS X (.Return none pos) (tS X.K E wRetN) := ps_retN.imp fun Dn σ H h => by
  obtain ⟨S0, H0, S, Γ, N, R, Ed, st, w, kn, kr, ke⟩ := h
  exact kr .non .non S H w st.ev st.ws .non
theorem s_if {c : Expr} {a b : List Stmt} {wc : WB} {wa wb : WS} (hc : PT X c (tDB X.K E wc)) (ha : PSs X a (tS X.K E wa)) (hb : PSs X b (tS X.K E wb)) : PS X (.If c a b pos) (tS X.K E (wIf wc wa wb)) := (ps_if hc ha hb).imp fun Dn σ H h => by
  obtain ⟨S0, H0, S, Γ, N, R, Ed, st, w, kn, kr, ke⟩ := h
  refine ⟨_, S, Γ, _, Ed, st.ws, st.mat, w, fun t S' H' q e w' => ?_, st.ke ke⟩
  cases t with
  | true => exact ⟨S0, H0, S', Γ, N, R, Ed, st.next e w', q, fun σ2 Γ2 S2 H2 q2 st2 sb2 => kn σ2 Γ2 S2 H2 q2 st2 ((e.stb st.ws).trans sb2), kr, ke⟩
  | false => exact ⟨S0, H0, S', Γ, N, R, Ed, st.next e w', q, fun σ2 Γ2 S2 H2 q2 st2 sb2 => kn σ2 Γ2 S2 H2 q2 st2 ((e.stb st.ws).trans sb2), kr, ke⟩
theorem s_asg {tg e : Expr} {w : WE} {is : List Nat} {g : WG} (he : PE X e (tD X.K E w)) (hg : PG X tg (tDG X.K is g)) (hs : swapsWithSole [tg] e pos.line X.env = pure false := by rfl) (hw : swappedStores [tg] e X.env = pure none := by rfl)
    (h1 : (assignEach [tg] X.env).map (·.2) = [assign tg X.env] := by rfl) : PS X (.Assign [tg] e pos) (tS X.K E (wAsg w g)) := (ps_asg he hg hs hw h1).imp fun Dn σ H h => by
  obtain ⟨S0, H0, S, Γ, N, R, Ed, st, w, kn, kr, ke⟩ := h
  refine ⟨_, S, Γ, _, Ed, st.ws, st.mat, w, fun v d S' H' q e w' r => ?_, st.ke ke⟩
  have st' := st.next e w'
  exact ⟨_, S', Γ, d, _, w', st'.mat, r, q, fun σ' Γ' q' m' _ => kn σ' Γ' S' H' q' ⟨w', m', st'.ev⟩ (e.stb st.ws)⟩
theorem s_set {i : Nat} {x : Str} {e : Expr} {w : WE} {pos' : Pos} (hN : X.N.Nodup) (hi : X.N[i]? = some x) (hx : Loc X.env.scope x) (he : PE X e (tD X.K E w)) (hs : swapsWith e (some (.Name x pos')) pos.line X.env = pure false := by rfl) (hf : X.fn x = true ∨ X.env.scope.names.lookup x = some .local := by first | exact .inl rfl | exact .inr rfl | assumption) :
    PS X (.Assign [.Name x pos'] e pos) (tS X.K E (wAsg w (gN i))) := (ps_set hN hi hx he hs hf).imp fun Dn σ H h => by
  obtain ⟨S0, H0, S, Γ, N, R, Ed, st, w, kn, kr, ke⟩ := h
  refine ⟨_, S, Γ, _, Ed, st.ws, st.mat, w, fun v d S' H' q e w' r => ?_, st.ke ke⟩
  have st' := st.next e w'
  exact kn _ _ S' H' q ⟨w', st'.mat.setDat r, st'.ev⟩ (e.stb st.ws)
theorem s_for {tg iter : Expr} {body : List Stmt} {wi : WA} {is : List Nat} {g : WG} {wb : WS} (hp : PassesOwn (model X.prog X.w) X.A X.env X.xe) (hc : X.calm = true) (hi : PI X tg iter (tDI X.K E wi)) (hg : PG X tg (tDG X.K is g)) (hb : PSs X body (tS X.K E wb))
    (hs : ∀ x, foldedSetIterable iter X.env x = pure x := by intro _; rfl) : PS X (.For tg iter body [] pos) (tS X.K E (wFor wi g wb)) := (ps_for hp hc hi hg hb hs).imp fun Dn σ H h => by
  obtain ⟨S0, H0, S, Γ, N, R, Ed, st, w, kn, kr, ke⟩ := h
  refine ⟨_, S, Γ, _, Ed, st.ws, st.mat, w, fun ds J S1 H1 q1 e1 w1 it => ?_, st.ke ke⟩
  obtain ⟨I, h0, hs, hd⟩ := q1
  refine ⟨fun i n σ2 H2 => n = ds.length - i ∧ i ≤ ds.length ∧ ∃ S2 Γ2, Stt X.K S0 H0 S2 H2 σ2 Γ2 ∧ I i Γ2 ∧ Stb S1 H1 S2 H2, ⟨ds.length, by simp, Nat.zero_le _, S1, Γ, st.next e1 w1, h0, .refl⟩, ?_⟩
  rintro i n σ2 H2 ⟨rfl, hi, S2, Γ2, st2, hI, sb2⟩
  obtain ⟨hstop, hgo⟩ := it S2 H2 sb2 st2.ws
  by_cases hlt : i < ds.length
  · obtain ⟨go, hy⟩ := hgo i hlt
    refine .inr ⟨go, fun σ3 H3 => ∃ S3 Γ3, Stt X.K S0 H0 S3 H3 σ3 Γ3 ∧ I (i + 1) Γ3 ∧ Stb S1 H1 S3 H3, fun σ' H' ⟨S3, Γ3, a, b, c⟩ => ⟨ds.length - (i + 1), by omega, rfl, hlt, S3, Γ3, a, b, c⟩, fun x H3 y => ?_⟩
    obtain ⟨e3, w3, d, ed, rd⟩ := hy x H3 y
    have st3 := st2.next e3 w3
    refine ⟨_, S2, Γ2, d, _, w3, st3.mat, rd, hs i d Γ2 ed hI, fun σ4 Γ4 q4 m4 _ => ?_⟩
    exact ⟨S0, H0, S2, Γ4, _, R, Ed, ⟨w3, m4, st3.ev⟩, q4, fun σ5 Γ5 S5 H5 q5 st5 sb5 => ⟨S5, Γ5, st5, q5, sb2.trans ((e3.stb st2.ws).trans sb5)⟩, kr, ke⟩
  · have e : i = ds.length := by omega
    subst e
    exact .inl ⟨hstop, kn _ _ S2 H2 (hd _ hI) st2 ((e1.stb st.ws).trans sb2)⟩
theorem s_while {c : Expr} {body : List Stmt} {wc : WB} {wb : WS} (hp : PassesOwn (model X.prog X.w) X.A X.env X.xe) (hc : PT X c (tDB X.K E wc)) (hb : PSs X body (tS X.K E wb)) : PS X (.While c body [] pos) (tS X.K E (wWhile wc wb)) := (ps_while hp hc hb).imp fun Dn σ H h => by
  obtain ⟨S0, H0, S, Γ, N, R, Ed, st, ⟨I, ⟨m0, h0⟩, hs⟩, kn, kr, ke⟩ := h
  refine ⟨fun n σ2 H2 => ∃ S2 Γ2, Stt X.K S0 H0 S2 H2 σ2 Γ2 ∧ I n Γ2 ∧ Stb S H S2 H2, ⟨m0, S, Γ, st, h0, .refl⟩, ?_⟩
  rintro n σ2 H2 ⟨S2, Γ2, st2, hI, sb2⟩
  refine ⟨_, S2, Γ2, _, Ed, st2.ws, st2.mat, hs n Γ2 hI, fun t S3 H3 q e w3 => ?_, st2.ke ke⟩
  cases t with
  | true =>
    refine ⟨fun σ4 H4 => ∃ m', m' < n ∧ ∃ S4 Γ4, Stt X.K S0 H0 S4 H4 σ4 Γ4 ∧ I m' Γ4 ∧ Stb S H S4 H4, fun σ4 H4 ⟨m', a, b⟩ => ⟨m', a, b⟩, ?_⟩
    exact ⟨S0, H0, S3, Γ2, _, R, Ed, st2.next e w3, q, fun σ5 Γ5 S5 H5 ⟨m', hm, q5⟩ st5 sb5 => ⟨m', hm, S5, Γ5, st5, q5, sb2.trans ((e.stb st2.ws).trans sb5)⟩, kr, ke⟩
  | false => exact kn _ _ S3 H3 q (st2.next e w3) (sb2.trans (e.stb st2.ws))
/-! two names at once -/
@[simp] def wPar (i j : Nat) (w : WA) : WS := fun N _ E Γ => w Γ (fun ds => ∃ x y, ds = [x, y] ∧ N ((Γ.set i (.dat x)).set j (.dat y))) E
theorem s_par {i j : Nat} {x y : Str} {a b : Expr} {w : WA} {px py pt : Pos} {kt k2 pt2} (hc : X.calm = true) (hN : X.N.Nodup) (hi : X.N[i]? = some x) (hj : X.N[j]? = some y) (hij : i ≠ j)
    (hx : X.env.scope.names.lookup x = some .local) (hy : X.env.scope.names.lookup y = some .local) (ha : PA X [a, b] (tDA X.K E w))
    (hw : swappedStores [.Tuple [.Name x px, .Name y py] kt pt] (.Tuple [a, b] k2 pt2) X.env = pure (some [x, y]))
    (hs : swapsWithSole [.Tuple [.Name x px, .Name y py] kt pt] (.Tuple [a, b] k2 pt2) pos.line X.env = pure false := by rfl) :
    PS X (.Assign [.Tuple [.Name x px, .Name y py] kt pt] (.Tuple [a, b] k2 pt2) pos) (tS X.K E (wPar i j w)) := (ps_par hc hN hi hj hij hx hy ha hw hs).imp fun Dn σ H h => by
  obtain ⟨S0, H0, S, Γ, N, R, Ed, st, w, kn, kr, ke⟩ := h
  refine ⟨_, S, Γ, _, Ed, st.ws, st.mat, w, fun vs ds S' H' q e w' r => ?_, st.ke ke⟩
  obtain ⟨x, y, rfl, q⟩ := q
  obtain ⟨v, u, rfl, r1, r2⟩ := reps2 r
  have st' := st.next e w'
  exact ⟨v, u, rfl, kn _ _ S' H' q ⟨w', (st'.mat.setDat r1).setDat r2, st'.ev⟩ (e.stb st.ws)⟩
end
/-! ### a statement may freeze -/
section
variable {X : Cx} {E : XK} {pos : Pos}
theorem PSs.frzIn {sts : List Stmt} {t : TS} (h : PSs X sts t) : PSs X sts (fun D σ H => t D σ H ∨ ∃ a xs, H a = some (.lst xs) ∧ ∀ o, t D σ (upd H a (.frz o (.lst xs)))) := by
  refine ⟨fun pins s σ H D I w => ?_⟩
  rcases w with w | ⟨a, xs, e, w⟩
  · exact h.run pins s σ H D I w
  · obtain ⟨od, I2⟩ := I.lock e (show Mut (some (.lst xs)) from trivial)
    exact h.run pins s σ _ D I2 (w od)
theorem PS.frzNx {st : Stmt} {t : TS} (h : PS X st t) : PS X st (fun D σ H => t { D with nx := fun σ' H' => D.nx σ' H' ∨ ∃ a xs, H' a = some (.lst xs) ∧ ∀ o, D.nx σ' (upd H' a (.frz o (.lst xs))) } σ H) := by
  refine ⟨fun pins s σ H D I w => thn (h.run pins s σ H _ I w) fun f s1 q => ?_⟩
  cases f with
  | next =>
    obtain ⟨σ', H', I', q | ⟨a, xs, e, q⟩⟩ := q
    · exact ⟨σ', H', I', q⟩
    · obtain ⟨od, I2⟩ := I'.lock e (show Mut (some (.lst xs)) from trivial)
      exact ⟨σ', _, I2, q od⟩
  | brk => exact q
  | cont => exact q
  | ret v => exact q
/-- the own list at slot i is frozen ahead of these -/
@[simp] def wFrz (i : Nat) (w : WS) : WS := fun N R E Γ => ∃ ds, Γ[i]? = some (.own ds) ∧ w N R E (Γ.set i (.dat (.lst ds)))
theorem Mat.frzOwn {K : PySem.W.Frag} {O S : As} {H : Hp} {σ : L2.St} {Γ : List Sl} {i : Nat} {a : Addr} {vs : List V} {ds : List D} {o : Obj} (m : Mat K O S H σ Γ) (hg : Γ[i]? = some (.own ds)) (hs : σ[i]? = some (some (.ref a))) (hl : H a = some (.lst vs)) (r : Reps K S H vs ds) :
    Mat K O S (upd H a (.frz o (.lst vs))) σ (Γ.set i (.dat (.lst ds))) := by
  have sb : Stb S H S (upd H a (.frz o (.lst vs))) := .wr hl
  have hi : i < Γ.length := (List.getElem?_eq_some_iff.mp hg).1
  refine ⟨by simpa using m.len, fun j sl h => ?_, fun j k b es fs h1 h2 h3 h4 => ?_⟩
  · by_cases hj : i = j
    · subst hj
      rw [List.getElem?_set_self hi] at h
      cases h
      exact ⟨.ref a, hs, .lst (.inl ⟨o, upd_same⟩) (Reps.stb sb _ _ r)⟩
    · rw [List.getElem?_set_ne hj] at h
      have q := m.at_ j sl h
      cases sl with
      | no => trivial
      | dat d =>
        obtain ⟨v, e1, r1⟩ := q
        exact ⟨v, e1, Rep.stb sb _ _ r1⟩
      | own es =>
        obtain ⟨b, us, e1, e2, n, r1⟩ := q
        have hne : b ≠ a := fun z => hj (m.dist i j a ds es hg h hs (by rw [← z]; exact e1))
        exact ⟨b, us, e1, by rw [upd_ne hne]; exact e2, n, Reps.stb sb _ _ r1⟩
  · have n1 : i ≠ j := fun z => by subst z; rw [List.getElem?_set_self hi] at h1; cases h1
    have n2 : i ≠ k := fun z => by subst z; rw [List.getElem?_set_self hi] at h2; cases h2
    rw [List.getElem?_set_ne n1] at h1
    rw [List.getElem?_set_ne n2] at h2
    exact m.dist j k b es fs h1 h2 h3 h4
theorem Stt.frzOwn {K : PySem.W.Frag} {S0 S : As} {H0 H : Hp} {σ : L2.St} {Γ : List Sl} {i : Nat} {ds : List D} (st : Stt K S0 H0 S H σ Γ) (hg : Γ[i]? = some (.own ds)) :
    ∃ a vs, σ[i]? = some (some (.ref a)) ∧ H a = some (.lst vs) ∧ ¬ S a ∧ H0 a = none ∧ Reps K S H vs ds ∧ ∀ o, Stt K S0 H0 S (upd H a (.frz o (.lst vs))) σ (Γ.set i (.dat (.lst ds))) := by
  obtain ⟨a, vs, e1, e2, ⟨n, f⟩, r⟩ := st.mat.at_ i _ hg
  exact ⟨a, vs, e1, e2, n, f, r, fun o => ⟨st.ws.frz n, st.mat.frzOwn hg e1 e2 r, ⟨fun b x q z => by rw [upd_ne (ne_of_none q f)]; exact st.ev.keep b x q z, st.ev.src, st.ev.new⟩⟩⟩
theorem ss_frz (i : Nat) {sts : List Stmt} {w : WS} (h : PSs X sts (tS X.K E w)) : PSs X sts (tS X.K E (wFrz i w)) := (PSs.frzIn h).imp fun Dn σ H h => by
  obtain ⟨S0, H0, S, Γ, N, R, Ed, st, ⟨ds, hg, w⟩, kn, kr, ke⟩ := h
  obtain ⟨a, vs, e1, e2, n, f, r, st'⟩ := st.frzOwn hg
  exact .inr ⟨a, vs, e2, fun o => ⟨S0, H0, S, _, N, R, Ed, st' o, w, fun σ2 Γ2 S2 H2 q2 st2 sb2 => kn σ2 Γ2 S2 H2 q2 st2 (Stb.trans (.wr e2) sb2), kr, ke⟩⟩
end
theorem hu64 {k : Nat} {A : Around} (hr : Room k A) : A.units + 64 < cLine := hr.units
theorem hu65 {k : Nat} {A : Around} (hr : Room k A) : A.units + 65 < cLine := by have := hr.un; omega
/-! ### a def -/
def startG (N : List Str) (ds : List D) : List Sl := ds.map .dat ++ List.replicate (N.length - ds.length) .no
theorem mat_start {K : PySem.W.Frag} {O S : As} {H : Hp} {N : List Str} : ∀ {vs : List V} {ds : List D}, Reps K S H vs ds → Mat K O S H (L2.start N vs) (startG N ds) := by
  intro vs ds r
  have hl := r.length
  refine ⟨by simp [L2.start, startG, hl], fun i sl h => ?_, fun i j a es fs h1 _ _ _ => ?_⟩
  · unfold startG at h
    unfold L2.start
    by_cases hi : i < ds.length
    · rw [List.getElem?_append_left (by simpa using hi)] at h
      rw [List.getElem?_append_left (by simp; omega)]
      rw [List.getElem?_map, List.getElem?_eq_getElem hi] at h
      cases h
      obtain ⟨v, e, q⟩ := r.get (List.getElem?_eq_getElem hi)
      exact ⟨v, by rw [List.getElem?_map, e]; rfl, q⟩
    · rw [List.getElem?_append_right (by simp; omega)] at h
      obtain ⟨_, e⟩ := List.mem_replicate.mp (List.mem_of_getElem? h)
      subst e
      trivial
  · unfold startG at h1
    by_cases hi : i < ds.length
    · rw [List.getElem?_append_left (by simpa using hi), List.getElem?_map, List.getElem?_eq_getElem hi] at h1
      cases h1
    · rw [List.getElem?_append_right (by simp; omega)] at h1
      obtain ⟨_, e⟩ := List.mem_replicate.mp (List.mem_of_getElem? h1)
      cases e
section
variable {P : Program} {w : World} {K : PySem.W.Frag} {mg : Str → Option Value} {base : Heap}
/-- a def that raises nothing -/
theorem fn_pd {x qual : Str} {st : Stmt} {f : Addr} {fd : FuncData} {N ps : List Str} {k : Nat} {F : DF} {wb : WS} (Fu : Fun K x qual st f fd) (Sc : FnScope N ps (defScope st))
    (spec : ∀ ds Q E, ds.length = ps.length → F ds Q E → wb (fun _ => Q .non) Q Ev0 (startG N ds))
    (hbody : ∀ (cdv : Value) (A : Around) (outer : List Env) (s : Shared) (H : Hp) (E : XK), Room k (A.deeper (envOfC qual (defScope st) s.heap.objs.size f cdv)) → PSs (cxOf CX0 P w K mg base N qual (defScope st) f cdv A outer s H E).nox (defBody st) (tS K E0 wb)) :
    FnOk P w K mg base CX0 (k + 1) f fd ps (spD K ps.length F) := by
  refine Fu.ok Sc (fun vs H Q E h => ?_) fun cdv A outer s H vs Q E hr h => ?_
  · obtain ⟨S, ds, Qd, Ed, ws, r, hl, _⟩ := h
    rw [r.length, hl]
  · obtain ⟨S, ds, Qd, Ed, ws, r, hl, hf, kq, ke⟩ := h
    refine ⟨_, hbody cdv A outer s H E hr, S, H, S, _, _, _, Ev0, ⟨ws, mat_start r, .refl⟩, spec ds Qd Ed hl hf, fun σ' Γ' S' H' q st' _ => ?_, fun v d S' H' q e w' r => kq v d S' H' q e w' r, .zero⟩
    exact kq .non .non S' H' q st'.ev st'.ws .non
/-- a def that may raise -/
theorem fn_pdX {x qual : Str} {st : Stmt} {f : Addr} {fd : FuncData} {N ps : List Str} {k : Nat} {F : DF} {wb : WS} (Fu : Fun K x qual st f fd) (Sc : FnScope N ps (defScope st))
    (spec : ∀ ds Q E, ds.length = ps.length → F ds Q E → wb (fun _ => Q .non) Q E (startG N ds))
    (hbody : ∀ (cdv : Value) (A : Around) (outer : List Env) (s : Shared) (H : Hp) (E : XK), Room k (A.deeper (envOfC qual (defScope st) s.heap.objs.size f cdv)) → PSs (cxOf (L2.CX P w) P w K mg base N qual (defScope st) f cdv A outer s H E) (defBody st) (tS K E wb)) :
    FnOk P w K mg base (L2.CX P w) (k + 1) f fd ps (spD K ps.length F) := by
  refine Fu.okX Sc (fun vs H Q E h => ?_) fun cdv A outer s H vs Q E hr h => ?_
  · obtain ⟨S, ds, Qd, Ed, ws, r, hl, _⟩ := h
    rw [r.length, hl]
  · obtain ⟨S, ds, Qd, Ed, ws, r, hl, hf, kq, ke⟩ := h
    refine ⟨_, hbody cdv A outer s H E hr, S, H, S, _, _, _, Ed, ⟨ws, mat_start r, .refl⟩, spec ds Qd Ed hl hf, fun σ' Γ' S' H' q st' _ => ?_, fun v d S' H' q e w' r => kq v d S' H' q e w' r, ke⟩
    exact kq .non .non S' H' q st'.ev st'.ws .non
end
end PD

set_option Elab.async false
set_option linter.all false
set_option maxRecDepth 100000
set_option maxHeartbeats 1000000
namespace PD
open PySem PySem.Spec PyProof.Rows L2
/-! ### what the module's top has written -/
theorem absV_rel {u : Value} {v : V} (h : absV u = some v) : RelV v u := by
  cases u <;> simp only [absV] at h <;> first | (cases h; done) | (cases h; exact ⟨_, rfl⟩) | (cases h; rfl)
theorem absV_vals : ∀ {us : List Value} {vs : List V}, us.map absV = vs.map some → Vals vs us
  | [], [], _ => .nil
  | [], _ :: _, h => by cases h
  | _ :: _, [], h => by cases h
  | u :: us, v :: vs, h => by
    simp only [List.map_cons, List.cons.injEq] at h
    exact .cons (absV_rel h.1) (absV_vals h.2)
/-- a written tuple of flat things -/
theorem kTup {K : PySem.W.Frag} {a : Addr} {dd : Option Addr} {its : Array Value} {n : Nat} {sl : Array (Option Value)} {vs : List V} (l : K.lookup a = some ⟨.type "tuple", dd, .seq its n, sl⟩) (h : its.toList.map absV = vs.map some) (hz : its.size ≤ 1000) (H : Hp) : SqT K H a vs :=
  .inr ⟨_, its, n, l, rfl, rfl, le1000 hz, absV_vals h⟩
theorem kLst {K : PySem.W.Frag} {a : Addr} {its : Array Value} {n : Nat} {sl : Array (Option Value)} {vs : List V} (l : K.lookup a = some ⟨.type "list", none, .seq its n, sl⟩) (h : its.toList.map absV = vs.map some) (hz : its.size ≤ 1000) : KL K a vs :=
  ⟨_, its, n, l, rfl, rfl, rfl, le1000 hz, absV_vals h⟩
/-- a name of the module that holds data -/
structure KG (K : PySem.W.Frag) (mg : Str → Option Value) (x : Str) (d : D) : Prop where
  ex : ∃ u v, mg x = some u ∧ RelV v u ∧ ∀ S H, Rep K S H v d
theorem KG.int {K : PySem.W.Frag} {mg : Str → Option Value} {x : Str} {i : Int} {t : Tok} (h : mg x = some (.int i t)) : KG K mg x (.int i) := ⟨_, .int i, h, ⟨_, rfl⟩, fun _ _ => .int _⟩
theorem KG.tupS {K : PySem.W.Frag} {mg : Str → Option Value} {x : Str} {a : Addr} {dd : Option Addr} {its : Array Value} {n : Nat} {sl : Array (Option Value)} {ss : List Str} (h : mg x = some (.ref a)) (l : K.lookup a = some ⟨.type "tuple", dd, .seq its n, sl⟩)
    (e : its.toList.map absV = (ss.map V.str).map some) (hz : its.size ≤ 1000) : KG K mg x (.tup (ss.map D.str)) := ⟨_, .ref a, h, rfl, fun S H => .tup (kTup l e hz H) (reps_strs ss)⟩
/-- a written dict, texts to ints -/
structure KD (K : PySem.W.Frag) (w : World) (mg : Str → Option Value) (x : Str) (kvs : List (Str × Int)) : Prop where
  ex : ∃ a es n, mg x = some (.ref a) ∧ KDict K w a es n ∧ ∀ z, (∀ i, kvs.lookup z = some i → ∃ t, PySem.W.nsIn K a z = some (some (.int i t))) ∧ (kvs.lookup z = none → PySem.W.nsIn K a z = some none)
def entAbs (e : DictEntry) : Option (Str × Int) := match e.key, e.val with
  | .str x _, .int i _ => some (x, i)
  | _, _ => none
theorem ns_ent {K : PySem.W.Frag} {a : Addr} {es : Array DictEntry} {n : Nat} {kvs : List (Str × Int)} (l : K.lookup a = some ⟨.type "dict", none, .dict es n, #[]⟩) (h : es.toList.map entAbs = kvs.map some) (hr : es.toList.any (·.refKey) = false) (z : Str) :
    (∀ i, kvs.lookup z = some i → ∃ t, PySem.W.nsIn K a z = some (some (.int i t))) ∧ (kvs.lookup z = none → PySem.W.nsIn K a z = some none) := by
  have key : ∀ (es : List DictEntry) (kvs : List (Str × Int)), es.map entAbs = kvs.map some → (∀ i, kvs.lookup z = some i → ∃ e t, es.find? (·.key.isStr z) = some e ∧ e.val = .int i t) ∧ (kvs.lookup z = none → es.find? (·.key.isStr z) = none) := by
    intro es
    induction es with
    | nil =>
      intro kvs h
      cases kvs with
      | nil => exact ⟨fun i q => by simp at q, fun _ => rfl⟩
      | cons _ _ => cases h
    | cons e r ih =>
      intro kvs h
      cases kvs with
      | nil => cases h
      | cons kv kvs =>
        simp only [List.map_cons, List.cons.injEq] at h
        obtain ⟨h1, h2⟩ := h
        obtain ⟨i1, i2⟩ := ih kvs h2
        obtain ⟨kx, ki⟩ := kv
        unfold entAbs at h1
        split at h1
        · rename_i x t i t' ek ev
          cases h1
          have ke : e.key.isStr z = (z == kx) := by
            rw [ek]
            show (kx == z) = (z == kx)
            exact BEq.comm
          rw [List.find?_cons, ke, List.lookup_cons]
          cases hz : (z == kx) with
          | true => exact ⟨fun i q => ⟨e, t', rfl, by cases q; exact ev⟩, fun q => by cases q⟩
          | false => exact ⟨i1, i2⟩
        · cases h1
  obtain ⟨k1, k2⟩ := key es.toList kvs h
  refine ⟨fun i q => ?_, fun q => ?_⟩
  · obtain ⟨e, t, f, ev⟩ := k1 i q
    refine ⟨t, ?_⟩
    unfold PySem.W.nsIn
    rw [l]
    simp only [f, ev]
  · unfold PySem.W.nsIn
    rw [l]
    simp only [k2 q, hr]
    rfl
theorem KD.mk' {K : PySem.W.Frag} {w : World} {mg : Str → Option Value} {x : Str} {a : Addr} {es : Array DictEntry} {n : Nat} {kvs : List (Str × Int)} (h : mg x = some (.ref a)) (l : K.lookup a = some ⟨.type "dict", none, .dict es n, #[]⟩)
    (k : PySem.W.KeysLit w.params es.toList) (lo : (a == sysModules) = false) (e : es.toList.map entAbs = kvs.map some) (hr : es.toList.any (·.refKey) = false) : KD K w mg x kvs := ⟨a, es, n, h, ⟨l, k, lo⟩, fun z => ns_ent l e hr z⟩
section
variable {X : Cx} {E : XK} {pos : Pos}
theorem d_glob {x : Str} {d : D} (g : KG X.K X.mg x d) (hg : Gl X x) (hd : (x == ("__debug__" : Str)) = false := by decide) : PE X (.Name x pos) (tD X.K E (wC d)) := by
  obtain ⟨u, v, h, r, q⟩ := g.ex
  exact d_c (pe_glob hg h r hd) q
theorem d_type {x : Str} {n : String} (hg : Gl X x) (hm : X.mg x = none) (hv : bootBuiltins x = some (.type n)) (hn : x ≠ "__name__" := by decide) (hd : (x == ("__debug__" : Str)) = false := by decide) : PE X (.Name x pos) (tD X.K E (wC (.ty n))) :=
  d_c (pe_bltn (v := .ty n) hg hm hv rfl hn hd) fun _ _ => .ty _
/-! written dicts -/
def fKIn (kvs : List (Str × Int)) : D → (D → Prop) → Prop
  | .str z, Q => Q (.bl (kvs.lookup z).isSome)
  | _, _ => False
def fKNin (kvs : List (Str × Int)) : D → (D → Prop) → Prop
  | .str z, Q => Q (.bl (!(kvs.lookup z).isSome))
  | _, _ => False
def fKIx (kvs : List (Str × Int)) : D → (D → Prop) → Prop
  | .str z, Q => ∃ i, kvs.lookup z = some i ∧ Q (.int i)
  | _, _ => False
def kget (kvs : List (Str × Int)) (z : Str) (d : D) : D := match kvs.lookup z with | some i => .int i | none => d
def fKGet (kvs : List (Str × Int)) : D → D → (D → Prop) → Prop
  | .str z, d, Q => Q (kget kvs z d)
  | _, _, _ => False
@[simp] theorem fKIn_1 (kvs : List (Str × Int)) (z : Str) (Q : D → Prop) : fKIn kvs (.str z) Q = Q (.bl (kvs.lookup z).isSome) := rfl
@[simp] theorem fKIx_1 (kvs : List (Str × Int)) (z : Str) (Q : D → Prop) : fKIx kvs (.str z) Q = ∃ i, kvs.lookup z = some i ∧ Q (.int i) := rfl
@[simp] theorem fKGet_1 (kvs : List (Str × Int)) (z : Str) (d : D) (Q : D → Prop) : fKGet kvs (.str z) d Q = Q (kget kvs z d) := rfl
theorem d_kin {a : Expr} {x : Str} {kvs : List (Str × Int)} {p : Pos} {w : WE} (D : KD X.K X.w X.mg x kvs) (hg : Gl X x) (ha : PE X a (tD X.K E w)) (hd : (x == ("__debug__" : Str)) = false := by decide) : PE X (.Compare a [.In] [.Name x p] pos) (tD X.K E (wUn (fKIn kvs) w)) := by
  obtain ⟨d, es, n, h, K1, hz⟩ := D.ex
  refine (pe_cmpR (op_in_kd K1) ha (pe_glob (v := .ref d) hg h rfl hd) (by rfl)).imp fun σ H Q h => ?_
  obtain ⟨O, S, Γ, Qd, Ed, ws, m, w, k, ke⟩ := h
  refine ⟨O, S, Γ, _, Ed, ws, m, w, fun vx x S1 H1 q1 e1 w1 r1 => ?_, ke⟩
  cases r1 <;> first | exact (show False from q1).elim | skip
  rename_i z
  have q2 : Qd (.bl (kvs.lookup z).isSome) := q1
  obtain ⟨z1, z2⟩ := hz z
  cases q : kvs.lookup z with
  | none => exact ⟨z, none, rfl, rfl, z2 q, k _ _ S1 H1 (by rw [q] at q2; exact q2) e1 w1 (.bl _)⟩
  | some i =>
    obtain ⟨t, e⟩ := z1 i q
    exact ⟨z, _, rfl, rfl, e, k _ _ S1 H1 (by rw [q] at q2; exact q2) e1 w1 (.bl _)⟩
theorem t_kin {a : Expr} {x : Str} {kvs : List (Str × Int)} {p : Pos} {w : WE} (D : KD X.K X.w X.mg x kvs) (hg : Gl X x) (ha : PE X a (tD X.K E w)) (hd : (x == ("__debug__" : Str)) = false := by decide) : PT X (.Compare a [.In] [.Name x p] pos) (tDB X.K E (wB (wUn (fKIn kvs) w))) := by
  obtain ⟨d, es, n, h, K1, hz⟩ := D.ex
  refine (pt_cmpR (op_in_kd K1) ha (pe_glob (v := .ref d) hg h rfl hd) (by rfl)).imp fun σ H Q h => ?_
  obtain ⟨O, S, Γ, Qd, Ed, ws, m, w, k, ke⟩ := h
  refine ⟨O, S, Γ, _, Ed, ws, m, w, fun vx x S1 H1 q1 e1 w1 r1 => ?_, ke⟩
  cases r1 <;> first | exact (show False from q1).elim | skip
  rename_i z
  obtain ⟨bb, eb, q2⟩ := (show ∃ b, PD.D.bl (kvs.lookup z).isSome = PD.D.bl b ∧ Qd b from q1)
  cases eb
  obtain ⟨z1, z2⟩ := hz z
  cases q : kvs.lookup z with
  | none => exact ⟨z, none, rfl, rfl, z2 q, _, rfl, k _ S1 H1 (by rw [q] at q2; exact q2) e1 w1⟩
  | some i =>
    obtain ⟨t, e⟩ := z1 i q
    exact ⟨z, _, rfl, rfl, e, _, rfl, k _ S1 H1 (by rw [q] at q2; exact q2) e1 w1⟩
theorem d_kix {b : Expr} {x : Str} {kvs : List (Str × Int)} {p : Pos} {w : WE} (D : KD X.K X.w X.mg x kvs) (hg : Gl X x) (hb : PE X b (tD X.K E w)) (hs : PlainIx b) (hd : (x == ("__debug__" : Str)) = false := by decide) : PE X (.Subscript (.Name x p) b pos) (tD X.K E (wUn (fKIx kvs) w)) := by
  obtain ⟨d, es, n, h, K1, hz⟩ := D.ex
  refine (pe_ix ix_kdict (pe_glob (v := .ref d) hg h rfl hd) hb hs).imp fun σ H Q h => ?_
  obtain ⟨O, S, Γ, Qd, Ed, ws, m, w, k, ke⟩ := h
  refine ⟨O, S, Γ, _, Ed, ws, m, w, fun vx x S1 H1 q1 e1 w1 r1 => ?_, ke⟩
  cases r1 <;> first | exact (show False from q1).elim | skip
  rename_i z
  obtain ⟨i, q2, q3⟩ := (show ∃ i, kvs.lookup z = some i ∧ Qd (.int i) from q1)
  obtain ⟨t, e⟩ := (hz z).1 i q2
  exact ⟨d, z, .int i, rfl, rfl, ⟨es, n, _, K1.at_, K1.lit, e, ⟨t, rfl⟩⟩, k _ _ S1 H1 q3 e1 w1 (.int _)⟩
theorem d_kget {e f : Expr} {x : Str} {kvs : List (Str × Int)} {p apos : Pos} {we wf : WE} (D : KD X.K X.w X.mg x kvs) (hg : Gl X x) (he : PE X e (tD X.K E we)) (hf : PE X f (tD X.K E wf)) (m : M2 X (.Name x p) "get" apos e f pos) (hd : (x == ("__debug__" : Str)) = false := by decide) :
    PE X (.Call (.Attribute (.Name x p) "get" apos) [e, f] [] pos) (tD X.K E (wBin (fKGet kvs) we wf)) := by
  obtain ⟨d, es, n, h, K1, hz⟩ := D.ex
  refine ⟨fun pins s σ H Q I hw => ?_⟩
  obtain ⟨O, S, Γ, Qd, Ed, ws, mt, w, k, ke⟩ := hw
  refine wpAny_Call_method m.base m.few m.line PySem.F.plainAttrs_dict PySem.F.slot_dict_get PySem.F.type_dict_get (thn ((pe_glob (v := .ref d) hg h rfl hd).run pins s σ H (fun v H' => v = .ref d ∧ H' = H) I ⟨rfl, rfl⟩) fun u s1 ⟨y, H1, I1, rx, ey, eH⟩ => ?_)
  subst ey eH
  obtain rfl : u = Value.ref d := rx
  refine ⟨kd_type K1 I1, fun a e => ?_, ?_⟩
  · cases e
    exact ⟨_, I1.kIn _ _ K1.at_, rfl⟩
  rw [m.trees]
  refine Calls.callWith_builtin rfl (Calls.evalArgs_plain (Calls.spliced_cons (thn (he.run pins s1 σ _ _ I1 ⟨O, S, Γ, _, Ed, ws, mt, w, fun v dd S' H' q e w' r => (show (fun v H' => ∃ dd S', wf Γ (fun y => fKGet kvs dd y Qd) Ed ∧ Ev S H1 S' H' ∧ Ws S' H' ∧ Rep X.K S' H' v dd) v H' from ⟨dd, S', q, e, w', r⟩), ke⟩) fun iv s2 ⟨y, H2, I2, ry, dd, S2, q2, e2, w2, r2⟩ =>
    Calls.spliced_cons (thn (hf.run pins s2 σ H2 _ I2 ⟨O, S2, Γ, _, Ed, w2, mt.ev ws w2 e2, q2, fun v df S' H' q e w' r => (show (fun v H' => ∃ df S', fKGet kvs dd df Qd ∧ Ev S2 H2 S' H' ∧ Ws S' H' ∧ Rep X.K S' H' v df) v H' from ⟨df, S', q, e, w', r⟩), ke.ev w2 e2⟩) fun fv s3 ⟨z, H3, I3, rz, df, S3, q3, e3, w3, r3⟩ => Calls.spliced_nil ?_))))
  have r2' := Rep.stb (e3.stb w2) _ _ r2
  obtain ⟨key, rfl⟩ : ∃ key, dd = .str key := by
    cases dd <;> first | exact (show False from q3).elim | exact ⟨_, rfl⟩
  cases r2'
  obtain ⟨t, rfl⟩ := ry
  have q4 : Qd (match kvs.lookup key with | some i => .int i | none => df) := q3
  have mo := PySem.W.mapOf_K (prog := X.prog) (w := X.w) I3.kIn K1.at_ K1.lit
  refine call_meetsIn PySem.F.slot_dict_get mo.typeIs PySem.F.entry_dict_get (PySem.F.args_dict_get_3 _ _ _) (meets_dict_get_default (strKind X.prog X.w) d (PySem.strKind_is X.prog X.w key t) K1.low fv) ⟨_, mo, ?_⟩
  have ee : Ev S H1 S3 H3 := e2.trans w2 e3
  obtain ⟨z1, z2⟩ := hz key
  cases q : kvs.lookup key with
  | none =>
    rw [q] at q4
    rw [PySem.W.find_K K1.at_ (z2 q)]
    exact ⟨z, H3, I3.tok _, rz, k _ _ S3 H3 q4 ee w3 r3⟩
  | some i =>
    rw [q] at q4
    obtain ⟨t2, e4⟩ := z1 i q
    rw [PySem.W.find_K K1.at_ e4]
    exact ⟨.int i, H3, I3.tok _, ⟨_, rfl⟩, k _ _ S3 H3 q4 ee w3 (.int _)⟩
end
end PD

set_option Elab.async false
set_option linter.all false
set_option maxRecDepth 100000
set_option maxHeartbeats 1000000
namespace PD
open PySem PySem.Spec PyProof.Rows L2
/-! ### the source of drawn numbers -/
def SrcB (j : Int) (v : Int) : Prop := (j = 0 ∧ 0 ≤ v) ∨ (j = 1 ∧ 0 ≤ v ∧ v < 4294967296) ∨ (j = 2 ∧ 1073741824 < v ∧ v < 2147483648)
@[simp] def wSrcIx (i : Nat) (j : Int) : WE := fun Γ Q _ => Γ[i]? = some (.dat .src) ∧ (j = 0 ∨ j = 1 ∨ j = 2) ∧ ∀ v, SrcB j v → Q (.int v)
@[simp] def wSrcSt (i : Nat) (j : Int) (w : WE) : WS := fun N _ E Γ => Γ[i]? = some (.dat .src) ∧ w Γ (fun d => ∃ v, d = .int v ∧ SrcB j v ∧ N Γ) E
@[simp] def wRetSrc (w : WA) : WS := fun _ R E Γ => w Γ (fun ds => ∃ c s p, ds = [.int c, .int s, .int p] ∧ SrcB 0 c ∧ SrcB 1 s ∧ SrcB 2 p ∧ R .src) E
theorem SrcO.set {xs : List V} {j : Int} {k : Nat} {v : Int} (h : SrcO (.lst xs)) (b : SrcB j v) (e : ixN xs.length j = some k) : SrcO (.lst (xs.set k (.int v))) := by
  obtain ⟨c, s, p, e2, h0, h1, h2, h3, h4⟩ := h
  cases e2
  rcases b with ⟨rfl, b⟩ | ⟨rfl, b1, b2⟩ | ⟨rfl, b1, b2⟩
  · cases (show some 0 = some k from e)
    exact ⟨v, s, p, rfl, b, h1, h2, h3, h4⟩
  · cases (show some 1 = some k from e)
    exact ⟨c, v, p, rfl, h0, b1, b2, h3, h4⟩
  · cases (show some 2 = some k from e)
    exact ⟨c, s, v, rfl, h0, h1, h2, b1, b2⟩
theorem Ev.srcWr {S : As} {H : Hp} {a : Addr} {o : HO} (h : S a) : Ev S H S (L2.upd H a o) := ⟨fun b x e z => by rw [upd_ne (fun y => z (by rw [y]; exact h))]; exact e, fun _ h => h, fun _ h => .inl h⟩
section
variable {X : Cx} {E : XK} {pos : Pos}
theorem d_srcIx (i : Nat) {x : Str} {p1 p2 : Pos} {j : Int} {k : Nat} (hN : X.N[i]? = some x := by rfl) (hv : Vis X.env.scope x := by first | exact Or.inl rfl | exact Or.inr (Or.inl rfl) | exact Or.inr (Or.inr rfl)) (hd : (x == ("__debug__" : Str)) = false := by decide)
    (hcd : (x == ("__classdict__" : Str)) = false := by decide) (hs : PlainIx (.Constant (.int j) k p2) := by intro _ _; rfl) : PE X (.Subscript (.Name x p1) (.Constant (.int j) k p2) pos) (tD X.K E (wSrcIx i j)) :=
  (pe_ix ix_list (pv i hN hv hd hcd) pe_int hs).imp fun σ H Q h => by
    obtain ⟨O, S, Γ, Qd, Ed, ws, m, ⟨e, hj, q⟩, kq, ke⟩ := h
    obtain ⟨v, e1, r⟩ := m.at_ i _ e
    cases r with
    | src ha =>
      rename_i a
      obtain ⟨o, e2, c, s, p, rfl, h0, h1, h2, h3, h4⟩ := ws a ha
      rcases hj with rfl | rfl | rfl
      · exact ⟨_, e1, a, _, _, .int c, rfl, rfl, SqL.of e2, rfl, kq _ _ S H (q c (.inl ⟨rfl, h0⟩)) .refl ws (.int _)⟩
      · exact ⟨_, e1, a, _, _, .int s, rfl, rfl, SqL.of e2, rfl, kq _ _ S H (q s (.inr (.inl ⟨rfl, h1, h2⟩))) .refl ws (.int _)⟩
      · exact ⟨_, e1, a, _, _, .int p, rfl, rfl, SqL.of e2, rfl, kq _ _ S H (q p (.inr (.inr ⟨rfl, h3, h4⟩))) .refl ws (.int _)⟩
theorem s_srcSt (i : Nat) {x : Str} {p1 p2 p3 : Pos} {j : Int} {k : Nat} {e : Expr} {w : WE} (he : PE X e (tD X.K E w)) (hN : X.N[i]? = some x := by rfl) (hv : Vis X.env.scope x := by first | exact Or.inl rfl | exact Or.inr (Or.inl rfl) | exact Or.inr (Or.inr rfl)) (hd : (x == ("__debug__" : Str)) = false := by decide)
    (hcd : (x == ("__classdict__" : Str)) = false := by decide) (hj : j = 0 ∨ j = 1 ∨ j = 2 := by decide)
    (ha : ∀ v, assign (.Subscript (.Name x p1) (.Constant (.int j) k p2) p3) X.env v = (do
      let ov ← holding [v] (eval (.Name x p1) X.env)
      let iv ← holding [v, ov] (eval (.Constant (.int j) k p2) X.env)
      standAt p3
      holding [v, ov, iv] (setItem ov iv v)
      release [v, ov, iv] []) := by intro _; rfl)
    (hs : swapsWithSole [.Subscript (.Name x p1) (.Constant (.int j) k p2) p3] e pos.line X.env = pure false := by rfl) (hw : swappedStores [.Subscript (.Name x p1) (.Constant (.int j) k p2) p3] e X.env = pure none := by rfl)
    (h1 : (assignEach [.Subscript (.Name x p1) (.Constant (.int j) k p2) p3] X.env).map (·.2) = [assign (.Subscript (.Name x p1) (.Constant (.int j) k p2) p3) X.env] := by rfl) :
    PS X (.Assign [.Subscript (.Name x p1) (.Constant (.int j) k p2) p3] e pos) (tS X.K E (wSrcSt i j w)) :=
  (ps_asg he (pg_sub (pv i hN hv hd hcd) pe_int set_list ha) hs hw h1).imp fun Dn σ H h => by
    obtain ⟨S0, H0, S, Γ, N, R, Ed, st, ⟨hg, w⟩, kn, kr, ke⟩ := h
    refine ⟨_, S, Γ, _, Ed, st.ws, st.mat, w, fun v d S' H' q e w' r => ?_, st.ke ke⟩
    obtain ⟨z, rfl, hb, q⟩ := q
    cases r
    have st' := st.next e w'
    obtain ⟨u, e1, r⟩ := st'.mat.at_ i _ hg
    cases r with
    | src ha =>
      rename_i a
      obtain ⟨o, e2, c, s, p, rfl, h0, h1, h2, h3, h4⟩ := w' a ha
      have hk : ∃ k, ixN 3 j = some k := by
        rcases hj with rfl | rfl | rfl
        · exact ⟨0, rfl⟩
        · exact ⟨1, rfl⟩
        · exact ⟨2, rfl⟩
      obtain ⟨k, hk⟩ := hk
      have so : SrcO (.lst (([.int c, .int s, .int p] : List V).set k (.int z))) := SrcO.set ⟨c, s, p, rfl, h0, h1, h2, h3, h4⟩ hb hk
      refine ⟨_, e1, a, _, j, k, rfl, rfl, e2, hk, ?_⟩
      have ev : Ev S' H' S' (upd H' a (.lst (([.int c, .int s, .int p] : List V).set k (.int z)))) := .srcWr ha
      have w2 : Ws S' (upd H' a (.lst (([.int c, .int s, .int p] : List V).set k (.int z)))) := fun b hb => by
        by_cases z : b = a
        · rw [z]; exact ⟨_, upd_same, so⟩
        · obtain ⟨o, e3, q3⟩ := w' b hb
          exact ⟨o, by rw [upd_ne z]; exact e3, q3⟩
      exact kn _ _ S' _ q (st'.next ev w2) ((e.stb st.ws).trans (ev.stb w'))
theorem s_retSrc {es : List Expr} {p : Pos} {w : WA} (h : PA X es (tDA X.K E w)) : PS X (.Return (some (.List es p)) pos) (tS X.K E (wRetSrc w)) := (ps_ret (pe_lst h)).imp fun Dn σ H h => by
  obtain ⟨S0, H0, S, Γ, N, R, Ed, st, w, kn, kr, ke⟩ := h
  refine ⟨_, S, Γ, _, Ed, st.ws, st.mat, w, fun vs ds S' H' q e w' r => ?_, st.ke ke⟩
  obtain ⟨c, s, p, rfl, h0, h1, h2, q⟩ := q
  have hv : vs = [.int c, .int s, .int p] := by
    cases r with
    | cons r1 r => cases r with
      | cons r2 r => cases r with
        | cons r3 r => cases r; cases r1; cases r2; cases r3; rfl
  subst hv
  refine ⟨by simp [sizeLine_eq], fun a ha => ?_⟩
  have st' := st.next e w'
  have ev : Ev S' H' (fun b => S' b ∨ b = a) (upd H' a (.lst [.int c, .int s, .int p])) := ⟨fun b x q z => by rw [upd_ne (ne_of_none q ha)]; exact q, fun b h => .inl h, fun b h => h.elim .inl fun z => .inr (by rw [z]; exact ha)⟩
  have so : SrcO (.lst [.int c, .int s, .int p]) := by
    refine ⟨c, s, p, rfl, ?_⟩
    unfold SrcB at h0 h1 h2
    omega
  refine kr _ _ _ _ q (st'.ev.trans w' ev) (fun b hb => ?_) (.src (.inr rfl))
  by_cases z : b = a
  · rw [z]; exact ⟨_, upd_same, so⟩
  · rcases hb with hb | hb
    · obtain ⟨o, e3, q3⟩ := w' b hb
      exact ⟨o, by rw [upd_ne z]; exact e3, q3⟩
    · exact absurd hb z
end
/-! ### lists of one's own -/
def tDL (K : PySem.W.Frag) (E : XK) (w : WA) : TE := fun σ H Q => ∃ O S Γ Qd Ed, Ws S H ∧ Mat K O S H σ Γ ∧ w Γ Qd Ed ∧ (∀ p vs ds S' H', Qd ds → Ev S H S' H' → Ws S' H' → H p = none → H' p = some (.lst vs) → ¬ S' p → Reps K S' H' vs ds → Q (.ref p) H') ∧ kE E S H Ed
@[simp] def wOwn (i : Nat) (w : WA) : WS := fun N _ E Γ => w Γ (fun ds => N (Γ.set i (.own ds))) E
@[simp] def wApp (i : Nat) (w : WE) : WS := fun N _ E Γ => ∃ ds, Γ[i]? = some (.own ds) ∧ w Γ (fun d => ds.length < 16000000 ∧ N (Γ.set i (.own (ds ++ [d])))) E
@[simp] def wSto (i : Nat) (wk : WE) (w : WE) : WS := fun N _ E Γ => ∃ ds, Γ[i]? = some (.own ds) ∧ w Γ (fun d => wk Γ (fun k => ∃ z j, k = .int z ∧ ixN ds.length z = some j ∧ N (Γ.set i (.own (ds.set j d)))) E) E
@[simp] def wRetOwn (i : Nat) : WS := fun _ R _ Γ => ∃ ds, Γ[i]? = some (.own ds) ∧ R (.lst ds)
@[simp] def wIxO (i : Nat) (w : WE) : WE := fun Γ Q E => ∃ ds, Γ[i]? = some (.own ds) ∧ w Γ (fun k => fIx (.lst ds) k Q) E
theorem Mat.setOwn {K : PySem.W.Frag} {O S S' : As} {H H' : Hp} {σ : L2.St} {Γ : List Sl} {i : Nat} {p : Addr} {vs : List V} {ds : List D} (ws : Ws S H) (w' : Ws S' H') (m : Mat K O S H σ Γ) (e : Ev S H S' H') (hp : H p = none) (hl : H' p = some (.lst vs)) (ns : ¬ S' p) (ho : O p) (r : Reps K S' H' vs ds) :
    Mat K O S' H' (σ.set i (some (.ref p))) (Γ.set i (.own ds)) := by
  have m' := m.ev ws w' e
  have other : ∀ {j : Nat} {es : List D} {a : Addr}, Γ[j]? = some (.own es) → σ[j]? = some (some (.ref a)) → a ≠ p := fun {j es a} h1 h2 z => by
    obtain ⟨b, us, e1, e2, _⟩ := m.at_ j _ h1
    rw [h2] at e1
    cases e1
    rw [z, hp] at e2; cases e2
  refine ⟨by simpa using m.len, fun j sl h => ?_, fun j k a es fs h1 h2 h3 h4 => ?_⟩
  · by_cases hj : i = j
    · subst hj
      by_cases hi : i < Γ.length
      · rw [List.getElem?_set_self hi] at h
        cases h
        exact ⟨p, vs, by rw [List.getElem?_set_self (by rw [← m.len]; exact hi)], hl, ⟨ns, ho⟩, r⟩
      · rw [List.getElem?_eq_none (by simp; omega)] at h; cases h
    · rw [List.getElem?_set_ne hj] at h ⊢
      exact m'.at_ j sl h
  · by_cases hj : i = j
    · by_cases hk : i = k
      · omega
      · subst hj
        rw [List.getElem?_set_ne hk] at h2 h4
        by_cases hi : i < σ.length
        · rw [List.getElem?_set_self hi] at h3
          cases h3
          exact absurd rfl (other h2 h4)
        · rw [List.getElem?_eq_none (by simp; omega)] at h3; cases h3
    · rw [List.getElem?_set_ne hj] at h1 h3
      by_cases hk : i = k
      · subst hk
        by_cases hi : i < σ.length
        · rw [List.getElem?_set_self hi] at h4
          cases h4
          exact absurd rfl (other h1 h3)
        · rw [List.getElem?_eq_none (by simp; omega)] at h4; cases h4
      · rw [List.getElem?_set_ne hk] at h2 h4
        exact m.dist j k a es fs h1 h2 h3 h4
/-- the own list at slot i becomes another -/
theorem Stt.wrOwn {K : PySem.W.Frag} {S0 S : As} {H0 H : Hp} {σ : L2.St} {Γ : List Sl} {i : Nat} {a : Addr} {vs us : List V} {ds es0 : List D} (st : Stt K S0 H0 S H σ Γ) (hg : Γ[i]? = some (.own ds)) (hs : σ[i]? = some (some (.ref a))) (hl : H a = some (.lst vs)) (n : ¬ S a) (f : H0 a = none) (r : Reps K S H us es0) :
    Stt K S0 H0 S (upd H a (.lst us)) σ (Γ.set i (.own es0)) ∧ Stb S H S (upd H a (.lst us)) := by
  have sb : Stb S H S (upd H a (.lst us)) := .wr hl
  have hi : i < Γ.length := (List.getElem?_eq_some_iff.mp hg).1
  have m := st.mat
  refine ⟨⟨fun b hb => ?_, ⟨by simpa using m.len, fun j sl h => ?_, fun j k b es fs h1 h2 h3 h4 => ?_⟩, ⟨fun b x q z => by rw [upd_ne (ne_of_none q f)]; exact st.ev.keep b x q z, st.ev.src, st.ev.new⟩⟩, sb⟩
  · obtain ⟨o, e, q⟩ := st.ws b hb
    exact ⟨o, by rw [upd_ne (fun z => n (by rw [← z]; exact hb))]; exact e, q⟩
  · by_cases hj : i = j
    · subst hj
      rw [List.getElem?_set_self hi] at h
      cases h
      exact ⟨a, us, hs, upd_same, ⟨n, f⟩, Reps.stb sb _ _ r⟩
    · rw [List.getElem?_set_ne hj] at h
      have q := m.at_ j sl h
      cases sl with
      | no => trivial
      | dat d =>
        obtain ⟨v, e1, r1⟩ := q
        exact ⟨v, e1, Rep.stb sb _ _ r1⟩
      | own es =>
        obtain ⟨b, us, e1, e2, n, r1⟩ := q
        have hne : b ≠ a := fun z => hj (m.dist i j a ds es hg h hs (by rw [← z]; exact e1))
        exact ⟨b, us, e1, by rw [upd_ne hne]; exact e2, n, Reps.stb sb _ _ r1⟩
  · have gj : ∀ {j : Nat} {gs : List D}, (Γ.set i (.own es0))[j]? = some (.own gs) → ∃ fs, Γ[j]? = some (.own fs) := fun {j gs} h => by
      by_cases hj : i = j
      · subst hj; exact ⟨_, hg⟩
      · rw [List.getElem?_set_ne hj] at h; exact ⟨_, h⟩
    obtain ⟨f1, h1⟩ := gj h1
    obtain ⟨f2, h2⟩ := gj h2
    exact m.dist j k b f1 f2 h1 h2 h3 h4
end PD

set_option Elab.async false
set_option linter.all false
set_option maxRecDepth 100000
set_option maxHeartbeats 1000000
namespace PD
open PySem PySem.Spec PyProof.Rows L2
section
variable {X : Cx} {E : XK} {pos : Pos}
/-! new lists that nobody has frozen -/
@[simp] def wLstL (w : WA) : WA := fun Γ Q E => w Γ (fun ds => ds.length ≤ 1000 ∧ Q ds) E
theorem new_own {K : PySem.W.Frag} {S S1 : As} {H H1 : Hp} {vs : List V} {ds : List D} {Qd : List D → Prop} {Q : VK} (e : Ev S H S1 H1) (w1 : Ws S1 H1) (r : Reps K S1 H1 vs ds) (q : Qd ds)
    (k : ∀ p vs ds S' H', Qd ds → Ev S H S' H' → Ws S' H' → H p = none → H' p = some (.lst vs) → ¬ S' p → Reps K S' H' vs ds → Q (.ref p) H') : ∀ p, H1 p = none → Q (.ref p) (upd H1 p (.lst vs)) := fun p hp => by
  have ev : Ev S1 H1 S1 (upd H1 p (.lst vs)) := .upd hp
  exact k p vs ds S1 _ q (e.trans w1 ev) (w1.upd hp) (e.free w1 hp) upd_same (w1.at hp) (Reps.stb (ev.stb w1) _ _ r)
theorem dl_lst {es : List Expr} {w : WA} (h : PA X es (tDA X.K E w)) : PE X (.List es pos) (tDL X.K E (wLstL w)) := (pe_lst h).imp fun σ H Q h => by
  obtain ⟨O, S, Γ, Qd, Ed, ws, m, w, k, ke⟩ := h
  refine ⟨O, S, Γ, _, Ed, ws, m, w, fun vs ds S1 H1 q1 e1 w1 r1 => ⟨by rw [r1.length]; exact le1000 q1.1, new_own e1 w1 r1 q1.2 k⟩, ke⟩
/-- [..] * n -/
def fRepL : D → D → (List D → Prop) → Prop
  | .lst a, .int j, Q => (j < 2 ^ 62 ∧ -(2 ^ 62) < j ∧ a.length * j.toNat ≤ sizeLine) ∧ Q (List.replicate j.toNat a).flatten
  | _, _, _ => False
@[simp] theorem fRepL_1 (a : List D) (j : Int) (Q : List D → Prop) : fRepL (.lst a : D) (.int j : D) Q = ((j < 2 ^ 62 ∧ -(2 ^ 62) < j ∧ a.length * j.toNat ≤ sizeLine) ∧ Q (List.replicate j.toNat a).flatten) := by first | rfl | (cases x <;> rfl)
@[simp] def wRepL (wa wb : WE) : WA := fun Γ Q E => wa Γ (fun x => wb Γ (fun y => fRepL x y Q) E) E
theorem dl_rep {a b : Expr} {wa wb : WE} (ha : PE X a (tD X.K E wa)) (hb : PE X b (tD X.K E wb)) : PE X (.BinOp a .Mult b pos) (tDL X.K E (wRepL wa wb)) := (pe_op op_repL ha hb).imp fun σ H Q h => by
  obtain ⟨O, S, Γ, Qd, Ed, ws, m, w, k, ke⟩ := h
  refine ⟨O, S, Γ, _, Ed, ws, m, w, fun vx x S1 H1 q1 e1 w1 r1 => ?_, ke⟩
  refine ⟨O, S1, Γ, _, Ed, w1, m.ev ws w1 e1, q1, fun vy y S2 H2 q2 e2 w2 r2 => ?_, ke.ev w1 e1⟩
  have r1' := Rep.stb (e2.stb w1) _ _ r1
  unfold fRepL at q2
  split at q2
  · cases r2
    cases r1' with
    | lst hl hx =>
      obtain ⟨⟨h1, h2, h3⟩, q⟩ := q2
      refine ⟨_, _, _, rfl, rfl, hl.sq, by omega, by omega, by rw [hx.length]; exact h3, new_own (e1.trans w1 e2) w2 (hx.rep _) q k⟩
  · exact q2.elim
/-- list(xs) -/
def fListL : List D → (List D → Prop) → Prop
  | [.lst xs], Q => Q xs
  | [.tup xs], Q => Q xs
  | _, _ => False
@[simp] theorem fListL_1 (xs : List D) (Q : List D → Prop) : fListL ([.lst xs] : List D) Q = (Q xs) := by first | rfl | (cases x <;> rfl)
@[simp] theorem fListL_2 (xs : List D) (Q : List D → Prop) : fListL ([.tup xs] : List D) Q = (Q xs) := by first | rfl | (cases x <;> rfl)
@[simp] def wListL (w : WA) : WA := fun Γ Q E => w Γ (fun ds => fListL ds Q) E
theorem dl_list {x : Str} {p : Pos} {e : Expr} {es : List Expr} {w : WA} (hg : Gl X x) (hm : X.mg x = none) (hv : bootBuiltins x = some (.type "list")) (ha : PA X (e :: es) (tDA X.K E w))
    (hn : x ≠ "__name__" := by decide) (hdb : (x == ("__debug__" : Str)) = false := by decide) (he : starEach (e :: es) X.env = (false, eval e X.env) :: starEach es X.env := by rfl) (hpl : (backTo pos (starEach es X.env)).any (·.1) = false := by rfl) :
    PE X (.Call (.Name x p) (e :: es) [] pos) (tDL X.K E (wListL w)) := (pe_callTy call_list_of hg hm hv ha hn hdb he hpl).imp fun σ H Q h => by
  obtain ⟨O, S, Γ, Qd, Ed, ws, m, w, k, ke⟩ := h
  refine ⟨O, S, Γ, _, Ed, ws, m, w, fun vs ds S1 H1 q1 e1 w1 r1 => ?_, ke⟩
  unfold fListL at q1
  split at q1
  · obtain ⟨v, rfl, q⟩ := reps1 r1
    cases q with
    | lst ha hx =>
      exact ⟨_, _, rfl, .inl ha.sq, new_own e1 w1 hx q1 k⟩
  · obtain ⟨v, rfl, q⟩ := reps1 r1
    cases q with
    | tup ha hx =>
      exact ⟨_, _, rfl, .inr ha, new_own e1 w1 hx q1 k⟩
  · exact q1.elim
/-- y = a new list, one's own -/
theorem s_own {i : Nat} {x : Str} {e : Expr} {w : WA} {pos' : Pos} (hN : X.N.Nodup) (hi : X.N[i]? = some x) (hx : Loc X.env.scope x) (he : PE X e (tDL X.K E w)) (hs : swapsWith e (some (.Name x pos')) pos.line X.env = pure false := by rfl) (hf : X.fn x = true ∨ X.env.scope.names.lookup x = some .local := by first | exact .inl rfl | exact .inr rfl | assumption) :
    PS X (.Assign [.Name x pos'] e pos) (tS X.K E (wOwn i w)) := (ps_set hN hi hx he hs hf).imp fun Dn σ H h => by
  obtain ⟨S0, H0, S, Γ, N, R, Ed, st, w, kn, kr, ke⟩ := h
  refine ⟨_, S, Γ, _, Ed, st.ws, st.mat, w, fun p vs ds S' H' q e w' hp hl ns r => ?_, st.ke ke⟩
  exact kn _ _ S' H' q ⟨w', Mat.setOwn st.ws w' st.mat e hp hl ns (st.ev.free st.ws hp) r, st.ev.trans st.ws e⟩ (e.stb st.ws)
/-- y = [.. for ..], one's own or frozen -/
@[simp] def wOwnLc (i : Nat) (own : List Nat) (wi : WA) (g : WG) (wt : WB) (we : WE) : WS := fun N _ E Γ => wLc own wi g wt we Γ (fun d => ∃ ds, d = .lst ds ∧ N (Γ.set i (.own ds))) E
theorem s_ownLc {i : Nat} {y : Str} {py : Pos} {elt tg iter : Expr} {ifs : List Expr} {scope : Scope} {own : List (Str × Nat)} {is : List Nat} {spos : Pos} {wi : WA} {g : WG} {wt : WB} {we : WE} (hc : X.calm = true) (hN : X.N.Nodup) (hy : X.N[i]? = some y) (hyl : X.env.scope.names.lookup y = some .local)
    (hsw : swapsWith (.ListComp elt [⟨tg, iter, ifs, 0⟩] scope pos) (some (.Name y py)) spos.line X.env = pure true) (hi : PI X tg iter (tDI X.K E wi)) (ok : BlkOk X.N X.env.scope scope own)
    (hg : ∀ (s : Shared) (H : Hp) (C : Addr) (cl : List (Str × Addr)) (fp : List Addr), PG (X.blk s H scope (compEnvC scope cl C X.env) fp) tg (tDG X.K is g)) (ht : ∀ (s : Shared) (H : Hp) (C : Addr) (cl : List (Str × Addr)) (fp : List Addr), PTs (X.blk s H scope (compEnvC scope cl C X.env) fp) ifs (tDB X.K E0 wt))
    (he : ∀ (s : Shared) (H : Hp) (C : Addr) (cl : List (Str × Addr)) (fp : List Addr), PE (X.blk s H scope (compEnvC scope cl C X.env) fp) elt (tD X.K E0 we)) (his : ∀ i ∈ is, i ∈ own.map (·.2) := by decide) (hs : ∀ x, foldedSetIterable iter X.env x = pure x := by intro _; rfl) :
    PS X (.Assign [.Name y py] (.ListComp elt [⟨tg, iter, ifs, 0⟩] scope pos) spos) (tS X.K E (wOwnLc i (own.map (·.2)) wi g wt we)) :=
  (ps_setLc hc hN hy hyl hsw hi ok hg ht he hs).imp fun Dn σ H h => by
    obtain ⟨S0, H0, S, Γ, N, R, Ed, st, w, kn, kr, ke⟩ := h
    refine lc_imp st.ws st.mat w (st.ke ke) his fun Dl S1 H1 S2 H2 accv acc q e1 w1 e2 w2 hD hl nS ra => ?_
    obtain ⟨ds, e, q⟩ := q
    cases e
    have ee := e1.trans w1 e2
    exact kn _ _ S2 H2 q ⟨w2, Mat.setOwn st.ws w2 st.mat ee (e1.free w1 hD) hl nS (st.ev.free st.ws (e1.free w1 hD)) ra, st.ev.trans st.ws ee⟩ (ee.stb st.ws)
theorem s_setLc {i : Nat} {y : Str} {py : Pos} {elt tg iter : Expr} {ifs : List Expr} {scope : Scope} {own : List (Str × Nat)} {is : List Nat} {spos : Pos} {wi : WA} {g : WG} {wt : WB} {we : WE} (hc : X.calm = true) (hN : X.N.Nodup) (hy : X.N[i]? = some y) (hyl : X.env.scope.names.lookup y = some .local)
    (hsw : swapsWith (.ListComp elt [⟨tg, iter, ifs, 0⟩] scope pos) (some (.Name y py)) spos.line X.env = pure true) (hi : PI X tg iter (tDI X.K E wi)) (ok : BlkOk X.N X.env.scope scope own)
    (hg : ∀ (s : Shared) (H : Hp) (C : Addr) (cl : List (Str × Addr)) (fp : List Addr), PG (X.blk s H scope (compEnvC scope cl C X.env) fp) tg (tDG X.K is g)) (ht : ∀ (s : Shared) (H : Hp) (C : Addr) (cl : List (Str × Addr)) (fp : List Addr), PTs (X.blk s H scope (compEnvC scope cl C X.env) fp) ifs (tDB X.K E0 wt))
    (he : ∀ (s : Shared) (H : Hp) (C : Addr) (cl : List (Str × Addr)) (fp : List Addr), PE (X.blk s H scope (compEnvC scope cl C X.env) fp) elt (tD X.K E0 we)) (his : ∀ i ∈ is, i ∈ own.map (·.2) := by decide) (hs : ∀ x, foldedSetIterable iter X.env x = pure x := by intro _; rfl) :
    PS X (.Assign [.Name y py] (.ListComp elt [⟨tg, iter, ifs, 0⟩] scope pos) spos) (tS X.K E (wAsg (wLc (own.map (·.2)) wi g wt we) (gN i))) :=
  (PS.frzNx (ps_setLc hc hN hy hyl hsw hi ok hg ht he hs)).imp fun Dn σ H h => by
    obtain ⟨S0, H0, S, Γ, N, R, Ed, st, w, kn, kr, ke⟩ := h
    refine lc_imp st.ws st.mat w (st.ke ke) his fun Dl S1 H1 S2 H2 accv acc q e1 w1 e2 w2 hD hl nS ra => ?_
    refine .inr ⟨Dl, accv, hl, fun o => ?_⟩
    have ee : Ev S1 H1 S2 (upd H2 Dl (.frz o (.lst accv))) := Ev.frz hD hl w1 e2 nS
    have sb : Stb S2 H2 S2 (upd H2 Dl (.frz o (.lst accv))) := .wr hl
    have w3 := w2.frz (o := o) (xs := accv) nS
    have st' := st.next (e1.trans w1 ee) w3
    exact kn _ _ S2 _ q ⟨w3, st'.mat.setDat (.lst (.inl ⟨o, upd_same⟩) (Reps.stb sb _ _ ra)), st'.ev⟩ ((e1.trans w1 ee).stb st.ws)
/-- x.append(e) -/
theorem s_app (i : Nat) {x : Str} {p1 apos cpos : Pos} {e : Expr} {w : WE} (he : PE X e (tD X.K E w)) (hN : X.N[i]? = some x := by rfl) (hv : Vis X.env.scope x := by first | exact Or.inl rfl | exact Or.inr (Or.inl rfl) | exact Or.inr (Or.inr rfl)) (hd : (x == ("__debug__" : Str)) = false := by decide)
    (hcd : (x == ("__classdict__" : Str)) = false := by decide)
    (hst : starEach (e :: []) X.env = (false, eval e X.env) :: starEach [] X.env := by rfl)
    (hbase : attributeBase (.Name x p1) "append" X.env (eval (.Name x p1) X.env) = eval (.Name x p1) X.env := by rfl)
    (hfew : ((backTo cpos (starEach (e :: []) X.env)).all (fun x => !x.1) && (backToKw cpos (keywordEach [] X.env)).all (fun x => x.1.isSome)
      && decide ((e :: ([] : List Expr)).length + ([] : List Keyword).length + (if ([] : List Keyword).isEmpty then 0 else 1) < 30)) = true := by rfl)
    (hline : (apos.endLine == cpos.line) = true := by rfl) (hplain : (backTo cpos (starEach [] X.env)).any (·.1) = false := by rfl)
    (hs : swapsWith (.Call (.Attribute (.Name x p1) "append" apos) [e] [] cpos) none pos.line X.env = pure false := by rfl) :
    PS X (.Expr (.Call (.Attribute (.Name x p1) "append" apos) [e] [] cpos) pos) (tS X.K E (wApp i w)) :=
  (ps_expr (pe_bm PySem.F.plainAttrs_list PySem.F.slot_list_append PySem.F.type_list_append mt_append (pv i hN hv hd hcd) (pa_cons he pa_nil hst) hbase hfew hline hst hplain) hs).imp fun Dn σ H h => by
    obtain ⟨S0, H0, S, Γ, N, R, Ed, st, ⟨ds, hg, w⟩, kn, kr, ke⟩ := h
    obtain ⟨a, vs, e1, e2, ⟨n, f⟩, r⟩ := st.mat.at_ i _ hg
    refine ⟨.ref a, e1, .inl ⟨rfl, vs, SqL.of e2⟩, ?_⟩
    refine ⟨_, S, Γ, _, Ed, st.ws, st.mat, w, fun v d S' H' q e w' rv => ?_, st.ke ke⟩
    have st' := st.next e w'
    have h2 : H' a = some (.lst vs) := e.keep _ _ e2 n
    have n' : ¬ S' a := fun z => by
      rcases e.new _ z with y | y
      · exact n y
      · rw [e2] at y; cases y
    have r' : Reps X.K S' H' vs ds := Reps.stb (e.stb st.ws) _ _ r
    obtain ⟨st2, sb⟩ := st'.wrOwn hg e1 h2 n' f (r'.append (.cons rv .nil))
    refine ⟨a, vs, v, rfl, rfl, h2, by rw [r'.length, sizeLine_eq]; omega, ?_⟩
    exact kn _ _ S' _ q.2 st2 ((e.stb st.ws).trans sb)
/-- x[k] = e -/
theorem s_sto (i : Nat) {x : Str} {p1 p3 : Pos} {b e : Expr} {wk w : WE} (he : PE X e (tD X.K E w)) (hb : PE X b (tD X.K E wk)) (hN : X.N[i]? = some x := by rfl) (hv : Vis X.env.scope x := by first | exact Or.inl rfl | exact Or.inr (Or.inl rfl) | exact Or.inr (Or.inr rfl)) (hd : (x == ("__debug__" : Str)) = false := by decide)
    (hcd : (x == ("__classdict__" : Str)) = false := by decide)
    (ha : ∀ v, assign (.Subscript (.Name x p1) b p3) X.env v = (do
      let ov ← holding [v] (eval (.Name x p1) X.env)
      let iv ← holding [v, ov] (eval b X.env)
      standAt p3
      holding [v, ov, iv] (setItem ov iv v)
      release [v, ov, iv] []) := by intro _; rfl)
    (hs : swapsWithSole [.Subscript (.Name x p1) b p3] e pos.line X.env = pure false := by rfl) (hw : swappedStores [.Subscript (.Name x p1) b p3] e X.env = pure none := by rfl)
    (h1 : (assignEach [.Subscript (.Name x p1) b p3] X.env).map (·.2) = [assign (.Subscript (.Name x p1) b p3) X.env] := by rfl) :
    PS X (.Assign [.Subscript (.Name x p1) b p3] e pos) (tS X.K E (wSto i wk w)) :=
  (ps_asg he (pg_sub (pv i hN hv hd hcd) hb set_list ha) hs hw h1).imp fun Dn σ H h => by
    obtain ⟨S0, H0, S, Γ, N, R, Ed, st, ⟨ds, hg, w⟩, kn, kr, ke⟩ := h
    refine ⟨_, S, Γ, _, Ed, st.ws, st.mat, w, fun v d S' H' q e w' rv => ?_, st.ke ke⟩
    have st' := st.next e w'
    obtain ⟨a, vs, e1, e2, ⟨n, f⟩, r⟩ := st'.mat.at_ i _ hg
    refine ⟨.ref a, e1, _, S', Γ, _, Ed, w', st'.mat, q, fun vk k S2 H2 q2 ev2 w2 rk => ?_, st'.ke ke⟩
    obtain ⟨z, j, rfl, hj, q3⟩ := q2
    cases rk
    have st2 := st'.next ev2 w2
    have h2 : H2 a = some (.lst vs) := ev2.keep _ _ e2 n
    have n2 : ¬ S2 a := fun z => by
      rcases ev2.new _ z with y | y
      · exact n y
      · rw [e2] at y; cases y
    have r2 : Reps X.K S2 H2 vs ds := Reps.stb (ev2.stb w') _ _ r
    have rv2 := Rep.stb (ev2.stb w') _ _ rv
    obtain ⟨st3, sb⟩ := st2.wrOwn hg e1 h2 n2 f (r2.set j rv2)
    refine ⟨a, vs, z, j, rfl, rfl, h2, by rw [r2.length]; exact hj, ?_⟩
    exact kn _ _ S2 _ q3 st3 ((e.stb st.ws).trans ((ev2.stb w').trans sb))
/-- xs[k] of one's own -/
theorem d_ixO (i : Nat) {x : Str} {p1 : Pos} {b : Expr} {w : WE} (hb : PE X b (tD X.K E w)) (hs : PlainIx b) (hN : X.N[i]? = some x := by rfl) (hv : Vis X.env.scope x := by first | exact Or.inl rfl | exact Or.inr (Or.inl rfl) | exact Or.inr (Or.inr rfl)) (hd : (x == ("__debug__" : Str)) = false := by decide)
    (hcd : (x == ("__classdict__" : Str)) = false := by decide) : PE X (.Subscript (.Name x p1) b pos) (tD X.K E (wIxO i w)) :=
  (pe_ix ix_list (pv i hN hv hd hcd) hb hs).imp fun σ H Q h => by
    obtain ⟨O, S, Γ, Qd, Ed, ws, m, ⟨ds, hg, w⟩, k, ke⟩ := h
    obtain ⟨a, vs, e1, e2, ⟨n, f⟩, r⟩ := m.at_ i _ hg
    refine ⟨.ref a, e1, O, S, Γ, _, Ed, ws, m, w, fun vk kd S1 H1 q1 ev w1 rk => ?_, ke⟩
    cases rk <;> first | exact (show False from q1).elim | skip
    rename_i z
    obtain ⟨d, h1, h2⟩ := (show ∃ d, atI ds z = some d ∧ Qd d from q1)
    have h3 : H1 a = some (.lst vs) := ev.keep _ _ e2 n
    obtain ⟨v, e3, rv⟩ := (Reps.stb (ev.stb ws) _ _ r).atI h1
    exact ⟨a, vs, z, v, rfl, rfl, SqL.of h3, e3, k v d S1 H1 h2 ev w1 rv⟩
end
/-- return x, x one's own -/
theorem s_retOwn {X : Cx} {E : XK} {pos : Pos} (i : Nat) {x : Str} {p1 : Pos} (hN : X.N[i]? = some x := by rfl) (hv : Vis X.env.scope x := by first | exact Or.inl rfl | exact Or.inr (Or.inl rfl) | exact Or.inr (Or.inr rfl)) (hd : (x == ("__debug__" : Str)) = false := by decide)
    (hcd : (x == ("__classdict__" : Str)) = false := by decide) : PS X (.Return (some (.Name x p1)) pos) (tS X.K E (wRetOwn i)) :=
  (ps_ret (pv i hN hv hd hcd).frz).imp fun Dn σ H h => by
    obtain ⟨S0, H0, S, Γ, N, R, Ed, st, ⟨ds, hg, q⟩, kn, kr, ke⟩ := h
    obtain ⟨a, vs, e1, e2, n, f, r, st'⟩ := st.frzOwn hg
    refine ⟨.ref a, e1, .inr ⟨a, vs, rfl, e2, fun o => ?_⟩⟩
    have sb : Stb S H S (upd H a (.frz o (.lst vs))) := .wr e2
    exact kr _ _ S _ q (st' o).ev (st' o).ws (.lst (.inl ⟨o, upd_same⟩) (Reps.stb sb _ _ r))
end PD

set_option Elab.async false
set_option linter.all false
set_option maxRecDepth 100000
set_option maxHeartbeats 1000000
namespace PD
open PySem PySem.Spec PyProof.Rows L2
/-! ### the law's own def: its script is frozen at once -/
def spLaw (K : PySem.W.Frag) : Sp := fun vs H Q _ => ∃ (a : Addr) (ns : List Int), vs = [.ref a] ∧ SqL K H a (ns.map V.int) ∧ ns.length ≤ 63 ∧ ∀ H', Q (.bl true) H'
section
variable {P : Program} {w : World} {K : PySem.W.Frag} {mg : Str → Option Value} {base : Heap}
theorem fn_law {x qual y : Str} {st : Stmt} {f : Addr} {fd : FuncData} {N : List Str} {k : Nat} {wb : WS} (Fu : Fun K x qual st f fd) (Sc : FnScope N [y] (defScope st))
    (spec : ∀ ns : List Int, ns.length ≤ 63 → wb (fun _ => False) (fun d => d = .bl true) Ev0 (startG N [.lst (ns.map D.int)]))
    (hbody : ∀ (cdv : Value) (A : Around) (outer : List Env) (s : Shared) (H : Hp) (E : XK), Room k (A.deeper (envOfC qual (defScope st) s.heap.objs.size f cdv)) → PSs (cxOf CX0 P w K mg base N qual (defScope st) f cdv A outer s H E).nox (defBody st) (tS K E0 wb)) :
    FnOk P w K mg base CX0 (k + 1) f fd [y] (spLaw K) := by
  refine Fu.ok Sc (fun vs H Q E h => ?_) fun cdv A outer s H vs Q E hr h => ?_
  · obtain ⟨a, ns, rfl, _⟩ := h
    rfl
  · obtain ⟨a, ns, rfl, hS, hl, kq⟩ := h
    refine ⟨_, PSs.frzIn (hbody cdv A outer s H E hr), ?_⟩
    have go : ∀ H1 : Hp, FzL K H1 a (ns.map V.int) → ∀ (Dn : Ends), (∀ σ' H', False → Dn.nx σ' H') → (∀ H', Dn.rt (.bl true) H') → tS K E0 wb Dn (L2.start N [.ref a]) H1 := fun H1 hz Dn _ hr => by
      refine ⟨fun _ => False, H1, fun _ => False, _, _, _, Ev0, ⟨fun _ h => h.elim, mat_start (.cons (.lst hz (reps_ints ns)) .nil), .refl⟩, spec ns hl, fun σ' Γ' S' H' q st' _ => q.elim, fun v d S' H' q e w' r => ?_, .zero⟩
      subst q
      cases r
      exact hr _
    rcases hS with (h | h) | h
    · exact .inr ⟨a, _, h, fun o => go _ (.inl ⟨o, upd_same⟩) _ (fun _ _ q => q.elim) kq⟩
    · exact .inl (go _ (.inl h) _ (fun _ _ q => q.elim) kq)
    · exact .inl (go _ (.inr h) _ (fun _ _ q => q.elim) kq)
end
/-! ### an own list read by an expression that gives no list -/
@[simp] def wLock (i : Nat) (w : WE) : WE := fun Γ Q E => ∃ ds, Γ[i]? = some (.own ds) ∧ w (Γ.set i (.dat (.lst ds))) (fun d => d.flat = true ∧ Q d) Ev0
theorem Rep.flatA {K : PySem.W.Frag} {S S' : As} {H H' : Hp} : ∀ {d : D} {v : V}, d.flat = true → Rep K S H v d → Rep K S' H' v d
  | .non, _, _, h => by cases h; exact .non
  | .bl _, _, _, h => by cases h; exact .bl _
  | .int _, _, _, h => by cases h; exact .int _
  | .str _, _, _, h => by cases h; exact .str _
  | .tup _, _, h, _ => by cases h
  | .lst _, _, h, _ => by cases h
  | .src, _, h, _ => by cases h
  | .ty _, _, h, _ => by cases h
section
variable {X : Cx} {E : XK}
theorem _root_.L2.PE.lockd {e : Expr} {t : TE} (h : PE X e t) : PE X e (fun σ H Q => ∃ a xs, H a = some (.lst xs) ∧ ∀ o, t σ (upd H a (.frz o (.lst xs))) (fun v H' => H' a = some (.frz o (.lst xs)) ∧ Q v (upd H' a (.lst xs)))) := by
  refine ⟨fun pins s σ H Q I w => ?_⟩
  obtain ⟨a, xs, e1, w⟩ := w
  have nf := I.nofrz e1 (show Mut (some (.lst xs)) from trivial)
  obtain ⟨od, I2⟩ := I.lock e1 (show Mut (some (.lst xs)) from trivial)
  refine thn (h.run pins s σ _ _ I2 (w od)) fun u s1 hh => ?_
  obtain ⟨v, H', I', r, q1, q2⟩ := hh
  exact ⟨v, _, I'.unlock q1 nf, r, q2⟩
theorem d_lock (i : Nat) {e : Expr} {w : WE} (h : PE X e (tD X.K E0 w)) : PE X e (tD X.K E (wLock i w)) := h.lockd.imp fun σ H Q h => by
  obtain ⟨O, S, Γ, Qd, Ed, ws, m, ⟨ds, hg, w⟩, k, ke⟩ := h
  obtain ⟨a, vs, e1, e2, ⟨n, f⟩, r⟩ := m.at_ i _ hg
  refine ⟨a, vs, e2, fun o => ⟨O, S, _, _, Ev0, ws.frz n, m.frzOwn hg e1 e2 r, w, fun v d S' H' q ev w' rv => ?_, .zero⟩⟩
  have hz : H' a = some (.frz o (.lst vs)) := ev.keep _ _ upd_same n
  refine ⟨hz, k v d S _ q.2 ⟨fun b x q z => ?_, fun _ h => h, fun _ h => .inl h⟩ (fun b hb => ?_) (Rep.flatA q.1 rv)⟩
  · by_cases y : b = a
    · subst y
      rw [upd_same]
      rw [e2] at q
      exact q
    · rw [upd_ne y]
      exact ev.keep _ _ (by rw [upd_ne y]; exact q) z
  · obtain ⟨o2, e3, q3⟩ := w' b (ev.src b hb)
    exact ⟨o2, by rw [upd_ne (fun z => n (by rw [← z]; exact hb))]; exact e3, q3⟩
@[simp] def wBLock (i : Nat) (w : WB) : WB := fun Γ Q E => ∃ ds, Γ[i]? = some (.own ds) ∧ w (Γ.set i (.dat (.lst ds))) Q Ev0
theorem _root_.L2.PT.lockd {e : Expr} {t : TT} (h : PT X e t) : PT X e (fun σ H Q => ∃ a xs, H a = some (.lst xs) ∧ ∀ o, t σ (upd H a (.frz o (.lst xs))) (fun v H' => H' a = some (.frz o (.lst xs)) ∧ Q v (upd H' a (.lst xs)))) := by
  refine ⟨fun pins s σ H Q I w => ?_⟩
  obtain ⟨a, xs, e1, w⟩ := w
  have nf := I.nofrz e1 (show Mut (some (.lst xs)) from trivial)
  obtain ⟨od, I2⟩ := I.lock e1 (show Mut (some (.lst xs)) from trivial)
  refine thn (h.run pins s σ _ _ I2 (w od)) fun u s1 hh => ?_
  obtain ⟨H', I', q1, q2⟩ := hh
  exact ⟨_, I'.unlock q1 nf, q2⟩
theorem t_lock (i : Nat) {e : Expr} {w : WB} (h : PT X e (tDB X.K E0 w)) : PT X e (tDB X.K E (wBLock i w)) := h.lockd.imp fun σ H Q h => by
  obtain ⟨O, S, Γ, Qd, Ed, ws, m, ⟨ds, hg, w⟩, k, ke⟩ := h
  obtain ⟨a, vs, e1, e2, ⟨n, f⟩, r⟩ := m.at_ i _ hg
  refine ⟨a, vs, e2, fun o => ⟨O, S, _, _, Ev0, ws.frz n, m.frzOwn hg e1 e2 r, w, fun v S' H' q ev w' => ?_, .zero⟩⟩
  have hz : H' a = some (.frz o (.lst vs)) := ev.keep _ _ upd_same n
  refine ⟨hz, k v S _ q ⟨fun b x q z => ?_, fun _ h => h, fun _ h => .inl h⟩ (fun b hb => ?_)⟩
  · by_cases y : b = a
    · subst y
      rw [upd_same]
      rw [e2] at q
      exact q
    · rw [upd_ne y]
      exact ev.keep _ _ (by rw [upd_ne y]; exact q) z
  · obtain ⟨o2, e3, q3⟩ := w' b (ev.src b hb)
    exact ⟨o2, by rw [upd_ne (fun z => n (by rw [← z]; exact hb))]; exact e3, q3⟩
end
/-- the own list at i, if there is one, is frozen -/
def frzG (i : Nat) (Γ : List Sl) : List Sl := match Γ[i]? with
  | some (.own ds) => Γ.set i (.dat (.lst ds))
  | _ => Γ
@[simp] def wFrzM (i : Nat) (w : WS) : WS := fun N R E Γ => w N R E (frzG i Γ)
theorem s_frzM {X : Cx} {E : XK} (i : Nat) {st : Stmt} {w : WS} (h : PS X st (tS X.K E w)) : PS X st (tS X.K E (wFrzM i w)) := by
  refine ⟨fun pins s σ H D I hw => ?_⟩
  obtain ⟨S0, H0, S, Γ, N, R, Ed, st, w, kn, kr, ke⟩ := hw
  simp only [wFrzM] at w
  unfold frzG at w
  split at w
  · rename_i ds hg
    obtain ⟨a, vs, e1, e2, n, f, r, st'⟩ := st.frzOwn hg
    obtain ⟨od, I2⟩ := I.lock e2 (show Mut (some (.lst vs)) from trivial)
    exact h.run pins s σ _ D I2 ⟨S0, H0, S, _, N, R, Ed, st' od, w, fun σ2 Γ2 S2 H2 q2 st2 sb2 => kn σ2 Γ2 S2 H2 q2 st2 (Stb.trans (.wr e2) sb2), kr, ke⟩
  · exact h.run pins s σ _ D I ⟨S0, H0, S, _, N, R, Ed, st, w, kn, kr, ke⟩
end PD

set_option Elab.async false
set_option linter.all false
set_option maxRecDepth 100000
set_option maxHeartbeats 1000000
namespace PD
open PySem PySem.Spec PyProof.Rows L2
/-! ### xs[a:c] = ys, c beyond the end too -/
theorem bounds_far {a c n : Nat} (hac : a ≤ c) (ha : a ≤ n) : sliceBounds (some (a : Int)) (some (c : Int)) none n = ((a : Int), ((min c n : Nat) : Int), 1) := by
  simp only [sliceBounds, Option.getD_none]
  have h1 : ¬ ((a : Int) < 0) := by omega
  have h2 : ¬ ((c : Int) < 0) := by omega
  simp only [h1, h2, if_false, show (1 : Int) > 0 by decide, if_true]
  congr 1
  · omega
  · congr 1; omega
section
variable {prog : Program} {w : World} {A : Around} {E : Value → Shared → Prop} {s : Shared}
set_option maxRecDepth 100000 in
theorem setItem_sliceC {l b sl : Addr} {items new : Array Value} {n n2 : Nat} {vl vu : Value} {a c : Nat} {Q : Unit → Shared → Prop}
    (e : s.heap.get? l = some { cls := .type "list", data := .seq items n }) (e2 : s.heap.get? b = some { cls := .type "list", data := .seq new n2 }) (hne : l ≠ b)
    (hs : s.heap.IsSliceOf sl vl vu .none) (pl : IsPart vl (some (a : Int))) (pu : IsPart vu (some (c : Int))) (hac : a ≤ c) (ha : a ≤ items.size)
    (hsz : items.size + new.size ≤ sizeLine) (h : Q () { s with heap := s.heap.update l (Obj.mapSeq fun xs => xs.extract 0 a ++ new ++ xs.extract (min c items.size) xs.size) }) :
    wpAny (model prog w) A (setItem (.ref l) (.ref sl) (.ref b)) Q E s := by
  have hl : s.heap.IsList l items := PySem.IsL.isList e
  have hb : s.heap.IsList b new := PySem.IsL.isList e2
  obtain ⟨os, hos, hcs, hds⟩ := id hs
  have hTs : s.TypeIs (.ref sl) "slice" := ⟨os, hos, hcs⟩
  have hstep : ¬ ((rawPart none == rawInt 0) = true) := Bool.false_ne_true
  have hsame : Builtin.List.listSameRef (.ref l) (.ref b) = false := by
    unfold Builtin.List.listSameRef
    exact beq_eq_false_iff_ne.mpr hne
  have hmax : (max (a : Int) ((min c items.size : Nat) : Int)).toNat = min c items.size := by omega
  have hz' : ((fun xs : Array Value => xs.extract 0 a ++ new ++ xs.extract (min c items.size) xs.size) items).size ≤ sizeLine + 1 := by
    simp only [Array.size_append, Array.size_extract]
    omega
  unfold setItem
  try with_reducible refine wpAny_holding ?_
  first | refine wpAny_bind (wpAny_pure ?_) | skip
  refine wpAny_bind (wpAny_sequenceKey hl.typeIs (by decide) ?_)
  refine wpAny_bind (wpAny_callSpecial?_slot (name := Str.ofString "__setitem__") hl.typeIs slot_list_setitem
    (wpAny_call_entry slot_list_setitem hl.typeIs entry_list_setitem ?_ (args_list_setitem _ _ _)))
  show wpAny _ _ (Builtin.List.listSubscript? (.ref sl) >>= _) _ _ s
  refine wpAny_bind ?_
  unfold Builtin.List.listSubscript?
  refine wpAny_bind (wpAny_specialOf hTs slice_no_index ?_)
  simp only [Option.isNone_none, if_true]
  refine wpAny_pure ?_
  show wpAny _ _ (typeOf (.ref sl) >>= _) _ _ s
  refine wpAny_bind (wpAny_typeOf hTs ?_)
  first
    | rw [if_neg (by decide)]
    | refine PySem.W.KFB.if_not (by decide) ?_
  rw [listSliceParts_eq]
  refine wpAny_bind (wpAny_bind (wpAny_field hos hds (x := .none) rfl (wpAny_bind (wpAny_listPart .none ?_))))
  rw [if_neg hstep]
  refine wpAny_bind (wpAny_field hos hds (x := vl) rfl (wpAny_bind (wpAny_listPart pl ?_)))
  refine wpAny_bind (wpAny_field hos hds (x := vu) rfl (wpAny_bind (wpAny_listPart pu (wpAny_pure ?_))))
  first
    | simp only [hsame, Bool.false_eq_true, if_false]
    | refine PySem.W.KFB.if_not hsame ?_
    | (dsimp only
       rw [if_neg (by rw [hsame]; exact Bool.false_ne_true)])
  refine wpAny_bind (m := Builtin.List.listAllItems (.ref b) "must assign iterable to extended slice") ?_
  unfold Builtin.List.listAllItems
  refine wpAny_bind (wpAny_typeOf hb.typeIs ?_)
  first
    | refine PySem.W.KFB.if_so (by decide) ?_
    | rw [if_pos (by decide)]
    | simp only [beq_self_eq_true, Bool.true_or, if_true]
  unfold Builtin.List.listItems
  refine wpAny_bind (wpAny_seqItems e2 rfl (wpAny_pure ?_))
  refine wpAny_bind (wpAny_bind (wpAny_seqItems e rfl (wpAny_pure ?_)))
  refine wpAny_bind (wpAny_of_eq ((sliceIndices_raw (some (a : Int)) (some (c : Int)) none items.size (by simp)).trans (congrArg (pure : Int × Int × Int → Sem (Int × Int × Int)) (bounds_far hac ha))) ?_)
  show wpAny _ _ (if ((1 : Int) == 1) = true then _ else _) _ _ s
  rw [if_pos (by decide)]
  refine wpAny_bind (wpAny_rule ?_)
  first
    | simp only [notLongL hsz, Bool.false_eq_true, if_false]
    | refine PySem.W.KFB.if_not (notLongL hsz) ?_
  first | refine wpAny_bind (wpAny_pure ?_) | skip
  show wpAny _ _ (updateSeq l (fun xs => xs.extract 0 ((a : Int)).toNat ++ new ++ xs.extract (max (a : Int) ((min c items.size : Nat) : Int)).toNat xs.size) >>= _) _ _ s
  rw [hmax, Int.toNat_natCast]
  refine wpAny_bind (wpAny_updateSeq (hz := Nat.le_trans (Nat.le_add_right _ _) hsz) (_hz' := hz') e rfl ?_)
  refine wpAny_bind (wpAny_letGo ?_)
  first
    | exact wpAny_bind (wpAny_pure (wpAny_pure ⟨.none, rfl, wpAny_pure h⟩))
    | exact wpAny_pure ⟨.none, rfl, wpAny_pure h⟩
end
section
variable {X : Cx} {E : XK} {pos : Pos}
theorem set_sliceC {pins : List (Addr × Obj)} {s : Shared} {σ : L2.St} {H : Hp} {l b sl : Addr} {xs ys : List V} {a c : Nat} {vl vu : Value} {Q : Unit → Shared → Prop} (I : Inv X pins σ H s)
    (hH : H l = some (.lst xs)) (hB : H b = some (.lst ys)) (hne : l ≠ b) (hs : s.heap.IsSliceOf sl vl vu .none) (pl : IsPart vl (some (a : Int))) (pu : IsPart vu (some (c : Int))) (hac : a ≤ c) (ha : a ≤ xs.length)
    (hz : xs.length + ys.length ≤ sizeLine) (h : ∀ s', Inv X pins σ (upd H l (.lst (xs.take a ++ ys ++ xs.drop c))) s' → Q () s') :
    wpAny (model X.prog X.w) X.A (setItem (.ref l) (.ref sl) (.ref b)) Q X.xe s := by
  obtain ⟨z, its, n, r, hl, e⟩ := I.lstM hH
  obtain ⟨z2, its2, n2, r2, hl2, e2⟩ := I.lstM hB
  refine setItem_sliceC (a := a) (c := c) e e2 hne hs pl pu hac (by rw [List.size_toArray]; omega) (by rw [List.size_toArray, List.size_toArray]; omega) (h _ ?_)
  refine I.lset (its' := its.take a ++ its2 ++ its.drop c) (t' := s.toks) hH e ?_ (Vals.append (Vals.append (r.take _) r2) (r.drop _)) ?_
  · have e0 := splice_eq its its2 a (min c its.toArray.size)
    refine e0.trans ?_
    congr 2
    by_cases hc : c ≤ its.length
    · rw [Nat.min_eq_left (by simpa using hc)]
    · rw [List.drop_eq_nil_of_le (by simp; omega), List.drop_eq_nil_of_le (by omega)]
  · rw [List.length_append, List.length_append, List.length_take, List.length_drop]
    omega
@[simp] def wSlO (i : Nat) (wl wh : WO) : WE := fun Γ Q E => ∃ ds, Γ[i]? = some (.own ds) ∧ wl Γ (fun a => wh Γ (fun b => Q (.lst (cutD ds a b))) E) E
theorem d_slO (i : Nat) {x : Str} {p1 : Pos} {lo hi : Option Expr} {p2 : Pos} {wl wh : WO} (hl : PO X lo (tDO X.K E wl)) (hh : PO X hi (tDO X.K E wh)) (hN : X.N[i]? = some x := by rfl) (hv : Vis X.env.scope x := by first | exact Or.inl rfl | exact Or.inr (Or.inl rfl) | exact Or.inr (Or.inr rfl)) (hd : (x == ("__debug__" : Str)) = false := by decide)
    (hcd : (x == ("__classdict__" : Str)) = false := by decide) : PE X (.Subscript (.Name x p1) (.Slice lo hi none p2) pos) (tD X.K E (wSlO i wl wh)) :=
  (pe_slice sl_list (pv i hN hv hd hcd) hl hh).frz.imp fun σ H Q h => by
    obtain ⟨O, S, Γ, Qd, Ed, ws, m, ⟨ds, hg, w⟩, k, ke⟩ := h
    obtain ⟨a, vs, e1, e2, ⟨n, f⟩, r⟩ := m.at_ _ _ hg
    refine ⟨.ref a, e1, O, S, Γ, _, Ed, ws, m, w, fun i S2 H2 q2 e2' w2 => ?_, ke⟩
    refine ⟨O, S2, Γ, _, Ed, w2, m.ev ws w2 e2', q2, fun j S3 H3 q3 e3 w3 => ?_, ke.ev w2 e2'⟩
    have ee : Ev S H S3 H3 := e2'.trans w2 e3
    have h3 : H3 a = some (.lst vs) := ee.keep _ _ e2 n
    have r3 : Reps X.K S3 H3 vs ds := Reps.stb (ee.stb ws) _ _ r
    exact ⟨a, vs, rfl, SqL.of h3, new_lst w3 (r3.cut i j) q3 fun v d S' H' q e w' r => k v d S' H' q (ee.trans w3 e) w' r⟩
def fRevL : D → (List D → Prop) → Prop
  | .lst xs, Q => Q xs.reverse
  | _, _ => False
@[simp] theorem fRevL_1 (xs : List D) (Q : List D → Prop) : fRevL (.lst xs : D) Q = (Q xs.reverse) := by first | rfl | (cases x <;> rfl)
@[simp] def wRevL (w : WE) : WA := fun Γ Q E => w Γ (fun x => fRevL x Q) E
theorem dl_rev {e : Expr} {w : WE} {k : Nat} {p1 p2 p3 : Pos} (he : PE X e (tD X.K E w)) : PE X (.Subscript e (.Slice none none (some (.UnaryOp .USub (.Constant (.int 1) k p1) p2)) p3) pos) (tDL X.K E (wRevL w)) :=
  (pe_revL he).imp fun σ H Q h => by
    obtain ⟨O, S, Γ, Qd, Ed, ws, m, w, k, ke⟩ := h
    refine ⟨O, S, Γ, _, Ed, ws, m, w, fun vx x S1 H1 q1 e1 w1 r1 => ?_, ke⟩
    cases r1 <;> first | exact (show False from q1).elim | skip
    rename_i a xs ds ha hxs
    exact ⟨a, xs, rfl, ha.sq, new_own e1 w1 hxs.reverse q1 k⟩
/-- xs[lo:hi] = .., by trees -/
def gSlS (to : TE) (tl th : L2.St → Hp → (Option Int → Hp → Prop) → Prop) : TG := fun v σ H Q => to σ H fun o H1 => tl σ H1 fun i H2 => th σ H2 fun j H3 => ∃ l b xs ys a c, o = .ref l ∧ v = .ref b ∧ H3 l = some (.lst xs) ∧ H3 b = some (.lst ys) ∧ l ≠ b ∧ i = some ((a : Nat) : Int) ∧ j = some ((c : Nat) : Int) ∧ a ≤ c ∧ a ≤ xs.length ∧
  xs.length + ys.length ≤ sizeLine ∧ Q σ (upd H3 l (.lst (xs.take a ++ ys ++ xs.drop c)))
theorem pg_slc {o : Expr} {lo hi : Option Expr} {to : TE} {tl th : L2.St → Hp → (Option Int → Hp → Prop) → Prop} {p2 : Pos} (ho : PE X o to) (hl : PO X lo tl) (hu : PO X hi th)
    (ha : ∀ v, assign (.Subscript o (.Slice lo hi none p2) pos) X.env v = (do
      let ov ← holding [v] (eval o X.env)
      let iv ← holding [v, ov] (eval (.Slice lo hi none p2) X.env)
      standAt pos
      holding [v, ov, iv] (setItem ov iv v)
      release [iv, v, ov] []) := by intro _; rfl) : PG X (.Subscript o (.Slice lo hi none p2) pos) (gSlS to tl th) := by
  refine ⟨fun pins s σ H v u Q I r h => ?_⟩
  rw [ha]
  refine wpAny_bind (wpAny_holding (thn (ho.run pins s σ H _ I h) fun ov s1 ⟨x, H1, I1, r1, q1⟩ => ?_))
  refine wpAny_bind (wpAny_holding (wpAny_Slice (thn (hl.run pins s1 σ H1 _ I1 q1) fun vl s2 ⟨i, H2, I2, pl, q2⟩ => thn (hu.run pins s2 σ H2 _ I2 q2) fun vu s3 ⟨j, H3, I3, pu, q3⟩ => ?_)))
  rw [evalPart_none]
  refine wpAny_pure ?_
  have I4 : Inv X pins σ H3 { s3 with heap := s3.heap.push { cls := .type "slice", data := .fields #[vl, vu, .none] } } := I3.kept (t' := s3.toks) fun b ob q => Heap.get?_push_of_some _ q
  obtain ⟨l, b, xs, ys, a, c, rfl, rfl, hH, hB, hne, rfl, rfl, hac, haz, hz, q⟩ := q3
  cases r1
  cases r
  refine wpAny_bind (wpAny_standAt (wpAny_bind (wpAny_holding ?_)))
  refine set_sliceC I4 hH hB hne (Heap.IsSliceOf.new ..) pl pu hac haz hz fun s' I5 => ?_
  exact wpAny_release ⟨σ, _, I5, q⟩
@[simp] def wSlSto (i : Nat) (wl wh : WO) (w : WA) : WS := fun N _ E Γ => ∃ ds, Γ[i]? = some (.own ds) ∧ w Γ (fun es => wl Γ (fun x => wh Γ (fun y => ∃ a c : Nat, x = some (a : Int) ∧ y = some (c : Int) ∧ a ≤ c ∧ a ≤ ds.length ∧ ds.length + es.length ≤ sizeLine ∧ N (Γ.set i (.own (ds.take a ++ es ++ ds.drop c)))) E) E) E
theorem s_slSto (i : Nat) {x : Str} {p1 p2 p3 : Pos} {lo hi : Option Expr} {e : Expr} {wl wh : WO} {w : WA} (he : PE X e (tDL X.K E w)) (hl : PO X lo (tDO X.K E wl)) (hh : PO X hi (tDO X.K E wh)) (hN : X.N[i]? = some x := by rfl) (hv : Vis X.env.scope x := by first | exact Or.inl rfl | exact Or.inr (Or.inl rfl) | exact Or.inr (Or.inr rfl)) (hd : (x == ("__debug__" : Str)) = false := by decide)
    (hcd : (x == ("__classdict__" : Str)) = false := by decide)
    (ha : ∀ v, assign (.Subscript (.Name x p1) (.Slice lo hi none p2) p3) X.env v = (do
      let ov ← holding [v] (eval (.Name x p1) X.env)
      let iv ← holding [v, ov] (eval (.Slice lo hi none p2) X.env)
      standAt p3
      holding [v, ov, iv] (setItem ov iv v)
      release [iv, v, ov] []) := by intro _; rfl)
    (hs : swapsWithSole [.Subscript (.Name x p1) (.Slice lo hi none p2) p3] e pos.line X.env = pure false := by rfl) (hw : swappedStores [.Subscript (.Name x p1) (.Slice lo hi none p2) p3] e X.env = pure none := by rfl)
    (h1 : (assignEach [.Subscript (.Name x p1) (.Slice lo hi none p2) p3] X.env).map (·.2) = [assign (.Subscript (.Name x p1) (.Slice lo hi none p2) p3) X.env] := by rfl) :
    PS X (.Assign [.Subscript (.Name x p1) (.Slice lo hi none p2) p3] e pos) (tS X.K E (wSlSto i wl wh w)) :=
  (ps_asg he (pg_slc (pv i hN hv hd hcd) hl hh ha) hs hw h1).imp fun Dn σ H h => by
    obtain ⟨S0, H0, S, Γ, N, R, Ed, st, ⟨ds, hg, w⟩, kn, kr, ke⟩ := h
    obtain ⟨a0, vs0, e10, e20, ⟨n0, f0⟩, r0⟩ := st.mat.at_ _ _ hg
    refine ⟨_, S, Γ, _, Ed, st.ws, st.mat, w, fun p us es S' H' q e w' hp hl' np rv => ?_, st.ke ke⟩
    have st' := st.next e w'
    obtain ⟨a, vs, e1, e2, ⟨n, f⟩, r⟩ := st'.mat.at_ _ _ hg
    have ea : a = a0 := by rw [e10] at e1; cases e1; rfl
    have nap : a ≠ p := fun z => by rw [← z, ea, e20] at hp; cases hp
    refine ⟨.ref a, e1, _, S', Γ, _, Ed, w', st'.mat, q, fun oi S2 H2 q2 ev2 w2 => ?_, st'.ke ke⟩
    refine ⟨_, S2, Γ, _, Ed, w2, st'.mat.ev w' w2 ev2, q2, fun oj S3 H3 q3 ev3 w3 => ?_, (st'.ke ke).ev w2 ev2⟩
    obtain ⟨ia, ic, rfl, rfl, hac, haz, hz, q4⟩ := q3
    have ev := ev2.trans w2 ev3
    have st3 := st'.next ev w3
    have ha3 : H3 a = some (.lst vs) := ev.keep _ _ e2 n
    have n3 : ¬ S3 a := fun z => by
      rcases ev.new _ z with y | y
      · exact n y
      · rw [e2] at y; cases y
    have hp3 : H3 p = some (.lst us) := ev.keep _ _ hl' np
    have r3 : Reps X.K S3 H3 vs ds := Reps.stb (ev.stb w') _ _ r
    have rv3 : Reps X.K S3 H3 us es := Reps.stb (ev.stb w') _ _ rv
    obtain ⟨st4, sb⟩ := st3.wrOwn hg e1 ha3 n3 f (((r3.take ia).append rv3).append (r3.drop ic))
    refine ⟨a, p, vs, us, ia, ic, rfl, rfl, ha3, hp3, nap, rfl, rfl, hac, by rw [r3.length]; exact haz, by rw [r3.length, rv3.length]; exact hz, ?_⟩
    exact kn _ _ S3 _ q4 st4 ((e.stb st.ws).trans ((ev.stb w').trans sb))
/-- x.pop(e) -/
@[simp] def wPopAt (i : Nat) (w : WE) : WS := fun N _ E Γ => ∃ ds, Γ[i]? = some (.own ds) ∧ w Γ (fun d => ∃ j : Nat, d = .int j ∧ j < ds.length ∧ ds.length < 2 ^ 62 ∧ N (Γ.set i (.own (ds.eraseIdx j)))) E
theorem Reps.erase {K : PySem.W.Frag} {S : As} {H : Hp} : ∀ {vs : List V} {ds : List D} (j : Nat), Reps K S H vs ds → Reps K S H (vs.eraseIdx j) (ds.eraseIdx j)
  | _, [], _, h => by cases h; exact .nil
  | _, _ :: _, 0, h => by cases h with | cons h r => exact r
  | _, _ :: _, j + 1, h => by cases h with | cons h r => exact .cons h (Reps.erase j r)
theorem s_popAt (i : Nat) {x : Str} {p1 apos cpos : Pos} {e : Expr} {w : WE} (he : PE X e (tD X.K E w)) (hN : X.N[i]? = some x := by rfl) (hv : Vis X.env.scope x := by first | exact Or.inl rfl | exact Or.inr (Or.inl rfl) | exact Or.inr (Or.inr rfl)) (hd : (x == ("__debug__" : Str)) = false := by decide)
    (hcd : (x == ("__classdict__" : Str)) = false := by decide)
    (hst : starEach (e :: []) X.env = (false, eval e X.env) :: starEach [] X.env := by rfl)
    (hbase : attributeBase (.Name x p1) "pop" X.env (eval (.Name x p1) X.env) = eval (.Name x p1) X.env := by rfl)
    (hfew : ((backTo cpos (starEach (e :: []) X.env)).all (fun x => !x.1) && (backToKw cpos (keywordEach [] X.env)).all (fun x => x.1.isSome)
      && decide ((e :: ([] : List Expr)).length + ([] : List Keyword).length + (if ([] : List Keyword).isEmpty then 0 else 1) < 30)) = true := by rfl)
    (hline : (apos.endLine == cpos.line) = true := by rfl) (hplain : (backTo cpos (starEach [] X.env)).any (·.1) = false := by rfl)
    (hs : swapsWith (.Call (.Attribute (.Name x p1) "pop" apos) [e] [] cpos) none pos.line X.env = pure false := by rfl) :
    PS X (.Expr (.Call (.Attribute (.Name x p1) "pop" apos) [e] [] cpos) pos) (tS X.K E (wPopAt i w)) :=
  (ps_expr (pe_bm PySem.F.plainAttrs_list PySem.F.slot_list_pop PySem.F.type_list_pop mt_popAt (pv i hN hv hd hcd) (pa_cons he pa_nil hst) hbase hfew hline hst hplain) hs).imp fun Dn σ H h => by
    obtain ⟨S0, H0, S, Γ, N, R, Ed, st, ⟨ds, hg, w⟩, kn, kr, ke⟩ := h
    obtain ⟨a, vs, e1, e2, ⟨n, f⟩, r⟩ := st.mat.at_ _ _ hg
    refine ⟨.ref a, e1, .inl ⟨rfl, vs, SqL.of e2⟩, ?_⟩
    refine ⟨_, S, Γ, _, Ed, st.ws, st.mat, w, fun v d S' H' q e w' rv => ?_, st.ke ke⟩
    obtain ⟨j, rfl, hj, hz, q⟩ := q
    cases rv
    have st' := st.next e w'
    have h2 : H' a = some (.lst vs) := e.keep _ _ e2 n
    have n' : ¬ S' a := fun z => by
      rcases e.new _ z with y | y
      · exact n y
      · rw [e2] at y; cases y
    have r' : Reps X.K S' H' vs ds := Reps.stb (e.stb st.ws) _ _ r
    obtain ⟨st2, sb⟩ := st'.wrOwn hg e1 h2 n' f (r'.erase j)
    have hl : vs.length = ds.length := r'.length
    have hjv : j < vs.length := by omega
    refine ⟨a, vs, (j : Int), j, vs[j], rfl, rfl, h2, by omega, by omega, ?_, List.getElem?_eq_getElem hjv, ?_⟩
    · have h1 : ¬ ((j : Int) < 0) := by omega
      have h3 : ((j : Int) < (vs.length : Int)) := by omega
      simp only [seqIndex?, if_neg h1, Int.natCast_nonneg, decide_true, Bool.true_and, h3, if_true, Int.toNat_natCast]
    · exact kn _ _ S' _ q st2 ((e.stb st.ws).trans sb)
/-- x.insert(e, f) -/
@[simp] def wIns (i : Nat) (w : WA) : WS := fun N _ E Γ => ∃ ds, Γ[i]? = some (.own ds) ∧ w Γ (fun es => ∃ (j : Nat) (d : D), es = [.int j, d] ∧ j ≤ ds.length ∧ ds.length < 16000000 ∧ N (Γ.set i (.own (ds.take j ++ [d] ++ ds.drop j)))) E
theorem s_insO (i : Nat) {x : Str} {p1 apos cpos : Pos} {e f : Expr} {w : WA} (he : PA X [e, f] (tDA X.K E w)) (hN : X.N[i]? = some x := by rfl) (hv : Vis X.env.scope x := by first | exact Or.inl rfl | exact Or.inr (Or.inl rfl) | exact Or.inr (Or.inr rfl)) (hd : (x == ("__debug__" : Str)) = false := by decide)
    (hcd : (x == ("__classdict__" : Str)) = false := by decide)
    (hst : starEach [e, f] X.env = (false, eval e X.env) :: starEach [f] X.env := by rfl)
    (hbase : attributeBase (.Name x p1) "insert" X.env (eval (.Name x p1) X.env) = eval (.Name x p1) X.env := by rfl)
    (hfew : ((backTo cpos (starEach [e, f] X.env)).all (fun x => !x.1) && (backToKw cpos (keywordEach [] X.env)).all (fun x => x.1.isSome)
      && decide ((e :: [f]).length + ([] : List Keyword).length + (if ([] : List Keyword).isEmpty then 0 else 1) < 30)) = true := by rfl)
    (hline : (apos.endLine == cpos.line) = true := by rfl) (hplain : (backTo cpos (starEach [f] X.env)).any (·.1) = false := by rfl)
    (hs : swapsWith (.Call (.Attribute (.Name x p1) "insert" apos) [e, f] [] cpos) none pos.line X.env = pure false := by rfl) :
    PS X (.Expr (.Call (.Attribute (.Name x p1) "insert" apos) [e, f] [] cpos) pos) (tS X.K E (wIns i w)) :=
  (ps_expr (pe_bm PySem.F.plainAttrs_list PySem.F.slot_list_insert PySem.F.type_list_insert mt_insert (pv i hN hv hd hcd) he hbase hfew hline hst hplain) hs).imp fun Dn σ H h => by
    obtain ⟨S0, H0, S, Γ, N, R, Ed, st, ⟨ds, hg, w⟩, kn, kr, ke⟩ := h
    obtain ⟨a, vs, e1, e2, ⟨n, f⟩, r⟩ := st.mat.at_ _ _ hg
    refine ⟨.ref a, e1, .inl ⟨rfl, vs, SqL.of e2⟩, ?_⟩
    refine ⟨_, S, Γ, _, Ed, st.ws, st.mat, w, fun v d S' H' q e w' rv => ?_, st.ke ke⟩
    obtain ⟨j, dd, rfl, hj, hz, q⟩ := q
    obtain ⟨v1, v2, rfl, r1, r2⟩ := reps2 rv
    cases r1
    have st' := st.next e w'
    have h2 : H' a = some (.lst vs) := e.keep _ _ e2 n
    have n' : ¬ S' a := fun z => by
      rcases e.new _ z with y | y
      · exact n y
      · rw [e2] at y; cases y
    have r' : Reps X.K S' H' vs ds := Reps.stb (e.stb st.ws) _ _ r
    obtain ⟨st2, sb⟩ := st'.wrOwn hg e1 h2 n' f (((r'.take j).append (.cons r2 .nil)).append (r'.drop j))
    have hl : vs.length = ds.length := r'.length
    refine ⟨a, vs, (j : Int), v2, rfl, rfl, h2, by rw [sizeLine_eq]; omega, by omega, by omega, ?_⟩
    exact kn _ _ S' _ q st2 ((e.stb st.ws).trans sb)
end
end PD

set_option Elab.async false
set_option linter.all false
set_option maxRecDepth 100000
set_option maxHeartbeats 4000000
namespace SQ
open PySem PySem.Spec PyProof.Rows L2 PD
/-! #### words -/
inductive Wd where
  | about | change | col2 | col3 | double | left | line | right | undouble | wleft | wright
deriving DecidableEq
def Wd.nm : Wd → Str
  | .about => "about" | .change => "change" | .col2 => "column 2" | .col3 => "column 3" | .double => "double" | .left => "left" | .line => "line" | .right => "right" | .undouble => "undouble" | .wleft => "wheel left" | .wright => "wheel right"
def allW : List Wd := [.about, .change, .col2, .col3, .double, .left, .line, .right, .undouble, .wleft, .wright]
def wordStrs : List Str := allW.map Wd.nm
def Wd.fac : Wd → Nat
  | .col2 => 2 | .col3 => 3 | .double => 2 | .undouble => 2 | _ => 1
def Wd.trn : Wd → Nat
  | .right => 1 | .wright => 1 | .about => 2 | .left => 3 | .wleft => 3 | _ => 0
def wD (w : Wd) : D := .str w.nm
def rowD (ws : List Wd) : D := .tup (ws.map wD)
def k_FACTORS : List (Str × Int) := [("column 2", 2), ("column 3", 3), ("double", 2), ("undouble", 2)]
def k_TURNS : List (Str × Int) := [("right", 1), ("wheel right", 1), ("about", 2), ("left", 3), ("wheel left", 3)]
def isWordD : D → Bool
  | .str z => wordStrs.contains z
  | _ => false
def shapeD : D → Bool
  | .str z => (k_FACTORS.lookup z).isSome
  | _ => false
def isRowD : D → Bool
  | .tup xs => decide (xs.length ≤ 8) && xs.all isWordD && decide ((xs.filter shapeD).length ≤ 2)
  | _ => false
/-- a value that may be compared -/
def okV (d : D) : Bool := d.fl 12
def Row (ws : List Wd) : Prop := ws.length ≤ 8 ∧ (ws.filter fun w => decide (1 < w.fac)).length ≤ 2
theorem eq_str (a b : Str) : D.eq (.str a) (.str b) = (a == b) := rfl
theorem inl_strs (z : Str) (ss : List Str) : D.inl (.str z) (ss.map D.str) = ss.contains z := by
  unfold D.inl
  rw [List.any_map, List.contains_eq_any_beq]
  congr 1
  funext x
  show (x == z) = (z == x)
  exact BEq.comm
theorem wd_in (w : Wd) : w ∈ allW := by cases w <;> decide
theorem isWordD_w (w : Wd) : isWordD (wD w) = true := by cases w <;> decide +kernel
theorem isWordD_ex {d : D} (h : isWordD d = true) : ∃ w, d = wD w := by
  cases d <;> first | (cases h; done) | skip
  rename_i z
  have h1 : z ∈ wordStrs := List.contains_iff_mem.mp h
  obtain ⟨w, _, e⟩ := List.mem_map.mp h1
  exact ⟨w, by rw [← e]; rfl⟩
theorem shapeD_w (w : Wd) : shapeD (wD w) = decide (1 < w.fac) := by cases w <;> decide +kernel
theorem isRowD_row {ws : List Wd} (h : Row ws) : isRowD (rowD ws) = true := by
  unfold isRowD rowD
  simp only [List.length_map, List.filter_map, Bool.and_eq_true, decide_eq_true_eq, List.all_eq_true, List.mem_map]
  refine ⟨⟨h.1, ?_⟩, ?_⟩
  · rintro _ ⟨w, _, rfl⟩
    exact isWordD_w w
  · have : (shapeD ∘ wD) = fun w => decide (1 < w.fac) := funext shapeD_w
    rw [this]
    exact h.2
theorem isRowD_ex {d : D} (h : isRowD d = true) : ∃ ws, d = rowD ws ∧ Row ws := by
  cases d <;> first | (cases h; done) | skip
  rename_i xs
  unfold isRowD at h
  simp only [Bool.and_eq_true, decide_eq_true_eq, List.all_eq_true] at h
  obtain ⟨⟨h1, h2⟩, h3⟩ := h
  have key : ∀ xs : List D, (∀ x ∈ xs, isWordD x = true) → ∃ ws : List Wd, xs = ws.map wD := by
    intro xs
    induction xs with
    | nil => exact fun _ => ⟨[], rfl⟩
    | cons x r ih =>
      intro h
      obtain ⟨w, rfl⟩ := isWordD_ex (h x (List.mem_cons_self ..))
      obtain ⟨ws, rfl⟩ := ih fun y hy => h y (List.mem_cons_of_mem _ hy)
      exact ⟨w :: ws, rfl⟩
  obtain ⟨ws, rfl⟩ := key xs h2
  refine ⟨ws, rfl, by simpa using h1, ?_⟩
  rw [List.filter_map] at h3
  have : (shapeD ∘ wD) = fun w => decide (1 < w.fac) := funext shapeD_w
  rw [this] at h3
  simpa using h3
theorem fl_mono : ∀ (n : Nat) (d : D), d.fl n = true → d.fl (n + 1) = true
  | 0, d, h => by cases d <;> first | rfl | exact h | (cases h; done)
  | n + 1, .tup xs, h => by
    have h' : xs.all (D.fl n) = true := h
    show xs.all (D.fl (n + 1)) = true
    rw [List.all_eq_true] at h' ⊢
    exact fun x hx => fl_mono n x (h' x hx)
  | n + 1, .lst xs, h => by
    have h' : xs.all (D.fl n) = true := h
    show xs.all (D.fl (n + 1)) = true
    rw [List.all_eq_true] at h' ⊢
    exact fun x hx => fl_mono n x (h' x hx)
  | n + 1, .non, h => rfl
  | n + 1, .bl _, h => rfl
  | n + 1, .int _, h => rfl
  | n + 1, .str _, h => h
  | n + 1, .src, h => by cases h
  | n + 1, .ty _, h => by cases h
theorem fl_le {n m : Nat} {d : D} (h : n ≤ m) (q : d.fl n = true) : d.fl m = true := by
  induction h with
  | refl => exact q
  | step _ ih => exact fl_mono _ _ ih
theorem fl_noTy {n : Nat} {d : D} (h : d.fl n = true) : d.noTy = true := by
  cases d <;> first | rfl | (cases n <;> cases h)
theorem fl_tup {n : Nat} {xs : List D} (h : (D.tup xs).fl (n + 1) = true) : ∀ x ∈ xs, x.fl n = true := List.all_eq_true.mp h
theorem fl_tup' {n : Nat} {xs : List D} (h : ∀ x ∈ xs, x.fl n = true) : (D.tup xs).fl (n + 1) = true := List.all_eq_true.mpr h
theorem fl_lst' {n : Nat} {xs : List D} (h : ∀ x ∈ xs, x.fl n = true) : (D.lst xs).fl (n + 1) = true := List.all_eq_true.mpr h
theorem fl_w (w : Wd) (n : Nat) : (wD w).fl n = true := by
  have h : (wD w).fl 0 = true := by cases w <;> decide +kernel
  exact fl_le (Nat.zero_le _) h
theorem okV_row (ws : List Wd) : okV (rowD ws) = true := fl_tup' fun x hx => by
  obtain ⟨w, _, rfl⟩ := List.mem_map.mp hx
  exact fl_w w _
theorem noTy_row (ws : List Wd) : D.noTy (rowD ws) = true := rfl
theorem eq_nilL : ∀ xs : List D, D.eq (.lst xs) (.lst []) = xs.isEmpty
  | [] => rfl
  | _ :: _ => rfl
theorem bls_mapf (f : D → Bool) : ∀ xs : List D, D.bls (xs.map fun d => .bl (f d)) = some (xs.map f)
  | [] => rfl
  | x :: xs => by simp [D.bls, bls_mapf f xs]
theorem ints_mapf {α : Type} (f : α → Int) : ∀ xs : List α, D.ints (xs.map fun d => .int (f d)) = some (xs.map f)
  | [] => rfl
  | x :: xs => by simp [D.ints, ints_mapf f xs]
theorem rowD_get {ws : List Wd} {i : Nat} {d : D} (h : (ws.map wD)[i]? = some d) : ∃ w, ws[i]? = some w ∧ d = wD w := by
  rw [List.getElem?_map] at h
  cases e : ws[i]? with
  | none => rw [e] at h; cases h
  | some w => rw [e] at h; cases h; exact ⟨w, rfl, rfl⟩
theorem rangeL_get {lo : Int} {n i : Nat} {d : D} (h : (rangeL lo n)[i]? = some d) : i < n ∧ d = .int (lo + (i : Int)) := by
  unfold rangeL at h
  rw [List.getElem?_map] at h
  by_cases hi : i < n
  · rw [List.getElem?_range hi] at h
    cases h
    exact ⟨hi, rfl⟩
  · rw [List.getElem?_eq_none (by simpa using hi)] at h
    cases h
theorem rangeL_mem {lo : Int} {n : Nat} {d : D} (h : d ∈ rangeL lo n) : ∃ i, i < n ∧ d = .int (lo + (i : Nat)) := by
  obtain ⟨i, hi, e⟩ := List.mem_map.mp h
  exact ⟨i, by simpa using hi, e.symm⟩
theorem rangeL_len (lo : Int) (n : Nat) : (rangeL lo n).length = n := by simp [rangeL]
@[simp] theorem srcB0 (v : Int) : SrcB 0 v ↔ 0 ≤ v := by unfold SrcB; omega
@[simp] theorem srcB1 (v : Int) : SrcB 1 v ↔ (0 ≤ v ∧ v < 4294967296) := by unfold SrcB; omega
@[simp] theorem srcB2 (v : Int) : SrcB 2 v ↔ (1073741824 < v ∧ v < 2147483648) := by unfold SrcB; omega
@[simp] theorem eq_int (i j : Int) : D.eq (.int i) (.int j) = decide (i = j) := by
  show PyData.eqv (.int i) (.int j) = _
  first
    | rfl
    | (simp only [PyData.eqv]; by_cases h : i = j <;> simp [h])
@[simp] theorem fl_int (n : Nat) (i : Int) : (D.int i).fl n = true := by cases n <;> rfl
@[simp] theorem fl_bl (n : Nat) (i : Bool) : (D.bl i).fl n = true := by cases n <;> rfl
@[simp] theorem fl_non (n : Nat) : D.non.fl n = true := by cases n <;> rfl
@[simp] theorem flat_int (i : Int) : (D.int i).flat = true := rfl
@[simp] theorem flat_bl (i : Bool) : (D.bl i).flat = true := rfl
@[simp] theorem flat_str (i : Str) : (D.str i).flat = true := rfl
@[simp] theorem flat_non : D.non.flat = true := rfl
theorem atI_mem {xs : List D} {v : Int} (h0 : 0 ≤ v) (h : v < xs.length) : ∃ d ∈ xs, atI xs v = some d := by
  obtain ⟨j, rfl⟩ := Int.eq_ofNat_of_zero_le h0
  have hj : j < xs.length := by omega
  exact ⟨_, List.getElem_mem hj, atI_nat (List.getElem?_eq_getElem hj)⟩
theorem atI_any {xs : List D} {v : Int} {Q : D → Prop} (h0 : 0 ≤ v) (h : v < xs.length) (q : ∀ d ∈ xs, Q d) : ∃ d, atI xs v = some d ∧ Q d := by
  obtain ⟨d, hd, e⟩ := atI_mem h0 h
  exact ⟨d, e, q d hd⟩
theorem ixN_nat {n j : Nat} (h : j < n) : ixN n (j : Int) = some j := by
  unfold ixN
  rw [if_pos (by omega), if_pos (by omega)]
  simp
theorem cutD_mem {xs : List D} {a b : Option Int} {x : D} (h : x ∈ PD.cutD xs a b) : x ∈ xs := List.mem_of_mem_drop (List.mem_of_mem_take h)
theorem cutD_len (xs : List D) (a b : Option Int) : (PD.cutD xs a b).length ≤ xs.length := by
  unfold PD.cutD
  rw [List.length_take, List.length_drop]
  omega

/-! #### _law_all_words -/
@[simp] def F__law_all_words : DF
  | [], Q, _ => Q (.lst (allW.map wD))
  | _, _, _ => False
def w__law_all_words : WS := (wSeq (wAsg (wLst (wCons (wC (.str "about")) (wCons (wC (.str "change")) (wCons (wC (.str "column 2")) (wCons (wC (.str "column 3")) (wCons (wC (.str "double")) (wCons (wC (.str "left")) (wCons (wC (.str "line")) (wCons (wC (.str "right")) wNil))))))))) (gN 0))
  (wRet (wBin fAdd (wVar 0) (wLst (wCons (wC (.str "undouble")) (wCons (wC (.str "wheel left")) (wCons (wC (.str "wheel right")) wNil)))))))
def N__law_all_words : List Str := ["words"]
theorem sp__law_all_words : ∀ ds Q E, ds.length = 0 → F__law_all_words ds Q E → w__law_all_words (fun _ => Q .non) Q Ev0 (startG N__law_all_words ds) := by
  intro ds Q E hl h
  match ds, h with
  | [], h => simpa [w__law_all_words, N__law_all_words, startG, sizeLine_eq, allW, wD, Wd.nm] using h
/-! #### _law_source -/
def F__law_source : DF
  | [a, b], Q, _ => ∃ (ns : List Int) (k : Nat), a = .lst (ns.map D.int) ∧ b = .int k ∧ k < 1000 ∧ Q .src
  | _, _, _ => False
theorem src_seed (c : Int) (k : Nat) (hk : k < 1000) (x y : Int) (hx : x = c % 2147483489 + 1) (hy : y = 48271 + 2 * (k : Int)) : Sm x ∧ Sm y := ⟨.of (by omega) (by omega), .of (by omega) (by omega)⟩
theorem eight_at (k : Nat) (p : Int → Prop) (xs : List Int) (hl : xs.length = 8) (h : ∀ x ∈ xs, p x) : ∃ v, atI (xs.map D.int) ((k : Int) % 8) = some (.int v) ∧ p v := by
  have hk : k % 8 < xs.length := by omega
  refine ⟨xs[k % 8], ?_, h _ (List.getElem_mem hk)⟩
  rw [show ((k : Int) % 8) = ((k % 8 : Nat) : Int) by omega]
  exact atI_nat (by rw [List.getElem?_map, List.getElem?_eq_getElem hk]; rfl)
theorem F_src {ns : List Int} {k : Nat} {Q : D → Prop} {E : Ex} (hk : k < 1000) (h : Q .src) : F__law_source [.lst (ns.map D.int), .int (k : Int)] Q E := ⟨ns, k, rfl, rfl, hk, h⟩
def w__law_source : WS := (wSeq (wAsg (wC (.int 0)) (gN 2))
  (wSeq (wIf (wB (wBin fLt (wVar 1) (wCB fLen (wCons (wVar 0) wNil)))) (wAsg (wBin fIx (wVar 0) (wVar 1)) (gN 2)) wSkip)
  (wSeq (wAsg (wLst (wCons (wC (.int 2147483647)) (wCons (wC (.int 2147483629)) (wCons (wC (.int 2147483587)) (wCons (wC (.int 2147483579)) (wCons (wC (.int 2147483563)) (wCons (wC (.int 2147483549)) (wCons (wC (.int 2147483543)) (wCons (wC (.int 2147483497)) wNil))))))))) (gN 3))
  (wSeq (wAsg (wBin fMod (wCB fInt (wCons (wBin fMul (wBin fAdd (wBin fMod (wCB fInt (wCons (wVar 2) wNil)) (wC (.int 2147483489))) (wC (.int 1))) (wBin fAdd (wC (.int 48271)) (wBin fMul (wC (.int 2)) (wVar 1)))) wNil)) (wC (.int 2147483489))) (gN 4))
  (wSeq (wAsg (wBin fAdd (wBin fAdd (wBin fMod (wCB fInt (wCons (wBin fMul (wVar 4) (wVar 4)) wNil)) (wC (.int 2147483477))) (wVar 1)) (wC (.int 1))) (gN 4))
  (wSeq (wIf (wB (wBin fGe (wVar 2) (wBin fPow (wC (.int 10)) (wC (.int 18))))) (wRetSrc (wCons (wVar 2) (wCons (wVar 4) (wCons (wBin fIx (wVar 3) (wBin fMod (wCB fInt (wCons (wVar 1) wNil)) (wC (.int 8)))) wNil)))) wSkip)
  (wRetSrc (wCons (wC (.int 0)) (wCons (wVar 4) (wCons (wBin fIx (wVar 3) (wBin fMod (wCB fInt (wCons (wVar 1) wNil)) (wC (.int 8)))) wNil))))))))))
def N__law_source : List Str := ["script", "k", "cell", "primes", "seed"]
theorem sp__law_source : ∀ ds Q E, ds.length = 2 → F__law_source ds Q E → w__law_source (fun _ => Q .non) Q Ev0 (startG N__law_source ds) := by
  intro ds Q E hl h
  match ds, h with
  | [a, b], ⟨ns, k, e1, e2, hk, h⟩ =>
    subst e1 e2
    have h8 := eight_at k (fun p => 1073741824 < p ∧ p < 2147483648) [2147483647, 2147483629, 2147483587, 2147483579, 2147483563, 2147483549, 2147483543, 2147483497] rfl (by decide)
    obtain ⟨p, hp, p1, p2⟩ := h8
    simp only [List.map_cons, List.map_nil] at hp
    have s2 : Sm 2 := .of (by omega) (by omega)
    have sk : Sm (k : Int) := .of (by omega) (by omega)
    have sy : Sm (48271 + 2 * (k : Int)) := .of (by omega) (by omega)
    simp only [w__law_source, N__law_source, startG]
    by_cases hn : k < ns.length
    · have ha : atI (ns.map D.int) (k : Int) = some (.int ns[k]) := atI_nat (by rw [List.getElem?_map, List.getElem?_eq_getElem hn]; rfl)
      have sx : Sm (ns[k] % 2147483489 + 1) := .of (by omega) (by omega)
      have q1 := Int.emod_nonneg ((ns[k] % 2147483489 + 1) * (48271 + 2 * (k : Int))) (show (2147483489 : Int) ≠ 0 by decide)
      have q2 := Int.emod_lt_of_pos ((ns[k] % 2147483489 + 1) * (48271 + 2 * (k : Int))) (show (0 : Int) < 2147483489 by decide)
      generalize he : (ns[k] % 2147483489 + 1) * (48271 + 2 * (k : Int)) % 2147483489 = e at q1 q2
      have se : Sm e := .of (by omega) (by omega)
      have q3 := Int.emod_nonneg (e * e) (show (2147483477 : Int) ≠ 0 by decide)
      have q4 := Int.emod_lt_of_pos (e * e) (show (0 : Int) < 2147483477 by decide)
      simp [ha, s2, sk, sy, sx, he, se, hp, p1, p2, h, q1, q3]
      refine .inr ⟨hn, ?_⟩
      by_cases hc : (1000000000000000000 : Int) ≤ ns[k]
      · exact .inr ⟨hc, _, _, _, ⟨rfl, rfl, rfl⟩, by omega, by omega, p1, p2⟩
      · exact .inl ⟨by omega, _, _, _, ⟨rfl, rfl, rfl⟩, by omega, by omega, p1, p2⟩
    · have q1 := Int.emod_nonneg (48271 + 2 * (k : Int)) (show (2147483489 : Int) ≠ 0 by decide)
      have q2 := Int.emod_lt_of_pos (48271 + 2 * (k : Int)) (show (0 : Int) < 2147483489 by decide)
      have s1 : Sm 1 := .of (by omega) (by omega)
      have he : (1 : Int) * (48271 + 2 * (k : Int)) % 2147483489 = 48271 + 2 * (k : Int) := by omega
      have q3 := Int.emod_nonneg ((48271 + 2 * (k : Int)) * (48271 + 2 * (k : Int))) (show (2147483477 : Int) ≠ 0 by decide)
      have q4 := Int.emod_lt_of_pos ((48271 + 2 * (k : Int)) * (48271 + 2 * (k : Int))) (show (0 : Int) < 2147483477 by decide)
      have he' : (48271 + 2 * (k : Int)) % 2147483489 = 48271 + 2 * (k : Int) := by omega
      simp [s1, s2, sk, sy, he', hp, p1, p2, h]
      exact .inl ⟨by omega, _, _, _, ⟨rfl, rfl, rfl⟩, by omega, by omega, p1, p2⟩
/-! #### _law_pick -/
def F__law_pick : DF
  | [a, b], Q, _ => ∃ l : Int, a = .src ∧ b = .int l ∧ 0 < l ∧ l < 1000000000000000000000000000 ∧ ∀ v, 0 ≤ v → v < l → Q (.int v)
  | _, _, _ => False
def w__law_pick : WS := (wSeq (wIf (wB (wBin fGt (wSrcIx 0 0) (wC (.int 0)))) (wSeq (wAsg (wBin fMod (wCB fInt (wCons (wSrcIx 0 0) wNil)) (wVar 1)) (gN 2))
  (wSeq (wSrcSt 0 0 (wBin fDiv (wSrcIx 0 0) (wVar 1)))
  (wRet (wVar 2)))) wSkip)
  (wSeq (wSrcSt 0 1 (wBin fAdd (wBin fMod (wCB fInt (wCons (wBin fMul (wSrcIx 0 1) (wC (.int 48271))) wNil)) (wSrcIx 0 2)) (wC (.int 1))))
  (wRet (wBin fMod (wCB fInt (wCons (wBin fDiv (wBin fMod (wCB fInt (wCons (wBin fMul (wSrcIx 0 1) (wSrcIx 0 1)) wNil)) (wC (.int 2147483423))) (wC (.int 7))) wNil)) (wVar 1)))))
def N__law_pick : List Str := ["source", "limit", "drawn"]
theorem sp__law_pick : ∀ ds Q E, ds.length = 2 → F__law_pick ds Q E → w__law_pick (fun _ => Q .non) Q Ev0 (startG N__law_pick ds) := by
  intro ds Q E hl h
  match ds, h with
  | [a, b], ⟨l, e1, e2, h1, h2, h⟩ =>
    subst e1 e2
    simp only [w__law_pick, N__law_pick, startG]
    simp [h1]
    intro c hc
    by_cases h0 : 0 < c
    · refine .inr ⟨h0, fun u _ v hv => ⟨.of (by omega) (by omega), Int.ediv_nonneg hv (by omega), h _ (Int.emod_nonneg _ (by omega)) (Int.emod_lt_of_pos _ h1)⟩⟩
    · refine .inl ⟨by omega, fun s s1 s2 => ⟨⟨.of (by omega) (by omega), .of (by omega) (by omega)⟩, fun p p1 p2 => ?_⟩⟩
      rw [if_pos (by omega)]
      have q1 := Int.emod_nonneg (s * 48271) (show p ≠ 0 by omega)
      have q2 := Int.emod_lt_of_pos (s * 48271) (show 0 < p by omega)
      refine ⟨by omega, fun v v1 v2 u u1 u2 => ⟨⟨.of (by omega) (by omega), .of (by omega) (by omega)⟩, .of (by omega) (by omega), ?_⟩⟩
      exact h _ (Int.emod_nonneg _ (by omega)) (Int.emod_lt_of_pos _ h1)
/-! #### _law_chosen -/
def F__law_chosen : DF
  | [a, b], Q, _ => ∃ xs, a = .src ∧ (b = .lst xs ∨ b = .tup xs) ∧ xs ≠ [] ∧ xs.length < 1000000 ∧ ∀ x ∈ xs, Q x
  | _, _, _ => False
def w__law_chosen : WS := (wRet (wBin fIx (wVar 1) (wCall 2 F__law_pick (wCons (wVar 0) (wCons (wCB fLen (wCons (wVar 1) wNil)) wNil)))))
def N__law_chosen : List Str := ["source", "some"]
theorem sp__law_chosen : ∀ ds Q E, ds.length = 2 → F__law_chosen ds Q E → w__law_chosen (fun _ => Q .non) Q Ev0 (startG N__law_chosen ds) := by
  intro ds Q E hl h
  match ds, h with
  | [a, b], ⟨xs, e1, e2, hn, hz, h⟩ =>
    have hp : 0 < xs.length := by cases xs with | nil => exact absurd rfl hn | cons _ _ => simp
    have key : ∀ v : Int, 0 ≤ v → v < xs.length → ∃ d, atI xs v = some d ∧ Q d := fun v h0 h1 => by
      obtain ⟨j, rfl⟩ := Int.eq_ofNat_of_zero_le h0
      have hj : j < xs.length := by omega
      exact ⟨_, atI_nat (List.getElem?_eq_getElem hj), h _ (List.getElem_mem hj)⟩
    subst e1
    rcases e2 with rfl | rfl
    · simp [w__law_chosen, N__law_chosen, startG, F__law_pick]
      exact ⟨hp, by omega, key⟩
    · simp [w__law_chosen, N__law_chosen, startG, F__law_pick]
      exact ⟨hp, by omega, key⟩
/-! #### _law_factor -/
def F__law_factor : DF
  | [d], Q, _ => ∃ w, d = wD w ∧ Q (.int w.fac)
  | _, _, _ => False
def w__law_factor : WS := (wSeq (wIf (wB (wBin fEq (wVar 0) (wC (.str "column 3")))) (wRet (wC (.int 3))) wSkip)
  (wRet (wIfE (wB (wBin fIn (wVar 0) (wTup (wCons (wC (.str "column 2")) (wCons (wC (.str "double")) (wCons (wC (.str "undouble")) wNil)))))) (wC (.int 2)) (wC (.int 1)))))
def N__law_factor : List Str := ["word"]
theorem sp__law_factor : ∀ ds Q E, ds.length = 1 → F__law_factor ds Q E → w__law_factor (fun _ => Q .non) Q Ev0 (startG N__law_factor ds) := by
  intro ds Q E hl h
  match ds, h with
  | [d], ⟨w, e, h⟩ =>
    subst e
    have h1 := fl_w w 12
    have h2 : (wD w).flat = true := rfl
    have e1 : D.eq (wD w) (.str "column 3") = decide (w = .col3) := by cases w <;> decide +kernel
    have e2 : D.inl (wD w) [.str "column 2", .str "double", .str "undouble"] = decide (w.fac = 2) := by cases w <;> decide +kernel
    have h3 : (D.str "column 3").fl 12 = true := by decide +kernel
    have h4 : ∀ z : Str, (D.str z).flat = true := fun _ => rfl
    simp [w__law_factor, N__law_factor, startG, h1, h2, h3, h4, e1, e2]
    cases w <;> simpa [Wd.fac] using h
/-! #### _law_is_good_row -/
@[simp] def F__law_is_good_row : DF
  | [d], Q, _ => okV d = true ∧ Q (.bl (isRowD d))
  | _, _, _ => False
def w__law_is_good_row : WS := (wSeq (wIf (wBor (wBnot (wB (wCB fIsi (wCons (wVar 0) (wCons (wC (.ty "tuple")) wNil))))) (wB (wBin fGt (wCB fLen (wCons (wVar 0) wNil)) (wC (.int 8))))) (wRet (wC (.bl false))) wSkip)
  (wSeq (wIf (wB (wBin fNe (wLc [1] (wIt (wVar 0)) (gN 1) (wBor (wBnot (wB (wCB fIsi (wCons (wVar 1) (wCons (wC (.ty "str")) wNil))))) (wB (wBin fNin (wVar 1) (wCall 0 F__law_all_words wNil)))) (wVar 1)) (wLst wNil))) (wRet (wC (.bl false))) wSkip)
  (wRet (wBin fLe (wCB fLen (wCons (wLc [1] (wIt (wVar 0)) (gN 1) (wB (wBin fGt (wCall 1 F__law_factor (wCons (wVar 1) wNil)) (wC (.int 1)))) (wVar 1)) wNil)) (wC (.int 2))))))
def N__law_is_good_row : List Str := ["value", "word"]
theorem sp__law_is_good_row : ∀ ds Q E, ds.length = 1 → F__law_is_good_row ds Q E → w__law_is_good_row (fun _ => Q .non) Q Ev0 (startG N__law_is_good_row ds) := by
  intro ds Q E hl h
  match ds, h with
  | [d], ⟨h1, h2⟩ =>
    have h0 := fl_noTy h1
    simp only [w__law_is_good_row, N__law_is_good_row, startG]
    cases d <;> first | (cases h0; done) | skip
    case tup xs =>
      have h3 : ∀ x ∈ xs, x.fl 11 = true := fl_tup h1
      simp [D.noTy, D.isi, isiN, D.tn]
      by_cases h8 : xs.length ≤ 8
      · refine .inl ⟨by omega, lcD_pure (fun d => !isWordD d) id (by omega) (fun d hd Qt Qf ht hf => ?_) ?_⟩
        · have n := fl_noTy (h3 d hd)
          simp [wipeG, n]
          cases d <;> first | (cases n; done) | skip
          case str z =>
            have e : D.inl (.str z) (allW.map wD) = isWordD (.str z) := by
              have := inl_strs z wordStrs
              rw [wordStrs, List.map_map] at this
              exact this
            have e2 : (allW.map wD).all (D.fl 10) = true := by rw [List.all_eq_true]; intro x hx; obtain ⟨w, _, rfl⟩ := List.mem_map.mp hx; exact fl_w w _
            have e3 : (D.str z).fl 10 = true := h3 _ hd
            simp only [D.isi, isiN, D.tn]
            simp [e]
            refine ⟨⟨e3, fun w _ => fl_w w _⟩, ?_⟩
            cases hw : isWordD (.str z) with
            | true => exact .inl ⟨rfl, hf (by rw [hw]; rfl)⟩
            | false => exact .inr ⟨rfl, ht (by rw [hw]; rfl)⟩
          all_goals simpa [D.isi, isiN, D.tn] using ht rfl
        · simp only [List.map_id]
          refine ⟨fl_lst' fun x hx => h3 x (List.mem_filter.mp hx).1, rfl, ?_⟩
          rw [eq_nilL]
          cases hw : xs.all isWordD with
          | false =>
            refine .inr ⟨?_, by simpa [isRowD, hw] using h2⟩
            obtain ⟨x, hx, hn⟩ := List.all_eq_false.mp hw
            have : x ∈ xs.filter fun d => !isWordD d := List.mem_filter.mpr ⟨hx, by simpa using hn⟩
            cases e : xs.filter fun d => !isWordD d with
            | nil => rw [e] at this; cases this
            | cons _ _ => rfl
          | true =>
            have hw' := List.all_eq_true.mp hw
            refine .inl ⟨?_, lcD_pure shapeD id (by omega) (fun d hd Qt Qf ht hf => ?_) ?_⟩
            · rw [List.filter_eq_nil_iff.mpr fun x hx => by simp [hw' x hx]]; rfl
            · obtain ⟨w, rfl⟩ := isWordD_ex (hw' d hd)
              simp [wipeG, F__law_factor]
              refine ⟨w, rfl, ?_⟩
              have hs := shapeD_w w
              by_cases hf' : 1 < w.fac
              · exact .inr ⟨by omega, ht (by rw [hs]; simpa using hf')⟩
              · exact .inl ⟨by omega, hf (by rw [hs]; simpa using hf')⟩
            · simp only [List.map_id]
              show Q (.bl (decide (((xs.filter shapeD).length : Int) ≤ 2)))
              rw [show decide (((xs.filter shapeD).length : Int) ≤ 2) = isRowD (.tup xs) from ?_]
              · exact h2
              · show _ = (decide (xs.length ≤ 8) && xs.all isWordD && decide ((xs.filter shapeD).length ≤ 2))
                rw [hw, decide_eq_true h8]
                simp only [Bool.true_and]
                exact decide_eq_decide.mpr (by omega)
      · exact .inr ⟨by omega, by simpa [isRowD, h8] using h2⟩
    all_goals simpa [D.noTy, D.isi, isiN, D.tn, isRowD] using h2
/-! #### _law_row -/
def F__law_row : DF
  | [a, b], Q, _ => ∃ n : Int, a = .src ∧ b = .int n ∧ 0 ≤ n ∧ n < 1000000 ∧ ∀ ws, Row ws → ws.length ≤ n → Q (rowD ws)
  | _, _, _ => False
theorem row_nil : Row [] := ⟨Nat.zero_le _, Nat.zero_le _⟩
theorem rowD_snoc (ws : List Wd) (w : Wd) : D.tup (ws.map wD ++ [wD w]) = rowD (ws ++ [w]) := by simp [rowD]
theorem wD_inj {a b : Wd} (h : wD a = wD b) : a = b := by
  cases a <;> cases b <;> first | rfl | (exfalso; revert h; simp [wD, Wd.nm]; done) | (exfalso; injection h with h; revert h; decide +kernel)
theorem rowD_inj {ws us : List Wd} (h : rowD ws = rowD us) : ws = us := by
  injection h with h
  exact (List.map_inj_right (fun _ _ => wD_inj)).mp h
theorem row_of {ws : List Wd} (h : isRowD (rowD ws) = true) : Row ws := by
  obtain ⟨us, e, hR⟩ := isRowD_ex h
  rw [rowD_inj e]
  exact hR
theorem fAdd_row (ws : List Wd) (w : Wd) (Q : D → Prop) : fAdd (rowD ws) (.tup [wD w]) Q = (ws.length + 1 ≤ sizeLine ∧ Q (rowD (ws ++ [w]))) := by
  simp only [rowD, fAdd_3, List.length_map, List.length_singleton, List.map_append, List.map_cons, List.map_nil]
def w__law_row : WS := (wSeq (wAsg (wTup wNil) (gN 2))
  (wSeq (wFor (wRange1 (wCons (wCall 2 F__law_pick (wCons (wVar 0) (wCons (wBin fAdd (wVar 1) (wC (.int 1))) wNil))) wNil)) (gN 3) (wSeq (wAsg (wCall 2 F__law_chosen (wCons (wVar 0) (wCons (wBin fAdd (wCall 0 F__law_all_words wNil) (wLst (wCons (wC (.str "line")) (wCons (wC (.str "right")) (wCons (wC (.str "left")) (wCons (wC (.str "change")) wNil)))))) wNil))) (gN 4))
  (wAsg (wIfE (wB (wCall 1 F__law_is_good_row (wCons (wBin fAdd (wVar 2) (wTup (wCons (wVar 4) wNil))) wNil))) (wBin fAdd (wVar 2) (wTup (wCons (wVar 4) wNil))) (wVar 2)) (gN 2))))
  (wRet (wVar 2))))
def N__law_row : List Str := ["source", "most", "found", "turn", "word"]
theorem sp__law_row : ∀ ds Q E, ds.length = 2 → F__law_row ds Q E → w__law_row (fun _ => Q .non) Q Ev0 (startG N__law_row ds) := by
  intro ds Q E hl h
  match ds, h with
  | [a, b], ⟨n, e1, e2, h0, h1, h⟩ =>
    subst e1 e2
    simp only [w__law_row, N__law_row, startG]
    simp [F__law_pick]
    refine ⟨by omega, by omega, fun v v0 v1 => ⟨⟨by omega, by omega⟩, ?_⟩⟩
    refine ⟨fun i Γ => ∃ ws x y, Γ = [.dat .src, .dat (.int n), .dat (rowD ws), x, y] ∧ Row ws ∧ ws.length ≤ i, ⟨[], _, _, rfl, row_nil, Nat.le_refl _⟩, fun i d Γ' hd hI => ?_, fun Γ' hI => ?_⟩
    · obtain ⟨ws, x, y, rfl, hR, hi⟩ := hI
      have hi' := rangeL_get hd
      simp [F__law_chosen]
      refine ⟨by simp [allW, sizeLine_eq], by simp [allW], fun x hx => ?_⟩
      obtain ⟨w, rfl⟩ : ∃ w, x = wD w := by
        rcases hx with ⟨w, _, rfl⟩ | rfl | rfl | rfl | rfl
        · exact ⟨w, rfl⟩
        · exact ⟨.line, rfl⟩
        · exact ⟨.right, rfl⟩
        · exact ⟨.left, rfl⟩
        · exact ⟨.change, rfl⟩
      have hz : ws.length + 1 ≤ sizeLine := by rw [sizeLine_eq]; have := hR.1; omega
      rw [fAdd_row]
      refine ⟨hz, okV_row _, ?_⟩
      by_cases hr : isRowD (rowD (ws ++ [w])) = true
      · rw [if_pos hr, fAdd_row]
        exact ⟨hz, _, rfl, row_of hr, by simp; omega⟩
      · rw [if_neg hr]
        exact ⟨ws, rfl, hR, by omega⟩
    · obtain ⟨ws, x, y, rfl, hR, hi⟩ := hI
      rw [rangeL_len] at hi
      simpa using h ws hR (by omega)
/-! #### is_word -/
@[simp] def F_is_word : DF
  | [d], Q, _ => d.noTy = true ∧ Q (.bl (isWordD d))
  | _, _, _ => False
def w_is_word : WS := (wRet (wAnd (wCB fIsi (wCons (wVar 0) (wCons (wC (.ty "str")) wNil))) (wBin fIn (wVar 0) (wC (.tup [(.str "about"), (.str "change"), (.str "column 2"), (.str "column 3"), (.str "double"), (.str "left"), (.str "line"), (.str "right"), (.str "undouble"), (.str "wheel left"), (.str "wheel right")])))))
def N_is_word : List Str := ["value"]
theorem sp_is_word : ∀ ds Q E, ds.length = 1 → F_is_word ds Q E → w_is_word (fun _ => Q .non) Q Ev0 (startG N_is_word ds) := by
  intro ds Q E hl h
  match ds, h with
  | [d], ⟨h1, h2⟩ =>
    simp only [w_is_word, N_is_word, startG]
    cases d <;> first | (cases h1; done) | skip
    case str z =>
      have e : D.inl (.str z) (wordStrs.map D.str) = isWordD (.str z) := inl_strs z _
      rw [← e] at h2
      simpa [D.noTy, D.isi, isiN, D.tn, D.flat, wordStrs, allW, Wd.nm] using h2
    all_goals simpa [D.noTy, D.isi, isiN, D.tn, D.flat, isWordD] using h2
/-! #### is_row -/
@[simp] def F_is_row : DF
  | [d], Q, _ => okV d = true ∧ Q (.bl (isRowD d))
  | _, _, _ => False
def w_is_row : WS := (wSeq (wIf (wBor (wBnot (wB (wCB fIsi (wCons (wVar 0) (wCons (wC (.ty "tuple")) wNil))))) (wBor (wB (wBin fGt (wCB fLen (wCons (wVar 0) wNil)) (wC (.int 8)))) (wBnot (wB (wCB fAll (wCons (wLc [1] (wIt (wVar 0)) (gN 1) wYes (wCall 1 F_is_word (wCons (wVar 1) wNil))) wNil)))))) (wRet (wC (.bl false))) wSkip)
  (wRet (wBin fLe (wCB fLen (wCons (wLc [1] (wIt (wVar 0)) (gN 1) (wB (wUn (fKIn k_FACTORS) (wVar 1))) (wVar 1)) wNil)) (wC (.int 2)))))
def N_is_row : List Str := ["value", "word"]
theorem sp_is_row : ∀ ds Q E, ds.length = 1 → F_is_row ds Q E → w_is_row (fun _ => Q .non) Q Ev0 (startG N_is_row ds) := by
  intro ds Q E hl h
  match ds, h with
  | [d], ⟨h1, h2⟩ =>
    simp only [w_is_row, N_is_row, startG]
    cases d <;> first | (cases h1; done) | skip
    case tup xs =>
      simp [D.noTy, D.isi, isiN, D.tn]
      have h3 : ∀ x ∈ xs, x.noTy = true := fun x hx => fl_noTy (fl_tup h1 x hx)
      by_cases h8 : xs.length ≤ 8
      · refine .inl ⟨by omega, lcD_map (fun d => .bl (isWordD d)) (by omega) (fun d hd Qt hq => by simpa [wipeG] using ⟨h3 d hd, hq⟩) ?_⟩
        refine ⟨_, bls_mapf isWordD xs, ?_⟩
        have ea : (xs.map isWordD).all id = xs.all isWordD := by rw [List.all_map]; rfl
        rw [ea]
        cases hw : xs.all isWordD with
        | false => exact .inl ⟨rfl, by simpa [isRowD, hw] using h2⟩
        | true =>
          refine .inr ⟨rfl, lcD_pure shapeD id (by omega) (fun d hd Qt Qf ht hf => ?_) ?_⟩
          · obtain ⟨w, rfl⟩ := isWordD_ex (List.all_eq_true.mp hw d hd)
            simp only [gN, wipeG, wB, wUn, wVar]
            cases hs : shapeD (wD w) with
            | true => exact ⟨_, rfl, _, rfl, by rw [show ((k_FACTORS.lookup w.nm).isSome) = true from hs]; exact ⟨_, rfl, ht hs⟩⟩
            | false => exact ⟨_, rfl, _, rfl, by rw [show ((k_FACTORS.lookup w.nm).isSome) = false from hs]; exact hf hs⟩
          · simp only [List.map_id]
            show Q (.bl (decide (((xs.filter shapeD).length : Int) ≤ 2)))
            rw [show decide (((xs.filter shapeD).length : Int) ≤ 2) = isRowD (.tup xs) from ?_]
            · exact h2
            · show _ = (decide (xs.length ≤ 8) && xs.all isWordD && decide ((xs.filter shapeD).length ≤ 2))
              rw [hw, decide_eq_true h8]
              simp only [Bool.true_and]
              exact decide_eq_decide.mpr (by omega)
      · exact .inr ⟨by omega, by simpa [isRowD, h8] using h2⟩
    all_goals simpa [D.noTy, D.isi, isiN, D.tn, D.flat, isRowD] using h2
/-! #### require_row -/
@[simp] def F_require_row : DF
  | [d], Q, _ => okV d = true ∧ isRowD d = true ∧ Q .non
  | _, _, _ => False
def w_require_row : WS := (wIf (wBnot (wB (wCall 1 F_is_row (wCons (wVar 0) wNil)))) wNever wSkip)
def N_require_row : List Str := ["value"]
theorem sp_require_row : ∀ ds Q E, ds.length = 1 → F_require_row ds Q E → w_require_row (fun _ => Q .non) Q Ev0 (startG N_require_row ds) := by
  intro ds Q E hl h
  match ds, h with
  | [d], ⟨h1, h2, h3⟩ =>
    simp [w_require_row, N_require_row, startG, h1, h2, h3]
/-! #### period_of -/
def pOf (ws : List Wd) : Nat := (ws.map Wd.fac).foldl (· * ·) 1
def F_period_of : DF
  | [d], Q, _ => ∃ ws, d = rowD ws ∧ ws.length ≤ 8 ∧ Q (.int (pOf ws))
  | _, _, _ => False
theorem look_fac (w : Wd) : kget k_FACTORS w.nm (.int 1) = .int w.fac := by cases w <;> rfl
theorem fac_le (w : Wd) : 1 ≤ w.fac ∧ w.fac ≤ 3 := by cases w <;> decide
theorem pOf_take (ws : List Wd) (i : Nat) (w : Wd) (h : ws[i]? = some w) : pOf (ws.take (i + 1)) = pOf (ws.take i) * w.fac := by
  unfold pOf
  rw [List.take_add_one, h, List.map_append, List.foldl_append]
  rfl
theorem pOf_le : ∀ (ws : List Wd) (i : Nat), pOf (ws.take i) ≤ 3 ^ i ∧ 1 ≤ pOf (ws.take i)
  | ws, 0 => ⟨Nat.le_refl _, Nat.le_refl _⟩
  | ws, i + 1 => by
    obtain ⟨h1, h2⟩ := pOf_le ws i
    cases e : ws[i]? with
    | none =>
      have : ws.take (i + 1) = ws.take i := by rw [List.take_add_one, e]; simp
      rw [this]
      exact ⟨Nat.le_trans h1 (Nat.pow_le_pow_right (by decide) (by omega)), h2⟩
    | some w =>
      rw [pOf_take ws i w e, Nat.pow_succ]
      exact ⟨Nat.mul_le_mul h1 (fac_le w).2, Nat.mul_le_mul h2 (fac_le w).1⟩
def w_period_of : WS := (wSeq (wAsg (wC (.int 1)) (gN 1))
  (wSeq (wFor (wIt (wVar 0)) (gN 2) (wAsg (wBin fMul (wVar 1) (wBin (fKGet k_FACTORS) (wVar 2) (wC (.int 1)))) (gN 1)))
  (wRet (wVar 1))))
def N_period_of : List Str := ["row", "found", "word"]
theorem sp_period_of : ∀ ds Q E, ds.length = 1 → F_period_of ds Q E → w_period_of (fun _ => Q .non) Q Ev0 (startG N_period_of ds) := by
  intro ds Q E hl h
  match ds, h with
  | [d], ⟨ws, e, h8, h⟩ =>
    subst e
    simp only [w_period_of, N_period_of, startG]
    simp [rowD]
    refine ⟨fun i Γ => ∃ x, Γ = [.dat (rowD ws), .dat (.int (pOf (ws.take i))), x], ⟨_, rfl⟩, fun i d Γ' hd hI => ?_, fun Γ' hI => ?_⟩
    · obtain ⟨x, rfl⟩ := hI
      rw [List.getElem?_map] at hd
      cases ew : ws[i]? with
      | none => rw [ew] at hd; cases hd
      | some w =>
        rw [ew] at hd
        cases hd
        have hb := pOf_le ws i
        have hf := fac_le w
        have hi : i < ws.length := (List.getElem?_eq_some_iff.mp ew).1
        have : 3 ^ i ≤ 3 ^ 8 := Nat.pow_le_pow_right (by decide) (by omega)
        simp [wD]
        rw [look_fac]
        simp
        exact ⟨⟨.of (by omega) (by omega), .of (by omega) (by omega)⟩, by rw [pOf_take ws i w ew]; simp⟩
    · obtain ⟨x, rfl⟩ := hI
      rw [List.length_map, List.take_length]
      simpa using h
/-! #### period -/
def F_period : DF
  | [d], Q, _ => ∃ ws, d = rowD ws ∧ Row ws ∧ Q (.int (pOf ws))
  | _, _, _ => False
def w_period : WS := (wSeq (wDrop (wCall 1 F_require_row (wCons (wVar 0) wNil)))
  (wRet (wCall 1 F_period_of (wCons (wVar 0) wNil))))
def N_period : List Str := ["row"]
theorem sp_period : ∀ ds Q E, ds.length = 1 → F_period ds Q E → w_period (fun _ => Q .non) Q Ev0 (startG N_period ds) := by
  intro ds Q E hl h
  match ds, h with
  | [d], ⟨ws, e, hR, h⟩ =>
    subst e
    simp only [w_period, N_period, startG]
    simp [F_period_of, okV_row, isRowD_row hR]
    exact ⟨ws, rfl, hR.1, h⟩
/-! #### _law_any_value -/
def FR__law_any_value : Nat → DF
  | 0, _, _, _ => False
  | n + 1, [a, b], Q, _ => ∃ k : Nat, a = .src ∧ b = .int k ∧ k ≤ n ∧ n ≤ 8 ∧ ∀ d : D, d.fl (n + 2) = true → Q d
  | _ + 1, _, _, _ => False
abbrev F__law_any_value : DF := FR__law_any_value 4
def w__law_any_value (Frec : DF) : WS := (wSeq (wAsg (wCall 2 F__law_pick (wCons (wVar 0) (wCons (wC (.int 9)) wNil))) (gN 2))
  (wSeq (wIf (wBor (wB (wBin fLt (wVar 2) (wC (.int 6)))) (wB (wBin fEq (wVar 1) (wC (.int 0))))) (wSeq (wAsg (wLst (wCons (wC (.int 0)) (wCons (wUn fNeg (wC (.int 1))) (wCons (wC (.int 1)) (wCons (wC (.bl true)) (wCons (wC (.bl false)) (wCons (wC .non) (wCons (wC (.str "")) (wCons (wC (.str "a")) (wCons (wC (.str "ab")) (wCons (wC (.str "red")) (wCons (wC (.str "a b")) (wCons (wC (.str "abcdefghi")) (wCons (wC (.int 2)) (wCons (wC (.int 3)) (wCons (wUn fNeg (wC (.int 7))) (wCons (wC (.str "<")) (wCons (wBin fPow (wC (.int 10)) (wC (.int 11))) (wCons (wC (.int 8)) wNil))))))))))))))))))) (gN 3))
  (wRet (wBin fIx (wBin fAdd (wVar 3) (wLst (wCons (wTup wNil) (wCons (wLst wNil) (wCons (wTup (wCons (wC (.int 0)) (wCons (wC (.int 1)) wNil))) wNil))))) (wCall 2 F__law_pick (wCons (wVar 0) (wCons (wC (.int 21)) wNil)))))) wSkip)
  (wSeq (wAsg (wLc [5] (wRange1 (wCons (wCall 2 F__law_pick (wCons (wVar 0) (wCons (wC (.int 6)) wNil))) wNil)) (gN 5) wYes (wCall 2 Frec (wCons (wVar 0) (wCons (wBin fSub (wVar 1) (wC (.int 1))) wNil)))) (gN 4))
  (wRet (wBin fIx (wLst (wCons (wVar 4) (wCons (wCB fTuple (wCons (wVar 4) wNil)) (wCons (wCB fTuple (wCons (wVar 4) wNil)) wNil)))) (wBin fSub (wVar 2) (wC (.int 6))))))))
def N__law_any_value : List Str := ["source", "depth", "kind", "some", "items", "k"]
theorem sp__law_any_value : ∀ n ds Q E, ds.length = 2 → FR__law_any_value (n + 1) ds Q E → w__law_any_value (FR__law_any_value n) (fun _ => Q .non) Q Ev0 (startG N__law_any_value ds) := by
  intro n ds Q E hl h
  match ds, h with
  | [a, b], ⟨k, e1, e2, hk, hn, h⟩ =>
    subst e1 e2
    simp only [w__law_any_value, N__law_any_value, startG]
    have base : ∀ w : Int, 0 ≤ w → w < 21 → ∃ d, atI [D.int 0, .int (-1), .int 1, .bl true, .bl false, .non, .str "", .str "a", .str "ab", .str "red", .str "a b", .str "abcdefghi", .int 2, .int 3, .int (-7), .str "<", .int 100000000000, .int 8, .tup [], .lst [], .tup [.int 0, .int 1]] w = some d ∧ Q d := fun w h0 h1 =>
      atI_any h0 h1 fun d hd => h d (fl_le (n := 1) (by omega) (by revert d; decide +kernel))
    have hs : 21 ≤ sizeLine := by rw [sizeLine_eq]; decide
    simp [F__law_pick]
    intro v v0 v1
    by_cases h6 : v < 6
    · exact .inr ⟨h6, hs, base⟩
    · refine .inl ⟨by omega, ?_⟩
      by_cases hk0 : k = 0
      · rw [if_pos hk0]
        exact ⟨hs, base⟩
      · rw [if_neg hk0]
        intro u u0 u1
        refine ⟨⟨by omega, by omega⟩, ?_⟩
        obtain ⟨m, rfl⟩ : ∃ m, n = m + 1 := ⟨n - 1, by omega⟩
        refine ⟨by rw [rangeL_len]; omega, fun i acc => ∀ x ∈ acc, x.fl (m + 2) = true, fun x hx => (by cases hx), fun i acc d hd ha => ?_, fun acc ha => ?_⟩
        · simp [wipeG, FR__law_any_value]
          refine ⟨k - 1, by omega, by omega, by omega, fun d hd x hx => ?_⟩
          rcases hx with hx | rfl
          · exact ha x hx
          · exact hd
        · simp
          refine atI_any (by omega) (by simp; omega) fun d hd => h d ?_
          simp at hd
          rcases hd with rfl | rfl
          · exact fl_lst' ha
          · exact fl_tup' ha
/-! #### _law_variant -/
def F__law_variant : DF
  | [a, b], Q, _ => ∃ xs, a = .src ∧ b = .tup xs ∧ xs.length ≤ 1000 ∧ (∀ x ∈ xs, x.fl 8 = true) ∧ ∀ d : D, d.fl 12 = true → Q d
  | _, _, _ => False
def w__law_variant : WS := (wSeq (wOwn 2 (wListL (wCons (wVar 1) wNil)))
  (wSeq (wIf (wBLock 2 (wB (wBin fEq (wVar 2) (wLst wNil)))) (wRet (wTup (wCons (wCall 2 F__law_any_value (wCons (wVar 0) (wCons (wC (.int 1)) wNil))) wNil))) wSkip)
  (wSeq (wPar 3 4 (wCons (wCall 2 F__law_pick (wCons (wVar 0) (wCons (wLock 2 (wCB fLen (wCons (wVar 2) wNil))) wNil))) (wCons (wCall 2 F__law_pick (wCons (wVar 0) (wCons (wC (.int 7)) wNil))) wNil)))
  (wSeq (wIf (wB (wBin fEq (wVar 4) (wC (.int 0)))) (wPopAt 2 (wVar 3)) (wIf (wB (wBin fEq (wVar 4) (wC (.int 1)))) (wIns 2 (wCons (wVar 3) (wCons (wIxO 2 (wVar 3)) wNil))) (wIf (wB (wBin fEq (wVar 4) (wC (.int 2)))) (wSlSto 2 (wSo (wVar 3)) (wSo (wBin fAdd (wVar 3) (wC (.int 2)))) (wRevL (wSlO 2 (wSo (wVar 3)) (wSo (wBin fAdd (wVar 3) (wC (.int 2))))))) (wIf (wB (wBin fEq (wVar 4) (wC (.int 3)))) (wSto 2 (wVar 3) (wCall 2 F__law_any_value (wCons (wVar 0) (wCons (wC (.int 2)) wNil)))) (wIf (wB (wBin fEq (wVar 4) (wC (.int 4)))) (wSeq (wAsg (wLst (wCons (wC (.str "Right")) (wCons (wC (.str "column 4")) (wCons (wC (.str "column")) (wCons (wC (.str "wheel")) (wCons (wC (.str "")) (wCons (wC (.str "right ")) (wCons (wC .non) (wCons (wC (.bl true)) (wCons (wC (.int 0)) (wCons (wTup (wCons (wC (.str "right")) wNil)) (wCons (wC (.str "halt")) (wCons (wC (.int 1)) wNil))))))))))))) (gN 5))
  (wSto 2 (wVar 3) (wCall 2 F__law_chosen (wCons (wVar 0) (wCons (wVar 5) wNil))))) (wIf (wB (wBin fEq (wVar 4) (wC (.int 5)))) (wFrzM 2 (wAsg (wBin fAdd (wVar 2) (wVar 2)) (gN 2))) (wRetOwn 2)))))))
  (wFrzM 2 (wRet (wCB fTuple (wCons (wVar 2) wNil))))))))
def N__law_variant : List Str := ["source", "value", "items", "at", "kind", "near"]
theorem sp__law_variant : ∀ ds Q E, ds.length = 2 → F__law_variant ds Q E → w__law_variant (fun _ => Q .non) Q Ev0 (startG N__law_variant ds) := by
  intro ds Q E hl h
  match ds, h with
  | [a, b], ⟨xs, e1, e2, hz, hx, h⟩ =>
    subst e1 e2
    simp only [w__law_variant, N__law_variant, startG]
    have hl1 : (D.lst xs).fl 12 = true := fl_lst' fun x h => fl_le (by decide) (hx x h)
    have hl2 : (D.lst []).fl 12 = true := rfl
    have out : ∀ ys : List D, (∀ y ∈ ys, y.fl 8 = true) → Q (.tup ys) := fun ys hy => h _ (fl_tup' fun y z => fl_le (by decide) (hy y z))
    simp [F__law_pick, hl1, hl2]
    rw [eq_nilL]
    cases xs with
    | nil => simp [FR__law_any_value]; exact ⟨1, rfl, by decide, fun d hd => out _ (by simpa using fl_le (by decide) hd)⟩
    | cons x0 xr =>
      generalize exs : x0 :: xr = xs at *
      have hp : 0 < xs.length := by rw [← exs]; simp
      have hne : xs.isEmpty = false := by rw [← exs]; rfl
      rw [hne]
      simp only [Bool.false_eq_true, if_false]
      refine ⟨hp, by omega, fun v v0 v1 u u0 u1 => ⟨_, _, ⟨rfl, rfl⟩, ?_⟩⟩
      obtain ⟨j, rfl⟩ := Int.eq_ofNat_of_zero_le v0
      have hj : j < xs.length := by omega
      have hat : atI xs (j : Int) = some xs[j] := atI_nat (List.getElem?_eq_getElem hj)
      have hix : ixN xs.length (j : Int) = some j := ixN_nat hj
      have hset : ∀ d : D, d.fl 8 = true → ∀ y ∈ xs.set j d, y.fl 8 = true := fun d hd y hy => by
        rcases List.mem_or_eq_of_mem_set hy with hy | rfl
        · exact hx y hy
        · exact hd
      simp [frzG, hat, hix]
      by_cases k0 : u = 0
      · rw [if_pos k0]
        exact ⟨j, rfl, hj, by omega, out _ fun y hy => hx y (List.mem_of_mem_eraseIdx hy)⟩
      rw [if_neg k0]
      by_cases k1 : u = 1
      · rw [if_pos k1]
        refine ⟨j, _, ⟨rfl, rfl⟩, by omega, by omega, out _ fun y hy => ?_⟩
        rcases List.mem_append.mp hy with hy | hy
        · exact hx y (List.mem_of_mem_take hy)
        · rcases List.mem_cons.mp hy with rfl | hy
          · exact hx _ (List.getElem_mem hj)
          · exact hx y (List.mem_of_mem_drop hy)
      rw [if_neg k1]
      by_cases k2 : u = 2
      · rw [if_pos k2]
        refine ⟨j, rfl, j + 2, by omega, by omega, by omega, by have := cutD_len xs (some (j : Int)) (some ((j : Int) + 2)); rw [sizeLine_eq]; omega, out _ fun y hy => ?_⟩
        rcases List.mem_append.mp hy with hy | hy
        · exact hx y (List.mem_of_mem_take hy)
        · rcases List.mem_append.mp hy with hy | hy
          · exact hx y (cutD_mem (List.mem_reverse.mp hy))
          · exact hx y (List.mem_of_mem_drop hy)
      rw [if_neg k2]
      by_cases k3 : u = 3
      · rw [if_pos k3]
        exact ⟨2, rfl, rfl, by decide, by decide, fun d hd => out _ (hset d (fl_le (by decide) hd))⟩
      rw [if_neg k3]
      by_cases k4 : u = 4
      · rw [if_pos k4]
        refine ⟨_, rfl, .inl rfl, by simp, by simp, fun d hd => out _ (hset d ?_)⟩
        refine fl_le (n := 1) (by decide) ?_
        revert d
        decide +kernel
      rw [if_neg k4]
      by_cases k5 : u = 5
      · rw [if_pos k5]
        refine ⟨by rw [sizeLine_eq]; omega, out _ fun y hy => ?_⟩
        rcases List.mem_append.mp hy with hy | hy <;> exact hx y hy
      · rw [if_neg k5]
        exact h _ hl1
/-! #### turns_of -/
def tOf (ws : List Wd) : Nat := (ws.map Wd.trn).sum % 4
theorem tOf_lt (ws : List Wd) : tOf ws < 4 := Nat.mod_lt _ (by decide)
def F_turns_of : DF
  | [d], Q, _ => ∃ ws, d = rowD ws ∧ ws.length ≤ 1000 ∧ Q (.int (tOf ws))
  | _, _, _ => False
theorem look_trn (w : Wd) : kget k_TURNS w.nm (.int 0) = .int w.trn := by cases w <;> rfl
theorem sum_cast : ∀ ws : List Wd, (ws.map fun w => (w.trn : Int)).sum = ((ws.map Wd.trn).sum : Nat)
  | [] => rfl
  | w :: ws => by simp [sum_cast ws]
def w_turns_of : WS := (wRet (wBin fMod (wCB fSum (wCons (wLc [1] (wIt (wVar 0)) (gN 1) wYes (wBin (fKGet k_TURNS) (wVar 1) (wC (.int 0)))) wNil)) (wC (.int 4))))
def N_turns_of : List Str := ["row", "word"]
theorem sp_turns_of : ∀ ds Q E, ds.length = 1 → F_turns_of ds Q E → w_turns_of (fun _ => Q .non) Q Ev0 (startG N_turns_of ds) := by
  intro ds Q E hl h
  match ds, h with
  | [d], ⟨ws, e, h8, h⟩ =>
    subst e
    simp only [w_turns_of, N_turns_of, startG]
    simp [rowD]
    refine lcD_map (fun d => match d with | .str z => kget k_TURNS z (.int 0) | _ => .non) (by simp; omega) (fun d hd Qt hq => ?_) ?_
    · obtain ⟨w, _, rfl⟩ := List.mem_map.mp hd
      simpa [wipeG, wD] using hq
    · have e : ((ws.map wD).map fun d => match d with | .str z => kget k_TURNS z (.int 0) | _ => .non) = ws.map fun w => D.int (w.trn : Int) := by
        rw [List.map_map]
        exact List.map_congr_left fun w _ => look_trn w
      rw [e]
      simp [ints_mapf (fun w : Wd => (w.trn : Int)), sum_cast]
      have : ((tOf ws : Nat) : Int) = ((ws.map Wd.trn).sum : Nat) % 4 := by unfold tOf; omega
      rw [← this]
      exact h
/-! #### facing -/
def wayD (k : Nat) : D := [D.str "north", .str "east", .str "south", .str "west"].getD k .non
theorem way_at {k : Nat} (h : k < 4) : atI [D.str "north", .str "east", .str "south", .str "west"] (k : Int) = some (wayD k) := by
  match k, h with
  | 0, _ => rfl
  | 1, _ => rfl
  | 2, _ => rfl
  | 3, _ => rfl
  | k + 4, h => omega
def F_facing : DF
  | [d], Q, _ => ∃ ws, d = rowD ws ∧ Row ws ∧ Q (wayD (tOf ws))
  | _, _, _ => False
def w_facing : WS := (wSeq (wDrop (wCall 1 F_require_row (wCons (wVar 0) wNil)))
  (wRet (wBin fIx (wC (.tup [(.str "north"), (.str "east"), (.str "south"), (.str "west")])) (wCall 1 F_turns_of (wCons (wVar 0) wNil)))))
def N_facing : List Str := ["row"]
theorem sp_facing : ∀ ds Q E, ds.length = 1 → F_facing ds Q E → w_facing (fun _ => Q .non) Q Ev0 (startG N_facing ds) := by
  intro ds Q E hl h
  match ds, h with
  | [d], ⟨ws, e, hR, h⟩ =>
    subst e
    simp only [w_facing, N_facing, startG]
    simp [F_turns_of, okV_row, isRowD_row hR]
    exact ⟨ws, rfl, by have := hR.1; omega, _, way_at (tOf_lt ws), h⟩
/-! #### _law_turns -/
def F__law_turns : DF
  | [d], Q, _ => ∃ ws, d = rowD ws ∧ ws.length ≤ 1000 ∧ Q (.int (tOf ws))
  | _, _, _ => False
def trnTo (ws : List Wd) : Nat := (ws.map Wd.trn).sum
theorem trnTo_take (ws : List Wd) (i : Nat) (w : Wd) (h : ws[i]? = some w) : trnTo (ws.take (i + 1)) = trnTo (ws.take i) + w.trn := by
  unfold trnTo
  rw [List.take_add_one, h, List.map_append, List.sum_append]
  simp
def w__law_turns : WS := (wSeq (wAsg (wC (.int 0)) (gN 1))
  (wSeq (wFor (wIt (wVar 0)) (gN 2) (wIf (wB (wBin fIn (wVar 2) (wTup (wCons (wC (.str "right")) (wCons (wC (.str "wheel right")) wNil))))) (wAsg (wBin fAdd (wVar 1) (wC (.int 1))) (gN 1)) (wIf (wB (wBin fIn (wVar 2) (wTup (wCons (wC (.str "left")) (wCons (wC (.str "wheel left")) wNil))))) (wAsg (wBin fAdd (wVar 1) (wC (.int 3))) (gN 1)) (wIf (wB (wBin fEq (wVar 2) (wC (.str "about")))) (wAsg (wBin fAdd (wVar 1) (wC (.int 2))) (gN 1)) wSkip))))
  (wRet (wBin fMod (wCB fInt (wCons (wVar 1) wNil)) (wC (.int 4))))))
def N__law_turns : List Str := ["words", "found", "word"]
theorem sp__law_turns : ∀ ds Q E, ds.length = 1 → F__law_turns ds Q E → w__law_turns (fun _ => Q .non) Q Ev0 (startG N__law_turns ds) := by
  intro ds Q E hl h
  match ds, h with
  | [d], ⟨ws, e, h8, h⟩ =>
    subst e
    simp only [w__law_turns, N__law_turns, startG]
    simp [rowD]
    refine ⟨fun i Γ => ∃ x, Γ = [.dat (rowD ws), .dat (.int (trnTo (ws.take i))), x], ⟨_, rfl⟩, fun i d Γ' hd hI => ?_, fun Γ' hI => ?_⟩
    · obtain ⟨x, rfl⟩ := hI
      obtain ⟨w, ew, rfl⟩ := rowD_get hd
      have h1 := fl_w w 12
      have h4 : (wD w).flat = true := rfl
      have h5 : ∀ z : Str, (D.str z).flat = true := fun _ => rfl
      have e1 : D.inl (wD w) [.str "right", .str "wheel right"] = decide (w.trn = 1) := by cases w <;> decide +kernel
      have e2 : D.inl (wD w) [.str "left", .str "wheel left"] = decide (w.trn = 3) := by cases w <;> decide +kernel
      have e3 : D.eq (wD w) (.str "about") = decide (w.trn = 2) := by cases w <;> decide +kernel
      have h3 : (D.str "about").fl 12 = true := by decide +kernel
      simp [h1, h3, h4, h5, e1, e2, e3, trnTo_take ws i w ew]
      cases w <;> simp [Wd.trn]
    · obtain ⟨x, rfl⟩ := hI
      rw [List.length_map, List.take_length]
      have : ((tOf ws : Nat) : Int) = (trnTo ws : Int) % 4 := by unfold tOf trnTo; omega
      rw [this] at h
      simpa using h
/-! #### _law_way -/
def F__law_way : DF
  | [d], Q, _ => ∃ ws, d = rowD ws ∧ ws.length ≤ 1000 ∧ Q (wayD (tOf ws))
  | _, _, _ => False
def w__law_way : WS := (wRet (wBin fIx (wLst (wCons (wC (.str "north")) (wCons (wC (.str "east")) (wCons (wC (.str "south")) (wCons (wC (.str "west")) wNil))))) (wCall 1 F__law_turns (wCons (wVar 0) wNil))))
def N__law_way : List Str := ["words"]
theorem sp__law_way : ∀ ds Q E, ds.length = 1 → F__law_way ds Q E → w__law_way (fun _ => Q .non) Q Ev0 (startG N__law_way ds) := by
  intro ds Q E hl h
  match ds, h with
  | [d], ⟨ws, e, h8, h⟩ =>
    subst e
    simp [w__law_way, N__law_way, startG, F__law_turns]
    exact ⟨ws, rfl, h8, _, way_at (tOf_lt ws), h⟩
/-! #### _law_period -/
def F__law_period : DF
  | [d], Q, _ => ∃ ws, d = rowD ws ∧ ws.length ≤ 8 ∧ Q (.int (pOf ws))
  | _, _, _ => False
def w__law_period : WS := (wSeq (wAsg (wC (.int 1)) (gN 1))
  (wSeq (wFor (wIt (wVar 0)) (gN 2) (wAsg (wBin fMul (wVar 1) (wCall 1 F__law_factor (wCons (wVar 2) wNil))) (gN 1)))
  (wRet (wVar 1))))
def N__law_period : List Str := ["words", "found", "word"]
theorem sp__law_period : ∀ ds Q E, ds.length = 1 → F__law_period ds Q E → w__law_period (fun _ => Q .non) Q Ev0 (startG N__law_period ds) := by
  intro ds Q E hl h
  match ds, h with
  | [d], ⟨ws, e, h8, h⟩ =>
    subst e
    simp only [w__law_period, N__law_period, startG]
    simp [rowD]
    refine ⟨fun i Γ => ∃ x, Γ = [.dat (rowD ws), .dat (.int (pOf (ws.take i))), x], ⟨_, rfl⟩, fun i d Γ' hd hI => ?_, fun Γ' hI => ?_⟩
    · obtain ⟨x, rfl⟩ := hI
      obtain ⟨w, ew, rfl⟩ := rowD_get hd
      have hb := pOf_le ws i
      have hf := fac_le w
      have hi : i < ws.length := (List.getElem?_eq_some_iff.mp ew).1
      have : 3 ^ i ≤ 3 ^ 8 := Nat.pow_le_pow_right (by decide) (by omega)
      simp [F__law_factor]
      exact ⟨w, rfl, ⟨.of (by omega) (by omega), .of (by omega) (by omega)⟩, by rw [pOf_take ws i w ew]; simp⟩
    · obtain ⟨x, rfl⟩ := hI
      rw [List.length_map, List.take_length]
      simpa using h
/-! #### _law_is_bool -/
@[simp] def F__law_is_bool : DF
  | [.bl a, .bl b], Q, _ => Q (.bl (a == b))
  | _, _, _ => False
def w__law_is_bool : WS := (wRet (wAnd (wCB fIsi (wCons (wVar 0) (wCons (wC (.ty "bool")) wNil))) (wBin fEq (wVar 0) (wVar 1))))
def N__law_is_bool : List Str := ["actual", "expected"]
theorem sp__law_is_bool : ∀ ds Q E, ds.length = 2 → F__law_is_bool ds Q E → w__law_is_bool (fun _ => Q .non) Q Ev0 (startG N__law_is_bool ds) := by
  intro ds Q E hl h
  match ds, h with
  | [.bl a, .bl b], h =>
    have e : D.eq (.bl a) (.bl b) = (a == b) := by cases a <;> cases b <;> rfl
    simpa [w__law_is_bool, N__law_is_bool, startG, D.noTy, D.isi, isiN, D.tn, D.fl, e] using h
/-! #### law -/
theorem seven_w (d : D) (h : d.fl 12 = true) : okV d = true := h
def w_law : WS := (wSeq (wFor (wRange1 (wCons (wCB fMax (wCons (wC (.int 6)) (wCons (wCB fMin (wCons (wC (.int 20)) (wCons (wCB fLen (wCons (wVar 0) wNil)) wNil))) wNil))) wNil)) (gN 1) (wSeq (wAsg (wCall 2 F__law_source (wCons (wVar 0) (wCons (wVar 1) wNil))) (gN 2))
  (wFor (wRange1 (wCons (wC (.int 5)) wNil)) (gN 3) (wSeq (wAsg (wCall 2 F__law_row (wCons (wVar 2) (wCons (wC (.int 8)) wNil))) (gN 4))
  (wSeq (wIf (wBor (wB (wBin fNe (wCall 1 F_facing (wCons (wVar 4) wNil)) (wCall 1 F__law_way (wCons (wVar 4) wNil)))) (wB (wBin fNe (wCall 1 F_period (wCons (wVar 4) wNil)) (wCall 1 F__law_period (wCons (wVar 4) wNil))))) (wRet (wC (.bl false))) wSkip)
  (wSeq (wAsg (wCB fTuple (wCons (wLc [8] (wRange1 (wCons (wCall 2 F__law_pick (wCons (wVar 2) (wCons (wC (.int 10)) wNil))) wNil)) (gN 8) wYes (wCall 2 F__law_chosen (wCons (wVar 2) (wCons (wCall 0 F__law_all_words wNil) wNil)))) wNil)) (gN 5))
  (wFor (wIt (wLst (wCons (wVar 4) (wCons (wVar 5) (wCons (wCall 2 F__law_variant (wCons (wVar 2) (wCons (wVar 4) wNil))) (wCons (wCall 2 F__law_any_value (wCons (wVar 2) (wCons (wC (.int 3)) wNil))) (wCons (wCB fList (wCons (wVar 4) wNil)) wNil))))))) (gN 6) (wIf (wBnot (wB (wCall 2 F__law_is_bool (wCons (wCall 1 F_is_row (wCons (wVar 6) wNil)) (wCons (wCall 1 F__law_is_good_row (wCons (wVar 6) wNil)) wNil))))) (wRet (wC (.bl false))) wSkip))))))))
  (wSeq (wFor (wIt (wCall 0 F__law_all_words wNil)) (gN 7) (wIf (wBor (wB (wBin fNis (wCall 1 F_is_row (wCons (wTup (wCons (wVar 7) wNil)) wNil)) (wC (.bl true)))) (wBor (wB (wBin fNis (wCall 1 F_is_row (wCons (wVar 7) wNil)) (wC (.bl false)))) (wB (wBin fNis (wCall 1 F_is_row (wCons (wTup (wCons (wBin fAdd (wVar 7) (wC (.str " "))) wNil)) wNil)) (wC (.bl false)))))) (wRet (wC (.bl false))) wSkip))
  (wSeq (wIf (wBor (wB (wBin fNis (wCall 1 F_is_row (wCons (wBin fMul (wTup (wCons (wC (.str "line")) wNil)) (wC (.int 9))) wNil)) (wC (.bl false)))) (wBor (wB (wBin fNis (wCall 1 F_is_row (wCons (wBin fMul (wTup (wCons (wC (.str "double")) wNil)) (wC (.int 3))) wNil)) (wC (.bl false)))) (wB (wBin fNis (wCall 1 F_is_row (wCons (wBin fMul (wTup (wCons (wC (.str "line")) wNil)) (wC (.int 8))) wNil)) (wC (.bl true)))))) (wRet (wC (.bl false))) wSkip)
  (wRet (wAnd (wBin fNis (wCall 1 F_is_row (wCons (wTup (wCons (wC (.str "double")) (wCons (wC (.str "column 2")) (wCons (wC (.str "undouble")) wNil)))) wNil)) (wC (.bl true))) (wBin fEq (wCall 1 F_period (wCons (wTup (wCons (wC (.str "column 3")) (wCons (wC (.str "column 3")) wNil))) wNil)) (wC (.int 9))))))))
def N_law : List Str := ["script", "k", "source", "turn", "words", "more", "value", "word", "at"]
theorem sp_law : ∀ ns : List Int, ns.length ≤ 63 → w_law (fun _ => False) (fun d => d = .bl true) Ev0 (startG N_law [.lst (ns.map D.int)]) := by
  intro ns hn
  simp only [w_law, N_law, startG]
  simp
  generalize hm : (if 6 < if (ns.length : Int) < 20 then (ns.length : Int) else 20 then if (ns.length : Int) < 20 then (ns.length : Int) else 20 else 6) = m
  have m0 : 6 ≤ m ∧ m ≤ 20 := by
    rw [← hm]
    split <;> split at * <;> omega
  refine ⟨⟨by omega, by omega⟩, ?_⟩
  refine ⟨fun i Γ => ∃ a b c d e f g h, Γ = [.dat (.lst (ns.map D.int)), a, b, c, d, e, f, g, h], ⟨_, _, _, _, _, _, _, _, rfl⟩, fun i d Γ' hd hI => ?_, fun Γ' hI => ?_⟩
  · obtain ⟨_, _, _, _, _, _, _, _, rfl⟩ := hI
    obtain ⟨hi, rfl⟩ := rangeL_get hd
    simp
    refine F_src (by omega) ?_
    refine ⟨fun i Γ => ∃ a c d e f g h, Γ = [.dat (.lst (ns.map D.int)), a, .dat .src, c, d, e, f, g, h], ⟨_, _, _, _, _, _, _, rfl⟩, fun i d Γ' hd hI => ?_, fun Γ' hI => ?_⟩
    · obtain ⟨_, _, _, _, _, _, _, rfl⟩ := hI
      simp [F__law_row, F_facing, F__law_way]
      intro ws hR hw
      refine ⟨ws, rfl, hR, ws, rfl, by omega, ?_⟩
      have e1 : (wayD (tOf ws)).fl 12 = true := by
        have := tOf_lt ws
        match tOf ws, this with
        | 0, _ => decide +kernel
        | 1, _ => decide +kernel
        | 2, _ => decide +kernel
        | 3, _ => decide +kernel
        | k + 4, h => omega
      have e2 : D.eq (wayD (tOf ws)) (wayD (tOf ws)) = true := by
        have := tOf_lt ws
        match tOf ws, this with
        | 0, _ => decide +kernel
        | 1, _ => decide +kernel
        | 2, _ => decide +kernel
        | 3, _ => decide +kernel
        | k + 4, h => omega
      refine ⟨e1, e1, e2, ?_⟩
      simp [F_period, F__law_period]
      refine ⟨ws, rfl, hR, ws, rfl, hR.1, ?_⟩
      simp [F__law_pick]
      intro v v0 v1
      refine ⟨⟨by omega, by omega⟩, by rw [rangeL_len]; omega, fun i acc => ∃ us : List Wd, acc = us.map wD, ⟨[], rfl⟩, fun i acc d _ ha => ?_, fun acc ha => ?_⟩
      · obtain ⟨us, rfl⟩ := ha
        simp [wipeG, F__law_chosen]
        exact ⟨by simp [allW], by simp [allW], fun w _ => ⟨us ++ [w], by simp⟩⟩
      · obtain ⟨us, rfl⟩ := ha
        simp [F__law_variant]
        refine ⟨ws.map wD, rfl, by simp; omega, fun x hx => ?_, fun dv hv => ?_⟩
        · obtain ⟨w, _, rfl⟩ := List.mem_map.mp hx
          exact fl_w w _
        simp [FR__law_any_value]
        refine ⟨3, rfl, by decide, fun da hda => ?_⟩
        simp [rowD]
        have all5 : ∀ d ∈ [rowD ws, rowD us, dv, da, .lst (ws.map wD)], okV d = true := by
          intro d hd
          simp at hd
          rcases hd with rfl | rfl | rfl | rfl | rfl
          · exact okV_row _
          · exact okV_row _
          · exact hv
          · exact fl_le (by decide) hda
          · exact fl_lst' fun x hx => by
              obtain ⟨w, _, rfl⟩ := List.mem_map.mp hx
              exact fl_w w _
        refine ⟨fun i Γ => ∃ a c d e f g h, Γ = [.dat (.lst (ns.map D.int)), a, .dat .src, c, d, e, f, g, h], ⟨_, _, _, _, _, _, _, rfl⟩, fun i d Γ' hd hI => ?_, fun Γ' hI => ?_⟩
        · obtain ⟨_, _, _, _, _, _, _, rfl⟩ := hI
          have hok := all5 d (List.mem_of_getElem? hd)
          simp [hok]
        · obtain ⟨_, _, _, _, _, _, _, rfl⟩ := hI
          simp
    · obtain ⟨_, _, _, _, _, _, _, rfl⟩ := hI
      simp
  · obtain ⟨_, _, _, _, _, _, _, _, rfl⟩ := hI
    simp
    refine ⟨fun i Γ => ∃ b c d e f g h i, Γ = [.dat (.lst (ns.map D.int)), b, c, d, e, f, g, h, i], ⟨_, _, _, _, _, _, _, _, rfl⟩, fun i d Γ' hd hI => ?_, fun Γ' hI => ?_⟩
    · obtain ⟨_, _, _, _, _, _, _, _, rfl⟩ := hI
      rw [List.getElem?_map] at hd
      cases ew : allW[i]? with
      | none => rw [ew] at hd; cases hd
      | some w =>
        rw [ew] at hd
        cases hd
        have e1 : okV (.tup [wD w]) = true := okV_row [w]
        have e2 : isRowD (.tup [wD w]) = true := by cases w <;> decide +kernel
        have e3 : okV (wD w) = true := fl_w w _
        have e4 : isRowD (wD w) = false := rfl
        simp [e1, e2, e3, e4]
        simp only [wD, fAdd_2]
        refine ⟨by rw [sizeLine_eq]; cases w <;> decide, ?_, ?_⟩
        · cases w <;> decide +kernel
        · cases w <;> decide +kernel
    · obtain ⟨_, _, _, _, _, _, _, _, rfl⟩ := hI
      simp
      refine ⟨by decide +kernel, by decide +kernel, by decide +kernel, by decide +kernel, by decide +kernel, by decide +kernel, by decide +kernel, by decide +kernel, ?_⟩
      exact ⟨[.col3, .col3], rfl, ⟨by decide, by decide⟩, rfl, rfl⟩
/-! ### the text -/
def topS (i : Nat) : Stmt := PySem.Challenge.pw_squadwords_k01_rows_ways_and_periods.main.body.getD i (.Pass ⟨0, 0, 0, 0⟩)
abbrev s__law_all_words : Stmt := topS 24
theorem sc__law_all_words : FnScope N__law_all_words [] (defScope s__law_all_words) := ⟨rfl, rfl, rfl, by decide +kernel, rfl, by decide +kernel, by decide +kernel⟩
abbrev s__law_source : Stmt := topS 18
theorem sc__law_source : FnScope N__law_source ["script", "k"] (defScope s__law_source) := ⟨rfl, rfl, rfl, by decide +kernel, rfl, by decide +kernel, by decide +kernel⟩
abbrev s__law_pick : Stmt := topS 19
theorem sc__law_pick : FnScope N__law_pick ["source", "limit"] (defScope s__law_pick) := ⟨rfl, rfl, rfl, by decide +kernel, rfl, by decide +kernel, by decide +kernel⟩
abbrev s__law_chosen : Stmt := topS 21
theorem sc__law_chosen : FnScope N__law_chosen ["source", "some"] (defScope s__law_chosen) := ⟨rfl, rfl, rfl, by decide +kernel, rfl, by decide +kernel, by decide +kernel⟩
abbrev s__law_factor : Stmt := topS 25
theorem sc__law_factor : FnScope N__law_factor ["word"] (defScope s__law_factor) := ⟨rfl, rfl, rfl, by decide +kernel, rfl, by decide +kernel, by decide +kernel⟩
abbrev s__law_is_good_row : Stmt := topS 27
theorem sc__law_is_good_row : FnScope N__law_is_good_row ["value"] (defScope s__law_is_good_row) := ⟨rfl, rfl, rfl, by decide +kernel, rfl, by decide +kernel, by decide +kernel⟩
abbrev s__law_row : Stmt := topS 28
theorem sc__law_row : FnScope N__law_row ["source", "most"] (defScope s__law_row) := ⟨rfl, rfl, rfl, by decide +kernel, rfl, by decide +kernel, by decide +kernel⟩
abbrev s_is_word : Stmt := topS 10
theorem sc_is_word : FnScope N_is_word ["value"] (defScope s_is_word) := ⟨rfl, rfl, rfl, by decide +kernel, rfl, by decide +kernel, by decide +kernel⟩
abbrev s_is_row : Stmt := topS 11
theorem sc_is_row : FnScope N_is_row ["value"] (defScope s_is_row) := ⟨rfl, rfl, rfl, by decide +kernel, rfl, by decide +kernel, by decide +kernel⟩
abbrev s_require_row : Stmt := topS 12
theorem sc_require_row : FnScope N_require_row ["value"] (defScope s_require_row) := ⟨rfl, rfl, rfl, by decide +kernel, rfl, by decide +kernel, by decide +kernel⟩
abbrev s_period_of : Stmt := topS 13
theorem sc_period_of : FnScope N_period_of ["row"] (defScope s_period_of) := ⟨rfl, rfl, rfl, by decide +kernel, rfl, by decide +kernel, by decide +kernel⟩
abbrev s_period : Stmt := topS 16
theorem sc_period : FnScope N_period ["row"] (defScope s_period) := ⟨rfl, rfl, rfl, by decide +kernel, rfl, by decide +kernel, by decide +kernel⟩
abbrev s__law_any_value : Stmt := topS 22
theorem sc__law_any_value : FnScope N__law_any_value ["source", "depth"] (defScope s__law_any_value) := ⟨rfl, rfl, rfl, by decide +kernel, rfl, by decide +kernel, by decide +kernel⟩
abbrev s__law_variant : Stmt := topS 23
theorem sc__law_variant : FnScope N__law_variant ["source", "value"] (defScope s__law_variant) := ⟨rfl, rfl, rfl, by decide +kernel, rfl, by decide +kernel, by decide +kernel⟩
abbrev s_turns_of : Stmt := topS 14
theorem sc_turns_of : FnScope N_turns_of ["row"] (defScope s_turns_of) := ⟨rfl, rfl, rfl, by decide +kernel, rfl, by decide +kernel, by decide +kernel⟩
abbrev s_facing : Stmt := topS 15
theorem sc_facing : FnScope N_facing ["row"] (defScope s_facing) := ⟨rfl, rfl, rfl, by decide +kernel, rfl, by decide +kernel, by decide +kernel⟩
abbrev s__law_turns : Stmt := topS 29
theorem sc__law_turns : FnScope N__law_turns ["words"] (defScope s__law_turns) := ⟨rfl, rfl, rfl, by decide +kernel, rfl, by decide +kernel, by decide +kernel⟩
abbrev s__law_way : Stmt := topS 30
theorem sc__law_way : FnScope N__law_way ["words"] (defScope s__law_way) := ⟨rfl, rfl, rfl, by decide +kernel, rfl, by decide +kernel, by decide +kernel⟩
abbrev s__law_period : Stmt := topS 26
theorem sc__law_period : FnScope N__law_period ["words"] (defScope s__law_period) := ⟨rfl, rfl, rfl, by decide +kernel, rfl, by decide +kernel, by decide +kernel⟩
abbrev s__law_is_bool : Stmt := topS 20
theorem sc__law_is_bool : FnScope N__law_is_bool ["actual", "expected"] (defScope s__law_is_bool) := ⟨rfl, rfl, rfl, by decide +kernel, rfl, by decide +kernel, by decide +kernel⟩
abbrev s_law : Stmt := topS 31
theorem sc_law : FnScope N_law ["script"] (defScope s_law) := ⟨rfl, rfl, rfl, by decide +kernel, rfl, by decide +kernel, by decide +kernel⟩
structure Txt (K : PySem.W.Frag) (w : World) (mg : Str → Option Value) where
  b_len : mg "len" = none
  b_int : mg "int" = none
  b_tuple : mg "tuple" = none
  b_isinstance : mg "isinstance" = none
  b_str : mg "str" = none
  b_range : mg "range" = none
  b_all : mg "all" = none
  b_list : mg "list" = none
  b_sum : mg "sum" = none
  b_bool : mg "bool" = none
  b_min : mg "min" = none
  b_max : mg "max" = none
  g_WORDS : KG K mg "WORDS" (.tup [(.str "about"), (.str "change"), (.str "column 2"), (.str "column 3"), (.str "double"), (.str "left"), (.str "line"), (.str "right"), (.str "undouble"), (.str "wheel left"), (.str "wheel right")])
  g_MAX_WORDS : KG K mg "MAX_WORDS" (.int 8)
  g_MAX_SHAPES : KG K mg "MAX_SHAPES" (.int 2)
  g_WAYS : KG K mg "WAYS" (.tup [(.str "north"), (.str "east"), (.str "south"), (.str "west")])
  d_FACTORS : KD K w mg "FACTORS" k_FACTORS
  d_TURNS : KD K w mg "TURNS" k_TURNS
  f__law_all_words : Addr
  fd__law_all_words : FuncData
  F__law_all_words : Fun K "_law_all_words" "_law_all_words" s__law_all_words f__law_all_words fd__law_all_words
  m__law_all_words : mg "_law_all_words" = some (.ref f__law_all_words)
  B__law_all_words : Binds K fd__law_all_words [] []
  f__law_source : Addr
  fd__law_source : FuncData
  F__law_source : Fun K "_law_source" "_law_source" s__law_source f__law_source fd__law_source
  m__law_source : mg "_law_source" = some (.ref f__law_source)
  B__law_source : Binds K fd__law_source ["script", "k"] []
  f__law_pick : Addr
  fd__law_pick : FuncData
  F__law_pick : Fun K "_law_pick" "_law_pick" s__law_pick f__law_pick fd__law_pick
  m__law_pick : mg "_law_pick" = some (.ref f__law_pick)
  B__law_pick : Binds K fd__law_pick ["source", "limit"] []
  f__law_chosen : Addr
  fd__law_chosen : FuncData
  F__law_chosen : Fun K "_law_chosen" "_law_chosen" s__law_chosen f__law_chosen fd__law_chosen
  m__law_chosen : mg "_law_chosen" = some (.ref f__law_chosen)
  B__law_chosen : Binds K fd__law_chosen ["source", "some"] []
  f__law_factor : Addr
  fd__law_factor : FuncData
  F__law_factor : Fun K "_law_factor" "_law_factor" s__law_factor f__law_factor fd__law_factor
  m__law_factor : mg "_law_factor" = some (.ref f__law_factor)
  B__law_factor : Binds K fd__law_factor ["word"] []
  f__law_is_good_row : Addr
  fd__law_is_good_row : FuncData
  F__law_is_good_row : Fun K "_law_is_good_row" "_law_is_good_row" s__law_is_good_row f__law_is_good_row fd__law_is_good_row
  m__law_is_good_row : mg "_law_is_good_row" = some (.ref f__law_is_good_row)
  B__law_is_good_row : Binds K fd__law_is_good_row ["value"] []
  f__law_row : Addr
  fd__law_row : FuncData
  F__law_row : Fun K "_law_row" "_law_row" s__law_row f__law_row fd__law_row
  m__law_row : mg "_law_row" = some (.ref f__law_row)
  B__law_row : Binds K fd__law_row ["source", "most"] []
  f_is_word : Addr
  fd_is_word : FuncData
  F_is_word : Fun K "is_word" "is_word" s_is_word f_is_word fd_is_word
  m_is_word : mg "is_word" = some (.ref f_is_word)
  B_is_word : Binds K fd_is_word ["value"] []
  f_is_row : Addr
  fd_is_row : FuncData
  F_is_row : Fun K "is_row" "is_row" s_is_row f_is_row fd_is_row
  m_is_row : mg "is_row" = some (.ref f_is_row)
  B_is_row : Binds K fd_is_row ["value"] []
  f_require_row : Addr
  fd_require_row : FuncData
  F_require_row : Fun K "require_row" "require_row" s_require_row f_require_row fd_require_row
  m_require_row : mg "require_row" = some (.ref f_require_row)
  B_require_row : Binds K fd_require_row ["value"] []
  f_period_of : Addr
  fd_period_of : FuncData
  F_period_of : Fun K "period_of" "period_of" s_period_of f_period_of fd_period_of
  m_period_of : mg "period_of" = some (.ref f_period_of)
  B_period_of : Binds K fd_period_of ["row"] []
  f_period : Addr
  fd_period : FuncData
  F_period : Fun K "period" "period" s_period f_period fd_period
  m_period : mg "period" = some (.ref f_period)
  B_period : Binds K fd_period ["row"] []
  f__law_any_value : Addr
  fd__law_any_value : FuncData
  F__law_any_value : Fun K "_law_any_value" "_law_any_value" s__law_any_value f__law_any_value fd__law_any_value
  m__law_any_value : mg "_law_any_value" = some (.ref f__law_any_value)
  B__law_any_value : Binds K fd__law_any_value ["source", "depth"] []
  f__law_variant : Addr
  fd__law_variant : FuncData
  F__law_variant : Fun K "_law_variant" "_law_variant" s__law_variant f__law_variant fd__law_variant
  m__law_variant : mg "_law_variant" = some (.ref f__law_variant)
  B__law_variant : Binds K fd__law_variant ["source", "value"] []
  f_turns_of : Addr
  fd_turns_of : FuncData
  F_turns_of : Fun K "turns_of" "turns_of" s_turns_of f_turns_of fd_turns_of
  m_turns_of : mg "turns_of" = some (.ref f_turns_of)
  B_turns_of : Binds K fd_turns_of ["row"] []
  f_facing : Addr
  fd_facing : FuncData
  F_facing : Fun K "facing" "facing" s_facing f_facing fd_facing
  m_facing : mg "facing" = some (.ref f_facing)
  B_facing : Binds K fd_facing ["row"] []
  f__law_turns : Addr
  fd__law_turns : FuncData
  F__law_turns : Fun K "_law_turns" "_law_turns" s__law_turns f__law_turns fd__law_turns
  m__law_turns : mg "_law_turns" = some (.ref f__law_turns)
  B__law_turns : Binds K fd__law_turns ["words"] []
  f__law_way : Addr
  fd__law_way : FuncData
  F__law_way : Fun K "_law_way" "_law_way" s__law_way f__law_way fd__law_way
  m__law_way : mg "_law_way" = some (.ref f__law_way)
  B__law_way : Binds K fd__law_way ["words"] []
  f__law_period : Addr
  fd__law_period : FuncData
  F__law_period : Fun K "_law_period" "_law_period" s__law_period f__law_period fd__law_period
  m__law_period : mg "_law_period" = some (.ref f__law_period)
  B__law_period : Binds K fd__law_period ["words"] []
  f__law_is_bool : Addr
  fd__law_is_bool : FuncData
  F__law_is_bool : Fun K "_law_is_bool" "_law_is_bool" s__law_is_bool f__law_is_bool fd__law_is_bool
  m__law_is_bool : mg "_law_is_bool" = some (.ref f__law_is_bool)
  B__law_is_bool : Binds K fd__law_is_bool ["actual", "expected"] []
  f_law : Addr
  fd_law : FuncData
  F_law : Fun K "law" "law" s_law f_law fd_law
  m_law : mg "law" = some (.ref f_law)
  B_law : Binds K fd_law ["script"] []
section
variable {P : Program} {w : World} {K : PySem.W.Frag} {mg : Str → Option Value} {base : Heap}
theorem ok__law_all_words (T : Txt K w mg) : FnOk P w K mg base CX0 2 T.f__law_all_words T.fd__law_all_words [] (spD K 0 F__law_all_words) :=
  fn_pd T.F__law_all_words sc__law_all_words sp__law_all_words fun cdv A outer s H E hr =>
    ((ss_cons (s_set (i := 0) sc__law_all_words.nd rfl (by first | exact Or.inl rfl | exact Or.inr rfl) (d_lst (da_cons d_str (da_cons d_str (da_cons d_str (da_cons d_str (da_cons d_str (da_cons d_str (da_cons d_str (da_cons d_str da_nil))))))))))
    (ss_one (s_ret (d_op op_addD fr_add (d_var 0) (d_lst (da_cons d_str (da_cons d_str (da_cons d_str da_nil)))))))))
theorem ok__law_source (T : Txt K w mg) : FnOk P w K mg base CX0 2 T.f__law_source T.fd__law_source ["script", "k"] (spD K 2 F__law_source) :=
  fn_pd T.F__law_source sc__law_source sp__law_source fun cdv A outer s H E hr =>
    ((ss_cons (s_set (i := 2) sc__law_source.nd rfl (by first | exact Or.inl rfl | exact Or.inr rfl) d_int)
    (ss_cons (s_if (t_cmp op_lt fr_icmp (d_var 1) (d_callB call_lenD' fc_len rfl T.b_len (by decide +kernel) (da_cons (d_var 0) da_nil)) (nomark _)) (ss_one (s_set (i := 2) sc__law_source.nd rfl (by first | exact Or.inl rfl | exact Or.inr rfl) (d_ix ix_D fr_ix (d_var 0) (d_var 1) (fun _ _ => rfl)))) ss_nil)
    (ss_cons (s_set (i := 3) sc__law_source.nd rfl (by first | exact Or.inl rfl | exact Or.inr rfl) (d_lst (da_cons d_int (da_cons d_int (da_cons d_int (da_cons d_int (da_cons d_int (da_cons d_int (da_cons d_int (da_cons d_int da_nil))))))))))
    (ss_cons (s_set (i := 4) sc__law_source.nd rfl (by first | exact Or.inl rfl | exact Or.inr rfl) (d_op op_modD fr_mod (d_callTy call_int1 fc_int rfl T.b_int (by decide +kernel) (da_cons (d_op op_mulD fr_mul (d_op op_addD fr_add (d_op op_modD fr_mod (d_callTy call_int1 fc_int rfl T.b_int (by decide +kernel) (da_cons (d_var 2) da_nil)) d_int) d_int) (d_op op_addD fr_add d_int (d_op op_mulD fr_mul d_int (d_var 1)))) da_nil)) d_int))
    (ss_cons (s_set (i := 4) sc__law_source.nd rfl (by first | exact Or.inl rfl | exact Or.inr rfl) (d_op op_addD fr_add (d_op op_addD fr_add (d_op op_modD fr_mod (d_callTy call_int1 fc_int rfl T.b_int (by decide +kernel) (da_cons (d_op op_mulD fr_mul (d_var 4) (d_var 4)) da_nil)) d_int) (d_var 1)) d_int))
    (ss_cons (s_if (t_cmp op_ge fr_icmp (d_var 2) (d_op op_pow fr_pow d_int d_int) (nomark _)) (ss_one (s_retSrc (da_cons (d_var 2) (da_cons (d_var 4) (da_cons (d_ix ix_D fr_ix (d_var 3) (d_op op_modD fr_mod (d_callTy call_int1 fc_int rfl T.b_int (by decide +kernel) (da_cons (d_var 1) da_nil)) d_int) (fun _ _ => rfl)) da_nil))))) ss_nil)
    (ss_one (s_retSrc (da_cons d_int (da_cons (d_var 4) (da_cons (d_ix ix_D fr_ix (d_var 3) (d_op op_modD fr_mod (d_callTy call_int1 fc_int rfl T.b_int (by decide +kernel) (da_cons (d_var 1) da_nil)) d_int) (fun _ _ => rfl)) da_nil))))))))))))
theorem ok__law_pick (T : Txt K w mg) : FnOk P w K mg base CX0 2 T.f__law_pick T.fd__law_pick ["source", "limit"] (spD K 2 F__law_pick) :=
  fn_pd T.F__law_pick sc__law_pick sp__law_pick fun cdv A outer s H E hr =>
    ((ss_cons (s_if (t_cmp op_gt fr_icmp (d_srcIx 0) d_int (nomark _)) (ss_cons (s_set (i := 2) sc__law_pick.nd rfl (by first | exact Or.inl rfl | exact Or.inr rfl) (d_op op_modD fr_mod (d_callTy call_int1 fc_int rfl T.b_int (by decide +kernel) (da_cons (d_srcIx 0) da_nil)) (d_var 1)))
    (ss_cons (s_srcSt 0 (d_op op_divD fr_div (d_srcIx 0) (d_var 1)))
    (ss_one (s_ret (d_var 2))))) ss_nil)
    (ss_cons (s_srcSt 0 (d_op op_addD fr_add (d_op op_modD fr_mod (d_callTy call_int1 fc_int rfl T.b_int (by decide +kernel) (da_cons (d_op op_mulD fr_mul (d_srcIx 0) d_int) da_nil)) (d_srcIx 0)) d_int))
    (ss_one (s_ret (d_op op_modD fr_mod (d_callTy call_int1 fc_int rfl T.b_int (by decide +kernel) (da_cons (d_op op_divD fr_div (d_op op_modD fr_mod (d_callTy call_int1 fc_int rfl T.b_int (by decide +kernel) (da_cons (d_op op_mulD fr_mul (d_srcIx 0) (d_srcIx 0)) da_nil)) d_int) d_int) da_nil)) (d_var 1)))))))
theorem ok__law_chosen (T : Txt K w mg) : FnOk P w K mg base CX0 3 T.f__law_chosen T.fd__law_chosen ["source", "some"] (spD K 2 F__law_chosen) :=
  fn_pd T.F__law_chosen sc__law_chosen sp__law_chosen fun cdv A outer s H E hr =>
    ((ss_one (s_ret (d_ix ix_D fr_ix (d_var 1) (d_call (ok__law_pick T) (hr.mono (by omega)) rfl T.m__law_pick T.F__law_pick.kp T.B__law_pick passZ (da_cons (d_var 0) (da_cons (d_callB call_lenD' fc_len rfl T.b_len (by decide +kernel) (da_cons (d_var 1) da_nil)) da_nil))) (fun _ _ => rfl)))))
theorem ok__law_factor (T : Txt K w mg) : FnOk P w K mg base CX0 2 T.f__law_factor T.fd__law_factor ["word"] (spD K 1 F__law_factor) :=
  fn_pd T.F__law_factor sc__law_factor sp__law_factor fun cdv A outer s H E hr =>
    ((ss_cons (s_if (t_cmp (op_eqD (hu64 hr)) fr_eq (d_var 0) d_str (nomark _)) (ss_one (s_ret d_int)) ss_nil)
    (ss_one (s_ret (d_ife (t_cmp (op_inDD (hu65 hr)) fr_in (d_var 0) (d_tup (da_cons d_str (da_cons d_str (da_cons d_str da_nil)))) (by rfl)) d_int d_int)))))
theorem ok__law_is_good_row (T : Txt K w mg) : FnOk P w K mg base CX0 3 T.f__law_is_good_row T.fd__law_is_good_row ["value"] (spD K 1 F__law_is_good_row) :=
  fn_pd T.F__law_is_good_row sc__law_is_good_row sp__law_is_good_row fun cdv A outer s H E hr =>
    ((ss_cons (s_if (PW.pt (t_or (t_not (t_val (d_callB call_isi fc_isi rfl T.b_isinstance (by decide +kernel) (da_cons (d_var 0) (da_cons (d_type rfl T.b_tuple (by decide +kernel)) da_nil))))) (t_or1 (t_cmp op_gt fr_icmp (d_callB call_lenD' fc_len rfl T.b_len (by decide +kernel) (da_cons (d_var 0) da_nil)) d_int (nomark _))))) (ss_one (s_ret d_bl)) ss_nil)
    (ss_cons (s_if (t_cmp (op_neD (hu64 hr)) fr_ne (d_lc (own := [("word", 1)]) rfl sc__law_is_good_row.nd (i_seq (d_var 0)) (blkOk_by (own := [("word", 1)]) (N := ["value", "word"]) (sc := defScope s__law_is_good_row) (by decide +kernel)) (fun _ _ _ _ _ => (g_name 1 sc__law_is_good_row.nd rfl (by first | exact Or.inl rfl | exact Or.inr rfl))) (fun _ _ _ _ _ => (ts_one (PW.pt (t_or (t_not (t_val (d_callB call_isi fc_isi rfl T.b_isinstance (by decide +kernel) (da_cons (d_var 1) (da_cons (d_type rfl T.b_str (by decide +kernel)) da_nil))))) (t_or1 (t_cmp (op_ninDD (hu65 hr)) fr_nin (d_var 1) (d_call0 (ok__law_all_words T) (hr.mono (by omega)) rfl T.m__law_all_words T.F__law_all_words.kp T.B__law_all_words passZ) (by rfl))))))) (fun _ _ _ _ _ => (d_var 1))) (d_lst da_nil) (nomark _)) (ss_one (s_ret d_bl)) ss_nil)
    (ss_one (s_ret (d_cmp op_le fr_icmp (d_callB call_lenD' fc_len rfl T.b_len (by decide +kernel) (da_cons (d_lc (own := [("word", 1)]) rfl sc__law_is_good_row.nd (i_seq (d_var 0)) (blkOk_by (own := [("word", 1)]) (N := ["value", "word"]) (sc := defScope s__law_is_good_row) (by decide +kernel)) (fun _ _ _ _ _ => (g_name 1 sc__law_is_good_row.nd rfl (by first | exact Or.inl rfl | exact Or.inr rfl))) (fun _ _ _ _ _ => (ts_one (t_cmp op_gt fr_icmp (d_call (ok__law_factor T) (hr.mono (by omega)) rfl T.m__law_factor T.F__law_factor.kp T.B__law_factor passZ (da_cons (d_var 1) da_nil)) d_int (nomark _)))) (fun _ _ _ _ _ => (d_var 1))) da_nil)) d_int (nomark _)))))))
theorem ok__law_row (T : Txt K w mg) : FnOk P w K mg base CX0 4 T.f__law_row T.fd__law_row ["source", "most"] (spD K 2 F__law_row) :=
  fn_pd T.F__law_row sc__law_row sp__law_row fun cdv A outer s H E hr =>
    ((ss_cons (s_set (i := 2) sc__law_row.nd rfl (by first | exact Or.inl rfl | exact Or.inr rfl) (d_tup da_nil))
    (ss_cons (s_for PassesOwn.never rfl (i_range1 rfl T.b_range (da_cons (d_call (ok__law_pick T) (hr.mono (by omega)) rfl T.m__law_pick T.F__law_pick.kp T.B__law_pick passZ (da_cons (d_var 0) (da_cons (d_op op_addD fr_add (d_var 1) d_int) da_nil))) da_nil)) (g_name 3 sc__law_row.nd rfl (by first | exact Or.inl rfl | exact Or.inr rfl)) (ss_cons (s_set (i := 4) sc__law_row.nd rfl (by first | exact Or.inl rfl | exact Or.inr rfl) (d_call (ok__law_chosen T) (hr.mono (by omega)) rfl T.m__law_chosen T.F__law_chosen.kp T.B__law_chosen passZ (da_cons (d_var 0) (da_cons (d_op op_addD fr_add (d_call0 (ok__law_all_words T) (hr.mono (by omega)) rfl T.m__law_all_words T.F__law_all_words.kp T.B__law_all_words passZ) (d_lst (da_cons d_str (da_cons d_str (da_cons d_str (da_cons d_str da_nil)))))) da_nil))))
    (ss_one (s_set (i := 2) sc__law_row.nd rfl (by first | exact Or.inl rfl | exact Or.inr rfl) (d_ife (t_val (d_call (ok__law_is_good_row T) (hr.mono (by omega)) rfl T.m__law_is_good_row T.F__law_is_good_row.kp T.B__law_is_good_row passZ (da_cons (d_op op_addD fr_add (d_var 2) (d_tup (da_cons (d_var 4) da_nil))) da_nil))) (d_op op_addD fr_add (d_var 2) (d_tup (da_cons (d_var 4) da_nil))) (d_var 2))))))
    (ss_one (s_ret (d_var 2))))))
theorem ok_is_word (T : Txt K w mg) : FnOk P w K mg base CX0 2 T.f_is_word T.fd_is_word ["value"] (spD K 1 F_is_word) :=
  fn_pd T.F_is_word sc_is_word sp_is_word fun cdv A outer s H E hr =>
    ((ss_one (s_ret (d_and (d_callB call_isi fc_isi rfl T.b_isinstance (by decide +kernel) (da_cons (d_var 0) (da_cons (d_type rfl T.b_str (by decide +kernel)) da_nil))) (d_one (d_cmp (op_inDD (hu65 hr)) fr_in (d_var 0) (d_glob T.g_WORDS rfl) (by rfl)))))))
theorem ok_is_row (T : Txt K w mg) : FnOk P w K mg base CX0 3 T.f_is_row T.fd_is_row ["value"] (spD K 1 F_is_row) :=
  fn_pd T.F_is_row sc_is_row sp_is_row fun cdv A outer s H E hr =>
    ((ss_cons (s_if (PW.pt (t_or (t_not (t_val (d_callB call_isi fc_isi rfl T.b_isinstance (by decide +kernel) (da_cons (d_var 0) (da_cons (d_type rfl T.b_tuple (by decide +kernel)) da_nil))))) (t_or (t_cmp op_gt fr_icmp (d_callB call_lenD' fc_len rfl T.b_len (by decide +kernel) (da_cons (d_var 0) da_nil)) (d_glob T.g_MAX_WORDS rfl) (nomark _)) (t_or1 (t_not (t_val (d_callB (cr_all rfl) fc_all rfl T.b_all (by decide +kernel) (da_cons (d_lc (own := [("word", 1)]) rfl sc_is_row.nd (i_seq (d_var 0)) (blkOk_by (own := [("word", 1)]) (N := ["value", "word"]) (sc := defScope s_is_row) (by decide +kernel)) (fun _ _ _ _ _ => (g_name 1 sc_is_row.nd rfl (by first | exact Or.inl rfl | exact Or.inr rfl))) (fun _ _ _ _ _ => ts_nil) (fun _ _ _ _ _ => (d_call (ok_is_word T) (hr.mono (by omega)) rfl T.m_is_word T.F_is_word.kp T.B_is_word passZ (da_cons (d_var 1) da_nil)))) da_nil)))))))) (ss_one (s_ret d_bl)) ss_nil)
    (ss_one (s_ret (d_cmp op_le fr_icmp (d_callB call_lenD' fc_len rfl T.b_len (by decide +kernel) (da_cons (d_lc (own := [("word", 1)]) rfl sc_is_row.nd (i_seq (d_var 0)) (blkOk_by (own := [("word", 1)]) (N := ["value", "word"]) (sc := defScope s_is_row) (by decide +kernel)) (fun _ _ _ _ _ => (g_name 1 sc_is_row.nd rfl (by first | exact Or.inl rfl | exact Or.inr rfl))) (fun _ _ _ _ _ => (ts_one (t_kin T.d_FACTORS rfl (d_var 1)))) (fun _ _ _ _ _ => (d_var 1))) da_nil)) (d_glob T.g_MAX_SHAPES rfl) (nomark _))))))
theorem ok_require_row (T : Txt K w mg) : FnOk P w K mg base CX0 4 T.f_require_row T.fd_require_row ["value"] (spD K 1 F_require_row) :=
  fn_pd T.F_require_row sc_require_row sp_require_row fun cdv A outer s H E hr =>
    ((ss_one (s_if (t_not (t_val (d_call (ok_is_row T) (hr.mono (by omega)) rfl T.m_is_row T.F_is_row.kp T.B_is_row passZ (da_cons (d_var 0) da_nil)))) (ss_one s_never) ss_nil)))
theorem ok_period_of (T : Txt K w mg) : FnOk P w K mg base CX0 2 T.f_period_of T.fd_period_of ["row"] (spD K 1 F_period_of) :=
  fn_pd T.F_period_of sc_period_of sp_period_of fun cdv A outer s H E hr =>
    ((ss_cons (s_set (i := 1) sc_period_of.nd rfl (by first | exact Or.inl rfl | exact Or.inr rfl) d_int)
    (ss_cons (s_for PassesOwn.never rfl (i_seq (d_var 0)) (g_name 2 sc_period_of.nd rfl (by first | exact Or.inl rfl | exact Or.inr rfl)) (ss_one (s_set (i := 1) sc_period_of.nd rfl (by first | exact Or.inl rfl | exact Or.inr rfl) (d_op op_mulD fr_mul (d_var 1) (d_kget T.d_FACTORS rfl (d_var 2) d_int ⟨rfl, rfl, rfl, rfl⟩)))))
    (ss_one (s_ret (d_var 1))))))
theorem ok_period (T : Txt K w mg) : FnOk P w K mg base CX0 5 T.f_period T.fd_period ["row"] (spD K 1 F_period) :=
  fn_pd T.F_period sc_period sp_period fun cdv A outer s H E hr =>
    ((ss_cons (s_expr (d_call (ok_require_row T) (hr.mono (by omega)) rfl T.m_require_row T.F_require_row.kp T.B_require_row passZ (da_cons (d_var 0) da_nil)))
    (ss_one (s_ret (d_call (ok_period_of T) (hr.mono (by omega)) rfl T.m_period_of T.F_period_of.kp T.B_period_of passZ (da_cons (d_var 0) da_nil))))))
theorem okr__law_any_value (T : Txt K w mg) : ∀ n, FnOk P w K mg base CX0 (2 + n) T.f__law_any_value T.fd__law_any_value ["source", "depth"] (spD K 2 (FR__law_any_value n))
  | 0 => ⟨fun _ _ _ _ h => by obtain ⟨_, _, _, _, _, _, _, h, _⟩ := h; exact h.elim, fun _ _ _ _ _ _ _ _ _ _ _ _ _ h => by obtain ⟨_, _, _, _, _, _, _, h, _⟩ := h; exact h.elim⟩
  | n + 1 => have IH := okr__law_any_value T n; fn_pd (k := 2 + n) T.F__law_any_value sc__law_any_value (sp__law_any_value n) fun cdv A outer s H E hr =>
    ((ss_cons (s_set (i := 2) sc__law_any_value.nd rfl (by first | exact Or.inl rfl | exact Or.inr rfl) (d_call (ok__law_pick T) (hr.mono (by omega)) rfl T.m__law_pick T.F__law_pick.kp T.B__law_pick passZ (da_cons (d_var 0) (da_cons d_int da_nil))))
    (ss_cons (s_if (PW.pt (t_or (t_cmp op_lt fr_icmp (d_var 2) d_int (nomark _)) (t_or1 (t_cmp (op_eqD (hu64 hr)) fr_eq (d_var 1) d_int (nomark _))))) (ss_cons (s_set (i := 3) sc__law_any_value.nd rfl (by first | exact Or.inl rfl | exact Or.inr rfl) (d_lst (da_cons d_int (da_cons (d_un un_neg fu_neg d_int) (da_cons d_int (da_cons d_bl (da_cons d_bl (da_cons d_non (da_cons d_str (da_cons d_str (da_cons d_str (da_cons d_str (da_cons d_str (da_cons d_str (da_cons d_int (da_cons d_int (da_cons (d_un un_neg fu_neg d_int) (da_cons d_str (da_cons (d_op op_pow fr_pow d_int d_int) (da_cons d_int da_nil))))))))))))))))))))
    (ss_one (s_ret (d_ix ix_D fr_ix (d_op op_addD fr_add (d_var 3) (d_lst (da_cons (d_tup da_nil) (da_cons (d_lst da_nil) (da_cons (d_tup (da_cons d_int (da_cons d_int da_nil))) da_nil))))) (d_call (ok__law_pick T) (hr.mono (by omega)) rfl T.m__law_pick T.F__law_pick.kp T.B__law_pick passZ (da_cons (d_var 0) (da_cons d_int da_nil))) (fun _ _ => rfl))))) ss_nil)
    (ss_cons (s_setLc (i := 4) (own := [("k", 5)]) rfl sc__law_any_value.nd rfl rfl (sw_true rfl rfl rfl (by decide +kernel)) (i_range1 rfl T.b_range (da_cons (d_call (ok__law_pick T) (hr.mono (by omega)) rfl T.m__law_pick T.F__law_pick.kp T.B__law_pick passZ (da_cons (d_var 0) (da_cons d_int da_nil))) da_nil)) (blkOk_by (own := [("k", 5)]) (N := ["source", "depth", "kind", "some", "items", "k"]) (sc := defScope s__law_any_value) (by decide +kernel)) (fun _ _ _ _ _ => (g_name 5 sc__law_any_value.nd rfl (by first | exact Or.inl rfl | exact Or.inr rfl))) (fun _ _ _ _ _ => ts_nil) (fun _ _ _ _ _ => (d_call IH hr rfl T.m__law_any_value T.F__law_any_value.kp T.B__law_any_value passZ (da_cons (d_var 0) (da_cons (d_op op_sub fr_sub (d_var 1) d_int) da_nil)))))
    (ss_one (s_ret (d_ix ix_D fr_ix (d_lst (da_cons (d_var 4) (da_cons (d_callTy call_tuple_of fc_tuple rfl T.b_tuple (by decide +kernel) (da_cons (d_var 4) da_nil)) (da_cons (d_callTy call_tuple_of fc_tuple rfl T.b_tuple (by decide +kernel) (da_cons (d_var 4) da_nil)) da_nil)))) (d_op op_sub fr_sub (d_var 2) d_int) (fun _ _ => rfl))))))))
theorem ok__law_any_value (T : Txt K w mg) : FnOk P w K mg base CX0 6 T.f__law_any_value T.fd__law_any_value ["source", "depth"] (spD K 2 F__law_any_value) := okr__law_any_value T 4
theorem ok__law_variant (T : Txt K w mg) : FnOk P w K mg base CX0 7 T.f__law_variant T.fd__law_variant ["source", "value"] (spD K 2 F__law_variant) :=
  fn_pd T.F__law_variant sc__law_variant sp__law_variant fun cdv A outer s H E hr =>
    ((ss_cons (s_own (i := 2) sc__law_variant.nd rfl (by first | exact Or.inl rfl | exact Or.inr rfl) (dl_list rfl T.b_list (by decide +kernel) (da_cons (d_var 1) da_nil)))
    (ss_cons (s_if (t_lock 2 (t_cmp (op_eqD (hu64 hr)) fr_eq (d_var 2) (d_lst da_nil) (nomark _))) (ss_one (s_ret (d_tup (da_cons (d_call (ok__law_any_value T) (hr.mono (by omega)) rfl T.m__law_any_value T.F__law_any_value.kp T.B__law_any_value passZ (da_cons (d_var 0) (da_cons d_int da_nil))) da_nil)))) ss_nil)
    (ss_cons (s_par (i := 3) (j := 4) rfl sc__law_variant.nd rfl rfl (by decide) rfl rfl (da_cons (d_call (ok__law_pick T) (hr.mono (by omega)) rfl T.m__law_pick T.F__law_pick.kp T.B__law_pick passZ (da_cons (d_var 0) (da_cons (d_lock 2 (d_callB call_lenD' fc_len rfl T.b_len (by decide +kernel) (da_cons (d_var 2) da_nil))) da_nil))) (da_cons (d_call (ok__law_pick T) (hr.mono (by omega)) rfl T.m__law_pick T.F__law_pick.kp T.B__law_pick passZ (da_cons (d_var 0) (da_cons d_int da_nil))) da_nil)) (by rfl))
    (ss_cons (s_if (t_cmp (op_eqD (hu64 hr)) fr_eq (d_var 4) d_int (nomark _)) (ss_one (s_popAt 2 (d_var 3))) (ss_one (s_if (t_cmp (op_eqD (hu64 hr)) fr_eq (d_var 4) d_int (nomark _)) (ss_one (s_insO 2 (da_cons (d_var 3) (da_cons (d_ixO 2 (d_var 3) (fun _ _ => rfl)) da_nil)))) (ss_one (s_if (t_cmp (op_eqD (hu64 hr)) fr_eq (d_var 4) d_int (nomark _)) (ss_one (s_slSto 2 (dl_rev (d_slO 2 (do_so (d_var 3)) (do_so (d_op op_addD fr_add (d_var 3) d_int)))) (do_so (d_var 3)) (do_so (d_op op_addD fr_add (d_var 3) d_int)))) (ss_one (s_if (t_cmp (op_eqD (hu64 hr)) fr_eq (d_var 4) d_int (nomark _)) (ss_one (s_sto 2 (d_call (ok__law_any_value T) (hr.mono (by omega)) rfl T.m__law_any_value T.F__law_any_value.kp T.B__law_any_value passZ (da_cons (d_var 0) (da_cons d_int da_nil))) (d_var 3))) (ss_one (s_if (t_cmp (op_eqD (hu64 hr)) fr_eq (d_var 4) d_int (nomark _)) (ss_cons (s_set (i := 5) sc__law_variant.nd rfl (by first | exact Or.inl rfl | exact Or.inr rfl) (d_lst (da_cons d_str (da_cons d_str (da_cons d_str (da_cons d_str (da_cons d_str (da_cons d_str (da_cons d_non (da_cons d_bl (da_cons d_int (da_cons (d_tup (da_cons d_str da_nil)) (da_cons d_str (da_cons d_int da_nil))))))))))))))
    (ss_one (s_sto 2 (d_call (ok__law_chosen T) (hr.mono (by omega)) rfl T.m__law_chosen T.F__law_chosen.kp T.B__law_chosen passZ (da_cons (d_var 0) (da_cons (d_var 5) da_nil))) (d_var 3)))) (ss_one (s_if (t_cmp (op_eqD (hu64 hr)) fr_eq (d_var 4) d_int (nomark _)) (ss_one (s_frzM 2 (s_set (i := 2) sc__law_variant.nd rfl (by first | exact Or.inl rfl | exact Or.inr rfl) (d_op op_addD fr_add (d_var 2) (d_var 2))))) (ss_one (s_retOwn 2)))))))))))))
    (ss_one (s_frzM 2 (s_ret (d_callTy call_tuple_of fc_tuple rfl T.b_tuple (by decide +kernel) (da_cons (d_var 2) da_nil))))))))))
theorem ok_turns_of (T : Txt K w mg) : FnOk P w K mg base CX0 2 T.f_turns_of T.fd_turns_of ["row"] (spD K 1 F_turns_of) :=
  fn_pd T.F_turns_of sc_turns_of sp_turns_of fun cdv A outer s H E hr =>
    ((ss_one (s_ret (d_op op_modD fr_mod (d_callB (cr_sum rfl) fc_sum rfl T.b_sum (by decide +kernel) (da_cons (d_lc (own := [("word", 1)]) rfl sc_turns_of.nd (i_seq (d_var 0)) (blkOk_by (own := [("word", 1)]) (N := ["row", "word"]) (sc := defScope s_turns_of) (by decide +kernel)) (fun _ _ _ _ _ => (g_name 1 sc_turns_of.nd rfl (by first | exact Or.inl rfl | exact Or.inr rfl))) (fun _ _ _ _ _ => ts_nil) (fun _ _ _ _ _ => (d_kget T.d_TURNS rfl (d_var 1) d_int ⟨rfl, rfl, rfl, rfl⟩))) da_nil)) d_int))))
theorem ok_facing (T : Txt K w mg) : FnOk P w K mg base CX0 5 T.f_facing T.fd_facing ["row"] (spD K 1 F_facing) :=
  fn_pd T.F_facing sc_facing sp_facing fun cdv A outer s H E hr =>
    ((ss_cons (s_expr (d_call (ok_require_row T) (hr.mono (by omega)) rfl T.m_require_row T.F_require_row.kp T.B_require_row passZ (da_cons (d_var 0) da_nil)))
    (ss_one (s_ret (d_ix ix_D fr_ix (d_glob T.g_WAYS rfl) (d_call (ok_turns_of T) (hr.mono (by omega)) rfl T.m_turns_of T.F_turns_of.kp T.B_turns_of passZ (da_cons (d_var 0) da_nil)) (fun _ _ => rfl))))))
theorem ok__law_turns (T : Txt K w mg) : FnOk P w K mg base CX0 2 T.f__law_turns T.fd__law_turns ["words"] (spD K 1 F__law_turns) :=
  fn_pd T.F__law_turns sc__law_turns sp__law_turns fun cdv A outer s H E hr =>
    ((ss_cons (s_set (i := 1) sc__law_turns.nd rfl (by first | exact Or.inl rfl | exact Or.inr rfl) d_int)
    (ss_cons (s_for PassesOwn.never rfl (i_seq (d_var 0)) (g_name 2 sc__law_turns.nd rfl (by first | exact Or.inl rfl | exact Or.inr rfl)) (ss_one (s_if (t_cmp (op_inDD (hu65 hr)) fr_in (d_var 2) (d_tup (da_cons d_str (da_cons d_str da_nil))) (by rfl)) (ss_one (s_set (i := 1) sc__law_turns.nd rfl (by first | exact Or.inl rfl | exact Or.inr rfl) (d_op op_addD fr_add (d_var 1) d_int))) (ss_one (s_if (t_cmp (op_inDD (hu65 hr)) fr_in (d_var 2) (d_tup (da_cons d_str (da_cons d_str da_nil))) (by rfl)) (ss_one (s_set (i := 1) sc__law_turns.nd rfl (by first | exact Or.inl rfl | exact Or.inr rfl) (d_op op_addD fr_add (d_var 1) d_int))) (ss_one (s_if (t_cmp (op_eqD (hu64 hr)) fr_eq (d_var 2) d_str (nomark _)) (ss_one (s_set (i := 1) sc__law_turns.nd rfl (by first | exact Or.inl rfl | exact Or.inr rfl) (d_op op_addD fr_add (d_var 1) d_int))) ss_nil)))))))
    (ss_one (s_ret (d_op op_modD fr_mod (d_callTy call_int1 fc_int rfl T.b_int (by decide +kernel) (da_cons (d_var 1) da_nil)) d_int))))))
theorem ok__law_way (T : Txt K w mg) : FnOk P w K mg base CX0 3 T.f__law_way T.fd__law_way ["words"] (spD K 1 F__law_way) :=
  fn_pd T.F__law_way sc__law_way sp__law_way fun cdv A outer s H E hr =>
    ((ss_one (s_ret (d_ix ix_D fr_ix (d_lst (da_cons d_str (da_cons d_str (da_cons d_str (da_cons d_str da_nil))))) (d_call (ok__law_turns T) (hr.mono (by omega)) rfl T.m__law_turns T.F__law_turns.kp T.B__law_turns passZ (da_cons (d_var 0) da_nil)) (fun _ _ => rfl)))))
theorem ok__law_period (T : Txt K w mg) : FnOk P w K mg base CX0 3 T.f__law_period T.fd__law_period ["words"] (spD K 1 F__law_period) :=
  fn_pd T.F__law_period sc__law_period sp__law_period fun cdv A outer s H E hr =>
    ((ss_cons (s_set (i := 1) sc__law_period.nd rfl (by first | exact Or.inl rfl | exact Or.inr rfl) d_int)
    (ss_cons (s_for PassesOwn.never rfl (i_seq (d_var 0)) (g_name 2 sc__law_period.nd rfl (by first | exact Or.inl rfl | exact Or.inr rfl)) (ss_one (s_set (i := 1) sc__law_period.nd rfl (by first | exact Or.inl rfl | exact Or.inr rfl) (d_op op_mulD fr_mul (d_var 1) (d_call (ok__law_factor T) (hr.mono (by omega)) rfl T.m__law_factor T.F__law_factor.kp T.B__law_factor passZ (da_cons (d_var 2) da_nil))))))
    (ss_one (s_ret (d_var 1))))))
theorem ok__law_is_bool (T : Txt K w mg) : FnOk P w K mg base CX0 2 T.f__law_is_bool T.fd__law_is_bool ["actual", "expected"] (spD K 2 F__law_is_bool) :=
  fn_pd T.F__law_is_bool sc__law_is_bool sp__law_is_bool fun cdv A outer s H E hr =>
    ((ss_one (s_ret (d_and (d_callB call_isi fc_isi rfl T.b_isinstance (by decide +kernel) (da_cons (d_var 0) (da_cons (d_type rfl T.b_bool (by decide +kernel)) da_nil))) (d_one (d_cmp (op_eqD (hu64 hr)) fr_eq (d_var 0) (d_var 1) (nomark _)))))))
theorem ok_law (T : Txt K w mg) : FnOk P w K mg base CX0 8 T.f_law T.fd_law ["script"] (spLaw K) :=
  fn_law T.F_law sc_law sp_law fun cdv A outer s H E hr =>
    ((ss_cons (s_for PassesOwn.never rfl (i_range1 rfl T.b_range (da_cons (d_callB (call_maxD rfl) fc_max rfl T.b_max (by decide +kernel) (da_cons d_int (da_cons (d_callB (call_minD rfl) fc_min rfl T.b_min (by decide +kernel) (da_cons d_int (da_cons (d_callB call_lenD' fc_len rfl T.b_len (by decide +kernel) (da_cons (d_var 0) da_nil)) da_nil))) da_nil))) da_nil)) (g_name 1 sc_law.nd rfl (by first | exact Or.inl rfl | exact Or.inr rfl)) (ss_cons (s_set (i := 2) sc_law.nd rfl (by first | exact Or.inl rfl | exact Or.inr rfl) (d_call (ok__law_source T) (hr.mono (by omega)) rfl T.m__law_source T.F__law_source.kp T.B__law_source passZ (da_cons (d_var 0) (da_cons (d_var 1) da_nil))))
    (ss_one (s_for PassesOwn.never rfl (i_range1 rfl T.b_range (da_cons d_int da_nil)) (g_name 3 sc_law.nd rfl (by first | exact Or.inl rfl | exact Or.inr rfl)) (ss_cons (s_set (i := 4) sc_law.nd rfl (by first | exact Or.inl rfl | exact Or.inr rfl) (d_call (ok__law_row T) (hr.mono (by omega)) rfl T.m__law_row T.F__law_row.kp T.B__law_row passZ (da_cons (d_var 2) (da_cons d_int da_nil))))
    (ss_cons (s_if (PW.pt (t_or (t_cmp (op_neD (hu64 hr)) fr_ne (d_call (ok_facing T) (hr.mono (by omega)) rfl T.m_facing T.F_facing.kp T.B_facing passZ (da_cons (d_var 4) da_nil)) (d_call (ok__law_way T) (hr.mono (by omega)) rfl T.m__law_way T.F__law_way.kp T.B__law_way passZ (da_cons (d_var 4) da_nil)) (nomark _)) (t_or1 (t_cmp (op_neD (hu64 hr)) fr_ne (d_call (ok_period T) (hr.mono (by omega)) rfl T.m_period T.F_period.kp T.B_period passZ (da_cons (d_var 4) da_nil)) (d_call (ok__law_period T) (hr.mono (by omega)) rfl T.m__law_period T.F__law_period.kp T.B__law_period passZ (da_cons (d_var 4) da_nil)) (nomark _))))) (ss_one (s_ret d_bl)) ss_nil)
    (ss_cons (s_set (i := 5) sc_law.nd rfl (by first | exact Or.inl rfl | exact Or.inr rfl) (d_callTy call_tuple_of fc_tuple rfl T.b_tuple (by decide +kernel) (da_cons (d_lc (own := [("at", 8)]) rfl sc_law.nd (i_range1 rfl T.b_range (da_cons (d_call (ok__law_pick T) (hr.mono (by omega)) rfl T.m__law_pick T.F__law_pick.kp T.B__law_pick passZ (da_cons (d_var 2) (da_cons d_int da_nil))) da_nil)) (blkOk_by (own := [("at", 8)]) (N := ["script", "k", "source", "turn", "words", "more", "value", "word", "at"]) (sc := defScope s_law) (by decide +kernel)) (fun _ _ _ _ _ => (g_name 8 sc_law.nd rfl (by first | exact Or.inl rfl | exact Or.inr rfl))) (fun _ _ _ _ _ => ts_nil) (fun _ _ _ _ _ => (d_call (ok__law_chosen T) (hr.mono (by omega)) rfl T.m__law_chosen T.F__law_chosen.kp T.B__law_chosen passZ (da_cons (d_var 2) (da_cons (d_call0 (ok__law_all_words T) (hr.mono (by omega)) rfl T.m__law_all_words T.F__law_all_words.kp T.B__law_all_words passZ) da_nil))))) da_nil)))
    (ss_one (s_for PassesOwn.never rfl (i_seq (d_lst (da_cons (d_var 4) (da_cons (d_var 5) (da_cons (d_call (ok__law_variant T) (hr.mono (by omega)) rfl T.m__law_variant T.F__law_variant.kp T.B__law_variant passZ (da_cons (d_var 2) (da_cons (d_var 4) da_nil))) (da_cons (d_call (ok__law_any_value T) (hr.mono (by omega)) rfl T.m__law_any_value T.F__law_any_value.kp T.B__law_any_value passZ (da_cons (d_var 2) (da_cons d_int da_nil))) (da_cons (d_callTy call_list_of fc_list rfl T.b_list (by decide +kernel) (da_cons (d_var 4) da_nil)) da_nil))))))) (g_name 6 sc_law.nd rfl (by first | exact Or.inl rfl | exact Or.inr rfl)) (ss_one (s_if (t_not (t_val (d_call (ok__law_is_bool T) (hr.mono (by omega)) rfl T.m__law_is_bool T.F__law_is_bool.kp T.B__law_is_bool passZ (da_cons (d_call (ok_is_row T) (hr.mono (by omega)) rfl T.m_is_row T.F_is_row.kp T.B_is_row passZ (da_cons (d_var 6) da_nil)) (da_cons (d_call (ok__law_is_good_row T) (hr.mono (by omega)) rfl T.m__law_is_good_row T.F__law_is_good_row.kp T.B__law_is_good_row passZ (da_cons (d_var 6) da_nil)) da_nil))))) (ss_one (s_ret d_bl)) ss_nil)))))))))))
    (ss_cons (s_for PassesOwn.never rfl (i_seq (d_call0 (ok__law_all_words T) (hr.mono (by omega)) rfl T.m__law_all_words T.F__law_all_words.kp T.B__law_all_words passZ)) (g_name 7 sc_law.nd rfl (by first | exact Or.inl rfl | exact Or.inr rfl)) (ss_one (s_if (PW.pt (t_or (t_cmp op_nisD fr_nis (d_call (ok_is_row T) (hr.mono (by omega)) rfl T.m_is_row T.F_is_row.kp T.B_is_row passZ (da_cons (d_tup (da_cons (d_var 7) da_nil)) da_nil)) d_bl (nomark _)) (t_or (t_cmp op_nisD fr_nis (d_call (ok_is_row T) (hr.mono (by omega)) rfl T.m_is_row T.F_is_row.kp T.B_is_row passZ (da_cons (d_var 7) da_nil)) d_bl (nomark _)) (t_or1 (t_cmp op_nisD fr_nis (d_call (ok_is_row T) (hr.mono (by omega)) rfl T.m_is_row T.F_is_row.kp T.B_is_row passZ (da_cons (d_tup (da_cons (d_op op_addD fr_add (d_var 7) d_str) da_nil)) da_nil)) d_bl (nomark _)))))) (ss_one (s_ret d_bl)) ss_nil)))
    (ss_cons (s_if (PW.pt (t_or (t_cmp op_nisD fr_nis (d_call (ok_is_row T) (hr.mono (by omega)) rfl T.m_is_row T.F_is_row.kp T.B_is_row passZ (da_cons (d_op op_mulD fr_mul (d_tup (da_cons d_str da_nil)) d_int) da_nil)) d_bl (nomark _)) (t_or (t_cmp op_nisD fr_nis (d_call (ok_is_row T) (hr.mono (by omega)) rfl T.m_is_row T.F_is_row.kp T.B_is_row passZ (da_cons (d_op op_mulD fr_mul (d_tup (da_cons d_str da_nil)) d_int) da_nil)) d_bl (nomark _)) (t_or1 (t_cmp op_nisD fr_nis (d_call (ok_is_row T) (hr.mono (by omega)) rfl T.m_is_row T.F_is_row.kp T.B_is_row passZ (da_cons (d_op op_mulD fr_mul (d_tup (da_cons d_str da_nil)) d_int) da_nil)) d_bl (nomark _)))))) (ss_one (s_ret d_bl)) ss_nil)
    (ss_one (s_ret (d_and (d_cmp op_nisD fr_nis (d_call (ok_is_row T) (hr.mono (by omega)) rfl T.m_is_row T.F_is_row.kp T.B_is_row passZ (da_cons (d_tup (da_cons d_str (da_cons d_str (da_cons d_str da_nil)))) da_nil)) d_bl (nomark _)) (d_one (d_cmp (op_eqD (hu64 hr)) fr_eq (d_call (ok_period T) (hr.mono (by omega)) rfl T.m_period T.F_period.kp T.B_period passZ (da_cons (d_tup (da_cons d_str (da_cons d_str da_nil))) da_nil)) d_int (nomark _))))))))))
end
theorem all_mk {l : PySem.W.OpenLaw} {w : World} {K : PySem.W.Frag} {h : Heap} {mg : Str → Option Value} {fa : Addr} (X : K.In h) (G : h.Ns mainGlobals mg) (hfa : mg "law" = some (.ref fa))
  {f0 : Addr} {od0 an0 : Option Addr} {sl0 : Array (Option Value)} {oc0 kV0 dc0 pm0 cd0 ct0 : Value}
  {f1 : Addr} {od1 an1 : Option Addr} {sl1 : Array (Option Value)} {oc1 kV1 dc1 pm1 cd1 ct1 : Value}
  {f2 : Addr} {od2 an2 : Option Addr} {sl2 : Array (Option Value)} {oc2 kV2 dc2 pm2 cd2 ct2 : Value}
  {f3 : Addr} {od3 an3 : Option Addr} {sl3 : Array (Option Value)} {oc3 kV3 dc3 pm3 cd3 ct3 : Value}
  {f4 : Addr} {od4 an4 : Option Addr} {sl4 : Array (Option Value)} {oc4 kV4 dc4 pm4 cd4 ct4 : Value}
  {f5 : Addr} {od5 an5 : Option Addr} {sl5 : Array (Option Value)} {oc5 kV5 dc5 pm5 cd5 ct5 : Value}
  {f6 : Addr} {od6 an6 : Option Addr} {sl6 : Array (Option Value)} {oc6 kV6 dc6 pm6 cd6 ct6 : Value}
  {f7 : Addr} {od7 an7 : Option Addr} {sl7 : Array (Option Value)} {oc7 kV7 dc7 pm7 cd7 ct7 : Value}
  {f8 : Addr} {od8 an8 : Option Addr} {sl8 : Array (Option Value)} {oc8 kV8 dc8 pm8 cd8 ct8 : Value}
  {f9 : Addr} {od9 an9 : Option Addr} {sl9 : Array (Option Value)} {oc9 kV9 dc9 pm9 cd9 ct9 : Value}
  {f10 : Addr} {od10 an10 : Option Addr} {sl10 : Array (Option Value)} {oc10 kV10 dc10 pm10 cd10 ct10 : Value}
  {f11 : Addr} {od11 an11 : Option Addr} {sl11 : Array (Option Value)} {oc11 kV11 dc11 pm11 cd11 ct11 : Value}
  {f12 : Addr} {od12 an12 : Option Addr} {sl12 : Array (Option Value)} {oc12 kV12 dc12 pm12 cd12 ct12 : Value}
  {f13 : Addr} {od13 an13 : Option Addr} {sl13 : Array (Option Value)} {oc13 kV13 dc13 pm13 cd13 ct13 : Value}
  {f14 : Addr} {od14 an14 : Option Addr} {sl14 : Array (Option Value)} {oc14 kV14 dc14 pm14 cd14 ct14 : Value}
  {f15 : Addr} {od15 an15 : Option Addr} {sl15 : Array (Option Value)} {oc15 kV15 dc15 pm15 cd15 ct15 : Value}
  {f16 : Addr} {od16 an16 : Option Addr} {sl16 : Array (Option Value)} {oc16 kV16 dc16 pm16 cd16 ct16 : Value}
  {f17 : Addr} {od17 an17 : Option Addr} {sl17 : Array (Option Value)} {oc17 kV17 dc17 pm17 cd17 ct17 : Value}
  {f18 : Addr} {od18 an18 : Option Addr} {sl18 : Array (Option Value)} {oc18 kV18 dc18 pm18 cd18 ct18 : Value}
  {f19 : Addr} {od19 an19 : Option Addr} {sl19 : Array (Option Value)} {oc19 kV19 dc19 pm19 cd19 ct19 : Value}
  {f20 : Addr} {od20 an20 : Option Addr} {sl20 : Array (Option Value)} {oc20 kV20 dc20 pm20 cd20 ct20 : Value}
  {ga_WORDS : Addr} {gd_WORDS : Option Addr} {gi_WORDS : Array Value} {gn_WORDS : Nat} {gs_WORDS : Array (Option Value)}
  {gt_MAX_WORDS : Tok}
  {gt_MAX_SHAPES : Tok}
  {ga_WAYS : Addr} {gd_WAYS : Option Addr} {gi_WAYS : Array Value} {gn_WAYS : Nat} {gs_WAYS : Array (Option Value)}
  {da_FACTORS : Addr} {de_FACTORS : Array DictEntry} {dn_FACTORS : Nat}
  {da_TURNS : Addr} {de_TURNS : Array DictEntry} {dn_TURNS : Nat}
  (a0 : PySem.W.nsIn K mainGlobals "_law_all_words" = some (some (.ref f0)))
  (l0 : K.lookup f0 = some ⟨oc0, od0, .func (PySem.W.fnOf "_law_all_words" "_law_all_words" (defArgs s__law_all_words) (defBody s__law_all_words) (defScope s__law_all_words) .none kV0 dc0 pm0 an0 cd0 ct0), sl0⟩)
  (c0 : PySem.W.codeIn K cd0 "_law_all_words" = true)
  (k0 : PySem.W.keepIn K (.ref f0) = true)
  (a1 : PySem.W.nsIn K mainGlobals "_law_source" = some (some (.ref f1)))
  (l1 : K.lookup f1 = some ⟨oc1, od1, .func (PySem.W.fnOf "_law_source" "_law_source" (defArgs s__law_source) (defBody s__law_source) (defScope s__law_source) .none kV1 dc1 pm1 an1 cd1 ct1), sl1⟩)
  (c1 : PySem.W.codeIn K cd1 "_law_source" = true)
  (k1 : PySem.W.keepIn K (.ref f1) = true)
  (a2 : PySem.W.nsIn K mainGlobals "_law_pick" = some (some (.ref f2)))
  (l2 : K.lookup f2 = some ⟨oc2, od2, .func (PySem.W.fnOf "_law_pick" "_law_pick" (defArgs s__law_pick) (defBody s__law_pick) (defScope s__law_pick) .none kV2 dc2 pm2 an2 cd2 ct2), sl2⟩)
  (c2 : PySem.W.codeIn K cd2 "_law_pick" = true)
  (k2 : PySem.W.keepIn K (.ref f2) = true)
  (a3 : PySem.W.nsIn K mainGlobals "_law_chosen" = some (some (.ref f3)))
  (l3 : K.lookup f3 = some ⟨oc3, od3, .func (PySem.W.fnOf "_law_chosen" "_law_chosen" (defArgs s__law_chosen) (defBody s__law_chosen) (defScope s__law_chosen) .none kV3 dc3 pm3 an3 cd3 ct3), sl3⟩)
  (c3 : PySem.W.codeIn K cd3 "_law_chosen" = true)
  (k3 : PySem.W.keepIn K (.ref f3) = true)
  (a4 : PySem.W.nsIn K mainGlobals "_law_factor" = some (some (.ref f4)))
  (l4 : K.lookup f4 = some ⟨oc4, od4, .func (PySem.W.fnOf "_law_factor" "_law_factor" (defArgs s__law_factor) (defBody s__law_factor) (defScope s__law_factor) .none kV4 dc4 pm4 an4 cd4 ct4), sl4⟩)
  (c4 : PySem.W.codeIn K cd4 "_law_factor" = true)
  (k4 : PySem.W.keepIn K (.ref f4) = true)
  (a5 : PySem.W.nsIn K mainGlobals "_law_is_good_row" = some (some (.ref f5)))
  (l5 : K.lookup f5 = some ⟨oc5, od5, .func (PySem.W.fnOf "_law_is_good_row" "_law_is_good_row" (defArgs s__law_is_good_row) (defBody s__law_is_good_row) (defScope s__law_is_good_row) .none kV5 dc5 pm5 an5 cd5 ct5), sl5⟩)
  (c5 : PySem.W.codeIn K cd5 "_law_is_good_row" = true)
  (k5 : PySem.W.keepIn K (.ref f5) = true)
  (a6 : PySem.W.nsIn K mainGlobals "_law_row" = some (some (.ref f6)))
  (l6 : K.lookup f6 = some ⟨oc6, od6, .func (PySem.W.fnOf "_law_row" "_law_row" (defArgs s__law_row) (defBody s__law_row) (defScope s__law_row) .none kV6 dc6 pm6 an6 cd6 ct6), sl6⟩)
  (c6 : PySem.W.codeIn K cd6 "_law_row" = true)
  (k6 : PySem.W.keepIn K (.ref f6) = true)
  (a7 : PySem.W.nsIn K mainGlobals "is_word" = some (some (.ref f7)))
  (l7 : K.lookup f7 = some ⟨oc7, od7, .func (PySem.W.fnOf "is_word" "is_word" (defArgs s_is_word) (defBody s_is_word) (defScope s_is_word) .none kV7 dc7 pm7 an7 cd7 ct7), sl7⟩)
  (c7 : PySem.W.codeIn K cd7 "is_word" = true)
  (k7 : PySem.W.keepIn K (.ref f7) = true)
  (a8 : PySem.W.nsIn K mainGlobals "is_row" = some (some (.ref f8)))
  (l8 : K.lookup f8 = some ⟨oc8, od8, .func (PySem.W.fnOf "is_row" "is_row" (defArgs s_is_row) (defBody s_is_row) (defScope s_is_row) .none kV8 dc8 pm8 an8 cd8 ct8), sl8⟩)
  (c8 : PySem.W.codeIn K cd8 "is_row" = true)
  (k8 : PySem.W.keepIn K (.ref f8) = true)
  (a9 : PySem.W.nsIn K mainGlobals "require_row" = some (some (.ref f9)))
  (l9 : K.lookup f9 = some ⟨oc9, od9, .func (PySem.W.fnOf "require_row" "require_row" (defArgs s_require_row) (defBody s_require_row) (defScope s_require_row) .none kV9 dc9 pm9 an9 cd9 ct9), sl9⟩)
  (c9 : PySem.W.codeIn K cd9 "require_row" = true)
  (k9 : PySem.W.keepIn K (.ref f9) = true)
  (a10 : PySem.W.nsIn K mainGlobals "period_of" = some (some (.ref f10)))
  (l10 : K.lookup f10 = some ⟨oc10, od10, .func (PySem.W.fnOf "period_of" "period_of" (defArgs s_period_of) (defBody s_period_of) (defScope s_period_of) .none kV10 dc10 pm10 an10 cd10 ct10), sl10⟩)
  (c10 : PySem.W.codeIn K cd10 "period_of" = true)
  (k10 : PySem.W.keepIn K (.ref f10) = true)
  (a11 : PySem.W.nsIn K mainGlobals "period" = some (some (.ref f11)))
  (l11 : K.lookup f11 = some ⟨oc11, od11, .func (PySem.W.fnOf "period" "period" (defArgs s_period) (defBody s_period) (defScope s_period) .none kV11 dc11 pm11 an11 cd11 ct11), sl11⟩)
  (c11 : PySem.W.codeIn K cd11 "period" = true)
  (k11 : PySem.W.keepIn K (.ref f11) = true)
  (a12 : PySem.W.nsIn K mainGlobals "_law_any_value" = some (some (.ref f12)))
  (l12 : K.lookup f12 = some ⟨oc12, od12, .func (PySem.W.fnOf "_law_any_value" "_law_any_value" (defArgs s__law_any_value) (defBody s__law_any_value) (defScope s__law_any_value) .none kV12 dc12 pm12 an12 cd12 ct12), sl12⟩)
  (c12 : PySem.W.codeIn K cd12 "_law_any_value" = true)
  (k12 : PySem.W.keepIn K (.ref f12) = true)
  (a13 : PySem.W.nsIn K mainGlobals "_law_variant" = some (some (.ref f13)))
  (l13 : K.lookup f13 = some ⟨oc13, od13, .func (PySem.W.fnOf "_law_variant" "_law_variant" (defArgs s__law_variant) (defBody s__law_variant) (defScope s__law_variant) .none kV13 dc13 pm13 an13 cd13 ct13), sl13⟩)
  (c13 : PySem.W.codeIn K cd13 "_law_variant" = true)
  (k13 : PySem.W.keepIn K (.ref f13) = true)
  (a14 : PySem.W.nsIn K mainGlobals "turns_of" = some (some (.ref f14)))
  (l14 : K.lookup f14 = some ⟨oc14, od14, .func (PySem.W.fnOf "turns_of" "turns_of" (defArgs s_turns_of) (defBody s_turns_of) (defScope s_turns_of) .none kV14 dc14 pm14 an14 cd14 ct14), sl14⟩)
  (c14 : PySem.W.codeIn K cd14 "turns_of" = true)
  (k14 : PySem.W.keepIn K (.ref f14) = true)
  (a15 : PySem.W.nsIn K mainGlobals "facing" = some (some (.ref f15)))
  (l15 : K.lookup f15 = some ⟨oc15, od15, .func (PySem.W.fnOf "facing" "facing" (defArgs s_facing) (defBody s_facing) (defScope s_facing) .none kV15 dc15 pm15 an15 cd15 ct15), sl15⟩)
  (c15 : PySem.W.codeIn K cd15 "facing" = true)
  (k15 : PySem.W.keepIn K (.ref f15) = true)
  (a16 : PySem.W.nsIn K mainGlobals "_law_turns" = some (some (.ref f16)))
  (l16 : K.lookup f16 = some ⟨oc16, od16, .func (PySem.W.fnOf "_law_turns" "_law_turns" (defArgs s__law_turns) (defBody s__law_turns) (defScope s__law_turns) .none kV16 dc16 pm16 an16 cd16 ct16), sl16⟩)
  (c16 : PySem.W.codeIn K cd16 "_law_turns" = true)
  (k16 : PySem.W.keepIn K (.ref f16) = true)
  (a17 : PySem.W.nsIn K mainGlobals "_law_way" = some (some (.ref f17)))
  (l17 : K.lookup f17 = some ⟨oc17, od17, .func (PySem.W.fnOf "_law_way" "_law_way" (defArgs s__law_way) (defBody s__law_way) (defScope s__law_way) .none kV17 dc17 pm17 an17 cd17 ct17), sl17⟩)
  (c17 : PySem.W.codeIn K cd17 "_law_way" = true)
  (k17 : PySem.W.keepIn K (.ref f17) = true)
  (a18 : PySem.W.nsIn K mainGlobals "_law_period" = some (some (.ref f18)))
  (l18 : K.lookup f18 = some ⟨oc18, od18, .func (PySem.W.fnOf "_law_period" "_law_period" (defArgs s__law_period) (defBody s__law_period) (defScope s__law_period) .none kV18 dc18 pm18 an18 cd18 ct18), sl18⟩)
  (c18 : PySem.W.codeIn K cd18 "_law_period" = true)
  (k18 : PySem.W.keepIn K (.ref f18) = true)
  (a19 : PySem.W.nsIn K mainGlobals "_law_is_bool" = some (some (.ref f19)))
  (l19 : K.lookup f19 = some ⟨oc19, od19, .func (PySem.W.fnOf "_law_is_bool" "_law_is_bool" (defArgs s__law_is_bool) (defBody s__law_is_bool) (defScope s__law_is_bool) .none kV19 dc19 pm19 an19 cd19 ct19), sl19⟩)
  (c19 : PySem.W.codeIn K cd19 "_law_is_bool" = true)
  (k19 : PySem.W.keepIn K (.ref f19) = true)
  (a20 : PySem.W.nsIn K mainGlobals "law" = some (some (.ref f20)))
  (l20 : K.lookup f20 = some ⟨oc20, od20, .func (PySem.W.fnOf "law" "law" (defArgs s_law) (defBody s_law) (defScope s_law) .none kV20 dc20 pm20 an20 cd20 ct20), sl20⟩)
  (c20 : PySem.W.codeIn K cd20 "law" = true)
  (k20 : PySem.W.keepIn K (.ref f20) = true)
  (z_len : PySem.W.nsIn K mainGlobals "len" = some none)
  (z_int : PySem.W.nsIn K mainGlobals "int" = some none)
  (z_tuple : PySem.W.nsIn K mainGlobals "tuple" = some none)
  (z_isinstance : PySem.W.nsIn K mainGlobals "isinstance" = some none)
  (z_str : PySem.W.nsIn K mainGlobals "str" = some none)
  (z_range : PySem.W.nsIn K mainGlobals "range" = some none)
  (z_all : PySem.W.nsIn K mainGlobals "all" = some none)
  (z_list : PySem.W.nsIn K mainGlobals "list" = some none)
  (z_sum : PySem.W.nsIn K mainGlobals "sum" = some none)
  (z_bool : PySem.W.nsIn K mainGlobals "bool" = some none)
  (z_min : PySem.W.nsIn K mainGlobals "min" = some none)
  (z_max : PySem.W.nsIn K mainGlobals "max" = some none)
  (g_WORDS : PySem.W.nsIn K mainGlobals "WORDS" = some (some (.ref ga_WORDS)))
  (gl_WORDS : K.lookup ga_WORDS = some ⟨.type "tuple", gd_WORDS, .seq gi_WORDS gn_WORDS, gs_WORDS⟩)
  (ge_WORDS : gi_WORDS.toList.map absV = ((["about", "change", "column 2", "column 3", "double", "left", "line", "right", "undouble", "wheel left", "wheel right"] : List Str).map V.str).map some ∧ gi_WORDS.size ≤ 1000)
  (g_MAX_WORDS : PySem.W.nsIn K mainGlobals "MAX_WORDS" = some (some (.int 8 gt_MAX_WORDS)))
  (g_MAX_SHAPES : PySem.W.nsIn K mainGlobals "MAX_SHAPES" = some (some (.int 2 gt_MAX_SHAPES)))
  (g_WAYS : PySem.W.nsIn K mainGlobals "WAYS" = some (some (.ref ga_WAYS)))
  (gl_WAYS : K.lookup ga_WAYS = some ⟨.type "tuple", gd_WAYS, .seq gi_WAYS gn_WAYS, gs_WAYS⟩)
  (ge_WAYS : gi_WAYS.toList.map absV = ((["north", "east", "south", "west"] : List Str).map V.str).map some ∧ gi_WAYS.size ≤ 1000)
  (d_FACTORS : PySem.W.nsIn K mainGlobals "FACTORS" = some (some (.ref da_FACTORS)))
  (dl_FACTORS : K.lookup da_FACTORS = some ⟨.type "dict", none, .dict de_FACTORS dn_FACTORS, #[]⟩)
  (dk_FACTORS : PySem.W.KeysLit w.params de_FACTORS.toList)
  (do_FACTORS : (da_FACTORS == sysModules) = false)
  (de_FACTORS : de_FACTORS.toList.map entAbs = k_FACTORS.map some ∧ de_FACTORS.toList.any (·.refKey) = false)
  (d_TURNS : PySem.W.nsIn K mainGlobals "TURNS" = some (some (.ref da_TURNS)))
  (dl_TURNS : K.lookup da_TURNS = some ⟨.type "dict", none, .dict de_TURNS dn_TURNS, #[]⟩)
  (dk_TURNS : PySem.W.KeysLit w.params de_TURNS.toList)
  (do_TURNS : (da_TURNS == sysModules) = false)
  (de_TURNS : de_TURNS.toList.map entAbs = k_TURNS.map some ∧ de_TURNS.toList.any (·.refKey) = false) :
  ∃ fd : FuncData, (∀ (s : Shared) (v : Value), BindsTo s fd ⟨[v], []⟩ [("script", v)]) ∧ ∀ base : Heap, K.In base → base.Ns mainGlobals mg → FnOk l.prog w K mg base CX0 8 fa fd ["script"] (spLaw K) := by
  have e := hfa.symm.trans (PySem.W.mg_of X G a20)
  cases e
  have F0 := fun_mk (st := s__law_all_words) l0 c0 k0
  have B0 := F0.binds (ps := []) fun _ _ _ _ _ _ us hl => match us, hl with | [], _ => rfl
  have F1 := fun_mk (st := s__law_source) l1 c1 k1
  have B1 := F1.binds (ps := ["script", "k"]) fun _ _ _ _ _ _ us hl => match us, hl with | [_, _], _ => rfl
  have F2 := fun_mk (st := s__law_pick) l2 c2 k2
  have B2 := F2.binds (ps := ["source", "limit"]) fun _ _ _ _ _ _ us hl => match us, hl with | [_, _], _ => rfl
  have F3 := fun_mk (st := s__law_chosen) l3 c3 k3
  have B3 := F3.binds (ps := ["source", "some"]) fun _ _ _ _ _ _ us hl => match us, hl with | [_, _], _ => rfl
  have F4 := fun_mk (st := s__law_factor) l4 c4 k4
  have B4 := F4.binds (ps := ["word"]) fun _ _ _ _ _ _ us hl => match us, hl with | [_], _ => rfl
  have F5 := fun_mk (st := s__law_is_good_row) l5 c5 k5
  have B5 := F5.binds (ps := ["value"]) fun _ _ _ _ _ _ us hl => match us, hl with | [_], _ => rfl
  have F6 := fun_mk (st := s__law_row) l6 c6 k6
  have B6 := F6.binds (ps := ["source", "most"]) fun _ _ _ _ _ _ us hl => match us, hl with | [_, _], _ => rfl
  have F7 := fun_mk (st := s_is_word) l7 c7 k7
  have B7 := F7.binds (ps := ["value"]) fun _ _ _ _ _ _ us hl => match us, hl with | [_], _ => rfl
  have F8 := fun_mk (st := s_is_row) l8 c8 k8
  have B8 := F8.binds (ps := ["value"]) fun _ _ _ _ _ _ us hl => match us, hl with | [_], _ => rfl
  have F9 := fun_mk (st := s_require_row) l9 c9 k9
  have B9 := F9.binds (ps := ["value"]) fun _ _ _ _ _ _ us hl => match us, hl with | [_], _ => rfl
  have F10 := fun_mk (st := s_period_of) l10 c10 k10
  have B10 := F10.binds (ps := ["row"]) fun _ _ _ _ _ _ us hl => match us, hl with | [_], _ => rfl
  have F11 := fun_mk (st := s_period) l11 c11 k11
  have B11 := F11.binds (ps := ["row"]) fun _ _ _ _ _ _ us hl => match us, hl with | [_], _ => rfl
  have F12 := fun_mk (st := s__law_any_value) l12 c12 k12
  have B12 := F12.binds (ps := ["source", "depth"]) fun _ _ _ _ _ _ us hl => match us, hl with | [_, _], _ => rfl
  have F13 := fun_mk (st := s__law_variant) l13 c13 k13
  have B13 := F13.binds (ps := ["source", "value"]) fun _ _ _ _ _ _ us hl => match us, hl with | [_, _], _ => rfl
  have F14 := fun_mk (st := s_turns_of) l14 c14 k14
  have B14 := F14.binds (ps := ["row"]) fun _ _ _ _ _ _ us hl => match us, hl with | [_], _ => rfl
  have F15 := fun_mk (st := s_facing) l15 c15 k15
  have B15 := F15.binds (ps := ["row"]) fun _ _ _ _ _ _ us hl => match us, hl with | [_], _ => rfl
  have F16 := fun_mk (st := s__law_turns) l16 c16 k16
  have B16 := F16.binds (ps := ["words"]) fun _ _ _ _ _ _ us hl => match us, hl with | [_], _ => rfl
  have F17 := fun_mk (st := s__law_way) l17 c17 k17
  have B17 := F17.binds (ps := ["words"]) fun _ _ _ _ _ _ us hl => match us, hl with | [_], _ => rfl
  have F18 := fun_mk (st := s__law_period) l18 c18 k18
  have B18 := F18.binds (ps := ["words"]) fun _ _ _ _ _ _ us hl => match us, hl with | [_], _ => rfl
  have F19 := fun_mk (st := s__law_is_bool) l19 c19 k19
  have B19 := F19.binds (ps := ["actual", "expected"]) fun _ _ _ _ _ _ us hl => match us, hl with | [_, _], _ => rfl
  have F20 := fun_mk (st := s_law) l20 c20 k20
  have B20 := F20.binds (ps := ["script"]) fun _ _ _ _ _ _ us hl => match us, hl with | [_], _ => rfl
  let T : Txt K w mg := {
    b_len := PySem.W.mg_none_of X G z_len,
    b_int := PySem.W.mg_none_of X G z_int,
    b_tuple := PySem.W.mg_none_of X G z_tuple,
    b_isinstance := PySem.W.mg_none_of X G z_isinstance,
    b_str := PySem.W.mg_none_of X G z_str,
    b_range := PySem.W.mg_none_of X G z_range,
    b_all := PySem.W.mg_none_of X G z_all,
    b_list := PySem.W.mg_none_of X G z_list,
    b_sum := PySem.W.mg_none_of X G z_sum,
    b_bool := PySem.W.mg_none_of X G z_bool,
    b_min := PySem.W.mg_none_of X G z_min,
    b_max := PySem.W.mg_none_of X G z_max,
    g_WORDS := KG.tupS (PySem.W.mg_of X G g_WORDS) gl_WORDS ge_WORDS.1 ge_WORDS.2,
    g_MAX_WORDS := KG.int (PySem.W.mg_of X G g_MAX_WORDS),
    g_MAX_SHAPES := KG.int (PySem.W.mg_of X G g_MAX_SHAPES),
    g_WAYS := KG.tupS (PySem.W.mg_of X G g_WAYS) gl_WAYS ge_WAYS.1 ge_WAYS.2,
    d_FACTORS := KD.mk' (PySem.W.mg_of X G d_FACTORS) dl_FACTORS dk_FACTORS do_FACTORS de_FACTORS.1 de_FACTORS.2,
    d_TURNS := KD.mk' (PySem.W.mg_of X G d_TURNS) dl_TURNS dk_TURNS do_TURNS de_TURNS.1 de_TURNS.2,
    f__law_all_words := f0,
    fd__law_all_words := _,
    F__law_all_words := F0,
    m__law_all_words := PySem.W.mg_of X G a0,
    B__law_all_words := B0,
    f__law_source := f1,
    fd__law_source := _,
    F__law_source := F1,
    m__law_source := PySem.W.mg_of X G a1,
    B__law_source := B1,
    f__law_pick := f2,
    fd__law_pick := _,
    F__law_pick := F2,
    m__law_pick := PySem.W.mg_of X G a2,
    B__law_pick := B2,
    f__law_chosen := f3,
    fd__law_chosen := _,
    F__law_chosen := F3,
    m__law_chosen := PySem.W.mg_of X G a3,
    B__law_chosen := B3,
    f__law_factor := f4,
    fd__law_factor := _,
    F__law_factor := F4,
    m__law_factor := PySem.W.mg_of X G a4,
    B__law_factor := B4,
    f__law_is_good_row := f5,
    fd__law_is_good_row := _,
    F__law_is_good_row := F5,
    m__law_is_good_row := PySem.W.mg_of X G a5,
    B__law_is_good_row := B5,
    f__law_row := f6,
    fd__law_row := _,
    F__law_row := F6,
    m__law_row := PySem.W.mg_of X G a6,
    B__law_row := B6,
    f_is_word := f7,
    fd_is_word := _,
    F_is_word := F7,
    m_is_word := PySem.W.mg_of X G a7,
    B_is_word := B7,
    f_is_row := f8,
    fd_is_row := _,
    F_is_row := F8,
    m_is_row := PySem.W.mg_of X G a8,
    B_is_row := B8,
    f_require_row := f9,
    fd_require_row := _,
    F_require_row := F9,
    m_require_row := PySem.W.mg_of X G a9,
    B_require_row := B9,
    f_period_of := f10,
    fd_period_of := _,
    F_period_of := F10,
    m_period_of := PySem.W.mg_of X G a10,
    B_period_of := B10,
    f_period := f11,
    fd_period := _,
    F_period := F11,
    m_period := PySem.W.mg_of X G a11,
    B_period := B11,
    f__law_any_value := f12,
    fd__law_any_value := _,
    F__law_any_value := F12,
    m__law_any_value := PySem.W.mg_of X G a12,
    B__law_any_value := B12,
    f__law_variant := f13,
    fd__law_variant := _,
    F__law_variant := F13,
    m__law_variant := PySem.W.mg_of X G a13,
    B__law_variant := B13,
    f_turns_of := f14,
    fd_turns_of := _,
    F_turns_of := F14,
    m_turns_of := PySem.W.mg_of X G a14,
    B_turns_of := B14,
    f_facing := f15,
    fd_facing := _,
    F_facing := F15,
    m_facing := PySem.W.mg_of X G a15,
    B_facing := B15,
    f__law_turns := f16,
    fd__law_turns := _,
    F__law_turns := F16,
    m__law_turns := PySem.W.mg_of X G a16,
    B__law_turns := B16,
    f__law_way := f17,
    fd__law_way := _,
    F__law_way := F17,
    m__law_way := PySem.W.mg_of X G a17,
    B__law_way := B17,
    f__law_period := f18,
    fd__law_period := _,
    F__law_period := F18,
    m__law_period := PySem.W.mg_of X G a18,
    B__law_period := B18,
    f__law_is_bool := f19,
    fd__law_is_bool := _,
    F__law_is_bool := F19,
    m__law_is_bool := PySem.W.mg_of X G a19,
    B__law_is_bool := B19,
    f_law := fa,
    fd_law := _,
    F_law := F20,
    m_law := PySem.W.mg_of X G a20,
    B_law := B20 }
  exact ⟨_, fun s v => .of_eq rfl, fun base _ _ => ok_law T⟩
end SQ
open PySem PySem.W PyProof.Rows
set_option maxHeartbeats 0 in
theorem PySem.Challenge.cw_squadwords_k01_rows_ways_and_periods_holds : PySem.Challenge.rw_squadwords_k01_rows_ways_and_periods.Holds := by
  w_on; o_law; k_head; (case hw => w_witness2)
  k_fill
  refine L2.walk_of (l := PySem.Challenge.rw_squadwords_k01_rows_ways_and_periods) (n := 63) (k := 8) (x := "script") (CX := fun _ => L2.CX0) (sp := fun w => PD.spLaw _) rfl (by decide) rfl ⟨rfl, by decide, by decide⟩ (fun w h Y => PySem.W.kIn_of Y) ?F (fun _ _ a ns hl hO hS => ⟨a, ns, rfl, hS, hl, fun _ => rfl⟩) (fun _ _ _ _ _ h => h)
  case F =>
    intro w mg fa h KX G hmg
    refine' SQ.all_mk KX G hmg ?a0 ?l0 ?c0 ?k0 ?a1 ?l1 ?c1 ?k1 ?a2 ?l2 ?c2 ?k2 ?a3 ?l3 ?c3 ?k3 ?a4 ?l4 ?c4 ?k4 ?a5 ?l5 ?c5 ?k5 ?a6 ?l6 ?c6 ?k6 ?a7 ?l7 ?c7 ?k7 ?a8 ?l8 ?c8 ?k8 ?a9 ?l9 ?c9 ?k9 ?a10 ?l10 ?c10 ?k10 ?a11 ?l11 ?c11 ?k11 ?a12 ?l12 ?c12 ?k12 ?a13 ?l13 ?c13 ?k13 ?a14 ?l14 ?c14 ?k14 ?a15 ?l15 ?c15 ?k15 ?a16 ?l16 ?c16 ?k16 ?a17 ?l17 ?c17 ?k17 ?a18 ?l18 ?c18 ?k18 ?a19 ?l19 ?c19 ?k19 ?a20 ?l20 ?c20 ?k20 ?z_len ?z_int ?z_tuple ?z_isinstance ?z_str ?z_range ?z_all ?z_list ?z_sum ?z_bool ?z_min ?z_max ?g_WORDS ?gl_WORDS ?ge_WORDS ?g_MAX_WORDS ?g_MAX_SHAPES ?g_WAYS ?gl_WAYS ?ge_WAYS ?d_FACTORS ?dl_FACTORS ?dk_FACTORS ?do_FACTORS ?de_FACTORS ?d_TURNS ?dl_TURNS ?dk_TURNS ?do_TURNS ?de_TURNS
    (case a0 => k_is)
    (case l0 => k_is)
    (case c0 => k_is)
    (case k0 => k_is)
    (case a1 => k_is)
    (case l1 => k_is)
    (case c1 => k_is)
    (case k1 => k_is)
    (case a2 => k_is)
    (case l2 => k_is)
    (case c2 => k_is)
    (case k2 => k_is)
    (case a3 => k_is)
    (case l3 => k_is)
    (case c3 => k_is)
    (case k3 => k_is)
    (case a4 => k_is)
    (case l4 => k_is)
    (case c4 => k_is)
    (case k4 => k_is)
    (case a5 => k_is)
    (case l5 => k_is)
    (case c5 => k_is)
    (case k5 => k_is)
    (case a6 => k_is)
    (case l6 => k_is)
    (case c6 => k_is)
    (case k6 => k_is)
    (case a7 => k_is)
    (case l7 => k_is)
    (case c7 => k_is)
    (case k7 => k_is)
    (case a8 => k_is)
    (case l8 => k_is)
    (case c8 => k_is)
    (case k8 => k_is)
    (case a9 => k_is)
    (case l9 => k_is)
    (case c9 => k_is)
    (case k9 => k_is)
    (case a10 => k_is)
    (case l10 => k_is)
    (case c10 => k_is)
    (case k10 => k_is)
    (case a11 => k_is)
    (case l11 => k_is)
    (case c11 => k_is)
    (case k11 => k_is)
    (case a12 => k_is)
    (case l12 => k_is)
    (case c12 => k_is)
    (case k12 => k_is)
    (case a13 => k_is)
    (case l13 => k_is)
    (case c13 => k_is)
    (case k13 => k_is)
    (case a14 => k_is)
    (case l14 => k_is)
    (case c14 => k_is)
    (case k14 => k_is)
    (case a15 => k_is)
    (case l15 => k_is)
    (case c15 => k_is)
    (case k15 => k_is)
    (case a16 => k_is)
    (case l16 => k_is)
    (case c16 => k_is)
    (case k16 => k_is)
    (case a17 => k_is)
    (case l17 => k_is)
    (case c17 => k_is)
    (case k17 => k_is)
    (case a18 => k_is)
    (case l18 => k_is)
    (case c18 => k_is)
    (case k18 => k_is)
    (case a19 => k_is)
    (case l19 => k_is)
    (case c19 => k_is)
    (case k19 => k_is)
    (case a20 => k_is)
    (case l20 => k_is)
    (case c20 => k_is)
    (case k20 => k_is)
    (case z_len => k_is)
    (case z_int => k_is)
    (case z_tuple => k_is)
    (case z_isinstance => k_is)
    (case z_str => k_is)
    (case z_range => k_is)
    (case z_all => k_is)
    (case z_list => k_is)
    (case z_sum => k_is)
    (case z_bool => k_is)
    (case z_min => k_is)
    (case z_max => k_is)
    (case g_WORDS => k_is)
    (case gl_WORDS => k_is)
    (case ge_WORDS => exact ⟨rfl, by decide⟩)
    (case g_MAX_WORDS => k_is)
    (case g_MAX_SHAPES => k_is)
    (case g_WAYS => k_is)
    (case gl_WAYS => k_is)
    (case ge_WAYS => exact ⟨rfl, by decide⟩)
    (case d_FACTORS => k_is)
    (case dl_FACTORS => k_is)
    (case dk_FACTORS => exact ⟨⟨_, _, rfl, rfl⟩, ⟨_, _, rfl, rfl⟩, ⟨_, _, rfl, rfl⟩, ⟨_, _, rfl, rfl⟩, trivial⟩)
    (case do_FACTORS => rfl)
    (case de_FACTORS => exact ⟨rfl, rfl⟩)
    (case d_TURNS => k_is)
    (case dl_TURNS => k_is)
    (case dk_TURNS => exact ⟨⟨_, _, rfl, rfl⟩, ⟨_, _, rfl, rfl⟩, ⟨_, _, rfl, rfl⟩, ⟨_, _, rfl, rfl⟩, ⟨_, _, rfl, rfl⟩, trivial⟩)
    (case do_TURNS => rfl)
    (case de_TURNS => exact ⟨rfl, rfl⟩)
