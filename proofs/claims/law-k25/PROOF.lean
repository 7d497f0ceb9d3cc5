import PyProof.Rows.All
import Wide.All
import OpenK.AllK
import Wide.FinOn
import PySem.Challenge.RW_squadwords_k25_whole_shares_of_neighbors
import HandS.ForMost
import HandS.ForSpec
import HandS.Wide
import HandS.IsInst
import HandS.Conv
import HandS.Deep
import HandS.TupAny
import HandS.TupMul
import HandS.TupLe
import HandS.Zip
import HandS.Walk
import HandS.Style
import HandS.StrMore
import HandS.SortInts
import HandS.HeadHook3
import HandS.More
import KE.SortData
import KE.GoesEnum
import HandS.Iter
import HandS.Dict
import KE.GoesZip
import KE.GoesMore
import HandS.Exc
import HandS.ExcOwn
import HandS.ExcIs
import HandS.WordsExc
import HandS.ExcCtx
import HandS.HotCalls
import HandS.MapJoin
import KE.KDictZip
import PyProof.ListNew
import PyProof.Rows.TupIter
import HandS.ExcValue
set_option Elab.async false
set_option linter.all false
set_option maxRecDepth 100000
set_option maxHeartbeats 1000000
/-! PD: pure data over the hand layer: what a def does, said of data alone. -/
namespace PD
open PySem PySem.Spec PyProof.Rows L2

/-- data, without a heap; src: the law's source of drawn numbers -/
inductive D where
  | non | bl (b : Bool) | int (i : Int) | str (x : Str) | tup (xs : List D) | lst (xs : List D) | src | ty (n : String) | dct (kvs : List (Str × Str)) | exc (c : Value) (a : Addr)

abbrev As := Addr → Prop
def SrcO (o : HO) : Prop := ∃ c s p : Int, o = .lst [.int c, .int s, .int p] ∧ 0 ≤ c ∧ 0 ≤ s ∧ s < 4294967296 ∧ 1073741824 < p ∧ p < 2147483648
def SrcAt (H : Hp) (a : Addr) : Prop := ∃ o, H a = some o ∧ SrcO o
def KL (K : PySem.W.Frag) (a : Addr) (xs : List V) : Prop :=
  ∃ (o : Obj) (its : Array Value) (n : Nat), K.lookup a = some o ∧ o.cls = .type "list" ∧ o.dict = none ∧ o.data = .seq its n ∧ its.size ≤ sizeLine ∧ Vals xs its.toList
/-- a list that nobody changes any more -/
def FzL (K : PySem.W.Frag) (H : Hp) (a : Addr) (xs : List V) : Prop := (∃ o, H a = some (.frz o (.lst xs))) ∨ KL K a xs
theorem FzL.sq {K : PySem.W.Frag} {H : Hp} {a : Addr} {xs : List V} (h : FzL K H a xs) : SqL K H a xs := by
  rcases h with ⟨o, h⟩ | h
  · exact .inl (.inr ⟨o, h⟩)
  · exact .inr h

/-- a dict of texts by texts, as the layer's pairs -/
def strKV (kvs : List (Str × Str)) : List (Key × V) := kvs.map fun p => (Sum.inr p.1, V.str p.2)
mutual
inductive Rep (K : PySem.W.Frag) (S : As) (H : Hp) : V → D → Prop
  | non : Rep K S H .non .non
  | bl (b : Bool) : Rep K S H (.bl b) (.bl b)
  | int (i : Int) : Rep K S H (.int i) (.int i)
  | str (x : Str) : Rep K S H (.str x) (.str x)
  | ty (n : String) : Rep K S H (.ty n) (.ty n)
  | tup {a : Addr} {xs : List V} {ds : List D} : SqT K H a xs → Reps K S H xs ds → Rep K S H (.ref a) (.tup ds)
  | lst {a : Addr} {xs : List V} {ds : List D} : FzL K H a xs → Reps K S H xs ds → Rep K S H (.ref a) (.lst ds)
  | src {a : Addr} : S a → Rep K S H (.ref a) .src
  | dct {a : Addr} {o : Obj} {kvs : List (Str × Str)} : H a = some (.frz o (.dK (strKV kvs))) → Rep K S H (.ref a) (.dct kvs)
  | exc {a : Addr} {o : Obj} {c : Value} : H a = some (.frz o (.ext fun _ => True)) → o.cls = c → o.dict = none → (∃ vs, o.data = .fields vs) → (∀ vs : Array Value, o.data = .fields vs → vs[2]? = some .none) → Rep K S H (.ref a) (.exc c a)
inductive Reps (K : PySem.W.Frag) (S : As) (H : Hp) : List V → List D → Prop
  | nil : Reps K S H [] []
  | cons {v : V} {vs : List V} {d : D} {ds : List D} : Rep K S H v d → Reps K S H vs ds → Reps K S H (v :: vs) (d :: ds)
end

/-- what data leans on stays -/
structure Stb (S : As) (H : Hp) (S' : As) (H' : Hp) : Prop where
  tup : ∀ b xs, H b = some (.tup xs) → H' b = some (.tup xs)
  frz : ∀ b o u, H b = some (.frz o u) → H' b = some (.frz o u)
  src : ∀ b, S b → S' b
def Ws (S : As) (H : Hp) : Prop := ∀ b, S b → SrcAt H b
/-- behind an expression: all that was tracked is as it was, but the sources may have turned -/
structure Ev (S : As) (H : Hp) (S' : As) (H' : Hp) : Prop where
  keep : ∀ b o, H b = some o → ¬ S b → H' b = some o
  src : ∀ b, S b → S' b
  new : ∀ b, S' b → S b ∨ H b = none
section
variable {K : PySem.W.Frag} {S S' S1 : As} {H H' H1 : Hp}
theorem SqT.stb {a : Addr} {xs : List V} (s : Stb S H S' H') (h : SqT K H a xs) : SqT K H' a xs := by
  rcases h with (h | ⟨o, h⟩) | h
  · exact .inl (.inl (s.tup _ _ h))
  · exact .inl (.inr ⟨o, s.frz _ _ _ h⟩)
  · exact .inr h
theorem FzL.stb {a : Addr} {xs : List V} (s : Stb S H S' H') (h : FzL K H a xs) : FzL K H' a xs := by
  rcases h with ⟨o, h⟩ | h
  · exact .inl ⟨o, s.frz _ _ _ h⟩
  · exact .inr h
mutual
theorem Rep.stb (s : Stb S H S' H') : ∀ (d : D) (v : V), Rep K S H v d → Rep K S' H' v d
  | .non, _, h => by cases h; exact .non
  | .bl _, _, h => by cases h; exact .bl _
  | .int _, _, h => by cases h; exact .int _
  | .str _, _, h => by cases h; exact .str _
  | .ty _, _, h => by cases h; exact .ty _
  | .src, _, h => by cases h with | src h => exact .src (s.src _ h)
  | .dct _, _, h => by cases h with | dct h => exact .dct (s.frz _ _ _ h)
  | .exc _ _, _, h => by cases h with | exc h h1 h2 h3 h4 => exact .exc (s.frz _ _ _ h) h1 h2 h3 h4
  | .tup ds, _, h => by cases h with | tup h r => exact .tup (SqT.stb s h) (Reps.stb s ds _ r)
  | .lst ds, _, h => by cases h with | lst h r => exact .lst (FzL.stb s h) (Reps.stb s ds _ r)
theorem Reps.stb (s : Stb S H S' H') : ∀ (ds : List D) (vs : List V), Reps K S H vs ds → Reps K S' H' vs ds
  | [], _, h => by cases h; exact .nil
  | d :: ds, _, h => by cases h with | cons h r => exact .cons (Rep.stb s d _ h) (Reps.stb s ds _ r)
end
theorem SrcO.lst {o : HO} (h : SrcO o) : ∃ xs, o = .lst xs := by
  obtain ⟨c, s, p, e, _⟩ := h
  exact ⟨_, e⟩
theorem Ws.ne {b : Addr} {o : HO} (w : Ws S H) (e : H b = some o) (h : ∀ xs, o ≠ .lst xs) : ¬ S b := fun z => by
  obtain ⟨o', e', q⟩ := w b z
  rw [e] at e'
  cases e'
  obtain ⟨xs, e2⟩ := q.lst
  exact h xs e2
theorem Ws.at {b : Addr} (w : Ws S H) (e : H b = none) : ¬ S b := fun z => by
  obtain ⟨o', e', q⟩ := w b z
  rw [e] at e'
  cases e'
theorem Ev.stb (w : Ws S H) (e : Ev S H S' H') : Stb S H S' H' :=
  ⟨fun b xs h => e.keep b _ h (w.ne h (fun _ z => nomatch z)), fun b o u h => e.keep b _ h (w.ne h (fun _ z => nomatch z)), e.src⟩
theorem Ev.refl : Ev S H S H := ⟨fun _ _ h _ => h, fun _ h => h, fun _ h => .inl h⟩
theorem Ev.free {b : Addr} (e : Ev S H S' H') (w : Ws S' H') (h : H' b = none) : H b = none := by
  cases q : H b with
  | none => rfl
  | some o =>
    by_cases z : S b
    · obtain ⟨o', e', _⟩ := w b (e.src b z)
      rw [h] at e'; cases e'
    · have := e.keep b o q z
      rw [h] at this; cases this
theorem Ev.trans {S2 : As} {H2 : Hp} (w : Ws S1 H1) (a : Ev S H S1 H1) (b : Ev S1 H1 S2 H2) : Ev S H S2 H2 where
  keep := fun c o h z => by
    refine b.keep c o (a.keep c o h z) fun y => ?_
    rcases a.new c y with y | y
    · exact z y
    · rw [h] at y; cases y
  src := fun c h => b.src c (a.src c h)
  new := fun c h => by
    rcases b.new c h with y | y
    · exact a.new c y
    · exact .inr (a.free w y)
theorem Ev.upd {p : Addr} {o : HO} (h : H p = none) : Ev S H S (upd H p o) := ⟨fun b x e _ => by rw [upd_ne (ne_of_none e h)]; exact e, fun _ h => h, fun _ h => .inl h⟩
theorem Ws.upd {p : Addr} {o : HO} (w : Ws S H) (h : H p = none) : Ws S (upd H p o) := fun b z => by
  obtain ⟨o', e, q⟩ := w b z
  exact ⟨o', by rw [upd_ne (ne_of_none e h)]; exact e, q⟩
/-- a list that one has is frozen -/
theorem Ev.frz {p : Addr} {xs : List V} {o : Obj} (h : H p = none) (h' : H' p = some (.lst xs)) (ws : Ws S H) (e : Ev S H S' H') (ns : ¬ S' p) : Ev S H S' (L2.upd H' p (.frz o (.lst xs))) where
  keep := fun b x q z => by rw [upd_ne (ne_of_none q h)]; exact e.keep b x q z
  src := e.src
  new := e.new
theorem Ws.frz {p : Addr} {xs : List V} {o : Obj} (ws : Ws S H) (ns : ¬ S p) : Ws S (L2.upd H p (.frz o (.lst xs))) := fun b z => by
  obtain ⟨o', e, q⟩ := ws b z
  exact ⟨o', by rw [upd_ne (fun y => ns (by rw [← y]; exact z))]; exact e, q⟩
theorem Stb.refl : Stb S H S H := ⟨fun _ _ h => h, fun _ _ _ h => h, fun _ h => h⟩
theorem Stb.trans {S2 : As} {H2 : Hp} (a : Stb S H S1 H1) (b : Stb S1 H1 S2 H2) : Stb S H S2 H2 := ⟨fun c x h => b.tup c x (a.tup c x h), fun c o x h => b.frz c o x (a.frz c o x h), fun c h => b.src c (a.src c h)⟩
theorem Stb.wr {p : Addr} {xs : List V} {o : HO} (h : H p = some (.lst xs)) : Stb S H S (L2.upd H p o) :=
  ⟨fun b x e => by rw [upd_ne (fun z => by rw [z, h] at e; cases e)]; exact e, fun b u x e => by rw [upd_ne (fun z => by rw [z, h] at e; cases e)]; exact e, fun _ h => h⟩
theorem Reps.length : ∀ {vs : List V} {ds : List D}, Reps K S H vs ds → vs.length = ds.length
  | _, [], h => by cases h; rfl
  | _, d :: ds, h => by cases h with | cons h r => simp [Reps.length r]
theorem Reps.get : ∀ {vs : List V} {ds : List D} {i : Nat} {d : D}, Reps K S H vs ds → ds[i]? = some d → ∃ v, vs[i]? = some v ∧ Rep K S H v d
  | _, [], _, _, _, e => by simp at e
  | _, d :: ds, 0, _, h, e => by cases h with | cons h r => simp at e; subst e; exact ⟨_, rfl, h⟩
  | _, d :: ds, i + 1, _, h, e => by cases h with | cons h r => exact Reps.get (i := i) r (by simpa using e)
theorem Reps.getV : ∀ {vs : List V} {ds : List D} {i : Nat} {v : V}, Reps K S H vs ds → vs[i]? = some v → ∃ d, ds[i]? = some d ∧ Rep K S H v d
  | _, [], _, _, h, e => by cases h; simp at e
  | _, d :: ds, 0, _, h, e => by cases h with | cons h r => simp at e; subst e; exact ⟨_, rfl, h⟩
  | _, d :: ds, i + 1, _, h, e => by cases h with | cons h r => exact Reps.getV (i := i) r (by simpa using e)
theorem Reps.append : ∀ {vs us : List V} {ds es : List D}, Reps K S H vs ds → Reps K S H us es → Reps K S H (vs ++ us) (ds ++ es)
  | _, _, [], _, h, r => by cases h; exact r
  | _, _, _ :: _, _, h, r => by cases h with | cons h q => exact .cons h (Reps.append q r)
theorem Reps.set : ∀ {vs : List V} {ds : List D} {v : V} {d : D} (i : Nat), Reps K S H vs ds → Rep K S H v d → Reps K S H (vs.set i v) (ds.set i d)
  | _, [], _, _, _, h, _ => by cases h; exact .nil
  | _, _ :: _, _, _, 0, h, r => by cases h with | cons h q => exact .cons r q
  | _, _ :: _, _, _, i + 1, h, r => by cases h with | cons h q => exact .cons h (Reps.set i q r)
theorem Reps.take : ∀ {vs : List V} {ds : List D} (n : Nat), Reps K S H vs ds → Reps K S H (vs.take n) (ds.take n)
  | _, [], _, h => by cases h; simp; exact .nil
  | _, _ :: _, 0, h => .nil
  | _, _ :: _, n + 1, h => by cases h with | cons h q => exact .cons h (Reps.take n q)
theorem Reps.drop : ∀ {vs : List V} {ds : List D} (n : Nat), Reps K S H vs ds → Reps K S H (vs.drop n) (ds.drop n)
  | _, [], n, h => by cases h; simp; exact .nil
  | _, _ :: _, 0, h => h
  | _, _ :: _, n + 1, h => by cases h with | cons h q => exact Reps.drop n q
end

/-! ### slots -/
/-- keys: pairs of ints -/
abbrev KP := Int × Int
def kpV (p : KP) : List V := [.int p.1, .int p.2]
def kpD (p : KP) : D := .tup [.int p.1, .int p.2]
/-- a dict of one's own, its keys pairs of ints, its values True -/
def kpKV (ks : List KP) : List (List Key × V) := ks.map fun p => ([Sum.inl p.1, Sum.inl p.2], V.bl true)
inductive Sl where
  | no | dat (d : D) | own (ds : List D) | dic (ks : List KP) | key (p : KP)
def isDic : Sl → Prop
  | .dic _ => True
  | _ => False
/-- no two of a kind lie at one address -/
def Dist (κ : Sl → Prop) (σ : L2.St) (Γ : List Sl) : Prop := ∀ (i j : Nat) (a : Addr) (x y : Sl), Γ[i]? = some x → Γ[j]? = some y → κ x → κ y → σ[i]? = some (some (.ref a)) → σ[j]? = some (some (.ref a)) → i = j
theorem Dist.set {κ : Sl → Prop} {σ : L2.St} {Γ : List Sl} (D : Dist κ σ Γ) {i : Nat} {x : Sl} {v : Option V} (h : ¬ κ x) : Dist κ (σ.set i v) (Γ.set i x) := fun j k a y z h1 h2 h3 h4 h5 h6 => by
  have nj : ∀ {k : Nat} {y : Sl}, (Γ.set i x)[k]? = some y → κ y → i ≠ k := fun {k y} h1 h2 z => by
    subst z
    by_cases hl : i < Γ.length
    · rw [List.getElem?_set_self hl] at h1; cases h1; exact h h2
    · rw [List.getElem?_eq_none (by simp; omega)] at h1; cases h1
  have n1 := nj h1 h3
  have n2 := nj h2 h4
  rw [List.getElem?_set_ne n1] at h1 h5
  rw [List.getElem?_set_ne n2] at h2 h6
  exact D j k a y z h1 h2 h3 h4 h5 h6
theorem Dist.setG {κ : Sl → Prop} {σ : L2.St} {Γ : List Sl} (D : Dist κ σ Γ) {i : Nat} {x : Sl} (h : ¬ κ x) : Dist κ σ (Γ.set i x) := fun j k a y z h1 h2 h3 h4 h5 h6 => by
  have nj : ∀ {k : Nat} {y : Sl}, (Γ.set i x)[k]? = some y → κ y → i ≠ k := fun {k y} h1 h2 z => by
    subst z
    by_cases hl : i < Γ.length
    · rw [List.getElem?_set_self hl] at h1; cases h1; exact h h2
    · rw [List.getElem?_eq_none (by simp; omega)] at h1; cases h1
  rw [List.getElem?_set_ne (nj h1 h3)] at h1
  rw [List.getElem?_set_ne (nj h2 h4)] at h2
  exact D j k a y z h1 h2 h3 h4 h5 h6
/-- of one kind it stays one kind -/
theorem Dist.setG' {κ : Sl → Prop} {σ : L2.St} {Γ : List Sl} (D : Dist κ σ Γ) {i : Nat} {x y : Sl} (h : Γ[i]? = some x) (hx : κ x) : Dist κ σ (Γ.set i y) := fun j k a u v h1 h2 h3 h4 h5 h6 => by
  have gj : ∀ {j : Nat} {u : Sl}, (Γ.set i y)[j]? = some u → κ u → ∃ w, Γ[j]? = some w ∧ κ w := fun {j u} h1 h2 => by
    by_cases hj : i = j
    · subst hj; exact ⟨x, h, hx⟩
    · rw [List.getElem?_set_ne hj] at h1; exact ⟨u, h1, h2⟩
  obtain ⟨w1, g1, g2⟩ := gj h1 h3
  obtain ⟨w2, g3, g4⟩ := gj h2 h4
  exact D j k a w1 w2 g1 g3 g2 g4 h5 h6
def SlotOk (K : PySem.W.Frag) (O S : As) (H : Hp) (x : Option (Option V)) : Sl → Prop
  | .no => True
  | .dat d => ∃ v, x = some (some v) ∧ Rep K S H v d
  | .own ds => ∃ a vs, x = some (some (.ref a)) ∧ H a = some (.lst vs) ∧ (¬ S a ∧ O a) ∧ Reps K S H vs ds
  | .dic ks => ∃ a, x = some (some (.ref a)) ∧ H a = some (.dT (kpKV ks)) ∧ (¬ S a ∧ O a)
  | .key p => ∃ a, x = some (some (.ref a)) ∧ H a = some (.tup (kpV p))
structure Mat (K : PySem.W.Frag) (O S : As) (H : Hp) (σ : L2.St) (Γ : List Sl) : Prop where
  len : Γ.length = σ.length
  at_ : ∀ (i : Nat) (sl : Sl), Γ[i]? = some sl → SlotOk K O S H (σ[i]?) sl
  dist : ∀ (i j : Nat) (a : Addr) (ds es : List D), Γ[i]? = some (.own ds) → Γ[j]? = some (.own es) → σ[i]? = some (some (.ref a)) → σ[j]? = some (some (.ref a)) → i = j
  dis2 : Dist isDic σ Γ
section
variable {K : PySem.W.Frag} {O S S' S1 : As} {H H' H1 : Hp} {σ : L2.St} {Γ : List Sl}
theorem SlotOk.ev {x : Option (Option V)} {sl : Sl} (ws : Ws S H) (w' : Ws S' H') (e : Ev S H S' H') (h : SlotOk K O S H x sl) : SlotOk K O S' H' x sl := by
  cases sl with
  | no => trivial
  | dat d =>
    obtain ⟨v, e1, r⟩ := h
    exact ⟨v, e1, Rep.stb (e.stb ws) _ _ r⟩
  | own ds =>
    obtain ⟨a, vs, e1, e2, n, r⟩ := h
    refine ⟨a, vs, e1, e.keep _ _ e2 n.1, ⟨fun z => ?_, n.2⟩, Reps.stb (e.stb ws) _ _ r⟩
    rcases e.new a z with y | y
    · exact n.1 y
    · rw [e2] at y; cases y
  | dic ks =>
    obtain ⟨a, e1, e2, n⟩ := h
    refine ⟨a, e1, e.keep _ _ e2 n.1, ⟨fun z => ?_, n.2⟩⟩
    rcases e.new a z with y | y
    · exact n.1 y
    · rw [e2] at y; cases y
  | key p =>
    obtain ⟨a, e1, e2⟩ := h
    exact ⟨a, e1, (e.stb ws).tup _ _ e2⟩
theorem Mat.ev (ws : Ws S H) (w' : Ws S' H') (e : Ev S H S' H') (m : Mat K O S H σ Γ) : Mat K O S' H' σ Γ :=
  ⟨m.len, fun i sl h => (m.at_ i sl h).ev ws w' e, m.dist, m.dis2⟩
theorem Mat.setDat {i : Nat} {v : V} {d : D} (m : Mat K O S H σ Γ) (r : Rep K S H v d) : Mat K O S H (σ.set i (some v)) (Γ.set i (.dat d)) := by
  refine ⟨by simpa using m.len, fun j sl h => ?_, fun j k a ds es h1 h2 h3 h4 => ?_, m.dis2.set (fun z => z.elim)⟩
  · by_cases hj : i = j
    · subst hj
      by_cases hl : i < Γ.length
      · rw [List.getElem?_set_self hl] at h
        cases h
        exact ⟨v, by rw [List.getElem?_set_self (by rw [← m.len]; exact hl)], r⟩
      · rw [List.getElem?_eq_none (by simp; omega)] at h; cases h
    · rw [List.getElem?_set_ne hj] at h ⊢
      exact m.at_ j sl h
  · have nj : ∀ {k : Nat} {ds : List D}, (Γ.set i (.dat d))[k]? = some (.own ds) → i ≠ k := fun {k ds} h z => by
      subst z
      by_cases hl : i < Γ.length
      · rw [List.getElem?_set_self hl] at h; cases h
      · rw [List.getElem?_eq_none (by simp; omega)] at h; cases h
    have n1 := nj h1
    have n2 := nj h2
    rw [List.getElem?_set_ne n1] at h1 h3
    rw [List.getElem?_set_ne n2] at h2 h4
    exact m.dist j k a ds es h1 h2 h3 h4
theorem Mat.setNo {i : Nat} {x : Option V} (m : Mat K O S H σ Γ) : Mat K O S H (σ.set i x) (Γ.set i .no) := by
  refine ⟨by simpa using m.len, fun j sl h => ?_, fun j k a ds es h1 h2 h3 h4 => ?_, m.dis2.set (fun z => z.elim)⟩
  · by_cases hj : i = j
    · subst hj
      by_cases hl : i < Γ.length
      · rw [List.getElem?_set_self hl] at h
        cases h
        trivial
      · rw [List.getElem?_eq_none (by simp; omega)] at h; cases h
    · rw [List.getElem?_set_ne hj] at h ⊢
      exact m.at_ j sl h
  · have nj : ∀ {k : Nat} {ds : List D}, (Γ.set i .no)[k]? = some (.own ds) → i ≠ k := fun {k ds} h z => by
      subst z
      by_cases hl : i < Γ.length
      · rw [List.getElem?_set_self hl] at h; cases h
      · rw [List.getElem?_eq_none (by simp; omega)] at h; cases h
    have n1 := nj h1
    have n2 := nj h2
    rw [List.getElem?_set_ne n1] at h1 h3
    rw [List.getElem?_set_ne n2] at h2 h4
    exact m.dist j k a ds es h1 h2 h3 h4
end

/-! ### the readings over data -/
abbrev Ex := Value → Prop
abbrev Ev0 : Ex := fun _ => False
abbrev WE := List Sl → (D → Prop) → Ex → Prop
abbrev WA := List Sl → (List D → Prop) → Ex → Prop
abbrev WB := List Sl → (Bool → Prop) → Ex → Prop
abbrev WS := (List Sl → Prop) → (D → Prop) → Ex → List Sl → Prop

section
variable (K : PySem.W.Frag) (E : XK)
def kE (S : As) (H : Hp) (Ed : Ex) : Prop := ∀ c S' H', Ed c → Ev S H S' H' → Ws S' H' → E c none H'
def tD (w : WE) : TE := fun σ H Q => ∃ O S Γ Qd Ed, Ws S H ∧ Mat K O S H σ Γ ∧ w Γ Qd Ed ∧ (∀ v d S' H', Qd d → Ev S H S' H' → Ws S' H' → Rep K S' H' v d → Q v H') ∧ kE E S H Ed
def tDA (w : WA) : TA := fun σ H Q => ∃ O S Γ Qd Ed, Ws S H ∧ Mat K O S H σ Γ ∧ w Γ Qd Ed ∧ (∀ vs ds S' H', Qd ds → Ev S H S' H' → Ws S' H' → Reps K S' H' vs ds → Q vs H') ∧ kE E S H Ed
def tDB (w : WB) : TT := fun σ H Q => ∃ O S Γ Qd Ed, Ws S H ∧ Mat K O S H σ Γ ∧ w Γ Qd Ed ∧ (∀ b S' H', Qd b → Ev S H S' H' → Ws S' H' → Q b H') ∧ kE E S H Ed
end
section
variable {E : XK} {S S' : As} {H H' : Hp} {Ed : Ex}
theorem kE.ev (ws : Ws S' H') (h : kE E S H Ed) (e : Ev S H S' H') : kE E S' H' Ed := fun c S2 H2 q e2 w2 => h c S2 H2 q (e.trans ws e2) w2
theorem kE.zero : kE E S H Ev0 := fun _ _ _ h => h.elim
end

/-! ### weakening -/
theorem _root_.L2.PE.imp {X : Cx} {e : Expr} {t t' : TE} (h : PE X e t) (q : ∀ σ H Q, t' σ H Q → t σ H Q) : PE X e t' := ⟨fun pins s σ H Q I w => h.run pins s σ H Q I (q _ _ _ w)⟩
theorem _root_.L2.PT.imp {X : Cx} {e : Expr} {t t' : TT} (h : PT X e t) (q : ∀ σ H Q, t' σ H Q → t σ H Q) : PT X e t' := ⟨fun pins s σ H Q I w => h.run pins s σ H Q I (q _ _ _ w)⟩
theorem _root_.L2.PA.imp {X : Cx} {e : List Expr} {t t' : TA} (h : PA X e t) (q : ∀ σ H Q, t' σ H Q → t σ H Q) : PA X e t' := ⟨fun pos pins s σ H Q I w => h.run pos pins s σ H Q I (q _ _ _ w)⟩
theorem _root_.L2.PS.imp {X : Cx} {e : Stmt} {t t' : TS} (h : PS X e t) (q : ∀ D σ H, t' D σ H → t D σ H) : PS X e t' := ⟨fun pins s σ H D I w => h.run pins s σ H D I (q _ _ _ w)⟩
theorem _root_.L2.PSs.imp {X : Cx} {e : List Stmt} {t t' : TS} (h : PSs X e t) (q : ∀ D σ H, t' D σ H → t D σ H) : PSs X e t' := ⟨fun pins s σ H D I w => h.run pins s σ H D I (q _ _ _ w)⟩
/-- a list that an expression gives may be frozen -/
def fzQ (Q : VK) : VK := fun v H => Q v H ∨ ∃ a xs, v = .ref a ∧ H a = some (.lst xs) ∧ ∀ o, Q v (upd H a (.frz o (.lst xs)))
theorem _root_.L2.PE.frz {X : Cx} {e : Expr} {t : TE} (h : PE X e t) : PE X e (fun σ H Q => t σ H (fzQ Q)) := by
  refine ⟨fun pins s σ H Q I w => thn (h.run pins s σ H _ I w) fun u s1 hh => ?_⟩
  obtain ⟨v, H', I', r, q⟩ := hh
  rcases q with q | ⟨a, xs, e1, e2, q⟩
  · exact ⟨v, H', I', r, q⟩
  · obtain ⟨od, I2⟩ := I'.lock e2 (show Mut (some (.lst xs)) from trivial)
    exact ⟨v, _, I2, r, q od⟩
/-! ### atoms -/
@[simp] def wVar (i : Nat) : WE := fun Γ Q _ => ∃ d, Γ[i]? = some (.dat d) ∧ Q d
@[simp] def wC (d : D) : WE := fun _ Q _ => Q d
section
variable {X : Cx} {E : XK}
theorem d_var (i : Nat) {x : Str} {pos : Pos} (hN : X.N[i]? = some x := by rfl) (hv : Vis X.env.scope x := by first | exact Or.inl rfl | exact Or.inr (Or.inl rfl) | exact Or.inr (Or.inr rfl)) (hd : (x == ("__debug__" : Str)) = false := by decide)
    (hcd : (x == ("__classdict__" : Str)) = false := by decide) : PE X (.Name x pos) (tD X.K E (wVar i)) := (pv i hN hv hd hcd).imp fun σ H Q h => by
  obtain ⟨O, S, Γ, Qd, Ed, ws, m, ⟨d, e, q⟩, k, _⟩ := h
  obtain ⟨v, e1, r⟩ := m.at_ i _ e
  exact ⟨v, e1, k v d S H q .refl ws r⟩
/-- an atom's value -/
theorem d_c {e : Expr} {v : V} {d : D} (h : PE X e (tC v)) (r : ∀ S H, Rep X.K S H v d) : PE X e (tD X.K E (wC d)) := h.imp fun σ H Q h => by
  obtain ⟨O, S, Γ, Qd, Ed, ws, m, q, k, _⟩ := h
  exact k v d S H q .refl ws (r S H)
theorem d_int {i j pos} : PE X (.Constant (.int i) j pos) (tD X.K E (wC (.int i))) := d_c pe_int fun _ _ => .int _
theorem d_bl {i j pos} : PE X (.Constant (.bool i) j pos) (tD X.K E (wC (.bl i))) := d_c pe_bl fun _ _ => .bl _
theorem d_non {j pos} : PE X (.Constant .none j pos) (tD X.K E (wC .non)) := d_c pe_non fun _ _ => .non
theorem d_str {x j pos} : PE X (.Constant (.str x) j pos) (tD X.K E (wC (.str x))) := d_c pe_str fun _ _ => .str _
end
end PD

set_option Elab.async false
set_option linter.all false
set_option maxRecDepth 100000
set_option maxHeartbeats 1000000
namespace PD
open PySem PySem.Spec PyProof.Rows L2
/-! ### data as the library's -/
mutual
def D.pd : D → PyData
  | .non => .none
  | .bl b => .bool b
  | .int i => .int i
  | .str x => .str x
  | .tup xs => .tuple (D.pds xs)
  | .lst xs => .list (D.pds xs)
  | .src => .none
  | .ty _ => .none
  | .dct _ => .none
  | .exc _ _ => .none
def D.pds : List D → List PyData
  | [] => []
  | x :: xs => D.pd x :: D.pds xs
end
/-- plain data of so many levels -/
def D.fl : Nat → D → Bool
  | _, .non => true
  | _, .bl _ => true
  | _, .int _ => true
  | _, .str x => PyData.strOk x
  | n + 1, .tup xs => xs.all (D.fl n)
  | n + 1, .lst xs => xs.all (D.fl n)
  | _, _ => false
/-- == -/
def D.eq (x y : D) : Bool := PyData.eqv x.pd y.pd
theorem D.fl_ok : ∀ (n : Nat) (d : D), d.fl n = true → d.pd.canLay0 = true ∧ d.pd.depth ≤ n := by
  have all : ∀ (n : Nat), (∀ d : D, d.fl n = true → d.pd.canLay0 = true ∧ d.pd.depth ≤ n) → ∀ ds : List D, ds.all (D.fl n) = true → PyData.canLayAll0 (D.pds ds) = true ∧ PyData.depthAll (D.pds ds) ≤ n := by
    intro n h ds
    induction ds with
    | nil => intro _; simp [D.pds, PyData.canLayAll0, PyData.depthAll]
    | cons d r ih =>
      intro e
      simp only [List.all_cons, Bool.and_eq_true] at e
      obtain ⟨a1, a2⟩ := h d e.1
      obtain ⟨b1, b2⟩ := ih e.2
      simp only [D.pds, PyData.canLayAll0, PyData.depthAll, Bool.and_eq_true]
      exact ⟨⟨a1, b1⟩, Nat.max_le.mpr ⟨a2, b2⟩⟩
  intro n
  induction n with
  | zero =>
    intro d h
    cases d <;> simp_all [D.fl, D.pd, PyData.canLay0, PyData.depth]
  | succ n ih =>
    intro d h
    cases d with
    | tup xs =>
      obtain ⟨a, b⟩ := all n ih xs (by simpa [D.fl] using h)
      simp only [D.pd, PyData.canLay0, PyData.depth]
      exact ⟨a, by omega⟩
    | lst xs =>
      obtain ⟨a, b⟩ := all n ih xs (by simpa [D.fl] using h)
      simp only [D.pd, PyData.canLay0, PyData.depth]
      exact ⟨a, by omega⟩
    | _ => simp_all [D.fl, D.pd, PyData.canLay0, PyData.depth]
theorem D.shaped {n : Nat} {d : D} (hn : n ≤ 64) (h : d.fl n = true) : SeqAt.shaped d.pd = true := by
  obtain ⟨a, b⟩ := D.fl_ok n d h
  unfold SeqAt.shaped
  rw [a, decide_eq_true (by omega)]
  rfl
section
variable {K : PySem.W.Frag} {S : As} {H : Hp}
theorem Rep.dp : ∀ (n : Nat) (d : D) (v : V), d.fl n = true → Rep K S H v d → Dp K H v d.pd := by
  have all : ∀ (n : Nat), (∀ (d : D) (v : V), d.fl n = true → Rep K S H v d → Dp K H v d.pd) → ∀ (ds : List D) (vs : List V), ds.all (D.fl n) = true → Reps K S H vs ds → DpAll K H vs (D.pds ds) := by
    intro n h ds
    induction ds with
    | nil => intro vs _ r; cases r; exact .nil
    | cons d r ih =>
      intro vs e q
      simp only [List.all_cons, Bool.and_eq_true] at e
      cases q with
      | cons q1 q2 => exact .cons (h _ _ e.1 q1) (ih _ e.2 q2)
  intro n
  induction n with
  | zero =>
    intro d v h r
    cases r with
    | non => exact .non
    | bl => exact .bl _
    | int => exact .int _
    | str => exact .str _
    | ty => cases h
    | src => cases h
    | tup => cases h
    | lst => cases h
    | dct => cases h
    | exc => cases h
  | succ n ih =>
    intro d v h r
    cases r with
    | non => exact .non
    | bl => exact .bl _
    | int => exact .int _
    | str => exact .str _
    | ty => cases h
    | src => cases h
    | dct => cases h
    | exc => cases h
    | tup a b => exact .tup a (all n ih _ _ (by simpa [D.fl] using h) b)
    | lst a b => exact .lst a.sq (all n ih _ _ (by simpa [D.fl] using h) b)
end

/-! ### operators -/
/-- what a value rule does, said of data: the frozen list too -/
def FR (K : PySem.W.Frag) (r : R2) (f : D → D → (D → Prop) → Prop) : Prop := ∀ (S : As) (H : Hp) (ws : Ws S H) (x y : D) (Qd : D → Prop) (Q : VK) (vx vy : V), Rep K S H vx x → Rep K S H vy y → f x y Qd →
  (∀ v d S' H', Qd d → Ev S H S' H' → Ws S' H' → Rep K S' H' v d → Q v H') → r vx vy H (fzQ Q)
def FU (K : PySem.W.Frag) (r : V → Hp → VK → Prop) (f : D → (D → Prop) → Prop) : Prop := ∀ (S : As) (H : Hp) (ws : Ws S H) (x : D) (Qd : D → Prop) (Q : VK) (vx : V), Rep K S H vx x → f x Qd →
  (∀ v d S' H', Qd d → Ev S H S' H' → Ws S' H' → Rep K S' H' v d → Q v H') → r vx H (fzQ Q)
def FC (K : PySem.W.Frag) (r : List V → Hp → VK → Prop) (f : List D → (D → Prop) → Prop) : Prop := ∀ (S : As) (H : Hp) (ws : Ws S H) (xs : List D) (Qd : D → Prop) (Q : VK) (vs : List V), Reps K S H vs xs → f xs Qd →
  (∀ v d S' H', Qd d → Ev S H S' H' → Ws S' H' → Rep K S' H' v d → Q v H') → r vs H (fzQ Q)
@[simp] def wBin (f : D → D → (D → Prop) → Prop) (wa wb : WE) : WE := fun Γ Q E => wa Γ (fun x => wb Γ (fun y => f x y Q) E) E
@[simp] def wUn (f : D → (D → Prop) → Prop) (wa : WE) : WE := fun Γ Q E => wa Γ (fun x => f x Q) E
@[simp] def wNil : WA := fun _ Q _ => Q []
@[simp] def wCons (wa : WE) (wr : WA) : WA := fun Γ Q E => wa Γ (fun x => wr Γ (fun xs => Q (x :: xs)) E) E
@[simp] def wCB (f : List D → (D → Prop) → Prop) (w : WA) : WE := fun Γ Q E => w Γ (fun xs => f xs Q) E
section
variable {X : Cx} {E : XK}
theorem tD_op {r : R2} {f : D → D → (D → Prop) → Prop} {wa wb : WE} {σ : L2.St} {H : Hp} {Q : VK} (hf : FR X.K r f) (h : tD X.K E (wBin f wa wb) σ H Q) : tOp r (tD X.K E wa) (tD X.K E wb) σ H (fzQ Q) := by
  obtain ⟨O, S, Γ, Qd, Ed, ws, m, w, k, ke⟩ := h
  refine ⟨O, S, Γ, _, Ed, ws, m, w, fun vx x S1 H1 q1 e1 w1 r1 => ?_, ke⟩
  refine ⟨O, S1, Γ, _, Ed, w1, m.ev ws w1 e1, q1, fun vy y S2 H2 q2 e2 w2 r2 => ?_, ke.ev w1 e1⟩
  exact hf S2 H2 w2 x y Qd Q vx vy (Rep.stb (e2.stb w1) _ _ r1) r2 q2 fun v d S' H' q e w' r => k v d S' H' q (e1.trans w1 (e2.trans w2 e)) w' r
theorem d_op {op : Operator} {r : R2} {f : D → D → (D → Prop) → Prop} {a b : Expr} {wa wb : WE} {pos : Pos} (hr : OpR X (binaryOp op) r) (hf : FR X.K r f) (ha : PE X a (tD X.K E wa)) (hb : PE X b (tD X.K E wb)) :
    PE X (.BinOp a op b pos) (tD X.K E (wBin f wa wb)) := (pe_op hr ha hb).frz.imp fun _ _ _ h => tD_op hf h
theorem d_cmp {op : CmpOp} {r : R2} {f : D → D → (D → Prop) → Prop} {a b : Expr} {wa wb : WE} {pos : Pos} (hr : OpR X (compareOp op) r) (hf : FR X.K r f) (ha : PE X a (tD X.K E wa)) (hb : PE X b (tD X.K E wb)) (hm : behindInMarks op b = false) :
    PE X (.Compare a [op] [b] pos) (tD X.K E (wBin f wa wb)) := (pe_cmpR hr ha hb hm).frz.imp fun _ _ _ h => tD_op hf h
theorem d_un {op : UnaryOp} {r : V → Hp → VK → Prop} {f : D → (D → Prop) → Prop} {a : Expr} {wa : WE} {pos : Pos} (hr : UnR X (unaryOp op) r) (hf : FU X.K r f) (ha : PE X a (tD X.K E wa)) :
    PE X (.UnaryOp op a pos) (tD X.K E (wUn f wa)) := (pe_un hr ha).frz.imp fun σ H Q h => by
  obtain ⟨O, S, Γ, Qd, Ed, ws, m, w, k, ke⟩ := h
  exact ⟨O, S, Γ, _, Ed, ws, m, w, fun vx x S1 H1 q1 e1 w1 r1 => hf S1 H1 w1 x Qd Q vx r1 q1 fun v d S' H' q e w' r => k v d S' H' q (e1.trans w1 e) w' r, ke⟩
theorem d_ix {r : R2} {f : D → D → (D → Prop) → Prop} {a b : Expr} {wa wb : WE} {pos : Pos} (hr : IxR X r) (hf : FR X.K r f) (ha : PE X a (tD X.K E wa)) (hb : PE X b (tD X.K E wb)) (hs : PlainIx b) :
    PE X (.Subscript a b pos) (tD X.K E (wBin f wa wb)) := (pe_ix hr ha hb hs).frz.imp fun _ _ _ h => tD_op hf h
/-! arguments -/
theorem da_nil : PA X [] (tDA X.K E wNil) := pa_nil.imp fun σ H Q h => by
  obtain ⟨O, S, Γ, Qd, Ed, ws, m, w, k, ke⟩ := h
  exact k [] [] S H w .refl ws .nil
theorem da_cons {e : Expr} {es : List Expr} {wa : WE} {wr : WA} (ha : PE X e (tD X.K E wa)) (hr : PA X es (tDA X.K E wr)) (hs : starEach (e :: es) X.env = (false, eval e X.env) :: starEach es X.env := by rfl) : PA X (e :: es) (tDA X.K E (wCons wa wr)) :=
  (pa_cons ha hr hs).imp fun σ H Q h => by
    obtain ⟨O, S, Γ, Qd, Ed, ws, m, w, k, ke⟩ := h
    refine ⟨O, S, Γ, _, Ed, ws, m, w, fun vx x S1 H1 q1 e1 w1 r1 => ?_, ke⟩
    exact ⟨O, S1, Γ, _, Ed, w1, m.ev ws w1 e1, q1, fun vs xs S2 H2 q2 e2 w2 r2 => k (vx :: vs) (x :: xs) S2 H2 q2 (e1.trans w1 e2) w2 (.cons (Rep.stb (e2.stb w1) _ _ r1) r2), ke.ev w1 e1⟩
theorem tD_cb {r : List V → Hp → VK → Prop} {f : List D → (D → Prop) → Prop} {w : WA} {σ : L2.St} {H : Hp} {Q : VK} (hf : FC X.K r f) (h : tD X.K E (wCB f w) σ H Q) : tCB r (tDA X.K E w) σ H (fzQ Q) := by
  obtain ⟨O, S, Γ, Qd, Ed, ws, m, w, k, ke⟩ := h
  exact ⟨O, S, Γ, _, Ed, ws, m, w, fun vs xs S1 H1 q1 e1 w1 r1 => hf S1 H1 w1 xs Qd Q vs r1 q1 fun v d S' H' q e w' r => k v d S' H' q (e1.trans w1 e) w' r, ke⟩
theorem d_callB {id : String} {r : List V → Hp → VK → Prop} {f : List D → (D → Prop) → Prop} {x : Str} {p pos : Pos} {e : Expr} {es : List Expr} {w : WA} (hc : CallR X (.builtin id) r) (hf : FC X.K r f) (hg : Gl X x) (hm : X.mg x = none) (hv : bootBuiltins x = some (.builtin id)) (ha : PA X (e :: es) (tDA X.K E w))
    (hn : x ≠ "__name__" := by decide) (hdb : (x == ("__debug__" : Str)) = false := by decide) (he : starEach (e :: es) X.env = (false, eval e X.env) :: starEach es X.env := by rfl) (hpl : (backTo pos (starEach es X.env)).any (·.1) = false := by rfl) :
    PE X (.Call (.Name x p) (e :: es) [] pos) (tD X.K E (wCB f w)) := (pe_callB hc hg hm hv ha hn hdb he hpl).frz.imp fun _ _ _ h => tD_cb hf h
theorem d_callTy {id : String} {r : List V → Hp → VK → Prop} {f : List D → (D → Prop) → Prop} {x : Str} {p pos : Pos} {e : Expr} {es : List Expr} {w : WA} (hc : CallR X (.type id) r) (hf : FC X.K r f) (hg : Gl X x) (hm : X.mg x = none) (hv : bootBuiltins x = some (.type id)) (ha : PA X (e :: es) (tDA X.K E w))
    (hn : x ≠ "__name__" := by decide) (hdb : (x == ("__debug__" : Str)) = false := by decide) (he : starEach (e :: es) X.env = (false, eval e X.env) :: starEach es X.env := by rfl) (hpl : (backTo pos (starEach es X.env)).any (·.1) = false := by rfl) :
    PE X (.Call (.Name x p) (e :: es) [] pos) (tD X.K E (wCB f w)) := (pe_callTy hc hg hm hv ha hn hdb he hpl).frz.imp fun _ _ _ h => tD_cb hf h
end
/-! ### lists that are only read -/
def rCatL (K : PySem.W.Frag) : R2 := fun x y H Q => ∃ l b xs zs, x = .ref l ∧ y = .ref b ∧ SqL K H l xs ∧ SqL K H b zs ∧ xs.length + zs.length ≤ sizeLine ∧ ∀ p, H p = none → Q (.ref p) (upd H p (.lst (xs ++ zs)))
theorem op_catL {X : Cx} : OpR X (binaryOp .Add) (rCatL X.K) := by
  intro pins s σ H x y v u Q I rx ry h
  obtain ⟨l, b, xs, zs, rfl, rfl, hH, hB, hz, q⟩ := h
  cases rx
  cases ry
  obtain ⟨its, r, ⟨⟨cls, dd, data, sl⟩, n, ho, hc, hdd, hd⟩, hl⟩ := I.list hH
  obtain ⟨its2, r2, ⟨⟨cls2, dd2, data2, sl2⟩, n2, ho2, hc2, hdd2, hd2⟩, hl2⟩ := I.list hB
  simp only at hc hd hc2 hd2
  subst hc hd hc2 hd2
  have h1 := r.length
  have h2 := r2.length
  have e : its.toArray ++ its2.toArray = (its ++ its2).toArray := by simp
  refine concat_meets ⟨_, ho, rfl⟩ ⟨_, ho2, rfl⟩ noFill_list_add seq_list_add PySem.F.slot_list_add PySem.F.entry_list_add (PySem.F.args_list_add_2 _ _) (PyProof.Rows.list_addW l b its.toArray its2.toArray n n2 dd dd2 sl sl2 (by simp; omega)) ⟨ho, ho2, ?_⟩
  rw [e]
  exact ⟨.ref _, _, I.lnew (t' := s.toks) (r.append r2) (by rw [List.length_append]; omega), rfl, q _ I.fresh⟩
def rRepL (K : PySem.W.Frag) : R2 := fun x y H Q => ∃ l k xs, x = .ref l ∧ y = .int k ∧ SqL K H l xs ∧ -(2 ^ 63) ≤ k ∧ k < 2 ^ 63 ∧ xs.length * k.toNat ≤ sizeLine ∧
  ∀ p, H p = none → Q (.ref p) (upd H p (.lst (List.replicate k.toNat xs).flatten))
theorem op_repL {X : Cx} : OpR X (binaryOp .Mult) (rRepL X.K) := by
  intro pins s σ H x y v u Q I rx ry h
  obtain ⟨l, k, xs, rfl, rfl, hH, h1, h2, hz, q⟩ := h
  cases rx
  obtain ⟨t, rfl⟩ := ry
  obtain ⟨its, r, ⟨⟨cls, dd, data, sl⟩, n, ho, hc, hdd, hd⟩, hl⟩ := I.list hH
  simp only at hc hd
  subst hc hd
  have hlen := r.length
  have hz2 : its.toArray.size * k.toNat ≤ sizeLine := by rw [List.size_toArray, ← hlen]; exact hz
  have hz3 : its.toArray.size * k.toNat ≤ 2 ^ 24 := by rw [sizeLine_eq] at hz2; omega
  refine wpAny_binaryOp_repeat_ref (T := "list") (U := "int") (by decide) ⟨_, ho, rfl⟩ (fun s' => typeIs_int s' k t) noFill_list_mul F.fills_int_mul F.slot_int_rmul repeat_list F.slot_int_index.lookup
    (call_meets F.slot_int_rmul (typeIs_int s k t) F.entry_int_rmul (F.args_int_rmul_2 _ _) (lm_int_rmul_list_any k t l its.toArray n dd sl)
      ⟨ho, rfl, ⟨_, ho, rfl⟩, call_meets F.slot_list_mul ⟨_, ho, rfl⟩ F.entry_list_mul (F.args_list_mul_2 _ _)
        (lm_list_mul_any l its.toArray n dd sl k t (by simp [Builtin.List.listFitsIndex]; omega) (by omega) (by simp only [Builtin.List.listTooLong, sizeLine_eq]; exact fun z => absurd (of_decide_eq_true z) (by omega)))
        ⟨ho, ?_⟩⟩)
  have f0 : List.foldl (fun x1 x2 => x1 ++ x2) #[] (List.replicate (if its.toArray.isEmpty = true then 0 else k.toNat) its.toArray) = (List.replicate k.toNat its).flatten.toArray := listMul_foldl_if ..
  rw [f0]
  exact ⟨.ref _, _, I.lnew (t' := s.toks) (r.rep k.toNat) (by rw [PyProof.Rows.lm_len_rep_flat, Nat.mul_comm]; exact hz), rfl, q _ I.fresh⟩
end PD

set_option Elab.async false
set_option linter.all false
set_option maxRecDepth 100000
set_option maxHeartbeats 1000000
namespace PD
open PySem PySem.Spec PyProof.Rows L2
/-! ### the operators, said of data -/
/-- small enough to be multiplied -/
def Sm (i : Int) : Prop := i.natAbs < 2 ^ 300
theorem Sm.of {i : Int} (h : -1000000000000000000000000000000 < i) (h2 : i < 1000000000000000000000000000000) : Sm i := by
  unfold Sm
  exact Nat.lt_trans (show i.natAbs < 10 ^ 30 by omega) (by decide +kernel)
def fAdd : D → D → (D → Prop) → Prop
  | .int i, .int j, Q => Q (.int (i + j))
  | .str a, .str b, Q => a.length + b.length ≤ sizeLine ∧ Q (.str (a ++ b))
  | .tup a, .tup b, Q => a.length + b.length ≤ sizeLine ∧ Q (.tup (a ++ b))
  | .lst a, .lst b, Q => a.length + b.length ≤ sizeLine ∧ Q (.lst (a ++ b))
  | _, _, _ => False
@[simp] theorem fAdd_1 (i : Int) (j : Int) (Q : D → Prop) : fAdd (.int i : D) (.int j : D) Q = (Q (.int (i + j))) := by first | rfl | (cases x <;> rfl)
@[simp] theorem fAdd_2 (a : Str) (b : Str) (Q : D → Prop) : fAdd (.str a : D) (.str b : D) Q = (a.length + b.length ≤ sizeLine ∧ Q (.str (a ++ b))) := by first | rfl | (cases x <;> rfl)
@[simp] theorem fAdd_3 (a : List D) (b : List D) (Q : D → Prop) : fAdd (.tup a : D) (.tup b : D) Q = (a.length + b.length ≤ sizeLine ∧ Q (.tup (a ++ b))) := by first | rfl | (cases x <;> rfl)
@[simp] theorem fAdd_4 (a : List D) (b : List D) (Q : D → Prop) : fAdd (.lst a : D) (.lst b : D) Q = (a.length + b.length ≤ sizeLine ∧ Q (.lst (a ++ b))) := by first | rfl | (cases x <;> rfl)
def fSub : D → D → (D → Prop) → Prop
  | .int i, .int j, Q => Q (.int (i - j))
  | _, _, _ => False
@[simp] theorem fSub_1 (i : Int) (j : Int) (Q : D → Prop) : fSub (.int i : D) (.int j : D) Q = (Q (.int (i - j))) := by first | rfl | (cases x <;> rfl)
/-- numbers of at most 300 bits each; a list or a tuple, so many times -/
def fMul : D → D → (D → Prop) → Prop
  | .int i, .int j, Q => (Sm i ∧ Sm j) ∧ Q (.int (i * j))
  | .lst a, .int j, Q => (j < 2 ^ 62 ∧ -(2 ^ 62) < j ∧ a.length * j.toNat ≤ sizeLine) ∧ Q (.lst (List.replicate j.toNat a).flatten)
  | .tup a, .int j, Q => (a ≠ [] ∧ 2 ≤ j ∧ j ≤ 1000 ∧ a.length ≤ 1000) ∧ Q (.tup (List.replicate j.toNat a).flatten)
  | _, _, _ => False
@[simp] theorem fMul_1 (i : Int) (j : Int) (Q : D → Prop) : fMul (.int i : D) (.int j : D) Q = ((Sm i ∧ Sm j) ∧ Q (.int (i * j))) := by first | rfl | (cases x <;> rfl)
@[simp] theorem fMul_2 (a : List D) (j : Int) (Q : D → Prop) : fMul (.lst a : D) (.int j : D) Q = ((j < 2 ^ 62 ∧ -(2 ^ 62) < j ∧ a.length * j.toNat ≤ sizeLine) ∧ Q (.lst (List.replicate j.toNat a).flatten)) := by first | rfl | (cases x <;> rfl)
@[simp] theorem fMul_3 (a : List D) (j : Int) (Q : D → Prop) : fMul (.tup a : D) (.int j : D) Q = ((a ≠ [] ∧ 2 ≤ j ∧ j ≤ 1000 ∧ a.length ≤ 1000) ∧ Q (.tup (List.replicate j.toNat a).flatten)) := by first | rfl | (cases x <;> rfl)
def fDiv : D → D → (D → Prop) → Prop
  | .int i, .int j, Q => if 0 < j then Sm j ∧ Q (.int (i / j)) else (j ≠ 0 ∧ -1000000 < j) ∧ Q (.int (i.fdiv j))
  | _, _, _ => False
@[simp] theorem fDiv_1 (i : Int) (j : Int) (Q : D → Prop) : fDiv (.int i : D) (.int j : D) Q = (if 0 < j then Sm j ∧ Q (.int (i / j)) else (j ≠ 0 ∧ -1000000 < j) ∧ Q (.int (i.fdiv j))) := by first | rfl | (cases x <;> rfl)
def fMod : D → D → (D → Prop) → Prop
  | .int i, .int j, Q => if 0 < j then Q (.int (i % j)) else j ≠ 0 ∧ Q (.int (i.fmod j))
  | _, _, _ => False
@[simp] theorem fMod_1 (i : Int) (j : Int) (Q : D → Prop) : fMod (.int i : D) (.int j : D) Q = (if 0 < j then Q (.int (i % j)) else j ≠ 0 ∧ Q (.int (i.fmod j))) := by first | rfl | (cases x <;> rfl)
def fPow : D → D → (D → Prop) → Prop
  | .int i, .int j, Q => (0 ≤ j ∧ j ≤ 1000000 ∧ i.natAbs < 2 ^ 64) ∧ Q (.int (i ^ j.toNat))
  | _, _, _ => False
@[simp] theorem fPow_1 (i : Int) (j : Int) (Q : D → Prop) : fPow (.int i : D) (.int j : D) Q = ((0 ≤ j ∧ j ≤ 1000000 ∧ i.natAbs < 2 ^ 64) ∧ Q (.int (i ^ j.toNat))) := by first | rfl | (cases x <;> rfl)
def fNeg : D → (D → Prop) → Prop
  | .int i, Q => Q (.int (-i))
  | _, _ => False
@[simp] theorem fNeg_1 (i : Int) (Q : D → Prop) : fNeg (.int i : D) Q = (Q (.int (-i))) := by first | rfl | (cases x <;> rfl)
@[simp] def fEq : D → D → (D → Prop) → Prop := fun x y Q => x.fl 12 = true ∧ y.fl 12 = true ∧ Q (.bl (D.eq x y))
@[simp] def fNe : D → D → (D → Prop) → Prop := fun x y Q => x.fl 12 = true ∧ y.fl 12 = true ∧ Q (.bl (!D.eq x y))
def fIcmp (p : Int → Int → Bool) : D → D → (D → Prop) → Prop
  | .int i, .int j, Q => Q (.bl (p i j))
  | _, _, _ => False
@[simp] theorem fIcmp_1 (p : Int → Int → Bool) (i : Int) (j : Int) (Q : D → Prop) : fIcmp p (.int i : D) (.int j : D) Q = (Q (.bl (p i j))) := by first | rfl | (cases x <;> rfl)
@[simp] abbrev fLt := fIcmp fun i j => decide (i < j)
@[simp] abbrev fLe := fIcmp fun i j => decide (i ≤ j)
@[simp] abbrev fGt := fIcmp fun i j => decide (j < i)
@[simp] abbrev fGe := fIcmp fun i j => decide (j ≤ i)
def D.isNon : D → Bool
  | .non => true
  | _ => false
/-- is None, is True, is False -/
def fIs : D → D → (D → Prop) → Prop
  | x, .non, Q => Q (.bl x.isNon)
  | .bl a, .bl b, Q => Q (.bl (decide (a = b)))
  | _, _, _ => False
@[simp] theorem fIs_1 (x : D) (Q : D → Prop) : fIs x (.non : D) Q = (Q (.bl x.isNon)) := by first | rfl | (cases x <;> rfl)
@[simp] theorem fIs_2 (a : Bool) (b : Bool) (Q : D → Prop) : fIs (.bl a : D) (.bl b : D) Q = (Q (.bl (decide (a = b)))) := by first | rfl | (cases x <;> rfl)
def fNis : D → D → (D → Prop) → Prop
  | x, .non, Q => Q (.bl (!x.isNon))
  | .bl a, .bl b, Q => Q (.bl (!decide (a = b)))
  | _, _, _ => False
@[simp] theorem fNis_1 (x : D) (Q : D → Prop) : fNis x (.non : D) Q = (Q (.bl (!x.isNon))) := by first | rfl | (cases x <;> rfl)
@[simp] theorem fNis_2 (a : Bool) (b : Bool) (Q : D → Prop) : fNis (.bl a : D) (.bl b : D) Q = (Q (.bl (!decide (a = b)))) := by first | rfl | (cases x <;> rfl)
def D.flat : D → Bool
  | .non => true
  | .bl _ => true
  | .int _ => true
  | .str _ => true
  | _ => false
def D.inl (x : D) (xs : List D) : Bool := xs.any fun z => D.eq z x
def fIn : D → D → (D → Prop) → Prop
  | x, .lst ys, Q => (x.fl 10 = true ∧ ys.all (D.fl 10) = true) ∧ Q (.bl (x.inl ys))
  | x, .tup ys, Q => (x.flat = true ∧ ys.all D.flat = true) ∧ Q (.bl (x.inl ys))
  | _, _, _ => False
@[simp] theorem fIn_1 (x : D) (ys : List D) (Q : D → Prop) : fIn x (.lst ys : D) Q = ((x.fl 10 = true ∧ ys.all (D.fl 10) = true) ∧ Q (.bl (x.inl ys))) := by first | rfl | (cases x <;> rfl)
@[simp] theorem fIn_2 (x : D) (ys : List D) (Q : D → Prop) : fIn x (.tup ys : D) Q = ((x.flat = true ∧ ys.all D.flat = true) ∧ Q (.bl (x.inl ys))) := by first | rfl | (cases x <;> rfl)
def fNin : D → D → (D → Prop) → Prop
  | x, .lst ys, Q => (x.fl 10 = true ∧ ys.all (D.fl 10) = true) ∧ Q (.bl (!x.inl ys))
  | x, .tup ys, Q => (x.flat = true ∧ ys.all D.flat = true) ∧ Q (.bl (!x.inl ys))
  | _, _, _ => False
@[simp] theorem fNin_1 (x : D) (ys : List D) (Q : D → Prop) : fNin x (.lst ys : D) Q = ((x.fl 10 = true ∧ ys.all (D.fl 10) = true) ∧ Q (.bl (!x.inl ys))) := by first | rfl | (cases x <;> rfl)
@[simp] theorem fNin_2 (x : D) (ys : List D) (Q : D → Prop) : fNin x (.tup ys : D) Q = ((x.flat = true ∧ ys.all D.flat = true) ∧ Q (.bl (!x.inl ys))) := by first | rfl | (cases x <;> rfl)
/-- xs[i] -/
def fIx : D → D → (D → Prop) → Prop
  | .lst xs, .int i, Q => ∃ d, atI xs i = some d ∧ Q d
  | .tup xs, .int i, Q => ∃ d, atI xs i = some d ∧ Q d
  | _, _, _ => False
@[simp] theorem fIx_1 (xs : List D) (i : Int) (Q : D → Prop) : fIx (.lst xs : D) (.int i : D) Q = (∃ d, atI xs i = some d ∧ Q d) := by first | rfl | (cases x <;> rfl)
@[simp] theorem fIx_2 (xs : List D) (i : Int) (Q : D → Prop) : fIx (.tup xs : D) (.int i : D) Q = (∃ d, atI xs i = some d ∧ Q d) := by first | rfl | (cases x <;> rfl)
section
variable {K : PySem.W.Frag} {S : As} {H : Hp}
theorem Rep.flat {v : V} {d : D} (r : Rep K S H v d) (h : d.flat = true) : flatV v = true := by
  cases r <;> first | rfl | cases h
theorem Reps.flat : ∀ {vs : List V} {ds : List D}, Reps K S H vs ds → ds.all D.flat = true → vs.all flatV = true
  | _, [], h, _ => by cases h; rfl
  | _, d :: ds, h, e => by
    cases h with
    | cons h r =>
      simp only [List.all_cons, Bool.and_eq_true] at e ⊢
      exact ⟨h.flat e.1, Reps.flat r e.2⟩
theorem Rep.eqV {v u : V} {d e : D} (r : Rep K S H v d) (q : Rep K S H u e) (h : d.flat = true) (h' : e.flat = true) : L2.eqV v u = D.eq d e := by
  cases r <;> cases q <;> first | (cases h; done) | (cases h'; done) | (simp [L2.eqV, D.eq, D.pd, PyData.eqv]; done) | rfl
theorem Reps.inV {v : V} {d : D} (r : Rep K S H v d) (h : d.flat = true) : ∀ {vs : List V} {ds : List D}, Reps K S H vs ds → ds.all D.flat = true → L2.inV v vs = d.inl ds
  | _, [], q, _ => by cases q; rfl
  | _, e :: ds, q, a => by
    cases q with
    | cons q1 q2 =>
      simp only [List.all_cons, Bool.and_eq_true] at a
      have ih := Reps.inV r h q2 a.2
      have e1 := Rep.eqV q1 r a.1 h
      simp only [L2.inV, D.inl, List.any_cons] at ih ⊢
      rw [e1, ih]
theorem Reps.atI {vs : List V} {ds : List D} {i : Int} {d : D} (r : Reps K S H vs ds) (h : L2.atI ds i = some d) : ∃ v, L2.atI vs i = some v ∧ Rep K S H v d := by
  unfold L2.atI at h ⊢
  rw [r.length]
  cases q : ixN ds.length i with
  | none => rw [q] at h; cases h
  | some j =>
    rw [q] at h
    exact r.get h
theorem pds_any {x : D} : ∀ (ys : List D), ((D.pds ys).any fun z => PyData.eqv z x.pd) = x.inl ys
  | [] => rfl
  | y :: ys => by simp only [D.pds, List.any_cons, D.inl, D.eq, pds_any ys]
end
section
variable {X : Cx}
def rAddD (K : PySem.W.Frag) : R2 := fun x y H Q => ((∃ i j, x = .int i ∧ y = .int j ∧ Q (.int (i + j)) H) ∨ (∃ i j, x = .str i ∧ y = .str j ∧ i.length + j.length ≤ sizeLine ∧ Q (.str (i ++ j)) H)) ∨ (rCatA K x y H Q ∨ rCatL K x y H Q)
theorem op_addD : OpR X (binaryOp .Add) (rAddD X.K) := OpR.or (OpR.or op_add op_add_str) (OpR.or op_catA op_catL)
theorem fr_add : FR X.K (rAddD X.K) fAdd := by
  intro S H ws x y Qd Q vx vy rx ry h k
  cases rx <;> cases ry <;> first | exact (show False from h).elim | skip
  · exact .inl (.inl ⟨_, _, rfl, rfl, .inl (k _ _ S H h .refl ws (.int _))⟩)
  · exact .inl (.inr ⟨_, _, rfl, rfl, h.1, .inl (k _ _ S H h.2 .refl ws (.str _))⟩)
  · rename_i a xs ds ha hxs b ys es hb hys
    obtain ⟨h1, h2⟩ := (show ds.length + es.length ≤ sizeLine ∧ Qd (.tup (ds ++ es)) from h)
    refine .inr (.inl ⟨a, b, xs, ys, rfl, rfl, ha, hb, by rw [hxs.length, hys.length]; exact h1, fun e => ?_, fun n e => ?_, fun n1 n2 p hp => ?_⟩)
    · subst e
      have : ds = [] := List.eq_nil_of_length_eq_zero hxs.length.symm
      subst this
      exact .inl (k _ _ S H h2 .refl ws (.tup hb (by simpa using hys)))
    · subst e
      have : es = [] := List.eq_nil_of_length_eq_zero hys.length.symm
      subst this
      exact .inl (k _ _ S H h2 .refl ws (.tup ha (by simpa using hxs)))
    · have ev : Ev S H S (upd H p (.tup (xs ++ ys))) := .upd hp
      exact .inl (k _ _ S _ h2 ev (ws.upd hp) (.tup (SqT.of upd_same) (Reps.stb (ev.stb ws) _ _ (hxs.append hys))))
  · rename_i a xs ds ha hxs b ys es hb hys
    obtain ⟨h1, h2⟩ := (show ds.length + es.length ≤ sizeLine ∧ Qd (.lst (ds ++ es)) from h)
    refine .inr (.inr ⟨a, b, xs, ys, rfl, rfl, ha.sq, hb.sq, by rw [hxs.length, hys.length]; exact h1, fun p hp => ?_⟩)
    refine .inr ⟨p, _, rfl, upd_same, fun o => ?_⟩
    have ev : Ev S H S (upd (upd H p (.lst (xs ++ ys))) p (.frz o (.lst (xs ++ ys)))) := by rw [upd_upd]; exact .upd hp
    exact k _ _ S _ h2 ev (by rw [upd_upd]; exact ws.upd hp) (.lst (.inl ⟨o, upd_same⟩) (Reps.stb (ev.stb ws) _ _ (hxs.append hys)))
theorem fr_sub : FR X.K (rI0 fun i j => .int (i - j)) fSub := by
  intro S H ws x y Qd Q vx vy rx ry h k
  cases rx <;> cases ry <;> first | exact (show False from h).elim | skip
  exact ⟨_, _, rfl, rfl, .inl (k _ _ S H h .refl ws (.int _))⟩
def rMulD (K : PySem.W.Frag) : R2 := fun x y H Q => rI CMulW (fun i j => .int (i * j)) x y H Q ∨ (rRepL K x y H Q ∨ rRepT K x y H Q)
theorem op_mulD : OpR X (binaryOp .Mult) (rMulD X.K) := OpR.or op_mulW (OpR.or op_repL op_repT)
theorem Reps.rep {K : PySem.W.Frag} {S : As} {H : Hp} {vs : List V} {ds : List D} (r : Reps K S H vs ds) : ∀ n : Nat, Reps K S H (List.replicate n vs).flatten (List.replicate n ds).flatten
  | 0 => .nil
  | n + 1 => by rw [List.replicate_succ, List.replicate_succ, List.flatten_cons, List.flatten_cons]; exact r.append (Reps.rep r n)
theorem fr_mul : FR X.K (rMulD X.K) fMul := by
  intro S H ws x y Qd Q vx vy rx ry h k
  cases rx <;> cases ry <;> first | exact (show False from h).elim | skip
  · exact .inl ⟨_, _, rfl, rfl, wide_mul h.1.1 h.1.2 (by decide) (by decide) (by decide), .inl (k _ _ S H h.2 .refl ws (.int _))⟩
  · rename_i a xs ds ha hxs j
    obtain ⟨⟨h1, h2, h3, h4⟩, hq⟩ := (show (ds ≠ [] ∧ 2 ≤ j ∧ j ≤ 1000 ∧ ds.length ≤ 1000) ∧ Qd (.tup (List.replicate j.toNat ds).flatten) from h)
    refine .inr (.inr ⟨a, j, xs, rfl, rfl, ha, fun e => h1 ?_, h2, h3, by rw [hxs.length]; exact h4, fun p hp => ?_⟩)
    · subst e
      exact List.eq_nil_of_length_eq_zero hxs.length.symm
    · have ev : Ev S H S (upd H p (.tup (List.replicate j.toNat xs).flatten)) := .upd hp
      exact .inl (k _ _ S _ hq ev (ws.upd hp) (.tup (SqT.of upd_same) (Reps.stb (ev.stb ws) _ _ (hxs.rep _))))
  · rename_i a xs ds ha hxs j
    obtain ⟨⟨h1, h2, h3⟩, hq⟩ := (show (j < 2 ^ 62 ∧ -(2 ^ 62) < j ∧ ds.length * j.toNat ≤ sizeLine) ∧ Qd (.lst (List.replicate j.toNat ds).flatten) from h)
    refine .inr (.inl ⟨a, j, xs, rfl, rfl, ha.sq, by omega, by omega, by rw [hxs.length]; exact h3, fun p hp => ?_⟩)
    refine .inr ⟨p, _, rfl, upd_same, fun o => ?_⟩
    have ev : Ev S H S (upd (upd H p (.lst (List.replicate j.toNat xs).flatten)) p (.frz o (.lst (List.replicate j.toNat xs).flatten))) := by rw [upd_upd]; exact .upd hp
    exact k _ _ S _ hq ev (by rw [upd_upd]; exact ws.upd hp) (.lst (.inl ⟨o, upd_same⟩) (Reps.stb (ev.stb ws) _ _ (hxs.rep _)))
def rDivD : R2 := fun x y H Q => rI CDivW (fun i j => .int (i / j)) x y H Q ∨ rI CDivN (fun i j => .int (i.fdiv j)) x y H Q
theorem op_divD : OpR X (binaryOp .FloorDiv) rDivD := OpR.or op_fdivW op_fdivN
theorem fr_div : FR X.K rDivD fDiv := by
  intro S H ws x y Qd Q vx vy rx ry h k
  cases rx <;> cases ry <;> first | exact (show False from h).elim | skip
  rename_i i j
  have h' : if 0 < j then Sm j ∧ Qd (.int (i / j)) else (j ≠ 0 ∧ -1000000 < j) ∧ Qd (.int (i.fdiv j)) := h
  split at h'
  · exact .inl ⟨_, _, rfl, rfl, wide_div (by assumption) (b := 300) (by have : j.natAbs < 2 ^ 300 := h'.1; omega) (by decide) (by decide), .inl (k _ _ S H h'.2 .refl ws (.int _))⟩
  · exact .inr ⟨_, _, rfl, rfl, ⟨h'.1.1, by omega⟩, .inl (k _ _ S H h'.2 .refl ws (.int _))⟩
def rModD : R2 := fun x y H Q => rI (fun _ j => 0 < j) (fun i j => .int (i % j)) x y H Q ∨ rI (fun _ j => j ≠ 0) (fun i j => .int (i.fmod j)) x y H Q
theorem op_modD : OpR X (binaryOp .Mod) rModD := OpR.or op_mod op_modN
theorem fr_mod : FR X.K rModD fMod := by
  intro S H ws x y Qd Q vx vy rx ry h k
  cases rx <;> cases ry <;> first | exact (show False from h).elim | skip
  rename_i i j
  have h' : if 0 < j then Qd (.int (i % j)) else j ≠ 0 ∧ Qd (.int (i.fmod j)) := h
  split at h'
  · exact .inl ⟨_, _, rfl, rfl, by assumption, .inl (k _ _ S H h' .refl ws (.int _))⟩
  · exact .inr ⟨_, _, rfl, rfl, h'.1, .inl (k _ _ S H h'.2 .refl ws (.int _))⟩
theorem fr_pow : FR X.K (rI CPow fun i j => .int (i ^ j.toNat)) fPow := by
  intro S H ws x y Qd Q vx vy rx ry h k
  cases rx <;> cases ry <;> first | exact (show False from h).elim | skip
  exact ⟨_, _, rfl, rfl, h.1, .inl (k _ _ S H h.2 .refl ws (.int _))⟩
theorem fu_neg : FU X.K (rU fun i => .int (-i)) fNeg := by
  intro S H ws x Qd Q vx rx h k
  cases rx <;> first | exact (show False from h).elim | skip
  exact ⟨_, rfl, .inl (k _ _ S H h .refl ws (.int _))⟩
theorem fr_eq : FR X.K (rEqD X.K) fEq := by
  intro S H ws x y Qd Q vx vy rx ry h k
  obtain ⟨h1, h2, h3⟩ := h
  exact ⟨_, _, Rep.dp 12 _ _ h1 rx, Rep.dp 12 _ _ h2 ry, D.shaped (by decide) h1, D.shaped (by decide) h2, .inl (k _ _ S H h3 .refl ws (.bl _))⟩
theorem fr_ne : FR X.K (rNeD X.K) fNe := by
  intro S H ws x y Qd Q vx vy rx ry h k
  obtain ⟨h1, h2, h3⟩ := h
  exact ⟨_, _, Rep.dp 12 _ _ h1 rx, Rep.dp 12 _ _ h2 ry, D.shaped (by decide) h1, D.shaped (by decide) h2, .inl (k _ _ S H h3 .refl ws (.bl _))⟩
theorem fr_icmp {p : Int → Int → Bool} : FR X.K (rI0 fun i j => .bl (p i j)) (fIcmp p) := by
  intro S H ws x y Qd Q vx vy rx ry h k
  cases rx <;> cases ry <;> first | exact (show False from h).elim | skip
  exact ⟨_, _, rfl, rfl, .inl (k _ _ S H h .refl ws (.bl _))⟩
def rIsD : R2 := fun x y H Q => (y = .non ∧ Q (.bl (decide (x = .non))) H) ∨ (∃ a b, x = .bl a ∧ y = .bl b ∧ Q (.bl (decide (a = b))) H)
theorem op_isD : OpR X (compareOp .Is) rIsD := OpR.or op_isN op_is_bl
def rNisD : R2 := fun x y H Q => (y = .non ∧ Q (.bl (!decide (x = .non))) H) ∨ (∃ a b, x = .bl a ∧ y = .bl b ∧ Q (.bl (!decide (a = b))) H)
theorem op_nisD : OpR X (compareOp .IsNot) rNisD := OpR.or op_notN op_isnot_bl
theorem Rep.isNon {K : PySem.W.Frag} {S : As} {H : Hp} {v : V} {d : D} (r : Rep K S H v d) : decide (v = .non) = d.isNon := by
  cases r <;> simp [D.isNon]
theorem fr_is : FR X.K rIsD fIs := by
  intro S H ws x y Qd Q vx vy rx ry h k
  cases ry with
  | non =>
    have h' : Qd (.bl x.isNon) := by cases x <;> exact h
    exact .inl ⟨rfl, .inl (k _ _ S H h' .refl ws (by rw [rx.isNon]; exact .bl _))⟩
  | bl b =>
    cases rx <;> first | exact (show False from h).elim | skip
    exact .inr ⟨_, _, rfl, rfl, .inl (k _ _ S H h .refl ws (.bl _))⟩
  | _ => cases x <;> exact (show False from h).elim
theorem fr_nis : FR X.K rNisD fNis := by
  intro S H ws x y Qd Q vx vy rx ry h k
  cases ry with
  | non =>
    have h' : Qd (.bl (!x.isNon)) := by cases x <;> exact h
    exact .inl ⟨rfl, .inl (k _ _ S H h' .refl ws (by rw [rx.isNon]; exact .bl _))⟩
  | bl b =>
    cases rx <;> first | exact (show False from h).elim | skip
    exact .inr ⟨_, _, rfl, rfl, .inl (k _ _ S H h .refl ws (.bl _))⟩
  | _ => cases x <;> exact (show False from h).elim
theorem op_inDD (hu : X.A.units + 65 < cLine) : OpR X (compareOp .In) (fun x y H Q => rInD X.K x y H Q ∨ rIn X.K false x y H Q) := OpR.or (op_inD hu) op_in_seq
theorem op_ninDD (hu : X.A.units + 65 < cLine) : OpR X (compareOp .NotIn) (fun x y H Q => rNotInD X.K x y H Q ∨ rIn X.K true x y H Q) := OpR.or (op_notInD hu) op_notIn_seq
theorem fr_in : FR X.K (fun x y H Q => rInD X.K x y H Q ∨ rIn X.K false x y H Q) fIn := by
  intro S H ws x y Qd Q vx vy rx ry h k
  cases ry with
  | lst ha hys =>
    rename_i a vs ys
    have h' : (x.fl 10 = true ∧ ys.all (D.fl 10) = true) ∧ Qd (.bl (x.inl ys)) := by cases x <;> exact h
    have hl : (D.lst ys).fl 11 = true := h'.1.2
    exact .inl ⟨_, _, Rep.dp 10 _ _ h'.1.1 rx, Rep.dp 11 _ _ hl (.lst ha hys), D.shaped (by decide) h'.1.1, D.shaped (by decide) hl, .inl (k _ _ S H h'.2 .refl ws (by rw [pds_any]; exact .bl _))⟩
  | tup ha hys =>
    rename_i a vs ys
    have h' : (x.flat = true ∧ ys.all D.flat = true) ∧ Qd (.bl (x.inl ys)) := by cases x <;> exact h
    refine .inr ⟨a, vs, rfl, .inr ha, rx.flat h'.1.1, hys.flat h'.1.2, .inl (k _ _ S H h'.2 .refl ws ?_)⟩
    rw [Reps.inV rx h'.1.1 hys h'.1.2]
    exact .bl _
  | _ => cases x <;> exact (show False from h).elim
theorem fr_nin : FR X.K (fun x y H Q => rNotInD X.K x y H Q ∨ rIn X.K true x y H Q) fNin := by
  intro S H ws x y Qd Q vx vy rx ry h k
  cases ry with
  | lst ha hys =>
    rename_i a vs ys
    have h' : (x.fl 10 = true ∧ ys.all (D.fl 10) = true) ∧ Qd (.bl (!x.inl ys)) := by cases x <;> exact h
    have hl : (D.lst ys).fl 11 = true := h'.1.2
    exact .inl ⟨_, _, Rep.dp 10 _ _ h'.1.1 rx, Rep.dp 11 _ _ hl (.lst ha hys), D.shaped (by decide) h'.1.1, D.shaped (by decide) hl, .inl (k _ _ S H h'.2 .refl ws (by rw [pds_any]; exact .bl _))⟩
  | tup ha hys =>
    rename_i a vs ys
    have h' : (x.flat = true ∧ ys.all D.flat = true) ∧ Qd (.bl (!x.inl ys)) := by cases x <;> exact h
    refine .inr ⟨a, vs, rfl, .inr ha, rx.flat h'.1.1, hys.flat h'.1.2, .inl (k _ _ S H h'.2 .refl ws ?_)⟩
    simp only [if_true]
    rw [Reps.inV rx h'.1.1 hys h'.1.2]
    exact .bl _
  | _ => cases x <;> exact (show False from h).elim
theorem ix_D : IxR X (fun x y H Q => rIxL X.K x y H Q ∨ rIxT X.K x y H Q) := IxR.or ix_list ix_tup
theorem fr_ix : FR X.K (fun x y H Q => rIxL X.K x y H Q ∨ rIxT X.K x y H Q) fIx := by
  intro S H ws x y Qd Q vx vy rx ry h k
  cases rx <;> cases ry <;> first | exact (show False from h).elim | skip
  · rename_i a xs ds ha hxs i
    obtain ⟨d, h1, h2⟩ := (show ∃ d, atI ds i = some d ∧ Qd d from h)
    obtain ⟨v, e, r⟩ := hxs.atI h1
    exact .inr ⟨a, xs, i, v, rfl, rfl, ha, e, .inl (k _ _ S H h2 .refl ws r)⟩
  · rename_i a xs ds ha hxs i
    obtain ⟨d, h1, h2⟩ := (show ∃ d, atI ds i = some d ∧ Qd d from h)
    obtain ⟨v, e, r⟩ := hxs.atI h1
    exact .inl ⟨a, xs, i, v, rfl, rfl, ha.sq, e, .inl (k _ _ S H h2 .refl ws r)⟩
end
end PD

set_option Elab.async false
set_option linter.all false
set_option maxRecDepth 100000
set_option maxHeartbeats 1000000
namespace PD
open PySem PySem.Spec PyProof.Rows L2
/-! ### tests, displays, slices -/
@[simp] def wB (w : WE) : WB := fun Γ Q E => w Γ (fun d => ∃ b, d = .bl b ∧ Q b) E
@[simp] def wBnot (w : WB) : WB := fun Γ Q E => w Γ (fun b => Q (!b)) E
@[simp] def wBand (a b : WB) : WB := fun Γ Q E => a Γ (fun c => if c = true then b Γ Q E else Q false) E
@[simp] def wBor (a b : WB) : WB := fun Γ Q E => a Γ (fun c => if c = true then Q true else b Γ Q E) E
@[simp] def wAnd (a b : WE) : WE := fun Γ Q E => a Γ (fun d => ∃ c, d = .bl c ∧ if c = true then b Γ Q E else Q (.bl false)) E
@[simp] def wOr (a b : WE) : WE := fun Γ Q E => a Γ (fun d => ∃ c, d = .bl c ∧ if c = true then Q (.bl true) else b Γ Q E) E
@[simp] def wNot (a : WE) : WE := fun Γ Q E => a Γ (fun d => ∃ c, d = .bl c ∧ Q (.bl (!c))) E
@[simp] def wIfE (c : WB) (a b : WE) : WE := fun Γ Q E => c Γ (fun t => if t = true then a Γ Q E else b Γ Q E) E
@[simp] def wChain (p q : Int → Int → Bool) (a b c : WE) : WE := fun Γ Q E => a Γ (fun x => b Γ (fun y => ∃ i j, x = .int i ∧ y = .int j ∧ if p i j = true then c Γ (fun t => ∃ l, t = .int l ∧ Q (.bl (q j l))) E else Q (.bl false)) E) E
@[simp] def wTup (w : WA) : WE := fun Γ Q E => w Γ (fun ds => ds.length ≤ 1000 ∧ Q (.tup ds)) E
@[simp] def wLst (w : WA) : WE := fun Γ Q E => w Γ (fun ds => ds.length ≤ 1000 ∧ Q (.lst ds)) E
theorem le1000 {n : Nat} (h : n ≤ 1000) : n ≤ sizeLine := Nat.le_of_lt (small1000 h)
section
variable {X : Cx} {E : XK}
theorem t_val {e : Expr} {w : WE} (h : PE X e (tD X.K E w)) (he : ∀ whole, isTrue e X.env whole = (do let v ← whole; standAt e.pos; holding [v] (truthy v)) := by intro _; rfl) : PT X e (tDB X.K E (wB w)) :=
  (pt_val h he).imp fun σ H Q h => by
    obtain ⟨O, S, Γ, Qd, Ed, ws, m, w, k, ke⟩ := h
    refine ⟨O, S, Γ, _, Ed, ws, m, w, fun v d S1 H1 q1 e1 w1 r1 => ?_, ke⟩
    obtain ⟨b, rfl, q⟩ := q1
    cases r1
    exact ⟨b, rfl, k b S1 H1 q e1 w1⟩
theorem pt_cmpF {op : CmpOp} {r : R2} {a b : Expr} {ta tb : TE} {pos : Pos} (ho : OpR X (compareOp op) r) (ha : PE X a ta) (hb : PE X b tb) (hm : behindInMarks op b = false) : PT X (.Compare a [op] [b] pos) (fun σ H Q => tOp r ta tb σ H (fzQ fun x H' => ∃ k, x = .bl k ∧ Q k H')) := by
  refine ⟨fun pins s σ H Q I h => ?_⟩
  refine wpAny_isTrue_Compare1 (thn (ha.run pins s σ H _ I h) fun v s1 ⟨x, H1, I1, r1, q1⟩ => thn (hb.run pins s1 σ H1 _ I1 q1) fun u s2 ⟨y, H2, I2, r2, q2⟩ =>
    thn (ho pins s2 σ H2 x y v u _ I2 r1 r2 q2) fun c s3 ⟨z, H3, I3, r3, q3⟩ => ?_) hm
  rcases q3 with ⟨k, e, q3⟩ | ⟨a, xs, e, _, q3⟩
  · subst e
    cases r3
    exact wpAny_truthy_bool ⟨H3, I3, q3⟩
  · obtain ⟨k, e2, _⟩ := q3 ⟨.none, none, .seq #[] 0, #[]⟩
    rw [e] at e2
    cases e2
theorem t_cmp {op : CmpOp} {r : R2} {f : D → D → (D → Prop) → Prop} {a b : Expr} {wa wb : WE} {pos : Pos} (hr : OpR X (compareOp op) r) (hf : FR X.K r f) (ha : PE X a (tD X.K E wa)) (hb : PE X b (tD X.K E wb)) (hm : behindInMarks op b = false) :
    PT X (.Compare a [op] [b] pos) (tDB X.K E (wB (wBin f wa wb))) := (pt_cmpF hr ha hb hm).imp fun σ H Q h => by
  refine tD_op hf ?_
  obtain ⟨O, S, Γ, Qd, Ed, ws, m, w, k, ke⟩ := h
  refine ⟨O, S, Γ, _, Ed, ws, m, w, fun v d S1 H1 q1 e1 w1 r1 => ?_, ke⟩
  obtain ⟨b, rfl, q⟩ := q1
  cases r1
  exact ⟨b, rfl, k b S1 H1 q e1 w1⟩
theorem t_not {e : Expr} {w : WB} {pos : Pos} (h : PT X e (tDB X.K E w)) : PT X (.UnaryOp .Not e pos) (tDB X.K E (wBnot w)) :=
  (pt_not h).imp fun σ H Q h => by
    obtain ⟨O, S, Γ, Qd, Ed, ws, m, w, k, ke⟩ := h
    exact ⟨O, S, Γ, _, Ed, ws, m, w, fun b S1 H1 q1 e1 w1 => k (!b) S1 H1 q1 e1 w1, ke⟩
theorem tDB_if {wb : WB} {O S S1 : As} {Γ : List Sl} {Qd : Bool → Prop} {Ed : Ex} {H H1 : Hp} {σ : L2.St} {Q : Bool → Hp → Prop} (ws : Ws S H) (m : Mat X.K O S H σ Γ) (e1 : Ev S H S1 H1) (w1 : Ws S1 H1) (k : ∀ b S' H', Qd b → Ev S H S' H' → Ws S' H' → Q b H') (ke : kE E S H Ed)
    (q : wb Γ Qd Ed) : tDB X.K E wb σ H1 Q :=
  ⟨O, S1, Γ, _, Ed, w1, m.ev ws w1 e1, q, fun b S2 H2 q2 e2 w2 => k b S2 H2 q2 (e1.trans w1 e2) w2, ke.ev w1 e1⟩
theorem tD_if {wb : WE} {O S S1 : As} {Γ : List Sl} {Qd : D → Prop} {Ed : Ex} {H H1 : Hp} {σ : L2.St} {Q : VK} (ws : Ws S H) (m : Mat X.K O S H σ Γ) (e1 : Ev S H S1 H1) (w1 : Ws S1 H1) (k : ∀ v d S' H', Qd d → Ev S H S' H' → Ws S' H' → Rep X.K S' H' v d → Q v H') (ke : kE E S H Ed)
    (q : wb Γ Qd Ed) : tD X.K E wb σ H1 Q :=
  ⟨O, S1, Γ, _, Ed, w1, m.ev ws w1 e1, q, fun v d S2 H2 q2 e2 w2 r2 => k v d S2 H2 q2 (e1.trans w1 e2) w2 r2, ke.ev w1 e1⟩
theorem t_and1 {a : Expr} {w : WB} {pos : Pos} (h : PT X a (tDB X.K E w)) : PW X (.BoolOp .And [a] pos) (tDB X.K E w) := pw_and1 h
theorem t_or1 {a : Expr} {w : WB} {pos : Pos} (h : PT X a (tDB X.K E w)) : PW X (.BoolOp .Or [a] pos) (tDB X.K E w) := pw_or1 h
theorem PWimp {e : Expr} {t t' : TT} (h : PW X e t) (q : ∀ σ H Q, t' σ H Q → t σ H Q) : PW X e t' := ⟨fun wh pins s σ H Q I w => h.run wh pins s σ H Q I (q _ _ _ w)⟩
theorem t_and {a b : Expr} {rest : List Expr} {wa wb : WB} {pos : Pos} (ha : PT X a (tDB X.K E wa)) (hb : PW X (.BoolOp .And (b :: rest) pos) (tDB X.K E wb)) : PW X (.BoolOp .And (a :: b :: rest) pos) (tDB X.K E (wBand wa wb)) :=
  PWimp (pw_and ha hb) fun σ H Q h => by
    obtain ⟨O, S, Γ, Qd, Ed, ws, m, w, k, ke⟩ := h
    refine ⟨O, S, Γ, _, Ed, ws, m, w, fun c S1 H1 q1 e1 w1 => ?_, ke⟩
    cases c with
    | true => exact tDB_if ws m e1 w1 k ke q1
    | false => exact k false S1 H1 q1 e1 w1
theorem t_or {a b : Expr} {rest : List Expr} {wa wb : WB} {pos : Pos} (ha : PT X a (tDB X.K E wa)) (hb : PW X (.BoolOp .Or (b :: rest) pos) (tDB X.K E wb)) : PW X (.BoolOp .Or (a :: b :: rest) pos) (tDB X.K E (wBor wa wb)) :=
  PWimp (pw_or ha hb) fun σ H Q h => by
    obtain ⟨O, S, Γ, Qd, Ed, ws, m, w, k, ke⟩ := h
    refine ⟨O, S, Γ, _, Ed, ws, m, w, fun c S1 H1 q1 e1 w1 => ?_, ke⟩
    cases c with
    | true => exact k true S1 H1 q1 e1 w1
    | false => exact tDB_if ws m e1 w1 k ke q1
theorem d_one {op} {a : Expr} {w : WE} {pos : Pos} (h : PE X a (tD X.K E w)) : PE X (.BoolOp op [a] pos) (tD X.K E w) := pe_one h
theorem d_and {a b : Expr} {rest : List Expr} {wa wb : WE} {pos : Pos} (ha : PE X a (tD X.K E wa)) (hb : PE X (.BoolOp .And (b :: rest) pos) (tD X.K E wb)) : PE X (.BoolOp .And (a :: b :: rest) pos) (tD X.K E (wAnd wa wb)) :=
  (pe_and ha hb).imp fun σ H Q h => by
    obtain ⟨O, S, Γ, Qd, Ed, ws, m, w, k, ke⟩ := h
    refine ⟨O, S, Γ, _, Ed, ws, m, w, fun v d S1 H1 q1 e1 w1 r1 => ?_, ke⟩
    obtain ⟨c, rfl, q⟩ := q1
    cases r1
    refine ⟨c, rfl, ?_⟩
    cases c with
    | true => exact tD_if ws m e1 w1 k ke q
    | false => exact k _ _ S1 H1 q e1 w1 (.bl _)
theorem d_or {a b : Expr} {rest : List Expr} {wa wb : WE} {pos : Pos} (ha : PE X a (tD X.K E wa)) (hb : PE X (.BoolOp .Or (b :: rest) pos) (tD X.K E wb)) : PE X (.BoolOp .Or (a :: b :: rest) pos) (tD X.K E (wOr wa wb)) :=
  (pe_or ha hb).imp fun σ H Q h => by
    obtain ⟨O, S, Γ, Qd, Ed, ws, m, w, k, ke⟩ := h
    refine ⟨O, S, Γ, _, Ed, ws, m, w, fun v d S1 H1 q1 e1 w1 r1 => ?_, ke⟩
    obtain ⟨c, rfl, q⟩ := q1
    cases r1
    refine ⟨c, rfl, ?_⟩
    cases c with
    | true => exact k _ _ S1 H1 q e1 w1 (.bl _)
    | false => exact tD_if ws m e1 w1 k ke q
theorem d_not {a : Expr} {wa : WE} {pos : Pos} (ha : PE X a (tD X.K E wa)) : PE X (.UnaryOp .Not a pos) (tD X.K E (wNot wa)) :=
  (pe_not ha).imp fun σ H Q h => by
    obtain ⟨O, S, Γ, Qd, Ed, ws, m, w, k, ke⟩ := h
    refine ⟨O, S, Γ, _, Ed, ws, m, w, fun v d S1 H1 q1 e1 w1 r1 => ?_, ke⟩
    obtain ⟨c, rfl, q⟩ := q1
    cases r1
    exact ⟨c, rfl, k _ _ S1 H1 q e1 w1 (.bl _)⟩
theorem d_ife {c a b : Expr} {wc : WB} {wa wb : WE} {pos : Pos} (hc : PT X c (tDB X.K E wc)) (ha : PE X a (tD X.K E wa)) (hb : PE X b (tD X.K E wb)) : PE X (.IfExp c a b pos) (tD X.K E (wIfE wc wa wb)) :=
  (pe_ifExp hc ha hb).imp fun σ H Q h => by
    obtain ⟨O, S, Γ, Qd, Ed, ws, m, w, k, ke⟩ := h
    refine ⟨O, S, Γ, _, Ed, ws, m, w, fun t S1 H1 q1 e1 w1 => ?_, ke⟩
    cases t with
    | true => exact tD_if ws m e1 w1 k ke q1
    | false => exact tD_if ws m e1 w1 k ke q1
theorem chain_imp {p q : Int → Int → Bool} {wa wb wc : WE} {K : PySem.W.Frag} {σ : L2.St} {H : Hp} {Q : VK} (h : tD K E (wChain p q wa wb wc) σ H Q) :
    tChain (rI0 fun i j => .bl (p i j)) (rI0 fun i j => .bl (q i j)) (tD K E wa) (tD K E wb) (tD K E wc) σ H Q := by
    obtain ⟨O, S, Γ, Qd, Ed, ws, m, w, k, ke⟩ := h
    refine ⟨O, S, Γ, _, Ed, ws, m, w, fun vx x S1 H1 q1 e1 w1 r1 => ?_, ke⟩
    refine ⟨O, S1, Γ, _, Ed, w1, m.ev ws w1 e1, q1, fun vy y S2 H2 q2 e2 w2 r2 => ?_, ke.ev w1 e1⟩
    obtain ⟨i, j, rfl, rfl, qq⟩ := q2
    cases r1
    cases r2
    have ee := e1.trans w1 e2
    refine ⟨i, j, rfl, rfl, _, rfl, ?_⟩
    cases hp : p i j with
    | true =>
      rw [hp] at qq
      refine ⟨O, S2, Γ, _, Ed, w2, m.ev ws w2 ee, qq, fun vt t S3 H3 q3 e3 w3 r3 => ?_, ke.ev w2 ee⟩
      obtain ⟨l, rfl, q4⟩ := q3
      cases r3
      exact ⟨j, l, rfl, rfl, k _ _ S3 H3 q4 (ee.trans w2 e3) w3 (.bl _)⟩
    | false =>
      rw [hp] at qq
      exact k _ _ S2 H2 qq ee w2 (.bl _)
theorem d_chain {op op' : CmpOp} {p q : Int → Int → Bool} {a b c : Expr} {wa wb wc : WE} {pos : Pos} (ho : OpR X (compareOp op) (rI0 fun i j => .bl (p i j))) (ho' : OpR X (compareOp op') (rI0 fun i j => .bl (q i j)))
    (ha : PE X a (tD X.K E wa)) (hb : PE X b (tD X.K E wb)) (hc : PE X c (tD X.K E wc)) (hm : lastMarks [op, op'] [b, c] = false := by rfl) :
    PE X (.Compare a [op, op'] [b, c] pos) (tD X.K E (wChain p q wa wb wc)) :=
  (pe_chain ho ho' ha hb hc hm).imp fun _ _ _ h => chain_imp h
theorem t_chain {op op' : CmpOp} {p q : Int → Int → Bool} {a b c : Expr} {wa wb wc : WE} {pos : Pos} (ho : OpR X (compareOp op) (rI0 fun i j => .bl (p i j))) (ho' : OpR X (compareOp op') (rI0 fun i j => .bl (q i j)))
    (ha : PE X a (tD X.K E wa)) (hb : PE X b (tD X.K E wb)) (hc : PE X c (tD X.K E wc)) (hm : lastMarks [op, op'] [b, c] = false := by with_unfolding_all rfl) :
    PT X (.Compare a [op, op'] [b, c] pos) (tDB X.K E (wB (wChain p q wa wb wc))) :=
  (pt_chain ho ho' ha hb hc hm).imp fun σ H Q h => by
    refine chain_imp ?_
    obtain ⟨O, S, Γ, Qd, Ed, ws, m, w, k, ke⟩ := h
    refine ⟨O, S, Γ, _, Ed, ws, m, w, fun v d S1 H1 q1 e1 w1 r1 => ?_, ke⟩
    obtain ⟨b, rfl, q⟩ := q1
    cases r1
    exact ⟨b, rfl, k b S1 H1 q e1 w1⟩
/-! displays -/
theorem d_tup {es : List Expr} {w : WA} {x1} {pos : Pos} (h : PA X es (tDA X.K E w)) : PE X (.Tuple es x1 pos) (tD X.K E (wTup w)) :=
  (pe_tup h).imp fun σ H Q h => by
    obtain ⟨O, S, Γ, Qd, Ed, ws, m, w, k, ke⟩ := h
    refine ⟨O, S, Γ, _, Ed, ws, m, w, fun vs ds S1 H1 q1 e1 w1 r1 => ⟨by rw [r1.length]; exact le1000 q1.1, fun p hp => ?_⟩, ke⟩
    have ev : Ev S1 H1 S1 (upd H1 p (.tup vs)) := .upd hp
    exact k _ _ S1 _ q1.2 (e1.trans w1 ev) (w1.upd hp) (.tup (SqT.of upd_same) (Reps.stb (ev.stb w1) _ _ r1))
/-- a new list of these, frozen -/
theorem lst_frz {K : PySem.W.Frag} {S : As} {H : Hp} {p : Addr} {vs : List V} {ds : List D} {o : Obj} (ws : Ws S H) (hp : H p = none) (r : Reps K S H vs ds) :
    Ev S H S (upd (upd H p (.lst vs)) p (.frz o (.lst vs))) ∧ Ws S (upd (upd H p (.lst vs)) p (.frz o (.lst vs))) ∧ Rep K S (upd (upd H p (.lst vs)) p (.frz o (.lst vs))) (.ref p) (.lst ds) := by
  rw [upd_upd]
  have ev : Ev S H S (upd H p (.frz o (.lst vs))) := .upd hp
  exact ⟨ev, ws.upd hp, .lst (.inl ⟨o, upd_same⟩) (Reps.stb (ev.stb ws) _ _ r)⟩
theorem new_lst {K : PySem.W.Frag} {S : As} {H : Hp} {vs : List V} {ds : List D} {Qd : D → Prop} {Q : VK} (ws : Ws S H) (r : Reps K S H vs ds) (q : Qd (.lst ds)) (k : ∀ v d S' H', Qd d → Ev S H S' H' → Ws S' H' → Rep K S' H' v d → Q v H') : ∀ p, H p = none → fzQ Q (.ref p) (upd H p (.lst vs)) := fun p hp => by
  refine .inr ⟨p, vs, rfl, upd_same, fun o => ?_⟩
  obtain ⟨a, b, c⟩ := lst_frz (o := o) ws hp r
  exact k _ _ S _ q a b c
theorem new_tup {K : PySem.W.Frag} {S : As} {H : Hp} {vs : List V} {ds : List D} {Qd : D → Prop} {Q : VK} (ws : Ws S H) (r : Reps K S H vs ds) (q : Qd (.tup ds)) (k : ∀ v d S' H', Qd d → Ev S H S' H' → Ws S' H' → Rep K S' H' v d → Q v H') : ∀ p, H p = none → fzQ Q (.ref p) (upd H p (.tup vs)) := fun p hp => by
  have ev : Ev S H S (upd H p (.tup vs)) := .upd hp
  exact .inl (k _ _ S _ q ev (ws.upd hp) (.tup (SqT.of upd_same) (Reps.stb (ev.stb ws) _ _ r)))
theorem d_lst {es : List Expr} {w : WA} {pos : Pos} (h : PA X es (tDA X.K E w)) : PE X (.List es pos) (tD X.K E (wLst w)) :=
  (pe_lst h).frz.imp fun σ H Q h => by
    obtain ⟨O, S, Γ, Qd, Ed, ws, m, w, k, ke⟩ := h
    refine ⟨O, S, Γ, _, Ed, ws, m, w, fun vs ds S1 H1 q1 e1 w1 r1 => ⟨by rw [r1.length]; exact le1000 q1.1, ?_⟩, ke⟩
    exact new_lst w1 r1 q1.2 fun v d S' H' q e w' r => k v d S' H' q (e1.trans w1 e) w' r
/-! slices -/
abbrev WO := List Sl → (Option Int → Prop) → Ex → Prop
@[simp] def wNo : WO := fun _ Q _ => Q none
@[simp] def wSo (w : WE) : WO := fun Γ Q E => w Γ (fun d => ∃ i, d = .int i ∧ Q (some i)) E
def tDO (K : PySem.W.Frag) (E : XK) (w : WO) : L2.St → Hp → (Option Int → Hp → Prop) → Prop := fun σ H Q => ∃ O S Γ Qd Ed, Ws S H ∧ Mat K O S H σ Γ ∧ w Γ Qd Ed ∧ (∀ b S' H', Qd b → Ev S H S' H' → Ws S' H' → Q b H') ∧ kE E S H Ed
def cutD {α : Type} (xs : List α) (lo hi : Option Int) : List α := (xs.drop (HT.sIx xs.length 0 lo)).take (HT.sIx xs.length xs.length hi - HT.sIx xs.length 0 lo)
def fSl : D → Option Int → Option Int → (D → Prop) → Prop
  | .lst xs, lo, hi, Q => Q (.lst (cutD xs lo hi))
  | .tup xs, lo, hi, Q => Q (.tup (cutD xs lo hi))
  | .str x, lo, hi, Q => x.length ≤ sizeLine ∧ Q (.str (cutS x lo hi))
  | _, _, _, _ => False
@[simp] theorem fSl_1 (xs : List D) (lo : Option Int) (hi : Option Int) (Q : D → Prop) : fSl (.lst xs : D) lo hi Q = (Q (.lst (cutD xs lo hi))) := by first | rfl | (cases x <;> rfl)
@[simp] theorem fSl_2 (xs : List D) (lo : Option Int) (hi : Option Int) (Q : D → Prop) : fSl (.tup xs : D) lo hi Q = (Q (.tup (cutD xs lo hi))) := by first | rfl | (cases x <;> rfl)
@[simp] theorem fSl_3 (x : Str) (lo : Option Int) (hi : Option Int) (Q : D → Prop) : fSl (.str x : D) lo hi Q = (x.length ≤ sizeLine ∧ Q (.str (cutS x lo hi))) := by first | rfl | (cases x <;> rfl)
@[simp] def wSl (w : WE) (lo hi : WO) : WE := fun Γ Q E => w Γ (fun x => lo Γ (fun i => hi Γ (fun j => fSl x i j Q) E) E) E
theorem do_no : PO X none (tDO X.K E wNo) := ⟨fun pins s σ H Q I h => po_none.run pins s σ H Q I (by
  obtain ⟨O, S, Γ, Qd, Ed, ws, m, w, k, ke⟩ := h
  exact k none S H w .refl ws)⟩
theorem do_so {e : Expr} {w : WE} (h : PE X e (tD X.K E w)) : PO X (some e) (tDO X.K E (wSo w)) := ⟨fun pins s σ H Q I hh => (po_some h).run pins s σ H Q I (by
  obtain ⟨O, S, Γ, Qd, Ed, ws, m, w, k, ke⟩ := hh
  refine ⟨O, S, Γ, _, Ed, ws, m, w, fun v d S1 H1 q1 e1 w1 r1 => ?_, ke⟩
  obtain ⟨i, rfl, q⟩ := q1
  cases r1
  exact ⟨i, rfl, k _ S1 H1 q e1 w1⟩)⟩
theorem Reps.cut {K : PySem.W.Frag} {S : As} {H : Hp} {vs : List V} {ds : List D} (r : Reps K S H vs ds) (lo hi : Option Int) : Reps K S H (cutV vs lo hi) (cutD ds lo hi) := by
  unfold cutV cutD
  rw [r.length]
  exact (r.drop _).take _
theorem sl_D : SlR X (fun x lo hi H Q => rSlL X.K x lo hi H Q ∨ (rSlA X.K x lo hi H Q ∨ rSlS x lo hi H Q)) := SlR.or sl_list (SlR.or sl_tupA sl_str)
theorem d_sl {e : Expr} {lo hi : Option Expr} {p2 pos : Pos} {w : WE} {wl wh : WO} (he : PE X e (tD X.K E w)) (hl : PO X lo (tDO X.K E wl)) (hh : PO X hi (tDO X.K E wh)) : PE X (.Subscript e (.Slice lo hi none p2) pos) (tD X.K E (wSl w wl wh)) :=
  (pe_slice sl_D he hl hh).frz.imp fun σ H Q h => by
    obtain ⟨O, S, Γ, Qd, Ed, ws, m, w, k, ke⟩ := h
    refine ⟨O, S, Γ, _, Ed, ws, m, w, fun vx x S1 H1 q1 e1 w1 r1 => ?_, ke⟩
    refine ⟨O, S1, Γ, _, Ed, w1, m.ev ws w1 e1, q1, fun i S2 H2 q2 e2 w2 => ?_, ke.ev w1 e1⟩
    refine ⟨O, S2, Γ, _, Ed, w2, (m.ev ws w1 e1).ev w1 w2 e2, q2, fun j S3 H3 q3 e3 w3 => ?_, (ke.ev w1 e1).ev w2 e2⟩
    have ee : Ev S H S3 H3 := e1.trans w1 (e2.trans w2 e3)
    have kk : ∀ v d S' H', Qd d → Ev S3 H3 S' H' → Ws S' H' → Rep X.K S' H' v d → Q v H' := fun v d S' H' q e w' r => k v d S' H' q (ee.trans w3 e) w' r
    have r3 := Rep.stb (e3.stb w2) _ _ (Rep.stb (e2.stb w1) _ _ r1)
    cases r3 <;> first | exact (show False from q3).elim | skip
    · rename_i z
      obtain ⟨h1, h2⟩ := (show z.length ≤ sizeLine ∧ Qd (.str (cutS z i j)) from q3)
      exact .inr (.inr ⟨z, rfl, h1, .inl (kk _ _ S3 H3 h2 .refl w3 (.str _))⟩)
    · rename_i a xs ds ha hxs
      refine .inr (.inl ⟨a, xs, rfl, ha, fun hw => ?_, fun _ => ?_⟩)
      · refine .inl (kk _ (.tup (cutD ds i j)) S3 H3 q3 .refl w3 (.tup ha ?_))
        have e0 : cutD ds i j = ds := by
          unfold cutD
          rw [← hxs.length, hw.1, hw.2]
          simp [hxs.length]
        rw [e0]
        exact hxs
      · exact new_tup w3 (hxs.cut i j) q3 kk
    · rename_i a xs ds ha hxs
      exact .inl ⟨a, xs, rfl, ha.sq, new_lst w3 (hxs.cut i j) q3 kk⟩
def fRev : D → (D → Prop) → Prop
  | .lst xs, Q => Q (.lst xs.reverse)
  | _, _ => False
@[simp] theorem fRev_1 (xs : List D) (Q : D → Prop) : fRev (.lst xs : D) Q = (Q (.lst xs.reverse)) := by first | rfl | (cases x <;> rfl)
theorem Reps.reverse {K : PySem.W.Frag} {S : As} {H : Hp} : ∀ {vs : List V} {ds : List D}, Reps K S H vs ds → Reps K S H vs.reverse ds.reverse
  | _, [], h => by cases h; exact .nil
  | _, d :: ds, h => by
    cases h with
    | cons h r =>
      rw [List.reverse_cons, List.reverse_cons]
      exact (Reps.reverse r).append (.cons h .nil)
theorem d_revL {e : Expr} {w : WE} {k : Nat} {p1 p2 p3 pos : Pos} (he : PE X e (tD X.K E w)) : PE X (.Subscript e (.Slice none none (some (.UnaryOp .USub (.Constant (.int 1) k p1) p2)) p3) pos) (tD X.K E (wUn fRev w)) :=
  (pe_revL he).frz.imp fun σ H Q h => by
    obtain ⟨O, S, Γ, Qd, Ed, ws, m, w, k, ke⟩ := h
    refine ⟨O, S, Γ, _, Ed, ws, m, w, fun vx x S1 H1 q1 e1 w1 r1 => ?_, ke⟩
    cases r1 <;> first | exact (show False from q1).elim | skip
    rename_i a xs ds ha hxs
    exact ⟨a, xs, rfl, ha.sq, new_lst w1 hxs.reverse q1 fun v d S' H' q e w' r => k v d S' H' q (e1.trans w1 e) w' r⟩
end
end PD

set_option Elab.async false
set_option linter.all false
set_option maxRecDepth 100000
set_option maxHeartbeats 1000000
namespace PD
open PySem PySem.Spec PyProof.Rows L2
/-! ### built-ins -/
def D.ints : List D → Option (List Int)
  | [] => some []
  | .int i :: r => (D.ints r).map (i :: ·)
  | _ :: _ => none
def D.bls : List D → Option (List Bool)
  | [] => some []
  | .bl i :: r => (D.bls r).map (i :: ·)
  | _ :: _ => none
def D.strs : List D → Option (List Str)
  | [] => some []
  | .str i :: r => (D.strs r).map (i :: ·)
  | _ :: _ => none
def D.tn : D → String
  | .non => "NoneType" | .bl _ => "bool" | .int _ => "int" | .str _ => "str" | .tup _ => "tuple" | .lst _ => "list" | .src => "list" | .ty _ => "type" | .dct _ => "dict" | .exc _ _ => "error"
def fLen : List D → (D → Prop) → Prop
  | [.lst xs], Q => Q (.int xs.length)
  | [.tup xs], Q => Q (.int xs.length)
  | [.str x], Q => x.length ≤ sizeLine ∧ Q (.int x.length)
  | _, _ => False
@[simp] theorem fLen_1 (xs : List D) (Q : D → Prop) : fLen ([.lst xs] : List D) Q = (Q (.int xs.length)) := by first | rfl | (cases x <;> rfl)
@[simp] theorem fLen_2 (xs : List D) (Q : D → Prop) : fLen ([.tup xs] : List D) Q = (Q (.int xs.length)) := by first | rfl | (cases x <;> rfl)
@[simp] theorem fLen_3 (x : Str) (Q : D → Prop) : fLen ([.str x] : List D) Q = (x.length ≤ sizeLine ∧ Q (.int x.length)) := by first | rfl | (cases x <;> rfl)
def D.noTy : D → Bool
  | .ty _ => false
  | .src => false
  | .dct _ => false
  | .exc _ _ => false
  | _ => true
def isiN (a n : String) : Bool := a == n || (a == "bool" && n == "int")
def D.isi (x : D) (n : String) : Bool := isiN x.tn n
theorem isi_all : ∀ a ∈ ["NoneType", "bool", "int", "str", "tuple", "list"], ∀ n ∈ ["tuple", "str", "int", "bool", "list"], kitB a n = some (isiN a n) := by decide +kernel
def fIsi : List D → (D → Prop) → Prop
  | [x, .ty n], Q => (x.noTy = true ∧ n ∈ ["tuple", "str", "int", "bool", "list"]) ∧ Q (.bl (x.isi n))
  | _, _ => False
@[simp] theorem fIsi_1 (x : D) (n : String) (Q : D → Prop) : fIsi ([x, .ty n] : List D) Q = ((x.noTy = true ∧ n ∈ ["tuple", "str", "int", "bool", "list"]) ∧ Q (.bl (x.isi n))) := by first | rfl | (cases x <;> rfl)
def fAll : List D → (D → Prop) → Prop
  | [.lst xs], Q => ∃ bs, D.bls xs = some bs ∧ Q (.bl (bs.all id))
  | _, _ => False
@[simp] theorem fAll_1 (xs : List D) (Q : D → Prop) : fAll ([.lst xs] : List D) Q = (∃ bs, D.bls xs = some bs ∧ Q (.bl (bs.all id))) := by first | rfl | (cases x <;> rfl)
def fAny : List D → (D → Prop) → Prop
  | [.lst xs], Q => ∃ bs, D.bls xs = some bs ∧ Q (.bl (bs.any id))
  | _, _ => False
@[simp] theorem fAny_1 (xs : List D) (Q : D → Prop) : fAny ([.lst xs] : List D) Q = (∃ bs, D.bls xs = some bs ∧ Q (.bl (bs.any id))) := by first | rfl | (cases x <;> rfl)
def fSum : List D → (D → Prop) → Prop
  | [.lst xs], Q => ∃ ns, D.ints xs = some ns ∧ Q (.int ns.sum)
  | _, _ => False
@[simp] theorem fSum_1 (xs : List D) (Q : D → Prop) : fSum ([.lst xs] : List D) Q = (∃ ns, D.ints xs = some ns ∧ Q (.int ns.sum)) := by first | rfl | (cases x <;> rfl)
/-- the greatest of ints: one list, or two ints -/
def fMax : List D → (D → Prop) → Prop
  | [.lst xs], Q => ∃ ns, D.ints xs = some ns ∧ 0 < ns.length ∧ ∀ m, m ∈ ns → (∀ y ∈ ns, y ≤ m) → Q (.int m)
  | [.int i, .int j], Q => Q (.int (if j > i then j else i))
  | _, _ => False
@[simp] theorem fMax_1 (xs : List D) (Q : D → Prop) : fMax ([.lst xs] : List D) Q = (∃ ns, D.ints xs = some ns ∧ 0 < ns.length ∧ ∀ m, m ∈ ns → (∀ y ∈ ns, y ≤ m) → Q (.int m)) := by first | rfl | (cases x <;> rfl)
@[simp] theorem fMax_2 (i : Int) (j : Int) (Q : D → Prop) : fMax ([.int i, .int j] : List D) Q = (Q (.int (if j > i then j else i))) := by first | rfl | (cases x <;> rfl)
def fMin : List D → (D → Prop) → Prop
  | [.lst xs], Q => ∃ ns, D.ints xs = some ns ∧ 0 < ns.length ∧ ∀ m, m ∈ ns → (∀ y ∈ ns, m ≤ y) → Q (.int m)
  | [.int i, .int j], Q => Q (.int (if j < i then j else i))
  | _, _ => False
@[simp] theorem fMin_1 (xs : List D) (Q : D → Prop) : fMin ([.lst xs] : List D) Q = (∃ ns, D.ints xs = some ns ∧ 0 < ns.length ∧ ∀ m, m ∈ ns → (∀ y ∈ ns, m ≤ y) → Q (.int m)) := by first | rfl | (cases x <;> rfl)
@[simp] theorem fMin_2 (i : Int) (j : Int) (Q : D → Prop) : fMin ([.int i, .int j] : List D) Q = (Q (.int (if j < i then j else i))) := by first | rfl | (cases x <;> rfl)
def fAbs : List D → (D → Prop) → Prop
  | [.int i], Q => Q (.int (if i < 0 then -i else i))
  | _, _ => False
@[simp] theorem fAbs_1 (i : Int) (Q : D → Prop) : fAbs ([.int i] : List D) Q = (Q (.int (if i < 0 then -i else i))) := by first | rfl | (cases x <;> rfl)
def fInt : List D → (D → Prop) → Prop
  | [.int i], Q => Q (.int i)
  | [.bl b], Q => Q (.int (if b then 1 else 0))
  | _, _ => False
@[simp] theorem fInt_1 (i : Int) (Q : D → Prop) : fInt ([.int i] : List D) Q = (Q (.int i)) := by first | rfl | (cases x <;> rfl)
@[simp] theorem fInt_2 (b : Bool) (Q : D → Prop) : fInt ([.bl b] : List D) Q = (Q (.int (if b then 1 else 0))) := by first | rfl | (cases x <;> rfl)
def fBool : List D → (D → Prop) → Prop
  | [.int i], Q => Q (.bl (i != 0))
  | [.bl b], Q => Q (.bl b)
  | _, _ => False
@[simp] theorem fBool_1 (i : Int) (Q : D → Prop) : fBool ([.int i] : List D) Q = (Q (.bl (i != 0))) := by first | rfl | (cases x <;> rfl)
@[simp] theorem fBool_2 (b : Bool) (Q : D → Prop) : fBool ([.bl b] : List D) Q = (Q (.bl b)) := by first | rfl | (cases x <;> rfl)
def fList : List D → (D → Prop) → Prop
  | [.lst xs], Q => Q (.lst xs)
  | [.tup xs], Q => Q (.lst xs)
  | _, _ => False
@[simp] theorem fList_1 (xs : List D) (Q : D → Prop) : fList ([.lst xs] : List D) Q = (Q (.lst xs)) := by first | rfl | (cases x <;> rfl)
@[simp] theorem fList_2 (xs : List D) (Q : D → Prop) : fList ([.tup xs] : List D) Q = (Q (.lst xs)) := by first | rfl | (cases x <;> rfl)
def fTuple : List D → (D → Prop) → Prop
  | [.lst xs], Q => Q (.tup xs)
  | [.tup xs], Q => Q (.tup xs)
  | _, _ => False
@[simp] theorem fTuple_1 (xs : List D) (Q : D → Prop) : fTuple ([.lst xs] : List D) Q = (Q (.tup xs)) := by first | rfl | (cases x <;> rfl)
@[simp] theorem fTuple_2 (xs : List D) (Q : D → Prop) : fTuple ([.tup xs] : List D) Q = (Q (.tup xs)) := by first | rfl | (cases x <;> rfl)
/-- sorted of ints -/
def fSortI : List D → (D → Prop) → Prop
  | [.lst xs], Q => ∃ ns, D.ints xs = some ns ∧ ∀ ms : List Int, ms.Perm ns → ms.Pairwise (· ≤ ·) → Q (.lst (ms.map D.int))
  | _, _ => False
@[simp] theorem fSortI_1 (xs : List D) (Q : D → Prop) : fSortI ([.lst xs] : List D) Q = (∃ ns, D.ints xs = some ns ∧ ∀ ms : List Int, ms.Perm ns → ms.Pairwise (· ≤ ·) → Q (.lst (ms.map D.int))) := by first | rfl | (cases x <;> rfl)
section
variable {K : PySem.W.Frag} {S : As} {H : Hp}
theorem Reps.ints : ∀ {vs : List V} {ds : List D} {ns : List Int}, Reps K S H vs ds → D.ints ds = some ns → vs = ns.map V.int
  | _, [], _, h, e => by cases h; cases e; rfl
  | _, d :: ds, ns, h, e => by
    cases h with
    | cons h r =>
      cases h <;> simp only [D.ints] at e <;> first | (cases e; done) | skip
      cases q : D.ints ds with
      | none => rw [q] at e; cases e
      | some ms =>
        rw [q] at e
        cases e
        rw [Reps.ints r q]
        rfl
theorem Reps.bls : ∀ {vs : List V} {ds : List D} {ns : List Bool}, Reps K S H vs ds → D.bls ds = some ns → vs = ns.map V.bl
  | _, [], _, h, e => by cases h; cases e; rfl
  | _, d :: ds, ns, h, e => by
    cases h with
    | cons h r =>
      cases h <;> simp only [D.bls] at e <;> first | (cases e; done) | skip
      cases q : D.bls ds with
      | none => rw [q] at e; cases e
      | some ms =>
        rw [q] at e
        cases e
        rw [Reps.bls r q]
        rfl
theorem Reps.strs : ∀ {vs : List V} {ds : List D} {ns : List Str}, Reps K S H vs ds → D.strs ds = some ns → vs = ns.map V.str
  | _, [], _, h, e => by cases h; cases e; rfl
  | _, d :: ds, ns, h, e => by
    cases h with
    | cons h r =>
      cases h <;> simp only [D.strs] at e <;> first | (cases e; done) | skip
      cases q : D.strs ds with
      | none => rw [q] at e; cases e
      | some ms =>
        rw [q] at e
        cases e
        rw [Reps.strs r q]
        rfl
theorem D.ints_map : ∀ ns : List Int, D.ints (ns.map D.int) = some ns
  | [] => rfl
  | n :: ns => by simp [D.ints, D.ints_map ns]
theorem D.bls_map : ∀ ns : List Bool, D.bls (ns.map D.bl) = some ns
  | [] => rfl
  | n :: ns => by simp [D.bls, D.bls_map ns]
theorem D.strs_map : ∀ ns : List Str, D.strs (ns.map D.str) = some ns
  | [] => rfl
  | n :: ns => by simp [D.strs, D.strs_map ns]
theorem reps_ints : ∀ ns : List Int, Reps K S H (ns.map V.int) (ns.map D.int)
  | [] => .nil
  | n :: ns => .cons (.int n) (reps_ints ns)
theorem reps_strs : ∀ ns : List Str, Reps K S H (ns.map V.str) (ns.map D.str)
  | [] => .nil
  | n :: ns => .cons (.str n) (reps_strs ns)
theorem reps1 {vs : List V} {d : D} (r : Reps K S H vs [d]) : ∃ v, vs = [v] ∧ Rep K S H v d := by
  cases r with
  | cons h r => cases r; exact ⟨_, rfl, h⟩
theorem reps2 {vs : List V} {d e : D} (r : Reps K S H vs [d, e]) : ∃ v u, vs = [v, u] ∧ Rep K S H v d ∧ Rep K S H u e := by
  cases r with
  | cons h r =>
    cases r with
    | cons h' r => cases r; exact ⟨_, _, rfl, h, h'⟩
/-- the type's name of a value that stands for data -/
theorem Rep.tyx {v : V} {d : D} (r : Rep K S H v d) (h : d.noTy = true) : TyX K H v (.type d.tn) := by
  cases r with
  | non => exact .base .non
  | bl => exact .base (.bl _)
  | int => exact .base (.int _)
  | str => exact .base (.str _)
  | ty => cases h
  | src => cases h
  | dct => cases h
  | exc => cases h
  | tup ha _ =>
    rcases ha with (ha | ⟨o, ha⟩) | ⟨o, its, n, hk, hc, _⟩
    · exact .base (.tup ha)
    · exact .fTuple ha
    · exact .kTuple hk hc
  | lst ha _ =>
    rcases ha with ⟨o, ha⟩ | ⟨o, its, n, hk, hc, _⟩
    · exact .base (.frz ha)
    · exact .kList hk hc
theorem isi_ok {d : D} {n : String} (h : d.noTy = true) (hn : n ∈ ["tuple", "str", "int", "bool", "list"]) : PySem.W.kitOne K (.type d.tn) (.type n) = some (d.isi n) := by
  refine kit_ty (isi_all _ ?_ _ hn)
  cases d <;> first | (cases h; done) | simp [D.tn]
end
section
variable {X : Cx}
theorem call_lenD' : CallR X (.builtin "len") (fun xs H Q => (∃ p ys, xs = [.ref p] ∧ (SqL X.K H p ys ∨ SqT X.K H p ys) ∧ Q (.int ys.length) H) ∨ ∃ z, xs = [.str z] ∧ z.length ≤ sizeLine ∧ Q (.int z.length) H) := CallR.or call_len_seq call_len_str
theorem fc_len : FC X.K (fun xs H Q => (∃ p ys, xs = [.ref p] ∧ (SqL X.K H p ys ∨ SqT X.K H p ys) ∧ Q (.int ys.length) H) ∨ ∃ z, xs = [.str z] ∧ z.length ≤ sizeLine ∧ Q (.int z.length) H) fLen := by
  intro S H ws xs Qd Q vs r h k
  unfold fLen at h
  split at h
  · obtain ⟨v, rfl, q⟩ := reps1 r
    cases q with
    | lst ha hx => exact .inl ⟨_, _, rfl, .inl ha.sq, .inl (k _ _ S H h .refl ws (by rw [hx.length]; exact .int _))⟩
  · obtain ⟨v, rfl, q⟩ := reps1 r
    cases q with
    | tup ha hx => exact .inl ⟨_, _, rfl, .inr ha, .inl (k _ _ S H h .refl ws (by rw [hx.length]; exact .int _))⟩
  · obtain ⟨v, rfl, q⟩ := reps1 r
    cases q
    exact .inr ⟨_, rfl, h.1, .inl (k _ _ S H h.2 .refl ws (.int _))⟩
  · exact h.elim
theorem fc_isi : FC X.K (rIsi X.K) fIsi := by
  intro S H ws xs Qd Q vs r h k
  unfold fIsi at h
  split at h
  · obtain ⟨v, u, rfl, q, q'⟩ := reps2 r
    cases q'
    exact ⟨_, _, _, _, _, rfl, .ty _, q.tyx h.1.1, isi_ok h.1.1 h.1.2, .inl (k _ _ S H h.2 .refl ws (.bl _))⟩
  · exact h.elim
theorem fc_all : FC X.K (rAll X.K) fAll := by
  intro S H ws xs Qd Q vs r h k
  unfold fAll at h
  split at h
  · obtain ⟨v, rfl, q⟩ := reps1 r
    obtain ⟨bs, e, h⟩ := h
    cases q with
    | lst ha hx => exact ⟨_, bs, rfl, by rw [← hx.bls e]; exact ha.sq, .inl (k _ _ S H h .refl ws (.bl _))⟩
  · exact h.elim
theorem fc_any : FC X.K (rAny X.K) fAny := by
  intro S H ws xs Qd Q vs r h k
  unfold fAny at h
  split at h
  · obtain ⟨v, rfl, q⟩ := reps1 r
    obtain ⟨bs, e, h⟩ := h
    cases q with
    | lst ha hx => exact ⟨_, bs, rfl, by rw [← hx.bls e]; exact ha.sq, .inl (k _ _ S H h .refl ws (.bl _))⟩
  · exact h.elim
theorem fc_sum : FC X.K (rSum X.K) fSum := by
  intro S H ws xs Qd Q vs r h k
  unfold fSum at h
  split at h
  · obtain ⟨v, rfl, q⟩ := reps1 r
    obtain ⟨bs, e, h⟩ := h
    cases q with
    | lst ha hx => exact ⟨_, bs, rfl, by rw [← hx.ints e]; exact ha.sq, .inl (k _ _ S H h .refl ws (.int _))⟩
  · exact h.elim
theorem call_maxD (hc : X.calm = true) : CallR X (.builtin "max") (fun xs H Q => rMax X.K xs H Q ∨ ∃ i j, xs = [.int i, .int j] ∧ Q (.int (if j > i then j else i)) H) := CallR.or (cr_max hc) (call_max2 hc)
theorem fc_max : FC X.K (fun xs H Q => rMax X.K xs H Q ∨ ∃ i j, xs = [.int i, .int j] ∧ Q (.int (if j > i then j else i)) H) fMax := by
  intro S H ws xs Qd Q vs r h k
  unfold fMax at h
  split at h
  · obtain ⟨v, rfl, q⟩ := reps1 r
    obtain ⟨ns, e, h0, h⟩ := h
    cases q with
    | lst ha hx => exact .inl ⟨_, ns, rfl, by rw [← hx.ints e]; exact ha.sq, h0, fun m hm hl => .inl (k _ _ S H (h m hm hl) .refl ws (.int _))⟩
  · obtain ⟨v, u, rfl, q, q'⟩ := reps2 r
    cases q; cases q'
    exact .inr ⟨_, _, rfl, .inl (k _ _ S H h .refl ws (.int _))⟩
  · exact h.elim
theorem call_minD (hc : X.calm = true) : CallR X (.builtin "min") (fun xs H Q => rMin X.K xs H Q ∨ ∃ i j, xs = [.int i, .int j] ∧ Q (.int (if j < i then j else i)) H) := CallR.or (cr_min hc) (call_min2 hc)
theorem fc_min : FC X.K (fun xs H Q => rMin X.K xs H Q ∨ ∃ i j, xs = [.int i, .int j] ∧ Q (.int (if j < i then j else i)) H) fMin := by
  intro S H ws xs Qd Q vs r h k
  unfold fMin at h
  split at h
  · obtain ⟨v, rfl, q⟩ := reps1 r
    obtain ⟨ns, e, h0, h⟩ := h
    cases q with
    | lst ha hx => exact .inl ⟨_, ns, rfl, by rw [← hx.ints e]; exact ha.sq, h0, fun m hm hl => .inl (k _ _ S H (h m hm hl) .refl ws (.int _))⟩
  · obtain ⟨v, u, rfl, q, q'⟩ := reps2 r
    cases q; cases q'
    exact .inr ⟨_, _, rfl, .inl (k _ _ S H h .refl ws (.int _))⟩
  · exact h.elim
theorem fc_abs : FC X.K (fun xs H Q => ∃ i, xs = [.int i] ∧ Q (.int (if i < 0 then -i else i)) H) fAbs := by
  intro S H ws xs Qd Q vs r h k
  unfold fAbs at h
  split at h
  · obtain ⟨v, rfl, q⟩ := reps1 r
    cases q
    exact ⟨_, rfl, .inl (k _ _ S H h .refl ws (.int _))⟩
  · exact h.elim
theorem fc_int : FC X.K (fun xs H Q => (∃ i, xs = [.int i] ∧ Q (.int i) H) ∨ ∃ k, xs = [.bl k] ∧ Q (.int (if k then 1 else 0)) H) fInt := by
  intro S H ws xs Qd Q vs r h k
  unfold fInt at h
  split at h
  · obtain ⟨v, rfl, q⟩ := reps1 r
    cases q
    exact .inl ⟨_, rfl, .inl (k _ _ S H h .refl ws (.int _))⟩
  · obtain ⟨v, rfl, q⟩ := reps1 r
    cases q
    exact .inr ⟨_, rfl, .inl (k _ _ S H h .refl ws (.int _))⟩
  · exact h.elim
theorem fc_bool : FC X.K (fun xs H Q => (∃ i, xs = [.int i] ∧ Q (.bl (i != 0)) H) ∨ ∃ k, xs = [.bl k] ∧ Q (.bl k) H) fBool := by
  intro S H ws xs Qd Q vs r h k
  unfold fBool at h
  split at h
  · obtain ⟨v, rfl, q⟩ := reps1 r
    cases q
    exact .inl ⟨_, rfl, .inl (k _ _ S H h .refl ws (.bl _))⟩
  · obtain ⟨v, rfl, q⟩ := reps1 r
    cases q
    exact .inr ⟨_, rfl, .inl (k _ _ S H h .refl ws (.bl _))⟩
  · exact h.elim
theorem fc_list : FC X.K (fun xs H Q => ∃ p ys, xs = [.ref p] ∧ (SqL X.K H p ys ∨ SqT X.K H p ys) ∧ ∀ l, H l = none → Q (.ref l) (upd H l (.lst ys))) fList := by
  intro S H ws xs Qd Q vs r h k
  unfold fList at h
  split at h
  · obtain ⟨v, rfl, q⟩ := reps1 r
    cases q with
    | lst ha hx => exact ⟨_, _, rfl, .inl ha.sq, new_lst ws hx h k⟩
  · obtain ⟨v, rfl, q⟩ := reps1 r
    cases q with
    | tup ha hx => exact ⟨_, _, rfl, .inr ha, new_lst ws hx h k⟩
  · exact h.elim
theorem fc_tuple : FC X.K (fun xs H Q => ∃ p ys, xs = [.ref p] ∧ ((SqL X.K H p ys ∧ ∀ l, H l = none → Q (.ref l) (upd H l (.tup ys))) ∨ (SqT X.K H p ys ∧ Q (.ref p) H))) fTuple := by
  intro S H ws xs Qd Q vs r h k
  unfold fTuple at h
  split at h
  · obtain ⟨v, rfl, q⟩ := reps1 r
    cases q with
    | lst ha hx => exact ⟨_, _, rfl, .inl ⟨ha.sq, new_tup ws hx h k⟩⟩
  · obtain ⟨v, rfl, q⟩ := reps1 r
    cases q with
    | tup ha hx => exact ⟨_, _, rfl, .inr ⟨ha, .inl (k _ _ S H h .refl ws (.tup ha hx))⟩⟩
  · exact h.elim
theorem fc_sortI : FC X.K (rSortedI X.K) fSortI := by
  intro S H ws xs Qd Q vs r h k
  unfold fSortI at h
  split at h
  · obtain ⟨v, rfl, q⟩ := reps1 r
    obtain ⟨ns, e, h⟩ := h
    cases q with
    | lst ha hx => exact ⟨_, ns, rfl, by rw [← hx.ints e]; exact ha.sq, fun ms p hp hs hn => new_lst ws (reps_ints ms) (h ms hp hs) k p hn⟩
  · exact h.elim
end
/-! ### calls of defs -/
abbrev DF := List D → (D → Prop) → Ex → Prop
/-- the promise: n arguments -/
def spD (K : PySem.W.Frag) (n : Nat) (F : DF) : Sp := fun vs H Q E => ∃ S ds Qd Ed, Ws S H ∧ Reps K S H vs ds ∧ ds.length = n ∧ F ds Qd Ed ∧ (∀ v d S' H', Qd d → Ev S H S' H' → Ws S' H' → Rep K S' H' v d → Q v H') ∧ kE E S H Ed
@[simp] def wCall (n : Nat) (F : DF) (w : WA) : WE := fun Γ Q E => w Γ (fun ds => ds.length = n ∧ F ds Q E) E
section
variable {X : Cx} {E : XK} {CX : CXT} {k : Nat} {f : Addr} {fd : FuncData} {ps : List Str} {F : DF} {x : Str} {p pos : Pos} {e : Expr} {es : List Expr} {n : Nat}
theorem passZ : Passes CX0 X E := fun _ _ _ _ _ _ _ h => h.elim
theorem d_call {w : WA} (G : FnOk X.prog X.w X.K X.mg X.base CX k f fd ps (spD X.K n F)) (hr : Room k X.A) (hg : Gl X x) (hm : X.mg x = some (.ref f)) (hk : PySem.W.keepIn X.K (.ref f) = true) (hb : Binds X.K fd ps []) (hx : Passes CX X E) (ha : PA X (e :: es) (tDA X.K E w))
    (hdb : (x == ("__debug__" : Str)) = false := by decide) (he : starEach (e :: es) X.env = (false, eval e X.env) :: starEach es X.env := by rfl) (hpl : (backTo pos (starEach es X.env)).any (·.1) = false := by rfl) :
    PE X (.Call (.Name x p) (e :: es) [] pos) (tD X.K E (wCall n F w)) :=
  (pe_call G hr hg hm hk hb .nil hx ha hdb he hpl).imp fun σ H Q h => by
    obtain ⟨O, S, Γ, Qd, Ed, ws, m, w, k, ke⟩ := h
    refine ⟨O, S, Γ, _, Ed, ws, m, w, fun vs ds S1 H1 q1 e1 w1 r1 => ?_, ke⟩
    exact ⟨S1, ds, Qd, Ed, w1, by rw [List.append_nil]; exact r1, q1.1, q1.2, fun v d S' H' q e w' r => k v d S' H' q (e1.trans w1 e) w' r, ke.ev w1 e1⟩
theorem d_call0 (G : FnOk X.prog X.w X.K X.mg X.base CX k f fd ps (spD X.K 0 F)) (hr : Room k X.A) (hg : Gl X x) (hm : X.mg x = some (.ref f)) (hk : PySem.W.keepIn X.K (.ref f) = true) (hb : Binds X.K fd ps []) (hx : Passes CX X E)
    (hdb : (x == ("__debug__" : Str)) = false := by decide) :
    PE X (.Call (.Name x p) [] [] pos) (tD X.K E (wCall 0 F wNil)) :=
  (pe_call0 G hr hg hm hk hb .nil hx hdb).imp fun σ H Q h => by
    obtain ⟨O, S, Γ, Qd, Ed, ws, m, w, k, ke⟩ := h
    exact ⟨S, [], Qd, Ed, ws, .nil, rfl, w.2, k, ke⟩
end
end PD

set_option Elab.async false
set_option linter.all false
set_option maxRecDepth 100000
set_option maxHeartbeats 1000000
namespace PD
open PySem PySem.Spec PyProof.Rows L2
theorem _root_.L2.PG.imp {X : Cx} {e : Expr} {t t' : TG} (h : PG X e t) (q : ∀ v σ H Q, t' v σ H Q → t v σ H Q) : PG X e t' := ⟨fun pins s σ H v u Q I r w => h.run pins s σ H v u Q I r (q _ _ _ _ w)⟩
theorem _root_.L2.PGs.imp {X : Cx} {e : List Expr} {t t' : TGs} (h : PGs X e t) (q : ∀ v σ H Q, t' v σ H Q → t v σ H Q) : PGs X e t' := ⟨fun pins s σ H v u Q I r w => h.run pins s σ H v u Q I r (q _ _ _ _ w)⟩
theorem _root_.L2.PI.imp {X : Cx} {tg e : Expr} {t t' : TI} (h : PI X tg e t) (q : ∀ σ H Q, t' σ H Q → t σ H Q) : PI X tg e t' := ⟨fun pins s σ H Q I w => h.run pins s σ H Q I (q _ _ _ w)⟩
/-! ### targets -/
abbrev WG := D → List Sl → (List Sl → Prop) → Prop
abbrev WGs := List D → List Sl → (List Sl → Prop) → Prop
theorem wipe_get (σ : L2.St) : ∀ (vs : List Nat) (j : Nat), (wipe σ vs)[j]? = if j ∈ vs then (σ[j]?).map (fun _ => none) else σ[j]?
  | [], j => by simp [wipe]
  | v :: vs, j => by
    unfold wipe
    by_cases h : v = j
    · subst h
      rw [List.getElem?_set]
      simp only [if_true, List.mem_cons, true_or, wipe_length]
      by_cases hl : v < σ.length
      · simp [hl]
      · simp [hl, List.getElem?_eq_none (Nat.le_of_not_lt hl)]
    · rw [List.getElem?_set_ne h, wipe_get σ vs j]
      have : (j ∈ v :: vs) ↔ j ∈ vs := by simp [List.mem_cons, Ne.symm h]
      simp only [this]
theorem wipe_set {σ : L2.St} {i : Nat} {x : Option V} {vs : List Nat} (h : i ∈ vs) : wipe (σ.set i x) vs = wipe σ vs := by
  refine List.ext_getElem? fun j => ?_
  rw [wipe_get, wipe_get]
  by_cases hj : i = j
  · subst hj
    simp only [h, if_true]
    rw [List.getElem?_set]
    by_cases hl : i < σ.length
    · simp [hl]
    · simp [hl, List.getElem?_eq_none (Nat.le_of_not_lt hl)]
  · rw [List.getElem?_set_ne hj]
theorem wipe_wipe {σ : L2.St} {vs : List Nat} : wipe (wipe σ vs) vs = wipe σ vs := by
  refine List.ext_getElem? fun j => ?_
  rw [wipe_get, wipe_get]
  by_cases hj : j ∈ vs
  · simp only [hj, if_true]
    cases σ[j]? <;> rfl
  · simp [hj]
def wipeG (Γ : List Sl) : List Nat → List Sl
  | [] => Γ
  | v :: vs => (wipeG Γ vs).set v .no
def tDG (K : PySem.W.Frag) (is : List Nat) (g : WG) : TG := fun v σ H Q => ∃ O S Γ d k, Ws S H ∧ Mat K O S H σ Γ ∧ Rep K S H v d ∧ g d Γ k ∧ ∀ σ' Γ', k Γ' → Mat K O S H σ' Γ' → (∀ vs : List Nat, (∀ i ∈ is, i ∈ vs) → wipe σ' vs = wipe σ vs) → Q σ' H
def tDGs (K : PySem.W.Frag) (is : List Nat) (g : WGs) : TGs := fun v σ H Q => ∃ O S Γ d k, Ws S H ∧ Mat K O S H σ Γ ∧ Reps K S H v d ∧ g d Γ k ∧ ∀ σ' Γ', k Γ' → Mat K O S H σ' Γ' → (∀ vs : List Nat, (∀ i ∈ is, i ∈ vs) → wipe σ' vs = wipe σ vs) → Q σ' H
@[simp] def gN (i : Nat) : WG := fun d Γ k => k (Γ.set i (.dat d))
def gsNil : WGs := fun ds Γ k => ds = [] ∧ k Γ
def gsCons (g : WG) (gs : WGs) : WGs := fun ds Γ k => ∃ d r, ds = d :: r ∧ g d Γ (fun Γ' => gs r Γ' k)
def gT (n : Nat) (gs : WGs) : WG := fun d Γ k => ∃ ds, d = .tup ds ∧ ds.length = n ∧ gs ds Γ k
@[simp] theorem gsNil_nil (Γ : List Sl) (k : List Sl → Prop) : gsNil [] Γ k = k Γ := by simp [gsNil]
@[simp] theorem gsCons_cons (g : WG) (gs : WGs) (d : D) (r : List D) (Γ : List Sl) (k : List Sl → Prop) : gsCons g gs (d :: r) Γ k = g d Γ (fun Γ' => gs r Γ' k) := by
  unfold gsCons
  apply propext
  constructor
  · rintro ⟨d', r', e, h⟩
    cases e
    exact h
  · exact fun h => ⟨d, r, rfl, h⟩
@[simp] theorem gT_tup (n : Nat) (gs : WGs) (ds : List D) (Γ : List Sl) (k : List Sl → Prop) : gT n gs (.tup ds) Γ k = (ds.length = n ∧ gs ds Γ k) := by
  unfold gT
  apply propext
  constructor
  · rintro ⟨ds', e, h⟩
    cases e
    exact h
  · exact fun h => ⟨ds, rfl, h⟩
section
variable {K : PySem.W.Frag} {O S : As} {H : Hp} {σ : L2.St} {Γ : List Sl}
theorem Mat.wipe (m : Mat K O S H σ Γ) : ∀ vs : List Nat, Mat K O S H (L2.wipe σ vs) (wipeG Γ vs)
  | [] => m
  | v :: vs => (Mat.wipe m vs).setNo
end
section
variable {X : Cx} {E : XK} {pos : Pos}
theorem g_name (i : Nat) {x : Str} (hN : X.N.Nodup) (hi : X.N[i]? = some x) (hx : Loc X.env.scope x) (hf : X.fn x = true ∨ X.env.scope.names.lookup x = some .local := by first | exact .inl rfl | exact .inr rfl | assumption) : PG X (.Name x pos) (tDG X.K [i] (gN i)) :=
  (pg_name hN hi hx hf).imp fun v σ H Q h => by
    obtain ⟨O, S, Γ, d, k, ws, m, r, g, q⟩ := h
    exact q _ _ g (m.setDat r) fun vs h => wipe_set (h i (by simp))
theorem gs_nil : PGs X [] (tDGs X.K [] gsNil) := pgs_nil.imp fun v σ H Q h => by
  obtain ⟨O, S, Γ, d, k, ws, m, r, ⟨e, g⟩, q⟩ := h
  subst e
  cases r
  exact ⟨rfl, q _ _ g m fun _ _ => rfl⟩
theorem gs_cons {e : Expr} {es : List Expr} {is js : List Nat} {g : WG} {gs : WGs} (h1 : PG X e (tDG X.K is g)) (h2 : PGs X es (tDGs X.K js gs))
    (hs : (assignEach (e :: es) X.env).map (·.2) = assign e X.env :: (assignEach es X.env).map (·.2) := by rfl) : PGs X (e :: es) (tDGs X.K (is ++ js) (gsCons g gs)) := (pgs_cons h1 h2 hs).imp fun v σ H Q h => by
  obtain ⟨O, S, Γ, d, k, ws, m, r, ⟨d1, r1, e, g⟩, q⟩ := h
  subst e
  cases r with
  | cons h r =>
    refine ⟨_, _, rfl, O, S, Γ, d1, _, ws, m, h, g, fun σ' Γ' q' m' hw => ?_⟩
    exact ⟨O, S, Γ', r1, k, ws, m', r, q', fun σ2 Γ2 q2 m2 hw2 => q _ _ q2 m2 fun vs hv => (hw2 vs fun i hi => hv i (List.mem_append_right _ hi)).trans (hw vs fun i hi => hv i (List.mem_append_left _ hi))⟩
theorem g_tup {es : List Expr} {k : Nat} {is : List Nat} {gs : WGs} {n : Nat} (hc : X.calm = true) (h : PGs X es (tDGs X.K is gs))
    (hn : (assignEach es X.env).length = n := by rfl) (hst : (assignEach es X.env).findIdx? (·.1) = none := by rfl) : PG X (.Tuple es k pos) (tDG X.K is (gT n gs)) := (pg_tup hc h hn hst).imp fun v σ H Q h => by
  obtain ⟨O, S, Γ, d, k, ws, m, r, ⟨ds, e, hl, g⟩, q⟩ := h
  subst e
  cases r with
  | tup ha hx => exact ⟨_, _, rfl, ha, by rw [hx.length]; exact hl, O, S, Γ, ds, k, ws, m, hx, g, q⟩
/-! ### what is walked -/
def ItD (K : PySem.W.Frag) (J : It) (ds : List D) (S : As) (H : Hp) : Prop := ∀ S2 H2, Stb S H S2 H2 → Ws S2 H2 → J.stop ds.length H2 ∧ ∀ i, i < ds.length → J.go i H2 ∧ ∀ x H3, J.yld i H2 x H3 → Ev S2 H2 S2 H3 ∧ Ws S2 H3 ∧ ∃ d, ds[i]? = some d ∧ Rep K S2 H3 x d
def tDI (K : PySem.W.Frag) (E : XK) (w : WA) : TI := fun σ H R => ∃ O S Γ Qd Ed, Ws S H ∧ Mat K O S H σ Γ ∧ w Γ Qd Ed ∧ (∀ ds J S' H', Qd ds → Ev S H S' H' → Ws S' H' → ItD K J ds S' H' → R J H') ∧ kE E S H Ed
theorem ItD.list {K : PySem.W.Frag} {S : As} {H : Hp} {a : Addr} {xs : List V} {ds : List D} (ha : FzL K H a xs) (r : Reps K S H xs ds) : ItD K (Itl K a) ds S H := fun S2 H2 st ws => by
  have h2 := (FzL.stb st ha).sq
  refine ⟨?_, fun i hi => ⟨?_, fun x H3 y => ?_⟩⟩
  · rw [← r.length]; exact walk_list.stops H2 h2
  · exact walk_list.goes i H2 (by rw [r.length]; exact hi) h2
  · obtain ⟨e, e2⟩ := walk_list.yields i H2 x H3 (by rw [r.length]; exact hi) h2 y
    subst e
    obtain ⟨d, e3, r3⟩ := r.getV e2
    exact ⟨.refl, ws, d, e3, Rep.stb st _ _ r3⟩
theorem ItD.tup {K : PySem.W.Frag} {S : As} {H : Hp} {a : Addr} {xs : List V} {ds : List D} (ha : SqT K H a xs) (r : Reps K S H xs ds) : ItD K (Itt K a) ds S H := fun S2 H2 st ws => by
  have h2 := SqT.stb st ha
  refine ⟨?_, fun i hi => ⟨?_, fun x H3 y => ?_⟩⟩
  · rw [← r.length]; exact walk_tup.stops H2 h2
  · exact walk_tup.goes i H2 (by rw [r.length]; exact hi) h2
  · obtain ⟨e, e2⟩ := walk_tup.yields i H2 x H3 (by rw [r.length]; exact hi) h2 y
    subst e
    obtain ⟨d, e3, r3⟩ := r.getV e2
    exact ⟨.refl, ws, d, e3, Rep.stb st _ _ r3⟩
@[simp] def wIt (w : WE) : WA := fun Γ Q E => w Γ (fun d => ∃ ds, (d = .lst ds ∨ d = .tup ds) ∧ Q ds) E
theorem i_seq {tg l : Expr} {wl : WE} (hl : PE X l (tD X.K E wl)) : PI X tg l (tDI X.K E (wIt wl)) := by
  refine ⟨fun pins s σ H R I h => ?_⟩
  obtain ⟨O, S, Γ, Qd, Ed, ws, m, w, k, ke⟩ := h
  have h2 : tD X.K E wl σ H (fun v H' => (∃ a xs, v = .ref a ∧ SqL X.K H' a xs ∧ R (Itl X.K a) H') ∨ ∃ a xs, v = .ref a ∧ SqT X.K H' a xs ∧ R (Itt X.K a) H') := by
    refine ⟨O, S, Γ, _, Ed, ws, m, w, fun v d S1 H1 q1 e1 w1 r1 => ?_, ke⟩
    obtain ⟨ds, e | e, q⟩ := q1
    · subst e
      cases r1 with
      | lst ha hx => exact .inl ⟨_, _, rfl, ha.sq, k ds _ S1 H1 q e1 w1 (ItD.list ha hx)⟩
    · subst e
      cases r1 with
      | tup ha hx => exact .inr ⟨_, _, rfl, ha, k ds _ S1 H1 q e1 w1 (ItD.tup ha hx)⟩
  refine thn (hl.run pins s σ H _ I h2) fun v s1 ⟨x, H1, I1, r1, q1⟩ => ?_
  rcases q1 with ⟨a, xs, e, hq, q⟩ | ⟨a, xs, e, hq, q⟩
  · subst e
    cases r1
    obtain ⟨its, rv, p, hz⟩ := I1.list hq
    refine wpAny_pyIter_list p.isList ?_
    refine ⟨s1.heap.objs.size, [s1.heap.objs.size], _, _, H1, rfl, I1.kept (t' := s1.toks) fun b o e => Heap.get?_push_of_some _ e, turn_list a _, ⟨_, Heap.get?_push_size _ rfl, rfl, rfl⟩, fun b hb => ?_, q⟩
    have e : b = s1.heap.objs.size := by simpa using hb
    subst e
    exact I1.fpOk (Nat.le_refl _) (I1.hok.fresh (Nat.le_refl _))
  · subst e
    cases r1
    obtain ⟨its, rv, p, hz⟩ := I1.tuple hq
    refine wpAny_pyIter_tuple (show s1.heap.IsTuple a its.toArray from p) ?_
    refine ⟨s1.heap.objs.size, [s1.heap.objs.size], _, _, H1, rfl, I1.kept (t' := s1.toks) fun b o e => Heap.get?_push_of_some _ e, turn_tuple a _, ⟨_, Heap.get?_push_size _ rfl, rfl, rfl⟩, fun b hb => ?_, q⟩
    have e : b = s1.heap.objs.size := by simpa using hb
    subst e
    exact I1.fpOk (Nat.le_refl _) (I1.hok.fresh (Nat.le_refl _))
def rangeL (lo : Int) (n : Nat) : List D := (List.range n).map fun i => D.int (lo + (i : Nat))
def fRange1 : List D → (List D → Prop) → Prop
  | [.int n], Q => (-(2 ^ 60) < n ∧ n < 2 ^ 60) ∧ Q (rangeL 0 n.toNat)
  | _, _ => False
@[simp] theorem fRange1_1 (n : Int) (Q : List D → Prop) : fRange1 ([.int n] : List D) Q = ((-(2 ^ 60) < n ∧ n < 2 ^ 60) ∧ Q (rangeL 0 n.toNat)) := by first | rfl | (cases x <;> rfl)
def fRange2 : List D → (List D → Prop) → Prop
  | [.int a, .int b], Q => (-(2 ^ 60) < a ∧ a < 2 ^ 60 ∧ -(2 ^ 60) < b ∧ b < 2 ^ 60) ∧ Q (rangeL a (b - a).toNat)
  | _, _ => False
@[simp] theorem fRange2_1 (a : Int) (b : Int) (Q : List D → Prop) : fRange2 ([.int a, .int b] : List D) Q = ((-(2 ^ 60) < a ∧ a < 2 ^ 60 ∧ -(2 ^ 60) < b ∧ b < 2 ^ 60) ∧ Q (rangeL a (b - a).toNat)) := by first | rfl | (cases x <;> rfl)
@[simp] def wRange1 (w : WA) : WA := fun Γ Q E => w Γ (fun ds => fRange1 ds Q) E
@[simp] def wRange2 (w : WA) : WA := fun Γ Q E => w Γ (fun ds => fRange2 ds Q) E
theorem ItD.range {K : PySem.W.Frag} {S : As} {H : Hp} {lo : Int} {n : Nat} : ItD K (Itr lo n) (rangeL lo n) S H := fun S2 H2 st ws => by
  have hl : (rangeL lo n).length = n := by simp [rangeL]
  refine ⟨?_, fun i hi => ⟨?_, fun x H3 y => ?_⟩⟩
  · rw [hl]; exact Nat.le_refl _
  · rw [hl] at hi; exact hi
  · obtain ⟨e, e2⟩ := y
    subst e e2
    rw [hl] at hi
    exact ⟨.refl, ws, .int (lo + (i : Nat)), by simp [rangeL, hi], .int _⟩
theorem i_range1 {tg a : Expr} {w : WA} {p pos : Pos} (hg : Gl X "range") (hm : X.mg "range" = none) (ha : PA X [a] (tDA X.K E w)) (hs : starEach [a] X.env = [(false, eval a X.env)] := by rfl) : PI X tg (.Call (.Name "range" p) [a] [] pos) (tDI X.K E (wRange1 w)) :=
  (pi_range1 hg hm ha hs).imp fun σ H R h => by
    obtain ⟨O, S, Γ, Qd, Ed, ws, m, w, k, ke⟩ := h
    refine ⟨O, S, Γ, _, Ed, ws, m, w, fun vs ds S1 H1 q1 e1 w1 r1 => ?_, ke⟩
    unfold fRange1 at q1
    split at q1
    · obtain ⟨v, rfl, q⟩ := reps1 r1
      cases q
      exact ⟨_, rfl, by omega, by omega, k _ _ S1 H1 q1.2 e1 w1 .range⟩
    · exact q1.elim
theorem i_range2 {tg a b : Expr} {w : WA} {p pos : Pos} (hg : Gl X "range") (hm : X.mg "range" = none) (ha : PA X [a, b] (tDA X.K E w)) (hs : starEach [a, b] X.env = [(false, eval a X.env), (false, eval b X.env)] := by rfl) (hs2 : starEach [b] X.env = [(false, eval b X.env)] := by rfl) :
    PI X tg (.Call (.Name "range" p) [a, b] [] pos) (tDI X.K E (wRange2 w)) :=
  (pi_range2 hg hm ha hs hs2).imp fun σ H R h => by
    obtain ⟨O, S, Γ, Qd, Ed, ws, m, w, k, ke⟩ := h
    refine ⟨O, S, Γ, _, Ed, ws, m, w, fun vs ds S1 H1 q1 e1 w1 r1 => ?_, ke⟩
    unfold fRange2 at q1
    split at q1
    · obtain ⟨v, u, rfl, q, q'⟩ := reps2 r1
      cases q; cases q'
      exact ⟨_, _, rfl, by omega, k _ _ S1 H1 q1.2 e1 w1 .range⟩
    · exact q1.elim
end
/-! ### comprehensions -/
def lcD (own : List Nat) (g : WG) (wt : WB) (we : WE) (Γ : List Sl) (Q : D → Prop) (ds : List D) : Prop := ds.length ≤ 16000000 ∧ ∃ I : Nat → List D → Prop, I 0 [] ∧
  (∀ i acc d, ds[i]? = some d → I i acc → g d (wipeG Γ own) fun Γ' => wt Γ' (fun b => if b = true then we Γ' (fun y => I (i + 1) (acc ++ [y])) Ev0 else I (i + 1) acc) Ev0) ∧ ∀ acc, I ds.length acc → Q (.lst acc)
@[simp] def wLc (own : List Nat) (wi : WA) (g : WG) (wt : WB) (we : WE) : WE := fun Γ Q E => wi Γ (fun ds => lcD own g wt we Γ Q ds) E
/-- an item kept or not, and what it gives -/
theorem lcD_pure {own : List Nat} {g : WG} {wt : WB} {we : WE} {Γ : List Sl} {Q : D → Prop} {ds : List D} (p : D → Bool) (f : D → D) (hz : ds.length ≤ 16000000)
    (h : ∀ d ∈ ds, ∀ (Qt : D → Prop) (Qf : Prop), (p d = true → Qt (f d)) → (p d = false → Qf) → g d (wipeG Γ own) fun Γ' => wt Γ' (fun b => if b = true then we Γ' Qt Ev0 else Qf) Ev0)
    (q : Q (.lst ((ds.filter p).map f))) : lcD own g wt we Γ Q ds := by
  refine ⟨hz, fun i acc => acc = ((ds.take i).filter p).map f, rfl, fun i acc d e ha => ?_, fun acc ha => ?_⟩
  · have hd : d ∈ ds := List.mem_of_getElem? e
    have et : ds.take (i + 1) = ds.take i ++ [d] := by rw [List.take_add_one, e]; rfl
    refine h d hd _ _ (fun hp => ?_) (fun hp => ?_)
    · show acc ++ [f d] = ((ds.take (i + 1)).filter p).map f
      rw [ha, et, List.filter_append, List.map_append]
      simp [hp]
    · show acc = ((ds.take (i + 1)).filter p).map f
      rw [ha, et, List.filter_append, List.map_append]
      simp [hp]
  · rw [ha, List.take_length]
    exact q
/-- every item kept -/
theorem lcD_map {own : List Nat} {g : WG} {we : WE} {Γ : List Sl} {Q : D → Prop} {ds : List D} (f : D → D) (hz : ds.length ≤ 16000000)
    (h : ∀ d ∈ ds, ∀ (Qt : D → Prop), Qt (f d) → g d (wipeG Γ own) fun Γ' => we Γ' Qt Ev0)
    (q : Q (.lst (ds.map f))) : lcD own g (fun _ Q _ => Q true) we Γ Q ds := by
  refine lcD_pure (fun _ => true) f hz (fun d hd Qt Qf h1 _ => ?_) (by rw [List.filter_eq_self.2 (fun _ _ => rfl)]; exact q)
  exact h d hd Qt (h1 rfl)
@[simp] def wYes : WB := fun _ Q _ => Q true
section
variable {X : Cx} {E : XK} {pos : Pos}
theorem ts_nil : PTs X [] (tDB X.K E wYes) := ⟨fun pins s σ H Q I h => pts_nil.run pins s σ H Q I (by
  obtain ⟨O, S, Γ, Qd, Ed, ws, m, w, k, ke⟩ := h
  exact k true S H w .refl ws)⟩
theorem ts_one {c : Expr} {w : WB} (h : PT X c (tDB X.K E w)) : PTs X [c] (tDB X.K E w) := pts_one h
/-- the list that grows: what a turn keeps -/
structure LcI (K : PySem.W.Frag) (I : Nat → List D → Prop) (S1 : As) (H1 : Hp) (Dl : Addr) (i : Nat) (H2 : Hp) : Prop where
  ex : ∃ S2 accv acc, Ev S1 H1 S2 H2 ∧ Ws S2 H2 ∧ H2 Dl = some (.lst accv) ∧ ¬ S2 Dl ∧ Reps K S2 H2 accv acc ∧ I i acc ∧ acc.length ≤ i
theorem lc_imp {K : PySem.W.Frag} {own is : List Nat} {wi : WA} {g : WG} {wt : WB} {we : WE} {σ : L2.St} {H : Hp} {O S : As} {Γ : List Sl} {Ed : Ex} {Qd : D → Prop} {Q : VK} (ws : Ws S H) (m : Mat K O S H σ Γ)
    (w : wLc own wi g wt we Γ Qd Ed) (ke : kE E S H Ed) (his : ∀ i ∈ is, i ∈ own)
    (k : ∀ D S1 H1 S2 H2 accv acc, Qd (.lst acc) → Ev S H S1 H1 → Ws S1 H1 → Ev S1 H1 S2 H2 → Ws S2 H2 → H1 D = none → H2 D = some (.lst accv) → ¬ S2 D → Reps K S2 H2 accv acc → Q (.ref D) H2) :
    tLc (tDI K E wi) (tDG K is g) (tDB K E0 wt) (tD K E0 we) own σ H Q := by
  refine ⟨O, S, Γ, _, Ed, ws, m, w, fun ds J S1 H1 q1 e1 w1 it => ?_, ke⟩
  intro Dl hD
  obtain ⟨hz, I, h0, hs, hd⟩ := q1
  have m1 := m.ev ws w1 e1
  refine ⟨fun i n H2 => n = ds.length - i ∧ i ≤ ds.length ∧ LcI K I S1 H1 Dl i H2, ⟨ds.length, by simp, Nat.zero_le _, ⟨S1, [], [], .upd hD, w1.upd hD, upd_same, w1.at hD, .nil, h0, Nat.zero_le _⟩⟩, ?_⟩
  rintro i n H2 ⟨rfl, hi, ⟨S2, accv, acc, e2, w2, hl, nS, ra, hI, ha⟩⟩
  obtain ⟨hstop, hgo⟩ := it S2 H2 (e2.stb w1) w2
  by_cases hlt : i < ds.length
  · obtain ⟨go, hy⟩ := hgo i hlt
    refine .inr ⟨go, LcI K I S1 H1 Dl (i + 1), fun H' h' => ⟨ds.length - (i + 1), by omega, rfl, hlt, h'⟩, fun x H3 y => ?_⟩
    obtain ⟨e3, w3, d, ed, rd⟩ := hy x H3 y
    have m3 : Mat K O S2 H3 (wipe σ own) (wipeG Γ own) := ((m1.ev w1 w2 e2).ev w2 w3 e3).wipe own
    refine ⟨O, S2, _, d, _, w3, m3, rd, hs i acc d ed hI, fun σ4 Γ4 q4 m4 hw => ?_⟩
    refine ⟨(hw own his).trans wipe_wipe, ?_⟩
    have hl3 : H3 Dl = some (.lst accv) := e3.keep _ _ hl nS
    refine ⟨O, S2, Γ4, _, Ev0, w3, m4, q4, fun b S5 H5 q5 e5 w5 => ?_, kE.zero⟩
    have n5 : ¬ S5 Dl := fun z => by
      rcases e5.new _ z with y | y
      · exact nS y
      · rw [hl3] at y; cases y
    have hl5 : H5 Dl = some (.lst accv) := e5.keep _ _ hl3 nS
    have ev5 : Ev S1 H1 S5 H5 := e2.trans w2 (e3.trans w3 e5)
    have ra5 : Reps K S5 H5 accv acc := Reps.stb (e5.stb w3) _ _ (Reps.stb (e3.stb w2) _ _ ra)
    cases b with
    | false => exact ⟨S5, accv, acc, ev5, w5, hl5, n5, ra5, q5, by omega⟩
    | true =>
      refine ⟨O, S5, Γ4, _, Ev0, w5, m4.ev w3 w5 e5, q5, fun v y S6 H6 q6 e6 w6 r6 => ?_, kE.zero⟩
      have n6 : ¬ S6 Dl := fun z => by
        rcases e6.new _ z with y | y
        · exact n5 y
        · rw [hl5] at y; cases y
      have hl6 : H6 Dl = some (.lst accv) := e6.keep _ _ hl5 n5
      have ra6 : Reps K S6 H6 accv acc := Reps.stb (e6.stb w5) _ _ ra5
      have ev6 : Ev S1 H1 S6 H6 := ev5.trans w5 e6
      have st : Stb S6 H6 S6 (upd H6 Dl (.lst (accv ++ [v]))) := .wr hl6
      refine ⟨accv, hl6, ?_, S6, accv ++ [v], acc ++ [y], ⟨fun b o hb nb => ?_, ev6.src, ev6.new⟩, fun b hb => ?_, upd_same, n6, Reps.stb st _ _ (ra6.append (.cons r6 .nil)), q6, by simp; omega⟩
      · rw [ra6.length, sizeLine_eq]; omega
      · rw [upd_ne (ne_of_none hb hD)]; exact ev6.keep b o hb nb
      · obtain ⟨o, e, q⟩ := w6 b hb
        exact ⟨o, by rw [upd_ne (fun z => n6 (by rw [← z]; exact hb))]; exact e, q⟩
  · have e : i = ds.length := by omega
    subst e
    exact .inl ⟨hstop, k Dl S1 H1 S2 H2 accv acc (hd acc hI) e1 w1 e2 w2 hD hl nS ra⟩
theorem d_lc {elt tg iter : Expr} {ifs : List Expr} {scope : Scope} {own : List (Str × Nat)} {is : List Nat} {wi : WA} {g : WG} {wt : WB} {we : WE} (hc : X.calm = true) (hN : X.N.Nodup) (hi : PI X tg iter (tDI X.K E wi)) (ok : BlkOk X.N X.env.scope scope own)
    (hg : ∀ (s : Shared) (H : Hp) (C : Addr) (cl : List (Str × Addr)) (fp : List Addr), PG (X.blk s H scope (compEnvC scope cl C X.env) fp) tg (tDG X.K is g)) (ht : ∀ (s : Shared) (H : Hp) (C : Addr) (cl : List (Str × Addr)) (fp : List Addr), PTs (X.blk s H scope (compEnvC scope cl C X.env) fp) ifs (tDB X.K E0 wt))
    (he : ∀ (s : Shared) (H : Hp) (C : Addr) (cl : List (Str × Addr)) (fp : List Addr), PE (X.blk s H scope (compEnvC scope cl C X.env) fp) elt (tD X.K E0 we)) (his : ∀ i ∈ is, i ∈ own.map (·.2) := by decide) (hs : ∀ x, foldedSetIterable iter X.env x = pure x := by intro _; rfl) :
    PE X (.ListComp elt [⟨tg, iter, ifs, 0⟩] scope pos) (tD X.K E (wLc (own.map (·.2)) wi g wt we)) :=
  (pe_lc hc hN hi ok hg ht he hs).frz.imp fun σ H Q h => by
    obtain ⟨O, S, Γ, Qd, Ed, ws, m, w, k, ke⟩ := h
    refine lc_imp ws m w ke his fun Dl S1 H1 S2 H2 accv acc q e1 w1 e2 w2 hD hl nS ra => ?_
    refine .inr ⟨Dl, accv, rfl, hl, fun o => ?_⟩
    have ev : Ev S1 H1 S2 (upd H2 Dl (.frz o (.lst accv))) := Ev.frz hD hl w1 e2 nS
    have st : Stb S2 H2 S2 (upd H2 Dl (.frz o (.lst accv))) := .wr hl
    exact k _ _ S2 _ q (e1.trans w1 ev) (w2.frz nS) (.lst (.inl ⟨o, upd_same⟩) (Reps.stb st _ _ ra))
end
end PD

set_option Elab.async false
set_option linter.all false
set_option maxRecDepth 100000
set_option maxHeartbeats 1000000
namespace PD
open PySem PySem.Spec PyProof.Rows L2
/-! ### statements -/
/-- the state of a body: S0, H0 the entry -/
structure Stt (K : PySem.W.Frag) (S0 : As) (H0 : Hp) (S : As) (H : Hp) (σ : L2.St) (Γ : List Sl) : Prop where
  ws : Ws S H
  mat : Mat K (fun a => H0 a = none) S H σ Γ
  ev : Ev S0 H0 S H
def tS (K : PySem.W.Frag) (E : XK) (w : WS) : TS := fun Dn σ H => ∃ S0 H0 S Γ N R Ed, Stt K S0 H0 S H σ Γ ∧ w N R Ed Γ ∧ (∀ σ' Γ' S' H', N Γ' → Stt K S0 H0 S' H' σ' Γ' → Stb S H S' H' → Dn.nx σ' H') ∧
  (∀ v d S' H', R d → Ev S0 H0 S' H' → Ws S' H' → Rep K S' H' v d → Dn.rt v H') ∧ kE E S0 H0 Ed
@[simp] def wSeq (a b : WS) : WS := fun N R E Γ => a (b N R E) R E Γ
@[simp] def wSkip : WS := fun N _ _ Γ => N Γ
@[simp] def wDrop (w : WE) : WS := fun N _ E Γ => w Γ (fun _ => N Γ) E
@[simp] def wRet (w : WE) : WS := fun _ R E Γ => w Γ R E
@[simp] def wRetN : WS := fun _ R _ _ => R .non
@[simp] def wIf (c : WB) (a b : WS) : WS := fun N R E Γ => c Γ (fun t => if t = true then a N R E Γ else b N R E Γ) E
@[simp] def wAsg (w : WE) (g : WG) : WS := fun N _ E Γ => w Γ (fun d => g d Γ N) E
def forD (g : WG) (b : WS) (N : List Sl → Prop) (R : D → Prop) (E : Ex) (Γ : List Sl) (ds : List D) : Prop := ∃ I : Nat → List Sl → Prop, I 0 Γ ∧ (∀ i d Γ', ds[i]? = some d → I i Γ' → g d Γ' (b (I (i + 1)) R E)) ∧ ∀ Γ', I ds.length Γ' → N Γ'
@[simp] def wFor (wi : WA) (g : WG) (b : WS) : WS := fun N R E Γ => wi Γ (fun ds => forD g b N R E Γ ds) E
def whD (c : WB) (b : WS) (N : List Sl → Prop) (R : D → Prop) (E : Ex) (Γ : List Sl) : Prop := ∃ I : Nat → List Sl → Prop, (∃ m, I m Γ) ∧ ∀ m Γ', I m Γ' → c Γ' (fun t => if t = true then b (fun Γ2 => ∃ m', m' < m ∧ I m' Γ2) R E Γ' else N Γ') E
@[simp] def wWhile (c : WB) (b : WS) : WS := fun N R E Γ => whD c b N R E Γ
@[simp] def wNever : WS := fun _ _ _ _ => False
section
variable {X : Cx} {E : XK} {pos : Pos}
theorem Stt.next {K : PySem.W.Frag} {S0 S S1 : As} {H0 H H1 : Hp} {σ : L2.St} {Γ : List Sl} (st : Stt K S0 H0 S H σ Γ) (e : Ev S H S1 H1) (w : Ws S1 H1) : Stt K S0 H0 S1 H1 σ Γ := ⟨w, st.mat.ev st.ws w e, st.ev.trans st.ws e⟩
theorem Stt.ke {K : PySem.W.Frag} {S0 S : As} {H0 H : Hp} {σ : L2.St} {Γ : List Sl} {Ed : Ex} (st : Stt K S0 H0 S H σ Γ) (k : kE E S0 H0 Ed) : kE E S H Ed := fun c S2 H2 q e2 w2 => k c S2 H2 q (st.ev.trans st.ws e2) w2
theorem ss_nil : PSs X [] (tS X.K E wSkip) := pss_nil.imp fun Dn σ H h => by
  obtain ⟨S0, H0, S, Γ, N, R, Ed, st, w, kn, kr, ke⟩ := h
  exact kn σ Γ S H w st .refl
theorem ss_cons {st : Stmt} {rest : List Stmt} {wa wb : WS} (ha : PS X st (tS X.K E wa)) (hb : PSs X rest (tS X.K E wb)) : PSs X (st :: rest) (tS X.K E (wSeq wa wb)) := (pss_cons ha hb).imp fun Dn σ H h => by
  obtain ⟨S0, H0, S, Γ, N, R, Ed, st, w, kn, kr, ke⟩ := h
  exact ⟨S0, H0, S, Γ, _, R, Ed, st, w, fun σ' Γ' S' H' q st' sb => ⟨S0, H0, S', Γ', N, R, Ed, st', q, fun σ2 Γ2 S2 H2 q2 st2 sb2 => kn σ2 Γ2 S2 H2 q2 st2 (sb.trans sb2), kr, ke⟩, kr, ke⟩
theorem ss_one {st : Stmt} {wa : WS} (ha : PS X st (tS X.K E wa)) : PSs X [st] (tS X.K E wa) := pss_one ha
theorem s_pass : PS X (.Pass pos) (tS X.K E wSkip) := ps_pass.imp fun Dn σ H h => by
  obtain ⟨S0, H0, S, Γ, N, R, Ed, st, w, kn, kr, ke⟩ := h
  exact kn σ Γ S H w st .refl
theorem s_doc {x j pos'} : PS X (.Expr (.Constant (.str x) j pos) pos') (tS X.K E wSkip) := ps_doc.imp fun Dn σ H h => by
  obtain ⟨S0, H0, S, Γ, N, R, Ed, st, w, kn, kr, ke⟩ := h
  exact kn σ Γ S H w st .refl
theorem s_never {st : Stmt} : PS X st (tS X.K E wNever) := ps_never.imp fun Dn σ H h => by
  obtain ⟨S0, H0, S, Γ, N, R, Ed, st, w, kn, kr, ke⟩ := h
  exact w
theorem s_expr {e : Expr} {w : WE} (he : PE X e (tD X.K E w)) (hs : swapsWith e none pos.line X.env = pure false := by rfl) : PS X (.Expr e pos) (tS X.K E (wDrop w)) := (ps_expr he hs).imp fun Dn σ H h => by
  obtain ⟨S0, H0, S, Γ, N, R, Ed, st, w, kn, kr, ke⟩ := h
  exact ⟨_, S, Γ, _, Ed, st.ws, st.mat, w, fun v d S' H' q e w' r => kn σ Γ S' H' q (st.next e w') (e.stb st.ws), st.ke ke⟩
theorem s_ret {e : Expr} {w : WE} (he : PE X e (tD X.K E w)) : PS X (.Return (some e) pos) (tS X.K E (wRet w)) := (ps_ret he).imp fun Dn σ H h => by
  obtain ⟨S0, H0, S, Γ, N, R, Ed, st, w, kn, kr, ke⟩ := h
  exact ⟨_, S, Γ, _, Ed, st.ws, st.mat, w, fun v d S' H' q e w' r => kr v d S' H' q (st.ev.trans st.ws e) w' r, st.ke ke⟩
theorem s_retN : PS X (.Return none pos) (tS X.K E wRetN) := ps_retN.imp fun Dn σ H h => by
  obtain ⟨S0, H0, S, Γ, N, R, Ed, st, w, kn, kr, ke⟩ := h
  exact kr .non .non S H w st.ev st.ws .non
theorem s_if {c : Expr} {a b : List Stmt} {wc : WB} {wa wb : WS} (hc : PT X c (tDB X.K E wc)) (ha : PSs X a (tS X.K E wa)) (hb : PSs X b (tS X.K E wb)) : PS X (.If c a b pos) (tS X.K E (wIf wc wa wb)) := (ps_if hc ha hb).imp fun Dn σ H h => by
  obtain ⟨S0, H0, S, Γ, N, R, Ed, st, w, kn, kr, ke⟩ := h
  refine ⟨_, S, Γ, _, Ed, st.ws, st.mat, w, fun t S' H' q e w' => ?_, st.ke ke⟩
  cases t with
  | true => exact ⟨S0, H0, S', Γ, N, R, Ed, st.next e w', q, fun σ2 Γ2 S2 H2 q2 st2 sb2 => kn σ2 Γ2 S2 H2 q2 st2 ((e.stb st.ws).trans sb2), kr, ke⟩
  | false => exact ⟨S0, H0, S', Γ, N, R, Ed, st.next e w', q, fun σ2 Γ2 S2 H2 q2 st2 sb2 => kn σ2 Γ2 S2 H2 q2 st2 ((e.stb st.ws).trans sb2), kr, ke⟩
theorem s_asg {tg e : Expr} {w : WE} {is : List Nat} {g : WG} (he : PE X e (tD X.K E w)) (hg : PG X tg (tDG X.K is g)) (hs : swapsWithSole [tg] e pos.line X.env = pure false := by rfl) (hw : swappedStores [tg] e X.env = pure none := by rfl)
    (h1 : (assignEach [tg] X.env).map (·.2) = [assign tg X.env] := by rfl) : PS X (.Assign [tg] e pos) (tS X.K E (wAsg w g)) := (ps_asg he hg hs hw h1).imp fun Dn σ H h => by
  obtain ⟨S0, H0, S, Γ, N, R, Ed, st, w, kn, kr, ke⟩ := h
  refine ⟨_, S, Γ, _, Ed, st.ws, st.mat, w, fun v d S' H' q e w' r => ?_, st.ke ke⟩
  have st' := st.next e w'
  exact ⟨_, S', Γ, d, _, w', st'.mat, r, q, fun σ' Γ' q' m' _ => kn σ' Γ' S' H' q' ⟨w', m', st'.ev⟩ (e.stb st.ws)⟩
theorem s_set {i : Nat} {x : Str} {e : Expr} {w : WE} {pos' : Pos} (hN : X.N.Nodup) (hi : X.N[i]? = some x) (hx : Loc X.env.scope x) (he : PE X e (tD X.K E w)) (hs : swapsWith e (some (.Name x pos')) pos.line X.env = pure false := by rfl) (hf : X.fn x = true ∨ X.env.scope.names.lookup x = some .local := by first | exact .inl rfl | exact .inr rfl | assumption) :
    PS X (.Assign [.Name x pos'] e pos) (tS X.K E (wAsg w (gN i))) := (ps_set hN hi hx he hs hf).imp fun Dn σ H h => by
  obtain ⟨S0, H0, S, Γ, N, R, Ed, st, w, kn, kr, ke⟩ := h
  refine ⟨_, S, Γ, _, Ed, st.ws, st.mat, w, fun v d S' H' q e w' r => ?_, st.ke ke⟩
  have st' := st.next e w'
  exact kn _ _ S' H' q ⟨w', st'.mat.setDat r, st'.ev⟩ (e.stb st.ws)
theorem s_for {tg iter : Expr} {body : List Stmt} {wi : WA} {is : List Nat} {g : WG} {wb : WS} (hp : PassesOwn (model X.prog X.w) X.A X.env X.xe) (hc : X.calm = true) (hi : PI X tg iter (tDI X.K E wi)) (hg : PG X tg (tDG X.K is g)) (hb : PSs X body (tS X.K E wb))
    (hs : ∀ x, foldedSetIterable iter X.env x = pure x := by intro _; rfl) : PS X (.For tg iter body [] pos) (tS X.K E (wFor wi g wb)) := (ps_for hp hc hi hg hb hs).imp fun Dn σ H h => by
  obtain ⟨S0, H0, S, Γ, N, R, Ed, st, w, kn, kr, ke⟩ := h
  refine ⟨_, S, Γ, _, Ed, st.ws, st.mat, w, fun ds J S1 H1 q1 e1 w1 it => ?_, st.ke ke⟩
  obtain ⟨I, h0, hs, hd⟩ := q1
  refine ⟨fun i n σ2 H2 => n = ds.length - i ∧ i ≤ ds.length ∧ ∃ S2 Γ2, Stt X.K S0 H0 S2 H2 σ2 Γ2 ∧ I i Γ2 ∧ Stb S1 H1 S2 H2, ⟨ds.length, by simp, Nat.zero_le _, S1, Γ, st.next e1 w1, h0, .refl⟩, ?_⟩
  rintro i n σ2 H2 ⟨rfl, hi, S2, Γ2, st2, hI, sb2⟩
  obtain ⟨hstop, hgo⟩ := it S2 H2 sb2 st2.ws
  by_cases hlt : i < ds.length
  · obtain ⟨go, hy⟩ := hgo i hlt
    refine .inr ⟨go, fun σ3 H3 => ∃ S3 Γ3, Stt X.K S0 H0 S3 H3 σ3 Γ3 ∧ I (i + 1) Γ3 ∧ Stb S1 H1 S3 H3, fun σ' H' ⟨S3, Γ3, a, b, c⟩ => ⟨ds.length - (i + 1), by omega, rfl, hlt, S3, Γ3, a, b, c⟩, fun x H3 y => ?_⟩
    obtain ⟨e3, w3, d, ed, rd⟩ := hy x H3 y
    have st3 := st2.next e3 w3
    refine ⟨_, S2, Γ2, d, _, w3, st3.mat, rd, hs i d Γ2 ed hI, fun σ4 Γ4 q4 m4 _ => ?_⟩
    exact ⟨S0, H0, S2, Γ4, _, R, Ed, ⟨w3, m4, st3.ev⟩, q4, fun σ5 Γ5 S5 H5 q5 st5 sb5 => ⟨S5, Γ5, st5, q5, sb2.trans ((e3.stb st2.ws).trans sb5)⟩, kr, ke⟩
  · have e : i = ds.length := by omega
    subst e
    exact .inl ⟨hstop, kn _ _ S2 H2 (hd _ hI) st2 ((e1.stb st.ws).trans sb2)⟩
theorem s_while {c : Expr} {body : List Stmt} {wc : WB} {wb : WS} (hp : PassesOwn (model X.prog X.w) X.A X.env X.xe) (hc : PT X c (tDB X.K E wc)) (hb : PSs X body (tS X.K E wb)) : PS X (.While c body [] pos) (tS X.K E (wWhile wc wb)) := (ps_while hp hc hb).imp fun Dn σ H h => by
  obtain ⟨S0, H0, S, Γ, N, R, Ed, st, ⟨I, ⟨m0, h0⟩, hs⟩, kn, kr, ke⟩ := h
  refine ⟨fun n σ2 H2 => ∃ S2 Γ2, Stt X.K S0 H0 S2 H2 σ2 Γ2 ∧ I n Γ2 ∧ Stb S H S2 H2, ⟨m0, S, Γ, st, h0, .refl⟩, ?_⟩
  rintro n σ2 H2 ⟨S2, Γ2, st2, hI, sb2⟩
  refine ⟨_, S2, Γ2, _, Ed, st2.ws, st2.mat, hs n Γ2 hI, fun t S3 H3 q e w3 => ?_, st2.ke ke⟩
  cases t with
  | true =>
    refine ⟨fun σ4 H4 => ∃ m', m' < n ∧ ∃ S4 Γ4, Stt X.K S0 H0 S4 H4 σ4 Γ4 ∧ I m' Γ4 ∧ Stb S H S4 H4, fun σ4 H4 ⟨m', a, b⟩ => ⟨m', a, b⟩, ?_⟩
    exact ⟨S0, H0, S3, Γ2, _, R, Ed, st2.next e w3, q, fun σ5 Γ5 S5 H5 ⟨m', hm, q5⟩ st5 sb5 => ⟨m', hm, S5, Γ5, st5, q5, sb2.trans ((e.stb st2.ws).trans sb5)⟩, kr, ke⟩
  | false => exact kn _ _ S3 H3 q (st2.next e w3) (sb2.trans (e.stb st2.ws))
/-! two names at once -/
@[simp] def wPar (i j : Nat) (w : WA) : WS := fun N _ E Γ => w Γ (fun ds => ∃ x y, ds = [x, y] ∧ N ((Γ.set i (.dat x)).set j (.dat y))) E
theorem s_par {i j : Nat} {x y : Str} {a b : Expr} {w : WA} {px py pt : Pos} {kt k2 pt2} (hc : X.calm = true) (hN : X.N.Nodup) (hi : X.N[i]? = some x) (hj : X.N[j]? = some y) (hij : i ≠ j)
    (hx : X.env.scope.names.lookup x = some .local) (hy : X.env.scope.names.lookup y = some .local) (ha : PA X [a, b] (tDA X.K E w))
    (hw : swappedStores [.Tuple [.Name x px, .Name y py] kt pt] (.Tuple [a, b] k2 pt2) X.env = pure (some [x, y]))
    (hs : swapsWithSole [.Tuple [.Name x px, .Name y py] kt pt] (.Tuple [a, b] k2 pt2) pos.line X.env = pure false := by rfl) :
    PS X (.Assign [.Tuple [.Name x px, .Name y py] kt pt] (.Tuple [a, b] k2 pt2) pos) (tS X.K E (wPar i j w)) := (ps_par hc hN hi hj hij hx hy ha hw hs).imp fun Dn σ H h => by
  obtain ⟨S0, H0, S, Γ, N, R, Ed, st, w, kn, kr, ke⟩ := h
  refine ⟨_, S, Γ, _, Ed, st.ws, st.mat, w, fun vs ds S' H' q e w' r => ?_, st.ke ke⟩
  obtain ⟨x, y, rfl, q⟩ := q
  obtain ⟨v, u, rfl, r1, r2⟩ := reps2 r
  have st' := st.next e w'
  exact ⟨v, u, rfl, kn _ _ S' H' q ⟨w', (st'.mat.setDat r1).setDat r2, st'.ev⟩ (e.stb st.ws)⟩
end
/-! ### a statement may freeze -/
section
variable {X : Cx} {E : XK} {pos : Pos}
theorem PSs.frzIn {sts : List Stmt} {t : TS} (h : PSs X sts t) : PSs X sts (fun D σ H => t D σ H ∨ ∃ a xs, H a = some (.lst xs) ∧ ∀ o, t D σ (upd H a (.frz o (.lst xs)))) := by
  refine ⟨fun pins s σ H D I w => ?_⟩
  rcases w with w | ⟨a, xs, e, w⟩
  · exact h.run pins s σ H D I w
  · obtain ⟨od, I2⟩ := I.lock e (show Mut (some (.lst xs)) from trivial)
    exact h.run pins s σ _ D I2 (w od)
theorem PS.frzNx {st : Stmt} {t : TS} (h : PS X st t) : PS X st (fun D σ H => t { D with nx := fun σ' H' => D.nx σ' H' ∨ ∃ a xs, H' a = some (.lst xs) ∧ ∀ o, D.nx σ' (upd H' a (.frz o (.lst xs))) } σ H) := by
  refine ⟨fun pins s σ H D I w => thn (h.run pins s σ H _ I w) fun f s1 q => ?_⟩
  cases f with
  | next =>
    obtain ⟨σ', H', I', q | ⟨a, xs, e, q⟩⟩ := q
    · exact ⟨σ', H', I', q⟩
    · obtain ⟨od, I2⟩ := I'.lock e (show Mut (some (.lst xs)) from trivial)
      exact ⟨σ', _, I2, q od⟩
  | brk => exact q
  | cont => exact q
  | ret v => exact q
/-- the own list at slot i is frozen ahead of these -/
@[simp] def wFrz (i : Nat) (w : WS) : WS := fun N R E Γ => ∃ ds, Γ[i]? = some (.own ds) ∧ w N R E (Γ.set i (.dat (.lst ds)))
theorem Mat.frzOwn {K : PySem.W.Frag} {O S : As} {H : Hp} {σ : L2.St} {Γ : List Sl} {i : Nat} {a : Addr} {vs : List V} {ds : List D} {o : Obj} (m : Mat K O S H σ Γ) (hg : Γ[i]? = some (.own ds)) (hs : σ[i]? = some (some (.ref a))) (hl : H a = some (.lst vs)) (r : Reps K S H vs ds) :
    Mat K O S (upd H a (.frz o (.lst vs))) σ (Γ.set i (.dat (.lst ds))) := by
  have sb : Stb S H S (upd H a (.frz o (.lst vs))) := .wr hl
  have hi : i < Γ.length := (List.getElem?_eq_some_iff.mp hg).1
  refine ⟨by simpa using m.len, fun j sl h => ?_, fun j k b es fs h1 h2 h3 h4 => ?_, m.dis2.setG (fun z => z.elim)⟩
  · by_cases hj : i = j
    · subst hj
      rw [List.getElem?_set_self hi] at h
      cases h
      exact ⟨.ref a, hs, .lst (.inl ⟨o, upd_same⟩) (Reps.stb sb _ _ r)⟩
    · rw [List.getElem?_set_ne hj] at h
      have q := m.at_ j sl h
      cases sl with
      | no => trivial
      | dat d =>
        obtain ⟨v, e1, r1⟩ := q
        exact ⟨v, e1, Rep.stb sb _ _ r1⟩
      | own es =>
        obtain ⟨b, us, e1, e2, n, r1⟩ := q
        have hne : b ≠ a := fun z => hj (m.dist i j a ds es hg h hs (by rw [← z]; exact e1))
        exact ⟨b, us, e1, by rw [upd_ne hne]; exact e2, n, Reps.stb sb _ _ r1⟩
      | dic ks =>
        obtain ⟨b, e1, e2, n⟩ := q
        have hne : b ≠ a := fun z => by rw [z, hl] at e2; cases e2
        exact ⟨b, e1, by rw [upd_ne hne]; exact e2, n⟩
      | key p =>
        obtain ⟨b, e1, e2⟩ := q
        exact ⟨b, e1, sb.tup _ _ e2⟩
  · have n1 : i ≠ j := fun z => by subst z; rw [List.getElem?_set_self hi] at h1; cases h1
    have n2 : i ≠ k := fun z => by subst z; rw [List.getElem?_set_self hi] at h2; cases h2
    rw [List.getElem?_set_ne n1] at h1
    rw [List.getElem?_set_ne n2] at h2
    exact m.dist j k b es fs h1 h2 h3 h4
theorem Stt.frzOwn {K : PySem.W.Frag} {S0 S : As} {H0 H : Hp} {σ : L2.St} {Γ : List Sl} {i : Nat} {ds : List D} (st : Stt K S0 H0 S H σ Γ) (hg : Γ[i]? = some (.own ds)) :
    ∃ a vs, σ[i]? = some (some (.ref a)) ∧ H a = some (.lst vs) ∧ ¬ S a ∧ H0 a = none ∧ Reps K S H vs ds ∧ ∀ o, Stt K S0 H0 S (upd H a (.frz o (.lst vs))) σ (Γ.set i (.dat (.lst ds))) := by
  obtain ⟨a, vs, e1, e2, ⟨n, f⟩, r⟩ := st.mat.at_ i _ hg
  exact ⟨a, vs, e1, e2, n, f, r, fun o => ⟨st.ws.frz n, st.mat.frzOwn hg e1 e2 r, ⟨fun b x q z => by rw [upd_ne (ne_of_none q f)]; exact st.ev.keep b x q z, st.ev.src, st.ev.new⟩⟩⟩
theorem ss_frz (i : Nat) {sts : List Stmt} {w : WS} (h : PSs X sts (tS X.K E w)) : PSs X sts (tS X.K E (wFrz i w)) := (PSs.frzIn h).imp fun Dn σ H h => by
  obtain ⟨S0, H0, S, Γ, N, R, Ed, st, ⟨ds, hg, w⟩, kn, kr, ke⟩ := h
  obtain ⟨a, vs, e1, e2, n, f, r, st'⟩ := st.frzOwn hg
  exact .inr ⟨a, vs, e2, fun o => ⟨S0, H0, S, _, N, R, Ed, st' o, w, fun σ2 Γ2 S2 H2 q2 st2 sb2 => kn σ2 Γ2 S2 H2 q2 st2 (Stb.trans (.wr e2) sb2), kr, ke⟩⟩
end
theorem hu64 {k : Nat} {A : Around} (hr : Room k A) : A.units + 64 < cLine := hr.units
theorem hu65 {k : Nat} {A : Around} (hr : Room k A) : A.units + 65 < cLine := by have := hr.un; omega
/-! ### a def -/
def startG (N : List Str) (ds : List D) : List Sl := ds.map .dat ++ List.replicate (N.length - ds.length) .no
theorem mat_start {K : PySem.W.Frag} {O S : As} {H : Hp} {N : List Str} : ∀ {vs : List V} {ds : List D}, Reps K S H vs ds → Mat K O S H (L2.start N vs) (startG N ds) := by
  intro vs ds r
  have hl := r.length
  refine ⟨by simp [L2.start, startG, hl], fun i sl h => ?_, fun i j a es fs h1 _ _ _ => ?_, fun i j a x y h1 _ hx _ _ _ => ?_⟩
  rotate_left 2
  · exfalso
    unfold startG at h1
    by_cases hi : i < ds.length
    · rw [List.getElem?_append_left (by simpa using hi), List.getElem?_map, List.getElem?_eq_getElem hi] at h1
      cases h1
      exact hx
    · rw [List.getElem?_append_right (by simp; omega)] at h1
      obtain ⟨_, e⟩ := List.mem_replicate.mp (List.mem_of_getElem? h1)
      subst e
      exact hx
  · unfold startG at h
    unfold L2.start
    by_cases hi : i < ds.length
    · rw [List.getElem?_append_left (by simpa using hi)] at h
      rw [List.getElem?_append_left (by simp; omega)]
      rw [List.getElem?_map, List.getElem?_eq_getElem hi] at h
      cases h
      obtain ⟨v, e, q⟩ := r.get (List.getElem?_eq_getElem hi)
      exact ⟨v, by rw [List.getElem?_map, e]; rfl, q⟩
    · rw [List.getElem?_append_right (by simp; omega)] at h
      obtain ⟨_, e⟩ := List.mem_replicate.mp (List.mem_of_getElem? h)
      subst e
      trivial
  · unfold startG at h1
    by_cases hi : i < ds.length
    · rw [List.getElem?_append_left (by simpa using hi), List.getElem?_map, List.getElem?_eq_getElem hi] at h1
      cases h1
    · rw [List.getElem?_append_right (by simp; omega)] at h1
      obtain ⟨_, e⟩ := List.mem_replicate.mp (List.mem_of_getElem? h1)
      cases e
section
variable {P : Program} {w : World} {K : PySem.W.Frag} {mg : Str → Option Value} {base : Heap}
/-- a def that raises nothing -/
theorem fn_pd {x qual : Str} {st : Stmt} {f : Addr} {fd : FuncData} {N ps : List Str} {k : Nat} {F : DF} {wb : WS} (Fu : Fun K x qual st f fd) (Sc : FnScope N ps (defScope st))
    (spec : ∀ ds Q E, ds.length = ps.length → F ds Q E → wb (fun _ => Q .non) Q Ev0 (startG N ds))
    (hbody : ∀ (cdv : Value) (A : Around) (outer : List Env) (s : Shared) (H : Hp) (E : XK), Room k (A.deeper (envOfC qual (defScope st) s.heap.objs.size f cdv)) → PSs (cxOf CX0 P w K mg base N qual (defScope st) f cdv A outer s H E).nox (defBody st) (tS K E0 wb)) :
    FnOk P w K mg base CX0 (k + 1) f fd ps (spD K ps.length F) := by
  refine Fu.ok Sc (fun vs H Q E h => ?_) fun cdv A outer s H vs Q E hr h => ?_
  · obtain ⟨S, ds, Qd, Ed, ws, r, hl, _⟩ := h
    rw [r.length, hl]
  · obtain ⟨S, ds, Qd, Ed, ws, r, hl, hf, kq, ke⟩ := h
    refine ⟨_, hbody cdv A outer s H E hr, S, H, S, _, _, _, Ev0, ⟨ws, mat_start r, .refl⟩, spec ds Qd Ed hl hf, fun σ' Γ' S' H' q st' _ => ?_, fun v d S' H' q e w' r => kq v d S' H' q e w' r, .zero⟩
    exact kq .non .non S' H' q st'.ev st'.ws .non
/-- a def that may raise -/
theorem fn_pdX {x qual : Str} {st : Stmt} {f : Addr} {fd : FuncData} {N ps : List Str} {k : Nat} {F : DF} {wb : WS} (Fu : Fun K x qual st f fd) (Sc : FnScope N ps (defScope st))
    (spec : ∀ ds Q E, ds.length = ps.length → F ds Q E → wb (fun _ => Q .non) Q E (startG N ds))
    (hbody : ∀ (cdv : Value) (A : Around) (outer : List Env) (s : Shared) (H : Hp) (E : XK), Room k (A.deeper (envOfC qual (defScope st) s.heap.objs.size f cdv)) → PSs (cxOf (L2.CX P w) P w K mg base N qual (defScope st) f cdv A outer s H E) (defBody st) (tS K E wb)) :
    FnOk P w K mg base (L2.CX P w) (k + 1) f fd ps (spD K ps.length F) := by
  refine Fu.okX Sc (fun vs H Q E h => ?_) fun cdv A outer s H vs Q E hr h => ?_
  · obtain ⟨S, ds, Qd, Ed, ws, r, hl, _⟩ := h
    rw [r.length, hl]
  · obtain ⟨S, ds, Qd, Ed, ws, r, hl, hf, kq, ke⟩ := h
    refine ⟨_, hbody cdv A outer s H E hr, S, H, S, _, _, _, Ed, ⟨ws, mat_start r, .refl⟩, spec ds Qd Ed hl hf, fun σ' Γ' S' H' q st' _ => ?_, fun v d S' H' q e w' r => kq v d S' H' q e w' r, ke⟩
    exact kq .non .non S' H' q st'.ev st'.ws .non
end
end PD

set_option Elab.async false
set_option linter.all false
set_option maxRecDepth 100000
set_option maxHeartbeats 1000000
namespace PD
open PySem PySem.Spec PyProof.Rows L2
/-! ### what the module's top has written -/
theorem absV_rel {u : Value} {v : V} (h : absV u = some v) : RelV v u := by
  cases u <;> simp only [absV] at h <;> first | (cases h; done) | (cases h; exact ⟨_, rfl⟩) | (cases h; rfl)
theorem absV_vals : ∀ {us : List Value} {vs : List V}, us.map absV = vs.map some → Vals vs us
  | [], [], _ => .nil
  | [], _ :: _, h => by cases h
  | _ :: _, [], h => by cases h
  | u :: us, v :: vs, h => by
    simp only [List.map_cons, List.cons.injEq] at h
    exact .cons (absV_rel h.1) (absV_vals h.2)
/-- a written tuple of flat things -/
theorem kTup {K : PySem.W.Frag} {a : Addr} {dd : Option Addr} {its : Array Value} {n : Nat} {sl : Array (Option Value)} {vs : List V} (l : K.lookup a = some ⟨.type "tuple", dd, .seq its n, sl⟩) (h : its.toList.map absV = vs.map some) (hz : its.size ≤ 1000) (H : Hp) : SqT K H a vs :=
  .inr ⟨_, its, n, l, rfl, rfl, le1000 hz, absV_vals h⟩
theorem kLst {K : PySem.W.Frag} {a : Addr} {its : Array Value} {n : Nat} {sl : Array (Option Value)} {vs : List V} (l : K.lookup a = some ⟨.type "list", none, .seq its n, sl⟩) (h : its.toList.map absV = vs.map some) (hz : its.size ≤ 1000) : KL K a vs :=
  ⟨_, its, n, l, rfl, rfl, rfl, le1000 hz, absV_vals h⟩
/-- a name of the module that holds data -/
structure KG (K : PySem.W.Frag) (mg : Str → Option Value) (x : Str) (d : D) : Prop where
  ex : ∃ u v, mg x = some u ∧ RelV v u ∧ ∀ S H, Rep K S H v d
theorem KG.int {K : PySem.W.Frag} {mg : Str → Option Value} {x : Str} {i : Int} {t : Tok} (h : mg x = some (.int i t)) : KG K mg x (.int i) := ⟨_, .int i, h, ⟨_, rfl⟩, fun _ _ => .int _⟩
theorem KG.tupS {K : PySem.W.Frag} {mg : Str → Option Value} {x : Str} {a : Addr} {dd : Option Addr} {its : Array Value} {n : Nat} {sl : Array (Option Value)} {ss : List Str} (h : mg x = some (.ref a)) (l : K.lookup a = some ⟨.type "tuple", dd, .seq its n, sl⟩)
    (e : its.toList.map absV = (ss.map V.str).map some) (hz : its.size ≤ 1000) : KG K mg x (.tup (ss.map D.str)) := ⟨_, .ref a, h, rfl, fun S H => .tup (kTup l e hz H) (reps_strs ss)⟩
/-- a written dict, texts to ints -/
structure KD (K : PySem.W.Frag) (w : World) (mg : Str → Option Value) (x : Str) (kvs : List (Str × Int)) : Prop where
  ex : ∃ a es n, mg x = some (.ref a) ∧ KDict K w a es n ∧ ∀ z, (∀ i, kvs.lookup z = some i → ∃ t, PySem.W.nsIn K a z = some (some (.int i t))) ∧ (kvs.lookup z = none → PySem.W.nsIn K a z = some none)
def entAbs (e : DictEntry) : Option (Str × Int) := match e.key, e.val with
  | .str x _, .int i _ => some (x, i)
  | _, _ => none
theorem ns_ent {K : PySem.W.Frag} {a : Addr} {es : Array DictEntry} {n : Nat} {kvs : List (Str × Int)} (l : K.lookup a = some ⟨.type "dict", none, .dict es n, #[]⟩) (h : es.toList.map entAbs = kvs.map some) (hr : es.toList.any (·.refKey) = false) (z : Str) :
    (∀ i, kvs.lookup z = some i → ∃ t, PySem.W.nsIn K a z = some (some (.int i t))) ∧ (kvs.lookup z = none → PySem.W.nsIn K a z = some none) := by
  have key : ∀ (es : List DictEntry) (kvs : List (Str × Int)), es.map entAbs = kvs.map some → (∀ i, kvs.lookup z = some i → ∃ e t, es.find? (·.key.isStr z) = some e ∧ e.val = .int i t) ∧ (kvs.lookup z = none → es.find? (·.key.isStr z) = none) := by
    intro es
    induction es with
    | nil =>
      intro kvs h
      cases kvs with
      | nil => exact ⟨fun i q => by simp at q, fun _ => rfl⟩
      | cons _ _ => cases h
    | cons e r ih =>
      intro kvs h
      cases kvs with
      | nil => cases h
      | cons kv kvs =>
        simp only [List.map_cons, List.cons.injEq] at h
        obtain ⟨h1, h2⟩ := h
        obtain ⟨i1, i2⟩ := ih kvs h2
        obtain ⟨kx, ki⟩ := kv
        unfold entAbs at h1
        split at h1
        · rename_i x t i t' ek ev
          cases h1
          have ke : e.key.isStr z = (z == kx) := by
            rw [ek]
            show (kx == z) = (z == kx)
            exact BEq.comm
          rw [List.find?_cons, ke, List.lookup_cons]
          cases hz : (z == kx) with
          | true => exact ⟨fun i q => ⟨e, t', rfl, by cases q; exact ev⟩, fun q => by cases q⟩
          | false => exact ⟨i1, i2⟩
        · cases h1
  obtain ⟨k1, k2⟩ := key es.toList kvs h
  refine ⟨fun i q => ?_, fun q => ?_⟩
  · obtain ⟨e, t, f, ev⟩ := k1 i q
    refine ⟨t, ?_⟩
    unfold PySem.W.nsIn
    rw [l]
    simp only [f, ev]
  · unfold PySem.W.nsIn
    rw [l]
    simp only [k2 q, hr]
    rfl
theorem KD.mk' {K : PySem.W.Frag} {w : World} {mg : Str → Option Value} {x : Str} {a : Addr} {es : Array DictEntry} {n : Nat} {kvs : List (Str × Int)} (h : mg x = some (.ref a)) (l : K.lookup a = some ⟨.type "dict", none, .dict es n, #[]⟩)
    (k : PySem.W.KeysLit w.params es.toList) (lo : (a == sysModules) = false) (e : es.toList.map entAbs = kvs.map some) (hr : es.toList.any (·.refKey) = false) : KD K w mg x kvs := ⟨a, es, n, h, ⟨l, k, lo⟩, fun z => ns_ent l e hr z⟩
section
variable {X : Cx} {E : XK} {pos : Pos}
theorem d_glob {x : Str} {d : D} (g : KG X.K X.mg x d) (hg : Gl X x) (hd : (x == ("__debug__" : Str)) = false := by decide) : PE X (.Name x pos) (tD X.K E (wC d)) := by
  obtain ⟨u, v, h, r, q⟩ := g.ex
  exact d_c (pe_glob hg h r hd) q
theorem d_type {x : Str} {n : String} (hg : Gl X x) (hm : X.mg x = none) (hv : bootBuiltins x = some (.type n)) (hn : x ≠ "__name__" := by decide) (hd : (x == ("__debug__" : Str)) = false := by decide) : PE X (.Name x pos) (tD X.K E (wC (.ty n))) :=
  d_c (pe_bltn (v := .ty n) hg hm hv rfl hn hd) fun _ _ => .ty _
/-! written dicts -/
def fKIn (kvs : List (Str × Int)) : D → (D → Prop) → Prop
  | .str z, Q => Q (.bl (kvs.lookup z).isSome)
  | _, _ => False
def fKNin (kvs : List (Str × Int)) : D → (D → Prop) → Prop
  | .str z, Q => Q (.bl (!(kvs.lookup z).isSome))
  | _, _ => False
def fKIx (kvs : List (Str × Int)) : D → (D → Prop) → Prop
  | .str z, Q => ∃ i, kvs.lookup z = some i ∧ Q (.int i)
  | _, _ => False
def kget (kvs : List (Str × Int)) (z : Str) (d : D) : D := match kvs.lookup z with | some i => .int i | none => d
def fKGet (kvs : List (Str × Int)) : D → D → (D → Prop) → Prop
  | .str z, d, Q => Q (kget kvs z d)
  | _, _, _ => False
@[simp] theorem fKIn_1 (kvs : List (Str × Int)) (z : Str) (Q : D → Prop) : fKIn kvs (.str z) Q = Q (.bl (kvs.lookup z).isSome) := rfl
@[simp] theorem fKIx_1 (kvs : List (Str × Int)) (z : Str) (Q : D → Prop) : fKIx kvs (.str z) Q = ∃ i, kvs.lookup z = some i ∧ Q (.int i) := rfl
@[simp] theorem fKGet_1 (kvs : List (Str × Int)) (z : Str) (d : D) (Q : D → Prop) : fKGet kvs (.str z) d Q = Q (kget kvs z d) := rfl
theorem d_kin {a : Expr} {x : Str} {kvs : List (Str × Int)} {p : Pos} {w : WE} (D : KD X.K X.w X.mg x kvs) (hg : Gl X x) (ha : PE X a (tD X.K E w)) (hd : (x == ("__debug__" : Str)) = false := by decide) : PE X (.Compare a [.In] [.Name x p] pos) (tD X.K E (wUn (fKIn kvs) w)) := by
  obtain ⟨d, es, n, h, K1, hz⟩ := D.ex
  refine (pe_cmpR (op_in_kd K1) ha (pe_glob (v := .ref d) hg h rfl hd) (by rfl)).imp fun σ H Q h => ?_
  obtain ⟨O, S, Γ, Qd, Ed, ws, m, w, k, ke⟩ := h
  refine ⟨O, S, Γ, _, Ed, ws, m, w, fun vx x S1 H1 q1 e1 w1 r1 => ?_, ke⟩
  cases r1 <;> first | exact (show False from q1).elim | skip
  rename_i z
  have q2 : Qd (.bl (kvs.lookup z).isSome) := q1
  obtain ⟨z1, z2⟩ := hz z
  cases q : kvs.lookup z with
  | none => exact ⟨z, none, rfl, rfl, z2 q, k _ _ S1 H1 (by rw [q] at q2; exact q2) e1 w1 (.bl _)⟩
  | some i =>
    obtain ⟨t, e⟩ := z1 i q
    exact ⟨z, _, rfl, rfl, e, k _ _ S1 H1 (by rw [q] at q2; exact q2) e1 w1 (.bl _)⟩
theorem t_kin {a : Expr} {x : Str} {kvs : List (Str × Int)} {p : Pos} {w : WE} (D : KD X.K X.w X.mg x kvs) (hg : Gl X x) (ha : PE X a (tD X.K E w)) (hd : (x == ("__debug__" : Str)) = false := by decide) : PT X (.Compare a [.In] [.Name x p] pos) (tDB X.K E (wB (wUn (fKIn kvs) w))) := by
  obtain ⟨d, es, n, h, K1, hz⟩ := D.ex
  refine (pt_cmpR (op_in_kd K1) ha (pe_glob (v := .ref d) hg h rfl hd) (by rfl)).imp fun σ H Q h => ?_
  obtain ⟨O, S, Γ, Qd, Ed, ws, m, w, k, ke⟩ := h
  refine ⟨O, S, Γ, _, Ed, ws, m, w, fun vx x S1 H1 q1 e1 w1 r1 => ?_, ke⟩
  cases r1 <;> first | exact (show False from q1).elim | skip
  rename_i z
  obtain ⟨bb, eb, q2⟩ := (show ∃ b, PD.D.bl (kvs.lookup z).isSome = PD.D.bl b ∧ Qd b from q1)
  cases eb
  obtain ⟨z1, z2⟩ := hz z
  cases q : kvs.lookup z with
  | none => exact ⟨z, none, rfl, rfl, z2 q, _, rfl, k _ S1 H1 (by rw [q] at q2; exact q2) e1 w1⟩
  | some i =>
    obtain ⟨t, e⟩ := z1 i q
    exact ⟨z, _, rfl, rfl, e, _, rfl, k _ S1 H1 (by rw [q] at q2; exact q2) e1 w1⟩
theorem d_kix {b : Expr} {x : Str} {kvs : List (Str × Int)} {p : Pos} {w : WE} (D : KD X.K X.w X.mg x kvs) (hg : Gl X x) (hb : PE X b (tD X.K E w)) (hs : PlainIx b) (hd : (x == ("__debug__" : Str)) = false := by decide) : PE X (.Subscript (.Name x p) b pos) (tD X.K E (wUn (fKIx kvs) w)) := by
  obtain ⟨d, es, n, h, K1, hz⟩ := D.ex
  refine (pe_ix ix_kdict (pe_glob (v := .ref d) hg h rfl hd) hb hs).imp fun σ H Q h => ?_
  obtain ⟨O, S, Γ, Qd, Ed, ws, m, w, k, ke⟩ := h
  refine ⟨O, S, Γ, _, Ed, ws, m, w, fun vx x S1 H1 q1 e1 w1 r1 => ?_, ke⟩
  cases r1 <;> first | exact (show False from q1).elim | skip
  rename_i z
  obtain ⟨i, q2, q3⟩ := (show ∃ i, kvs.lookup z = some i ∧ Qd (.int i) from q1)
  obtain ⟨t, e⟩ := (hz z).1 i q2
  exact ⟨d, z, .int i, rfl, rfl, ⟨es, n, _, K1.at_, K1.lit, e, ⟨t, rfl⟩⟩, k _ _ S1 H1 q3 e1 w1 (.int _)⟩
theorem d_kget {e f : Expr} {x : Str} {kvs : List (Str × Int)} {p apos : Pos} {we wf : WE} (D : KD X.K X.w X.mg x kvs) (hg : Gl X x) (he : PE X e (tD X.K E we)) (hf : PE X f (tD X.K E wf)) (m : M2 X (.Name x p) "get" apos e f pos) (hd : (x == ("__debug__" : Str)) = false := by decide) :
    PE X (.Call (.Attribute (.Name x p) "get" apos) [e, f] [] pos) (tD X.K E (wBin (fKGet kvs) we wf)) := by
  obtain ⟨d, es, n, h, K1, hz⟩ := D.ex
  refine ⟨fun pins s σ H Q I hw => ?_⟩
  obtain ⟨O, S, Γ, Qd, Ed, ws, mt, w, k, ke⟩ := hw
  refine wpAny_Call_method m.base m.few m.line PySem.F.plainAttrs_dict PySem.F.slot_dict_get PySem.F.type_dict_get (thn ((pe_glob (v := .ref d) hg h rfl hd).run pins s σ H (fun v H' => v = .ref d ∧ H' = H) I ⟨rfl, rfl⟩) fun u s1 ⟨y, H1, I1, rx, ey, eH⟩ => ?_)
  subst ey eH
  obtain rfl : u = Value.ref d := rx
  refine ⟨kd_type K1 I1, fun a e => ?_, ?_⟩
  · cases e
    exact ⟨_, I1.kIn _ _ K1.at_, rfl⟩
  rw [m.trees]
  refine Calls.callWith_builtin rfl (Calls.evalArgs_plain (Calls.spliced_cons (thn (he.run pins s1 σ _ _ I1 ⟨O, S, Γ, _, Ed, ws, mt, w, fun v dd S' H' q e w' r => (show (fun v H' => ∃ dd S', wf Γ (fun y => fKGet kvs dd y Qd) Ed ∧ Ev S H1 S' H' ∧ Ws S' H' ∧ Rep X.K S' H' v dd) v H' from ⟨dd, S', q, e, w', r⟩), ke⟩) fun iv s2 ⟨y, H2, I2, ry, dd, S2, q2, e2, w2, r2⟩ =>
    Calls.spliced_cons (thn (hf.run pins s2 σ H2 _ I2 ⟨O, S2, Γ, _, Ed, w2, mt.ev ws w2 e2, q2, fun v df S' H' q e w' r => (show (fun v H' => ∃ df S', fKGet kvs dd df Qd ∧ Ev S2 H2 S' H' ∧ Ws S' H' ∧ Rep X.K S' H' v df) v H' from ⟨df, S', q, e, w', r⟩), ke.ev w2 e2⟩) fun fv s3 ⟨z, H3, I3, rz, df, S3, q3, e3, w3, r3⟩ => Calls.spliced_nil ?_))))
  have r2' := Rep.stb (e3.stb w2) _ _ r2
  obtain ⟨key, rfl⟩ : ∃ key, dd = .str key := by
    cases dd <;> first | exact (show False from q3).elim | exact ⟨_, rfl⟩
  cases r2'
  obtain ⟨t, rfl⟩ := ry
  have q4 : Qd (match kvs.lookup key with | some i => .int i | none => df) := q3
  have mo := PySem.W.mapOf_K (prog := X.prog) (w := X.w) I3.kIn K1.at_ K1.lit
  refine call_meetsIn PySem.F.slot_dict_get mo.typeIs PySem.F.entry_dict_get (PySem.F.args_dict_get_3 _ _ _) (meets_dict_get_default (strKind X.prog X.w) d (PySem.strKind_is X.prog X.w key t) K1.low fv) ⟨_, mo, ?_⟩
  have ee : Ev S H1 S3 H3 := e2.trans w2 e3
  obtain ⟨z1, z2⟩ := hz key
  cases q : kvs.lookup key with
  | none =>
    rw [q] at q4
    rw [PySem.W.find_K K1.at_ (z2 q)]
    exact ⟨z, H3, I3.tok _, rz, k _ _ S3 H3 q4 ee w3 r3⟩
  | some i =>
    rw [q] at q4
    obtain ⟨t2, e4⟩ := z1 i q
    rw [PySem.W.find_K K1.at_ e4]
    exact ⟨.int i, H3, I3.tok _, ⟨_, rfl⟩, k _ _ S3 H3 q4 ee w3 (.int _)⟩
end
end PD

set_option Elab.async false
set_option linter.all false
set_option maxRecDepth 100000
set_option maxHeartbeats 1000000
namespace PD
open PySem PySem.Spec PyProof.Rows L2
/-! ### the source of drawn numbers -/
def SrcB (j : Int) (v : Int) : Prop := (j = 0 ∧ 0 ≤ v) ∨ (j = 1 ∧ 0 ≤ v ∧ v < 4294967296) ∨ (j = 2 ∧ 1073741824 < v ∧ v < 2147483648)
@[simp] def wSrcIx (i : Nat) (j : Int) : WE := fun Γ Q _ => Γ[i]? = some (.dat .src) ∧ (j = 0 ∨ j = 1 ∨ j = 2) ∧ ∀ v, SrcB j v → Q (.int v)
@[simp] def wSrcSt (i : Nat) (j : Int) (w : WE) : WS := fun N _ E Γ => Γ[i]? = some (.dat .src) ∧ w Γ (fun d => ∃ v, d = .int v ∧ SrcB j v ∧ N Γ) E
@[simp] def wRetSrc (w : WA) : WS := fun _ R E Γ => w Γ (fun ds => ∃ c s p, ds = [.int c, .int s, .int p] ∧ SrcB 0 c ∧ SrcB 1 s ∧ SrcB 2 p ∧ R .src) E
theorem SrcO.set {xs : List V} {j : Int} {k : Nat} {v : Int} (h : SrcO (.lst xs)) (b : SrcB j v) (e : ixN xs.length j = some k) : SrcO (.lst (xs.set k (.int v))) := by
  obtain ⟨c, s, p, e2, h0, h1, h2, h3, h4⟩ := h
  cases e2
  rcases b with ⟨rfl, b⟩ | ⟨rfl, b1, b2⟩ | ⟨rfl, b1, b2⟩
  · cases (show some 0 = some k from e)
    exact ⟨v, s, p, rfl, b, h1, h2, h3, h4⟩
  · cases (show some 1 = some k from e)
    exact ⟨c, v, p, rfl, h0, b1, b2, h3, h4⟩
  · cases (show some 2 = some k from e)
    exact ⟨c, s, v, rfl, h0, h1, h2, b1, b2⟩
theorem Ev.srcWr {S : As} {H : Hp} {a : Addr} {o : HO} (h : S a) : Ev S H S (L2.upd H a o) := ⟨fun b x e z => by rw [upd_ne (fun y => z (by rw [y]; exact h))]; exact e, fun _ h => h, fun _ h => .inl h⟩
section
variable {X : Cx} {E : XK} {pos : Pos}
theorem d_srcIx (i : Nat) {x : Str} {p1 p2 : Pos} {j : Int} {k : Nat} (hN : X.N[i]? = some x := by rfl) (hv : Vis X.env.scope x := by first | exact Or.inl rfl | exact Or.inr (Or.inl rfl) | exact Or.inr (Or.inr rfl)) (hd : (x == ("__debug__" : Str)) = false := by decide)
    (hcd : (x == ("__classdict__" : Str)) = false := by decide) (hs : PlainIx (.Constant (.int j) k p2) := by intro _ _; rfl) : PE X (.Subscript (.Name x p1) (.Constant (.int j) k p2) pos) (tD X.K E (wSrcIx i j)) :=
  (pe_ix ix_list (pv i hN hv hd hcd) pe_int hs).imp fun σ H Q h => by
    obtain ⟨O, S, Γ, Qd, Ed, ws, m, ⟨e, hj, q⟩, kq, ke⟩ := h
    obtain ⟨v, e1, r⟩ := m.at_ i _ e
    cases r with
    | src ha =>
      rename_i a
      obtain ⟨o, e2, c, s, p, rfl, h0, h1, h2, h3, h4⟩ := ws a ha
      rcases hj with rfl | rfl | rfl
      · exact ⟨_, e1, a, _, _, .int c, rfl, rfl, SqL.of e2, rfl, kq _ _ S H (q c (.inl ⟨rfl, h0⟩)) .refl ws (.int _)⟩
      · exact ⟨_, e1, a, _, _, .int s, rfl, rfl, SqL.of e2, rfl, kq _ _ S H (q s (.inr (.inl ⟨rfl, h1, h2⟩))) .refl ws (.int _)⟩
      · exact ⟨_, e1, a, _, _, .int p, rfl, rfl, SqL.of e2, rfl, kq _ _ S H (q p (.inr (.inr ⟨rfl, h3, h4⟩))) .refl ws (.int _)⟩
theorem s_srcSt (i : Nat) {x : Str} {p1 p2 p3 : Pos} {j : Int} {k : Nat} {e : Expr} {w : WE} (he : PE X e (tD X.K E w)) (hN : X.N[i]? = some x := by rfl) (hv : Vis X.env.scope x := by first | exact Or.inl rfl | exact Or.inr (Or.inl rfl) | exact Or.inr (Or.inr rfl)) (hd : (x == ("__debug__" : Str)) = false := by decide)
    (hcd : (x == ("__classdict__" : Str)) = false := by decide) (hj : j = 0 ∨ j = 1 ∨ j = 2 := by decide)
    (ha : ∀ v, assign (.Subscript (.Name x p1) (.Constant (.int j) k p2) p3) X.env v = (do
      let ov ← holding [v] (eval (.Name x p1) X.env)
      let iv ← holding [v, ov] (eval (.Constant (.int j) k p2) X.env)
      standAt p3
      holding [v, ov, iv] (setItem ov iv v)
      release [v, ov, iv] []) := by intro _; rfl)
    (hs : swapsWithSole [.Subscript (.Name x p1) (.Constant (.int j) k p2) p3] e pos.line X.env = pure false := by rfl) (hw : swappedStores [.Subscript (.Name x p1) (.Constant (.int j) k p2) p3] e X.env = pure none := by rfl)
    (h1 : (assignEach [.Subscript (.Name x p1) (.Constant (.int j) k p2) p3] X.env).map (·.2) = [assign (.Subscript (.Name x p1) (.Constant (.int j) k p2) p3) X.env] := by rfl) :
    PS X (.Assign [.Subscript (.Name x p1) (.Constant (.int j) k p2) p3] e pos) (tS X.K E (wSrcSt i j w)) :=
  (ps_asg he (pg_sub (pv i hN hv hd hcd) pe_int set_list ha) hs hw h1).imp fun Dn σ H h => by
    obtain ⟨S0, H0, S, Γ, N, R, Ed, st, ⟨hg, w⟩, kn, kr, ke⟩ := h
    refine ⟨_, S, Γ, _, Ed, st.ws, st.mat, w, fun v d S' H' q e w' r => ?_, st.ke ke⟩
    obtain ⟨z, rfl, hb, q⟩ := q
    cases r
    have st' := st.next e w'
    obtain ⟨u, e1, r⟩ := st'.mat.at_ i _ hg
    cases r with
    | src ha =>
      rename_i a
      obtain ⟨o, e2, c, s, p, rfl, h0, h1, h2, h3, h4⟩ := w' a ha
      have hk : ∃ k, ixN 3 j = some k := by
        rcases hj with rfl | rfl | rfl
        · exact ⟨0, rfl⟩
        · exact ⟨1, rfl⟩
        · exact ⟨2, rfl⟩
      obtain ⟨k, hk⟩ := hk
      have so : SrcO (.lst (([.int c, .int s, .int p] : List V).set k (.int z))) := SrcO.set ⟨c, s, p, rfl, h0, h1, h2, h3, h4⟩ hb hk
      refine ⟨_, e1, a, _, j, k, rfl, rfl, e2, hk, ?_⟩
      have ev : Ev S' H' S' (upd H' a (.lst (([.int c, .int s, .int p] : List V).set k (.int z)))) := .srcWr ha
      have w2 : Ws S' (upd H' a (.lst (([.int c, .int s, .int p] : List V).set k (.int z)))) := fun b hb => by
        by_cases z : b = a
        · rw [z]; exact ⟨_, upd_same, so⟩
        · obtain ⟨o, e3, q3⟩ := w' b hb
          exact ⟨o, by rw [upd_ne z]; exact e3, q3⟩
      exact kn _ _ S' _ q (st'.next ev w2) ((e.stb st.ws).trans (ev.stb w'))
theorem s_retSrc {es : List Expr} {p : Pos} {w : WA} (h : PA X es (tDA X.K E w)) : PS X (.Return (some (.List es p)) pos) (tS X.K E (wRetSrc w)) := (ps_ret (pe_lst h)).imp fun Dn σ H h => by
  obtain ⟨S0, H0, S, Γ, N, R, Ed, st, w, kn, kr, ke⟩ := h
  refine ⟨_, S, Γ, _, Ed, st.ws, st.mat, w, fun vs ds S' H' q e w' r => ?_, st.ke ke⟩
  obtain ⟨c, s, p, rfl, h0, h1, h2, q⟩ := q
  have hv : vs = [.int c, .int s, .int p] := by
    cases r with
    | cons r1 r => cases r with
      | cons r2 r => cases r with
        | cons r3 r => cases r; cases r1; cases r2; cases r3; rfl
  subst hv
  refine ⟨by simp [sizeLine_eq], fun a ha => ?_⟩
  have st' := st.next e w'
  have ev : Ev S' H' (fun b => S' b ∨ b = a) (upd H' a (.lst [.int c, .int s, .int p])) := ⟨fun b x q z => by rw [upd_ne (ne_of_none q ha)]; exact q, fun b h => .inl h, fun b h => h.elim .inl fun z => .inr (by rw [z]; exact ha)⟩
  have so : SrcO (.lst [.int c, .int s, .int p]) := by
    refine ⟨c, s, p, rfl, ?_⟩
    unfold SrcB at h0 h1 h2
    omega
  refine kr _ _ _ _ q (st'.ev.trans w' ev) (fun b hb => ?_) (.src (.inr rfl))
  by_cases z : b = a
  · rw [z]; exact ⟨_, upd_same, so⟩
  · rcases hb with hb | hb
    · obtain ⟨o, e3, q3⟩ := w' b hb
      exact ⟨o, by rw [upd_ne z]; exact e3, q3⟩
    · exact absurd hb z
end
/-! ### lists of one's own -/
def tDL (K : PySem.W.Frag) (E : XK) (w : WA) : TE := fun σ H Q => ∃ O S Γ Qd Ed, Ws S H ∧ Mat K O S H σ Γ ∧ w Γ Qd Ed ∧ (∀ p vs ds S' H', Qd ds → Ev S H S' H' → Ws S' H' → H p = none → H' p = some (.lst vs) → ¬ S' p → Reps K S' H' vs ds → Q (.ref p) H') ∧ kE E S H Ed
@[simp] def wOwn (i : Nat) (w : WA) : WS := fun N _ E Γ => w Γ (fun ds => N (Γ.set i (.own ds))) E
@[simp] def wApp (i : Nat) (w : WE) : WS := fun N _ E Γ => ∃ ds, Γ[i]? = some (.own ds) ∧ w Γ (fun d => ds.length < 16000000 ∧ N (Γ.set i (.own (ds ++ [d])))) E
@[simp] def wSto (i : Nat) (wk : WE) (w : WE) : WS := fun N _ E Γ => ∃ ds, Γ[i]? = some (.own ds) ∧ w Γ (fun d => wk Γ (fun k => ∃ z j, k = .int z ∧ ixN ds.length z = some j ∧ N (Γ.set i (.own (ds.set j d)))) E) E
@[simp] def wRetOwn (i : Nat) : WS := fun _ R _ Γ => ∃ ds, Γ[i]? = some (.own ds) ∧ R (.lst ds)
@[simp] def wIxO (i : Nat) (w : WE) : WE := fun Γ Q E => ∃ ds, Γ[i]? = some (.own ds) ∧ w Γ (fun k => fIx (.lst ds) k Q) E
theorem Mat.setOwn {K : PySem.W.Frag} {O S S' : As} {H H' : Hp} {σ : L2.St} {Γ : List Sl} {i : Nat} {p : Addr} {vs : List V} {ds : List D} (ws : Ws S H) (w' : Ws S' H') (m : Mat K O S H σ Γ) (e : Ev S H S' H') (hp : H p = none) (hl : H' p = some (.lst vs)) (ns : ¬ S' p) (ho : O p) (r : Reps K S' H' vs ds) :
    Mat K O S' H' (σ.set i (some (.ref p))) (Γ.set i (.own ds)) := by
  have m' := m.ev ws w' e
  have other : ∀ {j : Nat} {es : List D} {a : Addr}, Γ[j]? = some (.own es) → σ[j]? = some (some (.ref a)) → a ≠ p := fun {j es a} h1 h2 z => by
    obtain ⟨b, us, e1, e2, _⟩ := m.at_ j _ h1
    rw [h2] at e1
    cases e1
    rw [z, hp] at e2; cases e2
  refine ⟨by simpa using m.len, fun j sl h => ?_, fun j k a es fs h1 h2 h3 h4 => ?_, m.dis2.set (fun z => z.elim)⟩
  · by_cases hj : i = j
    · subst hj
      by_cases hi : i < Γ.length
      · rw [List.getElem?_set_self hi] at h
        cases h
        exact ⟨p, vs, by rw [List.getElem?_set_self (by rw [← m.len]; exact hi)], hl, ⟨ns, ho⟩, r⟩
      · rw [List.getElem?_eq_none (by simp; omega)] at h; cases h
    · rw [List.getElem?_set_ne hj] at h ⊢
      exact m'.at_ j sl h
  · by_cases hj : i = j
    · by_cases hk : i = k
      · omega
      · subst hj
        rw [List.getElem?_set_ne hk] at h2 h4
        by_cases hi : i < σ.length
        · rw [List.getElem?_set_self hi] at h3
          cases h3
          exact absurd rfl (other h2 h4)
        · rw [List.getElem?_eq_none (by simp; omega)] at h3; cases h3
    · rw [List.getElem?_set_ne hj] at h1 h3
      by_cases hk : i = k
      · subst hk
        by_cases hi : i < σ.length
        · rw [List.getElem?_set_self hi] at h4
          cases h4
          exact absurd rfl (other h1 h3)
        · rw [List.getElem?_eq_none (by simp; omega)] at h4; cases h4
      · rw [List.getElem?_set_ne hk] at h2 h4
        exact m.dist j k a es fs h1 h2 h3 h4
/-- the own list at slot i becomes another -/
theorem Stt.wrOwn {K : PySem.W.Frag} {S0 S : As} {H0 H : Hp} {σ : L2.St} {Γ : List Sl} {i : Nat} {a : Addr} {vs us : List V} {ds es0 : List D} (st : Stt K S0 H0 S H σ Γ) (hg : Γ[i]? = some (.own ds)) (hs : σ[i]? = some (some (.ref a))) (hl : H a = some (.lst vs)) (n : ¬ S a) (f : H0 a = none) (r : Reps K S H us es0) :
    Stt K S0 H0 S (upd H a (.lst us)) σ (Γ.set i (.own es0)) ∧ Stb S H S (upd H a (.lst us)) := by
  have sb : Stb S H S (upd H a (.lst us)) := .wr hl
  have hi : i < Γ.length := (List.getElem?_eq_some_iff.mp hg).1
  have m := st.mat
  refine ⟨⟨fun b hb => ?_, ⟨by simpa using m.len, fun j sl h => ?_, fun j k b es fs h1 h2 h3 h4 => ?_, m.dis2.setG (fun z => z.elim)⟩, ⟨fun b x q z => by rw [upd_ne (ne_of_none q f)]; exact st.ev.keep b x q z, st.ev.src, st.ev.new⟩⟩, sb⟩
  · obtain ⟨o, e, q⟩ := st.ws b hb
    exact ⟨o, by rw [upd_ne (fun z => n (by rw [← z]; exact hb))]; exact e, q⟩
  · by_cases hj : i = j
    · subst hj
      rw [List.getElem?_set_self hi] at h
      cases h
      exact ⟨a, us, hs, upd_same, ⟨n, f⟩, Reps.stb sb _ _ r⟩
    · rw [List.getElem?_set_ne hj] at h
      have q := m.at_ j sl h
      cases sl with
      | no => trivial
      | dat d =>
        obtain ⟨v, e1, r1⟩ := q
        exact ⟨v, e1, Rep.stb sb _ _ r1⟩
      | own es =>
        obtain ⟨b, us, e1, e2, n, r1⟩ := q
        have hne : b ≠ a := fun z => hj (m.dist i j a ds es hg h hs (by rw [← z]; exact e1))
        exact ⟨b, us, e1, by rw [upd_ne hne]; exact e2, n, Reps.stb sb _ _ r1⟩
      | dic ks =>
        obtain ⟨b, e1, e2, n⟩ := q
        have hne : b ≠ a := fun z => by rw [z, hl] at e2; cases e2
        exact ⟨b, e1, by rw [upd_ne hne]; exact e2, n⟩
      | key p =>
        obtain ⟨b, e1, e2⟩ := q
        exact ⟨b, e1, sb.tup _ _ e2⟩
  · have gj : ∀ {j : Nat} {gs : List D}, (Γ.set i (.own es0))[j]? = some (.own gs) → ∃ fs, Γ[j]? = some (.own fs) := fun {j gs} h => by
      by_cases hj : i = j
      · subst hj; exact ⟨_, hg⟩
      · rw [List.getElem?_set_ne hj] at h; exact ⟨_, h⟩
    obtain ⟨f1, h1⟩ := gj h1
    obtain ⟨f2, h2⟩ := gj h2
    exact m.dist j k b f1 f2 h1 h2 h3 h4
end PD

set_option Elab.async false
set_option linter.all false
set_option maxRecDepth 100000
set_option maxHeartbeats 1000000
namespace PD
open PySem PySem.Spec PyProof.Rows L2
section
variable {X : Cx} {E : XK} {pos : Pos}
/-! new lists that nobody has frozen -/
@[simp] def wLstL (w : WA) : WA := fun Γ Q E => w Γ (fun ds => ds.length ≤ 1000 ∧ Q ds) E
theorem new_own {K : PySem.W.Frag} {S S1 : As} {H H1 : Hp} {vs : List V} {ds : List D} {Qd : List D → Prop} {Q : VK} (e : Ev S H S1 H1) (w1 : Ws S1 H1) (r : Reps K S1 H1 vs ds) (q : Qd ds)
    (k : ∀ p vs ds S' H', Qd ds → Ev S H S' H' → Ws S' H' → H p = none → H' p = some (.lst vs) → ¬ S' p → Reps K S' H' vs ds → Q (.ref p) H') : ∀ p, H1 p = none → Q (.ref p) (upd H1 p (.lst vs)) := fun p hp => by
  have ev : Ev S1 H1 S1 (upd H1 p (.lst vs)) := .upd hp
  exact k p vs ds S1 _ q (e.trans w1 ev) (w1.upd hp) (e.free w1 hp) upd_same (w1.at hp) (Reps.stb (ev.stb w1) _ _ r)
theorem dl_lst {es : List Expr} {w : WA} (h : PA X es (tDA X.K E w)) : PE X (.List es pos) (tDL X.K E (wLstL w)) := (pe_lst h).imp fun σ H Q h => by
  obtain ⟨O, S, Γ, Qd, Ed, ws, m, w, k, ke⟩ := h
  refine ⟨O, S, Γ, _, Ed, ws, m, w, fun vs ds S1 H1 q1 e1 w1 r1 => ⟨by rw [r1.length]; exact le1000 q1.1, new_own e1 w1 r1 q1.2 k⟩, ke⟩
/-- [..] * n -/
def fRepL : D → D → (List D → Prop) → Prop
  | .lst a, .int j, Q => (j < 2 ^ 62 ∧ -(2 ^ 62) < j ∧ a.length * j.toNat ≤ sizeLine) ∧ Q (List.replicate j.toNat a).flatten
  | _, _, _ => False
@[simp] theorem fRepL_1 (a : List D) (j : Int) (Q : List D → Prop) : fRepL (.lst a : D) (.int j : D) Q = ((j < 2 ^ 62 ∧ -(2 ^ 62) < j ∧ a.length * j.toNat ≤ sizeLine) ∧ Q (List.replicate j.toNat a).flatten) := by first | rfl | (cases x <;> rfl)
@[simp] def wRepL (wa wb : WE) : WA := fun Γ Q E => wa Γ (fun x => wb Γ (fun y => fRepL x y Q) E) E
theorem dl_rep {a b : Expr} {wa wb : WE} (ha : PE X a (tD X.K E wa)) (hb : PE X b (tD X.K E wb)) : PE X (.BinOp a .Mult b pos) (tDL X.K E (wRepL wa wb)) := (pe_op op_repL ha hb).imp fun σ H Q h => by
  obtain ⟨O, S, Γ, Qd, Ed, ws, m, w, k, ke⟩ := h
  refine ⟨O, S, Γ, _, Ed, ws, m, w, fun vx x S1 H1 q1 e1 w1 r1 => ?_, ke⟩
  refine ⟨O, S1, Γ, _, Ed, w1, m.ev ws w1 e1, q1, fun vy y S2 H2 q2 e2 w2 r2 => ?_, ke.ev w1 e1⟩
  have r1' := Rep.stb (e2.stb w1) _ _ r1
  unfold fRepL at q2
  split at q2
  · cases r2
    cases r1' with
    | lst hl hx =>
      obtain ⟨⟨h1, h2, h3⟩, q⟩ := q2
      refine ⟨_, _, _, rfl, rfl, hl.sq, by omega, by omega, by rw [hx.length]; exact h3, new_own (e1.trans w1 e2) w2 (hx.rep _) q k⟩
  · exact q2.elim
/-- list(xs) -/
def fListL : List D → (List D → Prop) → Prop
  | [.lst xs], Q => Q xs
  | [.tup xs], Q => Q xs
  | _, _ => False
@[simp] theorem fListL_1 (xs : List D) (Q : List D → Prop) : fListL ([.lst xs] : List D) Q = (Q xs) := by first | rfl | (cases x <;> rfl)
@[simp] theorem fListL_2 (xs : List D) (Q : List D → Prop) : fListL ([.tup xs] : List D) Q = (Q xs) := by first | rfl | (cases x <;> rfl)
@[simp] def wListL (w : WA) : WA := fun Γ Q E => w Γ (fun ds => fListL ds Q) E
theorem dl_list {x : Str} {p : Pos} {e : Expr} {es : List Expr} {w : WA} (hg : Gl X x) (hm : X.mg x = none) (hv : bootBuiltins x = some (.type "list")) (ha : PA X (e :: es) (tDA X.K E w))
    (hn : x ≠ "__name__" := by decide) (hdb : (x == ("__debug__" : Str)) = false := by decide) (he : starEach (e :: es) X.env = (false, eval e X.env) :: starEach es X.env := by rfl) (hpl : (backTo pos (starEach es X.env)).any (·.1) = false := by rfl) :
    PE X (.Call (.Name x p) (e :: es) [] pos) (tDL X.K E (wListL w)) := (pe_callTy call_list_of hg hm hv ha hn hdb he hpl).imp fun σ H Q h => by
  obtain ⟨O, S, Γ, Qd, Ed, ws, m, w, k, ke⟩ := h
  refine ⟨O, S, Γ, _, Ed, ws, m, w, fun vs ds S1 H1 q1 e1 w1 r1 => ?_, ke⟩
  unfold fListL at q1
  split at q1
  · obtain ⟨v, rfl, q⟩ := reps1 r1
    cases q with
    | lst ha hx =>
      exact ⟨_, _, rfl, .inl ha.sq, new_own e1 w1 hx q1 k⟩
  · obtain ⟨v, rfl, q⟩ := reps1 r1
    cases q with
    | tup ha hx =>
      exact ⟨_, _, rfl, .inr ha, new_own e1 w1 hx q1 k⟩
  · exact q1.elim
/-- y = a new list, one's own -/
theorem s_own {i : Nat} {x : Str} {e : Expr} {w : WA} {pos' : Pos} (hN : X.N.Nodup) (hi : X.N[i]? = some x) (hx : Loc X.env.scope x) (he : PE X e (tDL X.K E w)) (hs : swapsWith e (some (.Name x pos')) pos.line X.env = pure false := by rfl) (hf : X.fn x = true ∨ X.env.scope.names.lookup x = some .local := by first | exact .inl rfl | exact .inr rfl | assumption) :
    PS X (.Assign [.Name x pos'] e pos) (tS X.K E (wOwn i w)) := (ps_set hN hi hx he hs hf).imp fun Dn σ H h => by
  obtain ⟨S0, H0, S, Γ, N, R, Ed, st, w, kn, kr, ke⟩ := h
  refine ⟨_, S, Γ, _, Ed, st.ws, st.mat, w, fun p vs ds S' H' q e w' hp hl ns r => ?_, st.ke ke⟩
  exact kn _ _ S' H' q ⟨w', Mat.setOwn st.ws w' st.mat e hp hl ns (st.ev.free st.ws hp) r, st.ev.trans st.ws e⟩ (e.stb st.ws)
/-- y = [.. for ..], one's own or frozen -/
@[simp] def wOwnLc (i : Nat) (own : List Nat) (wi : WA) (g : WG) (wt : WB) (we : WE) : WS := fun N _ E Γ => wLc own wi g wt we Γ (fun d => ∃ ds, d = .lst ds ∧ N (Γ.set i (.own ds))) E
theorem s_ownLc {i : Nat} {y : Str} {py : Pos} {elt tg iter : Expr} {ifs : List Expr} {scope : Scope} {own : List (Str × Nat)} {is : List Nat} {spos : Pos} {wi : WA} {g : WG} {wt : WB} {we : WE} (hc : X.calm = true) (hN : X.N.Nodup) (hy : X.N[i]? = some y) (hyl : X.env.scope.names.lookup y = some .local)
    (hsw : swapsWith (.ListComp elt [⟨tg, iter, ifs, 0⟩] scope pos) (some (.Name y py)) spos.line X.env = pure true) (hi : PI X tg iter (tDI X.K E wi)) (ok : BlkOk X.N X.env.scope scope own)
    (hg : ∀ (s : Shared) (H : Hp) (C : Addr) (cl : List (Str × Addr)) (fp : List Addr), PG (X.blk s H scope (compEnvC scope cl C X.env) fp) tg (tDG X.K is g)) (ht : ∀ (s : Shared) (H : Hp) (C : Addr) (cl : List (Str × Addr)) (fp : List Addr), PTs (X.blk s H scope (compEnvC scope cl C X.env) fp) ifs (tDB X.K E0 wt))
    (he : ∀ (s : Shared) (H : Hp) (C : Addr) (cl : List (Str × Addr)) (fp : List Addr), PE (X.blk s H scope (compEnvC scope cl C X.env) fp) elt (tD X.K E0 we)) (his : ∀ i ∈ is, i ∈ own.map (·.2) := by decide) (hs : ∀ x, foldedSetIterable iter X.env x = pure x := by intro _; rfl) :
    PS X (.Assign [.Name y py] (.ListComp elt [⟨tg, iter, ifs, 0⟩] scope pos) spos) (tS X.K E (wOwnLc i (own.map (·.2)) wi g wt we)) :=
  (ps_setLc hc hN hy hyl hsw hi ok hg ht he hs).imp fun Dn σ H h => by
    obtain ⟨S0, H0, S, Γ, N, R, Ed, st, w, kn, kr, ke⟩ := h
    refine lc_imp st.ws st.mat w (st.ke ke) his fun Dl S1 H1 S2 H2 accv acc q e1 w1 e2 w2 hD hl nS ra => ?_
    obtain ⟨ds, e, q⟩ := q
    cases e
    have ee := e1.trans w1 e2
    exact kn _ _ S2 H2 q ⟨w2, Mat.setOwn st.ws w2 st.mat ee (e1.free w1 hD) hl nS (st.ev.free st.ws (e1.free w1 hD)) ra, st.ev.trans st.ws ee⟩ (ee.stb st.ws)
theorem s_setLc {i : Nat} {y : Str} {py : Pos} {elt tg iter : Expr} {ifs : List Expr} {scope : Scope} {own : List (Str × Nat)} {is : List Nat} {spos : Pos} {wi : WA} {g : WG} {wt : WB} {we : WE} (hc : X.calm = true) (hN : X.N.Nodup) (hy : X.N[i]? = some y) (hyl : X.env.scope.names.lookup y = some .local)
    (hsw : swapsWith (.ListComp elt [⟨tg, iter, ifs, 0⟩] scope pos) (some (.Name y py)) spos.line X.env = pure true) (hi : PI X tg iter (tDI X.K E wi)) (ok : BlkOk X.N X.env.scope scope own)
    (hg : ∀ (s : Shared) (H : Hp) (C : Addr) (cl : List (Str × Addr)) (fp : List Addr), PG (X.blk s H scope (compEnvC scope cl C X.env) fp) tg (tDG X.K is g)) (ht : ∀ (s : Shared) (H : Hp) (C : Addr) (cl : List (Str × Addr)) (fp : List Addr), PTs (X.blk s H scope (compEnvC scope cl C X.env) fp) ifs (tDB X.K E0 wt))
    (he : ∀ (s : Shared) (H : Hp) (C : Addr) (cl : List (Str × Addr)) (fp : List Addr), PE (X.blk s H scope (compEnvC scope cl C X.env) fp) elt (tD X.K E0 we)) (his : ∀ i ∈ is, i ∈ own.map (·.2) := by decide) (hs : ∀ x, foldedSetIterable iter X.env x = pure x := by intro _; rfl) :
    PS X (.Assign [.Name y py] (.ListComp elt [⟨tg, iter, ifs, 0⟩] scope pos) spos) (tS X.K E (wAsg (wLc (own.map (·.2)) wi g wt we) (gN i))) :=
  (PS.frzNx (ps_setLc hc hN hy hyl hsw hi ok hg ht he hs)).imp fun Dn σ H h => by
    obtain ⟨S0, H0, S, Γ, N, R, Ed, st, w, kn, kr, ke⟩ := h
    refine lc_imp st.ws st.mat w (st.ke ke) his fun Dl S1 H1 S2 H2 accv acc q e1 w1 e2 w2 hD hl nS ra => ?_
    refine .inr ⟨Dl, accv, hl, fun o => ?_⟩
    have ee : Ev S1 H1 S2 (upd H2 Dl (.frz o (.lst accv))) := Ev.frz hD hl w1 e2 nS
    have sb : Stb S2 H2 S2 (upd H2 Dl (.frz o (.lst accv))) := .wr hl
    have w3 := w2.frz (o := o) (xs := accv) nS
    have st' := st.next (e1.trans w1 ee) w3
    exact kn _ _ S2 _ q ⟨w3, st'.mat.setDat (.lst (.inl ⟨o, upd_same⟩) (Reps.stb sb _ _ ra)), st'.ev⟩ ((e1.trans w1 ee).stb st.ws)
/-- x.append(e) -/
theorem s_app (i : Nat) {x : Str} {p1 apos cpos : Pos} {e : Expr} {w : WE} (he : PE X e (tD X.K E w)) (hN : X.N[i]? = some x := by rfl) (hv : Vis X.env.scope x := by first | exact Or.inl rfl | exact Or.inr (Or.inl rfl) | exact Or.inr (Or.inr rfl)) (hd : (x == ("__debug__" : Str)) = false := by decide)
    (hcd : (x == ("__classdict__" : Str)) = false := by decide)
    (hst : starEach (e :: []) X.env = (false, eval e X.env) :: starEach [] X.env := by rfl)
    (hbase : attributeBase (.Name x p1) "append" X.env (eval (.Name x p1) X.env) = eval (.Name x p1) X.env := by rfl)
    (hfew : ((backTo cpos (starEach (e :: []) X.env)).all (fun x => !x.1) && (backToKw cpos (keywordEach [] X.env)).all (fun x => x.1.isSome)
      && decide ((e :: ([] : List Expr)).length + ([] : List Keyword).length + (if ([] : List Keyword).isEmpty then 0 else 1) < 30)) = true := by rfl)
    (hline : (apos.endLine == cpos.line) = true := by rfl) (hplain : (backTo cpos (starEach [] X.env)).any (·.1) = false := by rfl)
    (hs : swapsWith (.Call (.Attribute (.Name x p1) "append" apos) [e] [] cpos) none pos.line X.env = pure false := by rfl) :
    PS X (.Expr (.Call (.Attribute (.Name x p1) "append" apos) [e] [] cpos) pos) (tS X.K E (wApp i w)) :=
  (ps_expr (pe_bm PySem.F.plainAttrs_list PySem.F.slot_list_append PySem.F.type_list_append mt_append (pv i hN hv hd hcd) (pa_cons he pa_nil hst) hbase hfew hline hst hplain) hs).imp fun Dn σ H h => by
    obtain ⟨S0, H0, S, Γ, N, R, Ed, st, ⟨ds, hg, w⟩, kn, kr, ke⟩ := h
    obtain ⟨a, vs, e1, e2, ⟨n, f⟩, r⟩ := st.mat.at_ i _ hg
    refine ⟨.ref a, e1, .inl ⟨rfl, vs, SqL.of e2⟩, ?_⟩
    refine ⟨_, S, Γ, _, Ed, st.ws, st.mat, w, fun v d S' H' q e w' rv => ?_, st.ke ke⟩
    have st' := st.next e w'
    have h2 : H' a = some (.lst vs) := e.keep _ _ e2 n
    have n' : ¬ S' a := fun z => by
      rcases e.new _ z with y | y
      · exact n y
      · rw [e2] at y; cases y
    have r' : Reps X.K S' H' vs ds := Reps.stb (e.stb st.ws) _ _ r
    obtain ⟨st2, sb⟩ := st'.wrOwn hg e1 h2 n' f (r'.append (.cons rv .nil))
    refine ⟨a, vs, v, rfl, rfl, h2, by rw [r'.length, sizeLine_eq]; omega, ?_⟩
    exact kn _ _ S' _ q.2 st2 ((e.stb st.ws).trans sb)
/-- x[k] = e -/
theorem s_sto (i : Nat) {x : Str} {p1 p3 : Pos} {b e : Expr} {wk w : WE} (he : PE X e (tD X.K E w)) (hb : PE X b (tD X.K E wk)) (hN : X.N[i]? = some x := by rfl) (hv : Vis X.env.scope x := by first | exact Or.inl rfl | exact Or.inr (Or.inl rfl) | exact Or.inr (Or.inr rfl)) (hd : (x == ("__debug__" : Str)) = false := by decide)
    (hcd : (x == ("__classdict__" : Str)) = false := by decide)
    (ha : ∀ v, assign (.Subscript (.Name x p1) b p3) X.env v = (do
      let ov ← holding [v] (eval (.Name x p1) X.env)
      let iv ← holding [v, ov] (eval b X.env)
      standAt p3
      holding [v, ov, iv] (setItem ov iv v)
      release [v, ov, iv] []) := by intro _; rfl)
    (hs : swapsWithSole [.Subscript (.Name x p1) b p3] e pos.line X.env = pure false := by rfl) (hw : swappedStores [.Subscript (.Name x p1) b p3] e X.env = pure none := by rfl)
    (h1 : (assignEach [.Subscript (.Name x p1) b p3] X.env).map (·.2) = [assign (.Subscript (.Name x p1) b p3) X.env] := by rfl) :
    PS X (.Assign [.Subscript (.Name x p1) b p3] e pos) (tS X.K E (wSto i wk w)) :=
  (ps_asg he (pg_sub (pv i hN hv hd hcd) hb set_list ha) hs hw h1).imp fun Dn σ H h => by
    obtain ⟨S0, H0, S, Γ, N, R, Ed, st, ⟨ds, hg, w⟩, kn, kr, ke⟩ := h
    refine ⟨_, S, Γ, _, Ed, st.ws, st.mat, w, fun v d S' H' q e w' rv => ?_, st.ke ke⟩
    have st' := st.next e w'
    obtain ⟨a, vs, e1, e2, ⟨n, f⟩, r⟩ := st'.mat.at_ i _ hg
    refine ⟨.ref a, e1, _, S', Γ, _, Ed, w', st'.mat, q, fun vk k S2 H2 q2 ev2 w2 rk => ?_, st'.ke ke⟩
    obtain ⟨z, j, rfl, hj, q3⟩ := q2
    cases rk
    have st2 := st'.next ev2 w2
    have h2 : H2 a = some (.lst vs) := ev2.keep _ _ e2 n
    have n2 : ¬ S2 a := fun z => by
      rcases ev2.new _ z with y | y
      · exact n y
      · rw [e2] at y; cases y
    have r2 : Reps X.K S2 H2 vs ds := Reps.stb (ev2.stb w') _ _ r
    have rv2 := Rep.stb (ev2.stb w') _ _ rv
    obtain ⟨st3, sb⟩ := st2.wrOwn hg e1 h2 n2 f (r2.set j rv2)
    refine ⟨a, vs, z, j, rfl, rfl, h2, by rw [r2.length]; exact hj, ?_⟩
    exact kn _ _ S2 _ q3 st3 ((e.stb st.ws).trans ((ev2.stb w').trans sb))
/-- xs[k] of one's own -/
theorem d_ixO (i : Nat) {x : Str} {p1 : Pos} {b : Expr} {w : WE} (hb : PE X b (tD X.K E w)) (hs : PlainIx b) (hN : X.N[i]? = some x := by rfl) (hv : Vis X.env.scope x := by first | exact Or.inl rfl | exact Or.inr (Or.inl rfl) | exact Or.inr (Or.inr rfl)) (hd : (x == ("__debug__" : Str)) = false := by decide)
    (hcd : (x == ("__classdict__" : Str)) = false := by decide) : PE X (.Subscript (.Name x p1) b pos) (tD X.K E (wIxO i w)) :=
  (pe_ix ix_list (pv i hN hv hd hcd) hb hs).imp fun σ H Q h => by
    obtain ⟨O, S, Γ, Qd, Ed, ws, m, ⟨ds, hg, w⟩, k, ke⟩ := h
    obtain ⟨a, vs, e1, e2, ⟨n, f⟩, r⟩ := m.at_ i _ hg
    refine ⟨.ref a, e1, O, S, Γ, _, Ed, ws, m, w, fun vk kd S1 H1 q1 ev w1 rk => ?_, ke⟩
    cases rk <;> first | exact (show False from q1).elim | skip
    rename_i z
    obtain ⟨d, h1, h2⟩ := (show ∃ d, atI ds z = some d ∧ Qd d from q1)
    have h3 : H1 a = some (.lst vs) := ev.keep _ _ e2 n
    obtain ⟨v, e3, rv⟩ := (Reps.stb (ev.stb ws) _ _ r).atI h1
    exact ⟨a, vs, z, v, rfl, rfl, SqL.of h3, e3, k v d S1 H1 h2 ev w1 rv⟩
end
/-- return x, x one's own -/
theorem s_retOwn {X : Cx} {E : XK} {pos : Pos} (i : Nat) {x : Str} {p1 : Pos} (hN : X.N[i]? = some x := by rfl) (hv : Vis X.env.scope x := by first | exact Or.inl rfl | exact Or.inr (Or.inl rfl) | exact Or.inr (Or.inr rfl)) (hd : (x == ("__debug__" : Str)) = false := by decide)
    (hcd : (x == ("__classdict__" : Str)) = false := by decide) : PS X (.Return (some (.Name x p1)) pos) (tS X.K E (wRetOwn i)) :=
  (ps_ret (pv i hN hv hd hcd).frz).imp fun Dn σ H h => by
    obtain ⟨S0, H0, S, Γ, N, R, Ed, st, ⟨ds, hg, q⟩, kn, kr, ke⟩ := h
    obtain ⟨a, vs, e1, e2, n, f, r, st'⟩ := st.frzOwn hg
    refine ⟨.ref a, e1, .inr ⟨a, vs, rfl, e2, fun o => ?_⟩⟩
    have sb : Stb S H S (upd H a (.frz o (.lst vs))) := .wr e2
    exact kr _ _ S _ q (st' o).ev (st' o).ws (.lst (.inl ⟨o, upd_same⟩) (Reps.stb sb _ _ r))
end PD

set_option Elab.async false
set_option linter.all false
set_option maxRecDepth 100000
set_option maxHeartbeats 1000000
namespace PD
open PySem PySem.Spec PyProof.Rows L2
/-! ### the law's own def: its script is frozen at once -/
def spLaw (K : PySem.W.Frag) : Sp := fun vs H Q _ => ∃ (a : Addr) (ns : List Int), vs = [.ref a] ∧ SqL K H a (ns.map V.int) ∧ ns.length ≤ 63 ∧ ∀ H', Q (.bl true) H'
section
variable {P : Program} {w : World} {K : PySem.W.Frag} {mg : Str → Option Value} {base : Heap}
theorem fn_law {x qual y : Str} {st : Stmt} {f : Addr} {fd : FuncData} {N : List Str} {k : Nat} {wb : WS} (Fu : Fun K x qual st f fd) (Sc : FnScope N [y] (defScope st))
    (spec : ∀ ns : List Int, ns.length ≤ 63 → wb (fun _ => False) (fun d => d = .bl true) Ev0 (startG N [.lst (ns.map D.int)]))
    (hbody : ∀ (cdv : Value) (A : Around) (outer : List Env) (s : Shared) (H : Hp) (E : XK), Room k (A.deeper (envOfC qual (defScope st) s.heap.objs.size f cdv)) → PSs (cxOf CX0 P w K mg base N qual (defScope st) f cdv A outer s H E).nox (defBody st) (tS K E0 wb)) :
    FnOk P w K mg base CX0 (k + 1) f fd [y] (spLaw K) := by
  refine Fu.ok Sc (fun vs H Q E h => ?_) fun cdv A outer s H vs Q E hr h => ?_
  · obtain ⟨a, ns, rfl, _⟩ := h
    rfl
  · obtain ⟨a, ns, rfl, hS, hl, kq⟩ := h
    refine ⟨_, PSs.frzIn (hbody cdv A outer s H E hr), ?_⟩
    have go : ∀ H1 : Hp, FzL K H1 a (ns.map V.int) → ∀ (Dn : Ends), (∀ σ' H', False → Dn.nx σ' H') → (∀ H', Dn.rt (.bl true) H') → tS K E0 wb Dn (L2.start N [.ref a]) H1 := fun H1 hz Dn _ hr => by
      refine ⟨fun _ => False, H1, fun _ => False, _, _, _, Ev0, ⟨fun _ h => h.elim, mat_start (.cons (.lst hz (reps_ints ns)) .nil), .refl⟩, spec ns hl, fun σ' Γ' S' H' q st' _ => q.elim, fun v d S' H' q e w' r => ?_, .zero⟩
      subst q
      cases r
      exact hr _
    rcases hS with (h | h) | h
    · exact .inr ⟨a, _, h, fun o => go _ (.inl ⟨o, upd_same⟩) _ (fun _ _ q => q.elim) kq⟩
    · exact .inl (go _ (.inl h) _ (fun _ _ q => q.elim) kq)
    · exact .inl (go _ (.inr h) _ (fun _ _ q => q.elim) kq)
end
/-! ### an own list read by an expression that gives no list -/
@[simp] def wLock (i : Nat) (w : WE) : WE := fun Γ Q E => ∃ ds, Γ[i]? = some (.own ds) ∧ w (Γ.set i (.dat (.lst ds))) (fun d => d.flat = true ∧ Q d) Ev0
theorem Rep.flatA {K : PySem.W.Frag} {S S' : As} {H H' : Hp} : ∀ {d : D} {v : V}, d.flat = true → Rep K S H v d → Rep K S' H' v d
  | .non, _, _, h => by cases h; exact .non
  | .bl _, _, _, h => by cases h; exact .bl _
  | .int _, _, _, h => by cases h; exact .int _
  | .str _, _, _, h => by cases h; exact .str _
  | .tup _, _, h, _ => by cases h
  | .lst _, _, h, _ => by cases h
  | .src, _, h, _ => by cases h
  | .ty _, _, h, _ => by cases h
  | .dct _, _, h, _ => by cases h
  | .exc _ _, _, h, _ => by cases h
section
variable {X : Cx} {E : XK}
theorem _root_.L2.PE.lockd {e : Expr} {t : TE} (h : PE X e t) : PE X e (fun σ H Q => ∃ a xs, H a = some (.lst xs) ∧ ∀ o, t σ (upd H a (.frz o (.lst xs))) (fun v H' => H' a = some (.frz o (.lst xs)) ∧ Q v (upd H' a (.lst xs)))) := by
  refine ⟨fun pins s σ H Q I w => ?_⟩
  obtain ⟨a, xs, e1, w⟩ := w
  have nf := I.nofrz e1 (show Mut (some (.lst xs)) from trivial)
  obtain ⟨od, I2⟩ := I.lock e1 (show Mut (some (.lst xs)) from trivial)
  refine thn (h.run pins s σ _ _ I2 (w od)) fun u s1 hh => ?_
  obtain ⟨v, H', I', r, q1, q2⟩ := hh
  exact ⟨v, _, I'.unlock q1 nf, r, q2⟩
theorem d_lock (i : Nat) {e : Expr} {w : WE} (h : PE X e (tD X.K E0 w)) : PE X e (tD X.K E (wLock i w)) := h.lockd.imp fun σ H Q h => by
  obtain ⟨O, S, Γ, Qd, Ed, ws, m, ⟨ds, hg, w⟩, k, ke⟩ := h
  obtain ⟨a, vs, e1, e2, ⟨n, f⟩, r⟩ := m.at_ i _ hg
  refine ⟨a, vs, e2, fun o => ⟨O, S, _, _, Ev0, ws.frz n, m.frzOwn hg e1 e2 r, w, fun v d S' H' q ev w' rv => ?_, .zero⟩⟩
  have hz : H' a = some (.frz o (.lst vs)) := ev.keep _ _ upd_same n
  refine ⟨hz, k v d S _ q.2 ⟨fun b x q z => ?_, fun _ h => h, fun _ h => .inl h⟩ (fun b hb => ?_) (Rep.flatA q.1 rv)⟩
  · by_cases y : b = a
    · subst y
      rw [upd_same]
      rw [e2] at q
      exact q
    · rw [upd_ne y]
      exact ev.keep _ _ (by rw [upd_ne y]; exact q) z
  · obtain ⟨o2, e3, q3⟩ := w' b (ev.src b hb)
    exact ⟨o2, by rw [upd_ne (fun z => n (by rw [← z]; exact hb))]; exact e3, q3⟩
@[simp] def wBLock (i : Nat) (w : WB) : WB := fun Γ Q E => ∃ ds, Γ[i]? = some (.own ds) ∧ w (Γ.set i (.dat (.lst ds))) Q Ev0
theorem _root_.L2.PT.lockd {e : Expr} {t : TT} (h : PT X e t) : PT X e (fun σ H Q => ∃ a xs, H a = some (.lst xs) ∧ ∀ o, t σ (upd H a (.frz o (.lst xs))) (fun v H' => H' a = some (.frz o (.lst xs)) ∧ Q v (upd H' a (.lst xs)))) := by
  refine ⟨fun pins s σ H Q I w => ?_⟩
  obtain ⟨a, xs, e1, w⟩ := w
  have nf := I.nofrz e1 (show Mut (some (.lst xs)) from trivial)
  obtain ⟨od, I2⟩ := I.lock e1 (show Mut (some (.lst xs)) from trivial)
  refine thn (h.run pins s σ _ _ I2 (w od)) fun u s1 hh => ?_
  obtain ⟨H', I', q1, q2⟩ := hh
  exact ⟨_, I'.unlock q1 nf, q2⟩
theorem t_lock (i : Nat) {e : Expr} {w : WB} (h : PT X e (tDB X.K E0 w)) : PT X e (tDB X.K E (wBLock i w)) := h.lockd.imp fun σ H Q h => by
  obtain ⟨O, S, Γ, Qd, Ed, ws, m, ⟨ds, hg, w⟩, k, ke⟩ := h
  obtain ⟨a, vs, e1, e2, ⟨n, f⟩, r⟩ := m.at_ i _ hg
  refine ⟨a, vs, e2, fun o => ⟨O, S, _, _, Ev0, ws.frz n, m.frzOwn hg e1 e2 r, w, fun v S' H' q ev w' => ?_, .zero⟩⟩
  have hz : H' a = some (.frz o (.lst vs)) := ev.keep _ _ upd_same n
  refine ⟨hz, k v S _ q ⟨fun b x q z => ?_, fun _ h => h, fun _ h => .inl h⟩ (fun b hb => ?_)⟩
  · by_cases y : b = a
    · subst y
      rw [upd_same]
      rw [e2] at q
      exact q
    · rw [upd_ne y]
      exact ev.keep _ _ (by rw [upd_ne y]; exact q) z
  · obtain ⟨o2, e3, q3⟩ := w' b (ev.src b hb)
    exact ⟨o2, by rw [upd_ne (fun z => n (by rw [← z]; exact hb))]; exact e3, q3⟩
end
/-- the own list at i, if there is one, is frozen -/
def frzG (i : Nat) (Γ : List Sl) : List Sl := match Γ[i]? with
  | some (.own ds) => Γ.set i (.dat (.lst ds))
  | _ => Γ
@[simp] def wFrzM (i : Nat) (w : WS) : WS := fun N R E Γ => w N R E (frzG i Γ)
theorem s_frzM {X : Cx} {E : XK} (i : Nat) {st : Stmt} {w : WS} (h : PS X st (tS X.K E w)) : PS X st (tS X.K E (wFrzM i w)) := by
  refine ⟨fun pins s σ H D I hw => ?_⟩
  obtain ⟨S0, H0, S, Γ, N, R, Ed, st, w, kn, kr, ke⟩ := hw
  simp only [wFrzM] at w
  unfold frzG at w
  split at w
  · rename_i ds hg
    obtain ⟨a, vs, e1, e2, n, f, r, st'⟩ := st.frzOwn hg
    obtain ⟨od, I2⟩ := I.lock e2 (show Mut (some (.lst vs)) from trivial)
    exact h.run pins s σ _ D I2 ⟨S0, H0, S, _, N, R, Ed, st' od, w, fun σ2 Γ2 S2 H2 q2 st2 sb2 => kn σ2 Γ2 S2 H2 q2 st2 (Stb.trans (.wr e2) sb2), kr, ke⟩
  · exact h.run pins s σ _ D I ⟨S0, H0, S, _, N, R, Ed, st, w, kn, kr, ke⟩
end PD

set_option Elab.async false
set_option linter.all false
set_option maxRecDepth 100000
set_option maxHeartbeats 1000000
namespace PD
open PySem PySem.Spec PyProof.Rows L2
/-! ### xs[a:c] = ys, c beyond the end too -/
theorem bounds_far {a c n : Nat} (hac : a ≤ c) (ha : a ≤ n) : sliceBounds (some (a : Int)) (some (c : Int)) none n = ((a : Int), ((min c n : Nat) : Int), 1) := by
  simp only [sliceBounds, Option.getD_none]
  have h1 : ¬ ((a : Int) < 0) := by omega
  have h2 : ¬ ((c : Int) < 0) := by omega
  simp only [h1, h2, if_false, show (1 : Int) > 0 by decide, if_true]
  congr 1
  · omega
  · congr 1; omega
section
variable {prog : Program} {w : World} {A : Around} {E : Value → Shared → Prop} {s : Shared}
set_option maxRecDepth 100000 in
theorem setItem_sliceC {l b sl : Addr} {items new : Array Value} {n n2 : Nat} {vl vu : Value} {a c : Nat} {Q : Unit → Shared → Prop}
    (e : s.heap.get? l = some { cls := .type "list", data := .seq items n }) (e2 : s.heap.get? b = some { cls := .type "list", data := .seq new n2 }) (hne : l ≠ b)
    (hs : s.heap.IsSliceOf sl vl vu .none) (pl : IsPart vl (some (a : Int))) (pu : IsPart vu (some (c : Int))) (hac : a ≤ c) (ha : a ≤ items.size)
    (hsz : items.size + new.size ≤ sizeLine) (h : Q () { s with heap := s.heap.update l (Obj.mapSeq fun xs => xs.extract 0 a ++ new ++ xs.extract (min c items.size) xs.size) }) :
    wpAny (model prog w) A (setItem (.ref l) (.ref sl) (.ref b)) Q E s := by
  have hl : s.heap.IsList l items := PySem.IsL.isList e
  have hb : s.heap.IsList b new := PySem.IsL.isList e2
  obtain ⟨os, hos, hcs, hds⟩ := id hs
  have hTs : s.TypeIs (.ref sl) "slice" := ⟨os, hos, hcs⟩
  have hstep : ¬ ((rawPart none == rawInt 0) = true) := Bool.false_ne_true
  have hsame : Builtin.List.listSameRef (.ref l) (.ref b) = false := by
    unfold Builtin.List.listSameRef
    exact beq_eq_false_iff_ne.mpr hne
  have hmax : (max (a : Int) ((min c items.size : Nat) : Int)).toNat = min c items.size := by omega
  have hz' : ((fun xs : Array Value => xs.extract 0 a ++ new ++ xs.extract (min c items.size) xs.size) items).size ≤ sizeLine + 1 := by
    simp only [Array.size_append, Array.size_extract]
    omega
  unfold setItem
  try with_reducible refine wpAny_holding ?_
  first | refine wpAny_bind (wpAny_pure ?_) | skip
  refine wpAny_bind (wpAny_sequenceKey hl.typeIs (by decide) ?_)
  refine wpAny_bind (wpAny_callSpecial?_slot (name := Str.ofString "__setitem__") hl.typeIs slot_list_setitem
    (wpAny_call_entry slot_list_setitem hl.typeIs entry_list_setitem ?_ (args_list_setitem _ _ _)))
  show wpAny _ _ (Builtin.List.listSubscript? (.ref sl) >>= _) _ _ s
  refine wpAny_bind ?_
  unfold Builtin.List.listSubscript?
  refine wpAny_bind (wpAny_specialOf hTs slice_no_index ?_)
  simp only [Option.isNone_none, if_true]
  refine wpAny_pure ?_
  show wpAny _ _ (typeOf (.ref sl) >>= _) _ _ s
  refine wpAny_bind (wpAny_typeOf hTs ?_)
  first
    | rw [if_neg (by decide)]
    | refine PySem.W.KFB.if_not (by decide) ?_
  rw [listSliceParts_eq]
  refine wpAny_bind (wpAny_bind (wpAny_field hos hds (x := .none) rfl (wpAny_bind (wpAny_listPart .none ?_))))
  rw [if_neg hstep]
  refine wpAny_bind (wpAny_field hos hds (x := vl) rfl (wpAny_bind (wpAny_listPart pl ?_)))
  refine wpAny_bind (wpAny_field hos hds (x := vu) rfl (wpAny_bind (wpAny_listPart pu (wpAny_pure ?_))))
  first
    | simp only [hsame, Bool.false_eq_true, if_false]
    | refine PySem.W.KFB.if_not hsame ?_
    | (dsimp only
       rw [if_neg (by rw [hsame]; exact Bool.false_ne_true)])
  refine wpAny_bind (m := Builtin.List.listAllItems (.ref b) "must assign iterable to extended slice") ?_
  unfold Builtin.List.listAllItems
  refine wpAny_bind (wpAny_typeOf hb.typeIs ?_)
  first
    | refine PySem.W.KFB.if_so (by decide) ?_
    | rw [if_pos (by decide)]
    | simp only [beq_self_eq_true, Bool.true_or, if_true]
  unfold Builtin.List.listItems
  refine wpAny_bind (wpAny_seqItems e2 rfl (wpAny_pure ?_))
  refine wpAny_bind (wpAny_bind (wpAny_seqItems e rfl (wpAny_pure ?_)))
  refine wpAny_bind (wpAny_of_eq ((sliceIndices_raw (some (a : Int)) (some (c : Int)) none items.size (by simp)).trans (congrArg (pure : Int × Int × Int → Sem (Int × Int × Int)) (bounds_far hac ha))) ?_)
  show wpAny _ _ (if ((1 : Int) == 1) = true then _ else _) _ _ s
  rw [if_pos (by decide)]
  refine wpAny_bind (wpAny_rule ?_)
  first
    | simp only [notLongL hsz, Bool.false_eq_true, if_false]
    | refine PySem.W.KFB.if_not (notLongL hsz) ?_
  first | refine wpAny_bind (wpAny_pure ?_) | skip
  show wpAny _ _ (updateSeq l (fun xs => xs.extract 0 ((a : Int)).toNat ++ new ++ xs.extract (max (a : Int) ((min c items.size : Nat) : Int)).toNat xs.size) >>= _) _ _ s
  rw [hmax, Int.toNat_natCast]
  refine wpAny_bind (wpAny_updateSeq (hz := Nat.le_trans (Nat.le_add_right _ _) hsz) (_hz' := hz') e rfl ?_)
  refine wpAny_bind (wpAny_letGo ?_)
  first
    | exact wpAny_bind (wpAny_pure (wpAny_pure ⟨.none, rfl, wpAny_pure h⟩))
    | exact wpAny_pure ⟨.none, rfl, wpAny_pure h⟩
end
section
variable {X : Cx} {E : XK} {pos : Pos}
theorem set_sliceC {pins : List (Addr × Obj)} {s : Shared} {σ : L2.St} {H : Hp} {l b sl : Addr} {xs ys : List V} {a c : Nat} {vl vu : Value} {Q : Unit → Shared → Prop} (I : Inv X pins σ H s)
    (hH : H l = some (.lst xs)) (hB : H b = some (.lst ys)) (hne : l ≠ b) (hs : s.heap.IsSliceOf sl vl vu .none) (pl : IsPart vl (some (a : Int))) (pu : IsPart vu (some (c : Int))) (hac : a ≤ c) (ha : a ≤ xs.length)
    (hz : xs.length + ys.length ≤ sizeLine) (h : ∀ s', Inv X pins σ (upd H l (.lst (xs.take a ++ ys ++ xs.drop c))) s' → Q () s') :
    wpAny (model X.prog X.w) X.A (setItem (.ref l) (.ref sl) (.ref b)) Q X.xe s := by
  obtain ⟨z, its, n, r, hl, e⟩ := I.lstM hH
  obtain ⟨z2, its2, n2, r2, hl2, e2⟩ := I.lstM hB
  refine setItem_sliceC (a := a) (c := c) e e2 hne hs pl pu hac (by rw [List.size_toArray]; omega) (by rw [List.size_toArray, List.size_toArray]; omega) (h _ ?_)
  refine I.lset (its' := its.take a ++ its2 ++ its.drop c) (t' := s.toks) hH e ?_ (Vals.append (Vals.append (r.take _) r2) (r.drop _)) ?_
  · have e0 := splice_eq its its2 a (min c its.toArray.size)
    refine e0.trans ?_
    congr 2
    by_cases hc : c ≤ its.length
    · rw [Nat.min_eq_left (by simpa using hc)]
    · rw [List.drop_eq_nil_of_le (by simp; omega), List.drop_eq_nil_of_le (by omega)]
  · rw [List.length_append, List.length_append, List.length_take, List.length_drop]
    omega
@[simp] def wSlO (i : Nat) (wl wh : WO) : WE := fun Γ Q E => ∃ ds, Γ[i]? = some (.own ds) ∧ wl Γ (fun a => wh Γ (fun b => Q (.lst (cutD ds a b))) E) E
theorem d_slO (i : Nat) {x : Str} {p1 : Pos} {lo hi : Option Expr} {p2 : Pos} {wl wh : WO} (hl : PO X lo (tDO X.K E wl)) (hh : PO X hi (tDO X.K E wh)) (hN : X.N[i]? = some x := by rfl) (hv : Vis X.env.scope x := by first | exact Or.inl rfl | exact Or.inr (Or.inl rfl) | exact Or.inr (Or.inr rfl)) (hd : (x == ("__debug__" : Str)) = false := by decide)
    (hcd : (x == ("__classdict__" : Str)) = false := by decide) : PE X (.Subscript (.Name x p1) (.Slice lo hi none p2) pos) (tD X.K E (wSlO i wl wh)) :=
  (pe_slice sl_list (pv i hN hv hd hcd) hl hh).frz.imp fun σ H Q h => by
    obtain ⟨O, S, Γ, Qd, Ed, ws, m, ⟨ds, hg, w⟩, k, ke⟩ := h
    obtain ⟨a, vs, e1, e2, ⟨n, f⟩, r⟩ := m.at_ _ _ hg
    refine ⟨.ref a, e1, O, S, Γ, _, Ed, ws, m, w, fun i S2 H2 q2 e2' w2 => ?_, ke⟩
    refine ⟨O, S2, Γ, _, Ed, w2, m.ev ws w2 e2', q2, fun j S3 H3 q3 e3 w3 => ?_, ke.ev w2 e2'⟩
    have ee : Ev S H S3 H3 := e2'.trans w2 e3
    have h3 : H3 a = some (.lst vs) := ee.keep _ _ e2 n
    have r3 : Reps X.K S3 H3 vs ds := Reps.stb (ee.stb ws) _ _ r
    exact ⟨a, vs, rfl, SqL.of h3, new_lst w3 (r3.cut i j) q3 fun v d S' H' q e w' r => k v d S' H' q (ee.trans w3 e) w' r⟩
def fRevL : D → (List D → Prop) → Prop
  | .lst xs, Q => Q xs.reverse
  | _, _ => False
@[simp] theorem fRevL_1 (xs : List D) (Q : List D → Prop) : fRevL (.lst xs : D) Q = (Q xs.reverse) := by first | rfl | (cases x <;> rfl)
@[simp] def wRevL (w : WE) : WA := fun Γ Q E => w Γ (fun x => fRevL x Q) E
theorem dl_rev {e : Expr} {w : WE} {k : Nat} {p1 p2 p3 : Pos} (he : PE X e (tD X.K E w)) : PE X (.Subscript e (.Slice none none (some (.UnaryOp .USub (.Constant (.int 1) k p1) p2)) p3) pos) (tDL X.K E (wRevL w)) :=
  (pe_revL he).imp fun σ H Q h => by
    obtain ⟨O, S, Γ, Qd, Ed, ws, m, w, k, ke⟩ := h
    refine ⟨O, S, Γ, _, Ed, ws, m, w, fun vx x S1 H1 q1 e1 w1 r1 => ?_, ke⟩
    cases r1 <;> first | exact (show False from q1).elim | skip
    rename_i a xs ds ha hxs
    exact ⟨a, xs, rfl, ha.sq, new_own e1 w1 hxs.reverse q1 k⟩
/-- xs[lo:hi] = .., by trees -/
def gSlS (to : TE) (tl th : L2.St → Hp → (Option Int → Hp → Prop) → Prop) : TG := fun v σ H Q => to σ H fun o H1 => tl σ H1 fun i H2 => th σ H2 fun j H3 => ∃ l b xs ys a c, o = .ref l ∧ v = .ref b ∧ H3 l = some (.lst xs) ∧ H3 b = some (.lst ys) ∧ l ≠ b ∧ i = some ((a : Nat) : Int) ∧ j = some ((c : Nat) : Int) ∧ a ≤ c ∧ a ≤ xs.length ∧
  xs.length + ys.length ≤ sizeLine ∧ Q σ (upd H3 l (.lst (xs.take a ++ ys ++ xs.drop c)))
theorem pg_slc {o : Expr} {lo hi : Option Expr} {to : TE} {tl th : L2.St → Hp → (Option Int → Hp → Prop) → Prop} {p2 : Pos} (ho : PE X o to) (hl : PO X lo tl) (hu : PO X hi th)
    (ha : ∀ v, assign (.Subscript o (.Slice lo hi none p2) pos) X.env v = (do
      let ov ← holding [v] (eval o X.env)
      let iv ← holding [v, ov] (eval (.Slice lo hi none p2) X.env)
      standAt pos
      holding [v, ov, iv] (setItem ov iv v)
      release [iv, v, ov] []) := by intro _; rfl) : PG X (.Subscript o (.Slice lo hi none p2) pos) (gSlS to tl th) := by
  refine ⟨fun pins s σ H v u Q I r h => ?_⟩
  rw [ha]
  refine wpAny_bind (wpAny_holding (thn (ho.run pins s σ H _ I h) fun ov s1 ⟨x, H1, I1, r1, q1⟩ => ?_))
  refine wpAny_bind (wpAny_holding (wpAny_Slice (thn (hl.run pins s1 σ H1 _ I1 q1) fun vl s2 ⟨i, H2, I2, pl, q2⟩ => thn (hu.run pins s2 σ H2 _ I2 q2) fun vu s3 ⟨j, H3, I3, pu, q3⟩ => ?_)))
  rw [evalPart_none]
  refine wpAny_pure ?_
  have I4 : Inv X pins σ H3 { s3 with heap := s3.heap.push { cls := .type "slice", data := .fields #[vl, vu, .none] } } := I3.kept (t' := s3.toks) fun b ob q => Heap.get?_push_of_some _ q
  obtain ⟨l, b, xs, ys, a, c, rfl, rfl, hH, hB, hne, rfl, rfl, hac, haz, hz, q⟩ := q3
  cases r1
  cases r
  refine wpAny_bind (wpAny_standAt (wpAny_bind (wpAny_holding ?_)))
  refine set_sliceC I4 hH hB hne (Heap.IsSliceOf.new ..) pl pu hac haz hz fun s' I5 => ?_
  exact wpAny_release ⟨σ, _, I5, q⟩
@[simp] def wSlSto (i : Nat) (wl wh : WO) (w : WA) : WS := fun N _ E Γ => ∃ ds, Γ[i]? = some (.own ds) ∧ w Γ (fun es => wl Γ (fun x => wh Γ (fun y => ∃ a c : Nat, x = some (a : Int) ∧ y = some (c : Int) ∧ a ≤ c ∧ a ≤ ds.length ∧ ds.length + es.length ≤ sizeLine ∧ N (Γ.set i (.own (ds.take a ++ es ++ ds.drop c)))) E) E) E
theorem s_slSto (i : Nat) {x : Str} {p1 p2 p3 : Pos} {lo hi : Option Expr} {e : Expr} {wl wh : WO} {w : WA} (he : PE X e (tDL X.K E w)) (hl : PO X lo (tDO X.K E wl)) (hh : PO X hi (tDO X.K E wh)) (hN : X.N[i]? = some x := by rfl) (hv : Vis X.env.scope x := by first | exact Or.inl rfl | exact Or.inr (Or.inl rfl) | exact Or.inr (Or.inr rfl)) (hd : (x == ("__debug__" : Str)) = false := by decide)
    (hcd : (x == ("__classdict__" : Str)) = false := by decide)
    (ha : ∀ v, assign (.Subscript (.Name x p1) (.Slice lo hi none p2) p3) X.env v = (do
      let ov ← holding [v] (eval (.Name x p1) X.env)
      let iv ← holding [v, ov] (eval (.Slice lo hi none p2) X.env)
      standAt p3
      holding [v, ov, iv] (setItem ov iv v)
      release [iv, v, ov] []) := by intro _; rfl)
    (hs : swapsWithSole [.Subscript (.Name x p1) (.Slice lo hi none p2) p3] e pos.line X.env = pure false := by rfl) (hw : swappedStores [.Subscript (.Name x p1) (.Slice lo hi none p2) p3] e X.env = pure none := by rfl)
    (h1 : (assignEach [.Subscript (.Name x p1) (.Slice lo hi none p2) p3] X.env).map (·.2) = [assign (.Subscript (.Name x p1) (.Slice lo hi none p2) p3) X.env] := by rfl) :
    PS X (.Assign [.Subscript (.Name x p1) (.Slice lo hi none p2) p3] e pos) (tS X.K E (wSlSto i wl wh w)) :=
  (ps_asg he (pg_slc (pv i hN hv hd hcd) hl hh ha) hs hw h1).imp fun Dn σ H h => by
    obtain ⟨S0, H0, S, Γ, N, R, Ed, st, ⟨ds, hg, w⟩, kn, kr, ke⟩ := h
    obtain ⟨a0, vs0, e10, e20, ⟨n0, f0⟩, r0⟩ := st.mat.at_ _ _ hg
    refine ⟨_, S, Γ, _, Ed, st.ws, st.mat, w, fun p us es S' H' q e w' hp hl' np rv => ?_, st.ke ke⟩
    have st' := st.next e w'
    obtain ⟨a, vs, e1, e2, ⟨n, f⟩, r⟩ := st'.mat.at_ _ _ hg
    have ea : a = a0 := by rw [e10] at e1; cases e1; rfl
    have nap : a ≠ p := fun z => by rw [← z, ea, e20] at hp; cases hp
    refine ⟨.ref a, e1, _, S', Γ, _, Ed, w', st'.mat, q, fun oi S2 H2 q2 ev2 w2 => ?_, st'.ke ke⟩
    refine ⟨_, S2, Γ, _, Ed, w2, st'.mat.ev w' w2 ev2, q2, fun oj S3 H3 q3 ev3 w3 => ?_, (st'.ke ke).ev w2 ev2⟩
    obtain ⟨ia, ic, rfl, rfl, hac, haz, hz, q4⟩ := q3
    have ev := ev2.trans w2 ev3
    have st3 := st'.next ev w3
    have ha3 : H3 a = some (.lst vs) := ev.keep _ _ e2 n
    have n3 : ¬ S3 a := fun z => by
      rcases ev.new _ z with y | y
      · exact n y
      · rw [e2] at y; cases y
    have hp3 : H3 p = some (.lst us) := ev.keep _ _ hl' np
    have r3 : Reps X.K S3 H3 vs ds := Reps.stb (ev.stb w') _ _ r
    have rv3 : Reps X.K S3 H3 us es := Reps.stb (ev.stb w') _ _ rv
    obtain ⟨st4, sb⟩ := st3.wrOwn hg e1 ha3 n3 f (((r3.take ia).append rv3).append (r3.drop ic))
    refine ⟨a, p, vs, us, ia, ic, rfl, rfl, ha3, hp3, nap, rfl, rfl, hac, by rw [r3.length]; exact haz, by rw [r3.length, rv3.length]; exact hz, ?_⟩
    exact kn _ _ S3 _ q4 st4 ((e.stb st.ws).trans ((ev.stb w').trans sb))
/-- x.pop(e) -/
@[simp] def wPopAt (i : Nat) (w : WE) : WS := fun N _ E Γ => ∃ ds, Γ[i]? = some (.own ds) ∧ w Γ (fun d => ∃ j : Nat, d = .int j ∧ j < ds.length ∧ ds.length < 2 ^ 62 ∧ N (Γ.set i (.own (ds.eraseIdx j)))) E
theorem Reps.erase {K : PySem.W.Frag} {S : As} {H : Hp} : ∀ {vs : List V} {ds : List D} (j : Nat), Reps K S H vs ds → Reps K S H (vs.eraseIdx j) (ds.eraseIdx j)
  | _, [], _, h => by cases h; exact .nil
  | _, _ :: _, 0, h => by cases h with | cons h r => exact r
  | _, _ :: _, j + 1, h => by cases h with | cons h r => exact .cons h (Reps.erase j r)
theorem s_popAt (i : Nat) {x : Str} {p1 apos cpos : Pos} {e : Expr} {w : WE} (he : PE X e (tD X.K E w)) (hN : X.N[i]? = some x := by rfl) (hv : Vis X.env.scope x := by first | exact Or.inl rfl | exact Or.inr (Or.inl rfl) | exact Or.inr (Or.inr rfl)) (hd : (x == ("__debug__" : Str)) = false := by decide)
    (hcd : (x == ("__classdict__" : Str)) = false := by decide)
    (hst : starEach (e :: []) X.env = (false, eval e X.env) :: starEach [] X.env := by rfl)
    (hbase : attributeBase (.Name x p1) "pop" X.env (eval (.Name x p1) X.env) = eval (.Name x p1) X.env := by rfl)
    (hfew : ((backTo cpos (starEach (e :: []) X.env)).all (fun x => !x.1) && (backToKw cpos (keywordEach [] X.env)).all (fun x => x.1.isSome)
      && decide ((e :: ([] : List Expr)).length + ([] : List Keyword).length + (if ([] : List Keyword).isEmpty then 0 else 1) < 30)) = true := by rfl)
    (hline : (apos.endLine == cpos.line) = true := by rfl) (hplain : (backTo cpos (starEach [] X.env)).any (·.1) = false := by rfl)
    (hs : swapsWith (.Call (.Attribute (.Name x p1) "pop" apos) [e] [] cpos) none pos.line X.env = pure false := by rfl) :
    PS X (.Expr (.Call (.Attribute (.Name x p1) "pop" apos) [e] [] cpos) pos) (tS X.K E (wPopAt i w)) :=
  (ps_expr (pe_bm PySem.F.plainAttrs_list PySem.F.slot_list_pop PySem.F.type_list_pop mt_popAt (pv i hN hv hd hcd) (pa_cons he pa_nil hst) hbase hfew hline hst hplain) hs).imp fun Dn σ H h => by
    obtain ⟨S0, H0, S, Γ, N, R, Ed, st, ⟨ds, hg, w⟩, kn, kr, ke⟩ := h
    obtain ⟨a, vs, e1, e2, ⟨n, f⟩, r⟩ := st.mat.at_ _ _ hg
    refine ⟨.ref a, e1, .inl ⟨rfl, vs, SqL.of e2⟩, ?_⟩
    refine ⟨_, S, Γ, _, Ed, st.ws, st.mat, w, fun v d S' H' q e w' rv => ?_, st.ke ke⟩
    obtain ⟨j, rfl, hj, hz, q⟩ := q
    cases rv
    have st' := st.next e w'
    have h2 : H' a = some (.lst vs) := e.keep _ _ e2 n
    have n' : ¬ S' a := fun z => by
      rcases e.new _ z with y | y
      · exact n y
      · rw [e2] at y; cases y
    have r' : Reps X.K S' H' vs ds := Reps.stb (e.stb st.ws) _ _ r
    obtain ⟨st2, sb⟩ := st'.wrOwn hg e1 h2 n' f (r'.erase j)
    have hl : vs.length = ds.length := r'.length
    have hjv : j < vs.length := by omega
    refine ⟨a, vs, (j : Int), j, vs[j], rfl, rfl, h2, by omega, by omega, ?_, List.getElem?_eq_getElem hjv, ?_⟩
    · have h1 : ¬ ((j : Int) < 0) := by omega
      have h3 : ((j : Int) < (vs.length : Int)) := by omega
      simp only [seqIndex?, if_neg h1, Int.natCast_nonneg, decide_true, Bool.true_and, h3, if_true, Int.toNat_natCast]
    · exact kn _ _ S' _ q st2 ((e.stb st.ws).trans sb)
/-- x.insert(e, f) -/
@[simp] def wIns (i : Nat) (w : WA) : WS := fun N _ E Γ => ∃ ds, Γ[i]? = some (.own ds) ∧ w Γ (fun es => ∃ (j : Nat) (d : D), es = [.int j, d] ∧ j ≤ ds.length ∧ ds.length < 16000000 ∧ N (Γ.set i (.own (ds.take j ++ [d] ++ ds.drop j)))) E
theorem s_insO (i : Nat) {x : Str} {p1 apos cpos : Pos} {e f : Expr} {w : WA} (he : PA X [e, f] (tDA X.K E w)) (hN : X.N[i]? = some x := by rfl) (hv : Vis X.env.scope x := by first | exact Or.inl rfl | exact Or.inr (Or.inl rfl) | exact Or.inr (Or.inr rfl)) (hd : (x == ("__debug__" : Str)) = false := by decide)
    (hcd : (x == ("__classdict__" : Str)) = false := by decide)
    (hst : starEach [e, f] X.env = (false, eval e X.env) :: starEach [f] X.env := by rfl)
    (hbase : attributeBase (.Name x p1) "insert" X.env (eval (.Name x p1) X.env) = eval (.Name x p1) X.env := by rfl)
    (hfew : ((backTo cpos (starEach [e, f] X.env)).all (fun x => !x.1) && (backToKw cpos (keywordEach [] X.env)).all (fun x => x.1.isSome)
      && decide ((e :: [f]).length + ([] : List Keyword).length + (if ([] : List Keyword).isEmpty then 0 else 1) < 30)) = true := by rfl)
    (hline : (apos.endLine == cpos.line) = true := by rfl) (hplain : (backTo cpos (starEach [f] X.env)).any (·.1) = false := by rfl)
    (hs : swapsWith (.Call (.Attribute (.Name x p1) "insert" apos) [e, f] [] cpos) none pos.line X.env = pure false := by rfl) :
    PS X (.Expr (.Call (.Attribute (.Name x p1) "insert" apos) [e, f] [] cpos) pos) (tS X.K E (wIns i w)) :=
  (ps_expr (pe_bm PySem.F.plainAttrs_list PySem.F.slot_list_insert PySem.F.type_list_insert mt_insert (pv i hN hv hd hcd) he hbase hfew hline hst hplain) hs).imp fun Dn σ H h => by
    obtain ⟨S0, H0, S, Γ, N, R, Ed, st, ⟨ds, hg, w⟩, kn, kr, ke⟩ := h
    obtain ⟨a, vs, e1, e2, ⟨n, f⟩, r⟩ := st.mat.at_ _ _ hg
    refine ⟨.ref a, e1, .inl ⟨rfl, vs, SqL.of e2⟩, ?_⟩
    refine ⟨_, S, Γ, _, Ed, st.ws, st.mat, w, fun v d S' H' q e w' rv => ?_, st.ke ke⟩
    obtain ⟨j, dd, rfl, hj, hz, q⟩ := q
    obtain ⟨v1, v2, rfl, r1, r2⟩ := reps2 rv
    cases r1
    have st' := st.next e w'
    have h2 : H' a = some (.lst vs) := e.keep _ _ e2 n
    have n' : ¬ S' a := fun z => by
      rcases e.new _ z with y | y
      · exact n y
      · rw [e2] at y; cases y
    have r' : Reps X.K S' H' vs ds := Reps.stb (e.stb st.ws) _ _ r
    obtain ⟨st2, sb⟩ := st'.wrOwn hg e1 h2 n' f (((r'.take j).append (.cons r2 .nil)).append (r'.drop j))
    have hl : vs.length = ds.length := r'.length
    refine ⟨a, vs, (j : Int), v2, rfl, rfl, h2, by rw [sizeLine_eq]; omega, by omega, by omega, ?_⟩
    exact kn _ _ S' _ q st2 ((e.stb st.ws).trans sb)
end
end PD

set_option Elab.async false
set_option linter.all false
set_option maxRecDepth 100000
set_option maxHeartbeats 4000000
namespace SQ
open PySem PySem.Spec PyProof.Rows L2 PD
/-! #### words -/
inductive Wd where
  | about | change | col2 | col3 | double | left | line | right | undouble | wleft | wright
deriving DecidableEq
def Wd.nm : Wd → Str
  | .about => "about" | .change => "change" | .col2 => "column 2" | .col3 => "column 3" | .double => "double" | .left => "left" | .line => "line" | .right => "right" | .undouble => "undouble" | .wleft => "wheel left" | .wright => "wheel right"
def allW : List Wd := [.about, .change, .col2, .col3, .double, .left, .line, .right, .undouble, .wleft, .wright]
def wordStrs : List Str := allW.map Wd.nm
def Wd.fac : Wd → Nat
  | .col2 => 2 | .col3 => 3 | .double => 2 | .undouble => 2 | _ => 1
def Wd.trn : Wd → Nat
  | .right => 1 | .wright => 1 | .about => 2 | .left => 3 | .wleft => 3 | _ => 0
def wD (w : Wd) : D := .str w.nm
def rowD (ws : List Wd) : D := .tup (ws.map wD)
def k_FACTORS : List (Str × Int) := [("column 2", 2), ("column 3", 3), ("double", 2), ("undouble", 2)]
def k_TURNS : List (Str × Int) := [("right", 1), ("wheel right", 1), ("about", 2), ("left", 3), ("wheel left", 3)]
def isWordD : D → Bool
  | .str z => wordStrs.contains z
  | _ => false
def shapeD : D → Bool
  | .str z => (k_FACTORS.lookup z).isSome
  | _ => false
def isRowD : D → Bool
  | .tup xs => decide (xs.length ≤ 8) && xs.all isWordD && decide ((xs.filter shapeD).length ≤ 2)
  | _ => false
/-- a value that may be compared -/
def okV (d : D) : Bool := d.fl 12
def Row (ws : List Wd) : Prop := ws.length ≤ 8 ∧ (ws.filter fun w => decide (1 < w.fac)).length ≤ 2
theorem eq_str (a b : Str) : D.eq (.str a) (.str b) = (a == b) := rfl
theorem inl_strs (z : Str) (ss : List Str) : D.inl (.str z) (ss.map D.str) = ss.contains z := by
  unfold D.inl
  rw [List.any_map, List.contains_eq_any_beq]
  congr 1
  funext x
  show (x == z) = (z == x)
  exact BEq.comm
theorem wd_in (w : Wd) : w ∈ allW := by cases w <;> decide
theorem isWordD_w (w : Wd) : isWordD (wD w) = true := by cases w <;> decide +kernel
theorem isWordD_ex {d : D} (h : isWordD d = true) : ∃ w, d = wD w := by
  cases d <;> first | (cases h; done) | skip
  rename_i z
  have h1 : z ∈ wordStrs := List.contains_iff_mem.mp h
  obtain ⟨w, _, e⟩ := List.mem_map.mp h1
  exact ⟨w, by rw [← e]; rfl⟩
theorem shapeD_w (w : Wd) : shapeD (wD w) = decide (1 < w.fac) := by cases w <;> decide +kernel
theorem isRowD_row {ws : List Wd} (h : Row ws) : isRowD (rowD ws) = true := by
  unfold isRowD rowD
  simp only [List.length_map, List.filter_map, Bool.and_eq_true, decide_eq_true_eq, List.all_eq_true, List.mem_map]
  refine ⟨⟨h.1, ?_⟩, ?_⟩
  · rintro _ ⟨w, _, rfl⟩
    exact isWordD_w w
  · have : (shapeD ∘ wD) = fun w => decide (1 < w.fac) := funext shapeD_w
    rw [this]
    exact h.2
theorem isRowD_ex {d : D} (h : isRowD d = true) : ∃ ws, d = rowD ws ∧ Row ws := by
  cases d <;> first | (cases h; done) | skip
  rename_i xs
  unfold isRowD at h
  simp only [Bool.and_eq_true, decide_eq_true_eq, List.all_eq_true] at h
  obtain ⟨⟨h1, h2⟩, h3⟩ := h
  have key : ∀ xs : List D, (∀ x ∈ xs, isWordD x = true) → ∃ ws : List Wd, xs = ws.map wD := by
    intro xs
    induction xs with
    | nil => exact fun _ => ⟨[], rfl⟩
    | cons x r ih =>
      intro h
      obtain ⟨w, rfl⟩ := isWordD_ex (h x (List.mem_cons_self ..))
      obtain ⟨ws, rfl⟩ := ih fun y hy => h y (List.mem_cons_of_mem _ hy)
      exact ⟨w :: ws, rfl⟩
  obtain ⟨ws, rfl⟩ := key xs h2
  refine ⟨ws, rfl, by simpa using h1, ?_⟩
  rw [List.filter_map] at h3
  have : (shapeD ∘ wD) = fun w => decide (1 < w.fac) := funext shapeD_w
  rw [this] at h3
  simpa using h3
theorem fl_mono : ∀ (n : Nat) (d : D), d.fl n = true → d.fl (n + 1) = true
  | 0, d, h => by cases d <;> first | rfl | exact h | (cases h; done)
  | n + 1, .tup xs, h => by
    have h' : xs.all (D.fl n) = true := h
    show xs.all (D.fl (n + 1)) = true
    rw [List.all_eq_true] at h' ⊢
    exact fun x hx => fl_mono n x (h' x hx)
  | n + 1, .lst xs, h => by
    have h' : xs.all (D.fl n) = true := h
    show xs.all (D.fl (n + 1)) = true
    rw [List.all_eq_true] at h' ⊢
    exact fun x hx => fl_mono n x (h' x hx)
  | n + 1, .non, h => rfl
  | n + 1, .bl _, h => rfl
  | n + 1, .int _, h => rfl
  | n + 1, .str _, h => h
  | n + 1, .src, h => by cases h
  | n + 1, .ty _, h => by cases h
  | n + 1, .dct _, h => by cases h
  | n + 1, .exc _ _, h => by cases h
theorem fl_le {n m : Nat} {d : D} (h : n ≤ m) (q : d.fl n = true) : d.fl m = true := by
  induction h with
  | refl => exact q
  | step _ ih => exact fl_mono _ _ ih
theorem fl_noTy {n : Nat} {d : D} (h : d.fl n = true) : d.noTy = true := by
  cases d <;> first | rfl | (cases n <;> cases h)
theorem fl_tup {n : Nat} {xs : List D} (h : (D.tup xs).fl (n + 1) = true) : ∀ x ∈ xs, x.fl n = true := List.all_eq_true.mp h
theorem fl_tup' {n : Nat} {xs : List D} (h : ∀ x ∈ xs, x.fl n = true) : (D.tup xs).fl (n + 1) = true := List.all_eq_true.mpr h
theorem fl_lst' {n : Nat} {xs : List D} (h : ∀ x ∈ xs, x.fl n = true) : (D.lst xs).fl (n + 1) = true := List.all_eq_true.mpr h
theorem fl_w (w : Wd) (n : Nat) : (wD w).fl n = true := by
  have h : (wD w).fl 0 = true := by cases w <;> decide +kernel
  exact fl_le (Nat.zero_le _) h
theorem okV_row (ws : List Wd) : okV (rowD ws) = true := fl_tup' fun x hx => by
  obtain ⟨w, _, rfl⟩ := List.mem_map.mp hx
  exact fl_w w _
theorem noTy_row (ws : List Wd) : D.noTy (rowD ws) = true := rfl
theorem eq_nilL : ∀ xs : List D, D.eq (.lst xs) (.lst []) = xs.isEmpty
  | [] => rfl
  | _ :: _ => rfl
theorem bls_mapf (f : D → Bool) : ∀ xs : List D, D.bls (xs.map fun d => .bl (f d)) = some (xs.map f)
  | [] => rfl
  | x :: xs => by simp [D.bls, bls_mapf f xs]
theorem ints_mapf {α : Type} (f : α → Int) : ∀ xs : List α, D.ints (xs.map fun d => .int (f d)) = some (xs.map f)
  | [] => rfl
  | x :: xs => by simp [D.ints, ints_mapf f xs]
theorem rowD_get {ws : List Wd} {i : Nat} {d : D} (h : (ws.map wD)[i]? = some d) : ∃ w, ws[i]? = some w ∧ d = wD w := by
  rw [List.getElem?_map] at h
  cases e : ws[i]? with
  | none => rw [e] at h; cases h
  | some w => rw [e] at h; cases h; exact ⟨w, rfl, rfl⟩
theorem rangeL_get {lo : Int} {n i : Nat} {d : D} (h : (rangeL lo n)[i]? = some d) : i < n ∧ d = .int (lo + (i : Int)) := by
  unfold rangeL at h
  rw [List.getElem?_map] at h
  by_cases hi : i < n
  · rw [List.getElem?_range hi] at h
    cases h
    exact ⟨hi, rfl⟩
  · rw [List.getElem?_eq_none (by simpa using hi)] at h
    cases h
theorem rangeL_mem {lo : Int} {n : Nat} {d : D} (h : d ∈ rangeL lo n) : ∃ i, i < n ∧ d = .int (lo + (i : Nat)) := by
  obtain ⟨i, hi, e⟩ := List.mem_map.mp h
  exact ⟨i, by simpa using hi, e.symm⟩
theorem rangeL_len (lo : Int) (n : Nat) : (rangeL lo n).length = n := by simp [rangeL]
@[simp] theorem srcB0 (v : Int) : SrcB 0 v ↔ 0 ≤ v := by unfold SrcB; omega
@[simp] theorem srcB1 (v : Int) : SrcB 1 v ↔ (0 ≤ v ∧ v < 4294967296) := by unfold SrcB; omega
@[simp] theorem srcB2 (v : Int) : SrcB 2 v ↔ (1073741824 < v ∧ v < 2147483648) := by unfold SrcB; omega
@[simp] theorem eq_int (i j : Int) : D.eq (.int i) (.int j) = decide (i = j) := by
  show PyData.eqv (.int i) (.int j) = _
  first
    | rfl
    | (simp only [PyData.eqv]; by_cases h : i = j <;> simp [h])
@[simp] theorem fl_int (n : Nat) (i : Int) : (D.int i).fl n = true := by cases n <;> rfl
@[simp] theorem fl_bl (n : Nat) (i : Bool) : (D.bl i).fl n = true := by cases n <;> rfl
@[simp] theorem fl_non (n : Nat) : D.non.fl n = true := by cases n <;> rfl
@[simp] theorem flat_int (i : Int) : (D.int i).flat = true := rfl
@[simp] theorem flat_bl (i : Bool) : (D.bl i).flat = true := rfl
@[simp] theorem flat_str (i : Str) : (D.str i).flat = true := rfl
@[simp] theorem flat_non : D.non.flat = true := rfl
theorem atI_mem {xs : List D} {v : Int} (h0 : 0 ≤ v) (h : v < xs.length) : ∃ d ∈ xs, atI xs v = some d := by
  obtain ⟨j, rfl⟩ := Int.eq_ofNat_of_zero_le h0
  have hj : j < xs.length := by omega
  exact ⟨_, List.getElem_mem hj, atI_nat (List.getElem?_eq_getElem hj)⟩
theorem atI_any {xs : List D} {v : Int} {Q : D → Prop} (h0 : 0 ≤ v) (h : v < xs.length) (q : ∀ d ∈ xs, Q d) : ∃ d, atI xs v = some d ∧ Q d := by
  obtain ⟨d, hd, e⟩ := atI_mem h0 h
  exact ⟨d, e, q d hd⟩
theorem ixN_nat {n j : Nat} (h : j < n) : ixN n (j : Int) = some j := by
  unfold ixN
  rw [if_pos (by omega), if_pos (by omega)]
  simp
theorem cutD_mem {xs : List D} {a b : Option Int} {x : D} (h : x ∈ PD.cutD xs a b) : x ∈ xs := List.mem_of_mem_drop (List.mem_of_mem_take h)
theorem cutD_len (xs : List D) (a b : Option Int) : (PD.cutD xs a b).length ≤ xs.length := by
  unfold PD.cutD
  rw [List.length_take, List.length_drop]
  omega
def pOf (ws : List Wd) : Nat := (ws.map Wd.fac).foldl (· * ·) 1
theorem foldl_mul : ∀ (l : List Nat) (a : Nat), l.foldl (· * ·) a = a * l.foldl (· * ·) 1
  | [], a => by simp
  | x :: l, a => by
    rw [List.foldl_cons, List.foldl_cons, foldl_mul l (a * x), foldl_mul l (1 * x), Nat.one_mul, Nat.mul_assoc]
theorem pOf_cons (w : Wd) (ws : List Wd) : pOf (w :: ws) = w.fac * pOf ws := by
  unfold pOf
  rw [List.map_cons, List.foldl_cons, foldl_mul, Nat.one_mul]
theorem pOf_pos : ∀ ws : List Wd, 0 < pOf ws
  | [] => by decide
  | w :: ws => by
    rw [pOf_cons]
    exact Nat.mul_pos (by cases w <;> decide) (pOf_pos ws)
theorem eqw (w u : Wd) : D.eq (wD w) (wD u) = decide (w = u) := by
  show D.eq (.str w.nm) (.str u.nm) = _
  rw [eq_str, Bool.eq_iff_iff]
  simp only [beq_iff_eq, decide_eq_true_eq]
  constructor
  · intro h
    cases w <;> cases u <;> first | rfl | (exfalso; revert h; decide +kernel)
  · intro h; rw [h]
theorem flw12 (w : Wd) : (wD w).fl 12 = true := fl_w w 12
theorem w_str : (D.str "right" = wD .right) ∧ (D.str "left" = wD .left) ∧ (D.str "about" = wD .about) ∧ (D.str "change" = wD .change) ∧ (D.str "double" = wD .double) ∧ (D.str "undouble" = wD .undouble) ∧ (D.str "line" = wD .line) ∧ (D.str "column 2" = wD .col2) ∧ (D.str "column 3" = wD .col3) := ⟨rfl, rfl, rfl, rfl, rfl, rfl, rfl, rfl, rfl⟩
theorem flatw (w : Wd) : (wD w).flat = true := rfl
@[simp] theorem ex_pair {α β : Type} (a : α) (b : β) (p : α → β → Prop) : (∃ x y, (a = x ∧ b = y) ∧ p x y) ↔ p a b := ⟨fun ⟨_, _, ⟨e, e2⟩, h⟩ => by subst e e2; exact h, fun h => ⟨a, b, ⟨rfl, rfl⟩, h⟩⟩
def tOf (ws : List Wd) : Nat := (ws.map Wd.trn).sum % 4
theorem tOf_lt (ws : List Wd) : tOf ws < 4 := Nat.mod_lt _ (by decide)
end SQ

set_option Elab.async false
set_option linter.all false
set_option maxRecDepth 100000
set_option maxHeartbeats 1000000
namespace PD
open PySem PySem.Spec PyProof.Rows L2
/-! ### enumerate, zip -/
def enumD : Nat → List D → List D
  | _, [] => []
  | i, d :: r => .tup [.int (i : Nat), d] :: enumD (i + 1) r
theorem enumD_len : ∀ (k : Nat) (ds : List D), (enumD k ds).length = ds.length
  | _, [] => rfl
  | k, d :: r => by simp [enumD, enumD_len (k + 1) r]
theorem enumD_get : ∀ (k : Nat) (ds : List D) (i : Nat), (enumD k ds)[i]? = (ds[i]?).map fun d => .tup [.int ((k + i : Nat) : Int), d]
  | _, [], i => by simp [enumD]
  | k, d :: r, 0 => rfl
  | k, d :: r, i + 1 => by
    show (enumD (k + 1) r)[i]? = _
    rw [enumD_get (k + 1) r i, List.getElem?_cons_succ, show k + 1 + i = k + (i + 1) by omega]
def zipD (xs ys : List D) : List D := List.zipWith (fun x y => .tup [x, y]) xs ys
def fEnum : List D → (List D → Prop) → Prop
  | [.lst xs], Q => Q (enumD 0 xs)
  | _, _ => False
@[simp] theorem fEnum_1 (xs : List D) (Q : List D → Prop) : fEnum [.lst xs] Q = Q (enumD 0 xs) := rfl
@[simp] def wEnumerate (w : WA) : WA := fun Γ Q E => w Γ (fun ds => fEnum ds Q) E
def fZip2 : List D → (List D → Prop) → Prop
  | [.lst xs, .lst ys], Q => Q (zipD xs ys)
  | [.tup xs, .tup ys], Q => Q (zipD xs ys)
  | _, _ => False
@[simp] theorem fZip2_1 (xs ys : List D) (Q : List D → Prop) : fZip2 [.lst xs, .lst ys] Q = Q (zipD xs ys) := rfl
@[simp] theorem fZip2_2 (xs ys : List D) (Q : List D → Prop) : fZip2 [.tup xs, .tup ys] Q = Q (zipD xs ys) := rfl
@[simp] def wZip2 (w : WA) : WA := fun Γ Q E => w Γ (fun ds => fZip2 ds Q) E
section
variable {X : Cx} {E : XK} {p pos tpos : Pos} {elts : List Expr} {kk : Nat}
theorem ItD.enum {K : PySem.W.Frag} {S : As} {H : Hp} {a : Addr} {xs : List V} {ds : List D} (ha : FzL K H a xs) (r : Reps K S H xs ds) : ItD K (Ite K a) (enumD 0 ds) S H := fun S2 H2 st ws => by
  have h2 := (FzL.stb st ha).sq
  have r2 := Reps.stb st _ _ r
  have hl := r2.length
  rw [enumD_len]
  refine ⟨⟨xs, h2, by omega⟩, fun i hi => ⟨⟨xs, xs[i], h2, List.getElem?_eq_getElem (by omega)⟩, fun v H3 y => ?_⟩⟩
  obtain ⟨T, x, rfl, hT, rfl, hx⟩ := y
  obtain ⟨d, e3, r3⟩ := r2.getV (hx xs h2)
  have ev : Ev S2 H2 S2 (upd H2 T (.tup [.int (i : Nat), x])) := .upd hT
  refine ⟨ev, ws.upd hT, .tup [.int ((0 + i : Nat) : Int), d], by rw [enumD_get, e3]; rfl, .tup (SqT.of upd_same) (.cons (by rw [Nat.zero_add]; exact .int _) (.cons (Rep.stb (ev.stb ws) _ _ r3) .nil))⟩
theorem i_enumerate {e : Expr} {w : WA} (hg : Gl X "enumerate") (hm : X.mg "enumerate" = none) (ha : PA X [e] (tDA X.K E w)) (hs : starEach [e] X.env = [(false, eval e X.env)] := by rfl) :
    PI X (.Tuple elts kk tpos) (.Call (.Name "enumerate" p) [e] [] pos) (tDI X.K E (wEnumerate w)) :=
  (pi_enum hg hm ha hs).imp fun σ H R h => by
    obtain ⟨O, S, Γ, Qd, Ed, ws, m, w, k, ke⟩ := h
    refine ⟨O, S, Γ, _, Ed, ws, m, w, fun vs ds S1 H1 q1 e1 w1 r1 => ?_, ke⟩
    unfold fEnum at q1
    split at q1
    · obtain ⟨v, rfl, q⟩ := reps1 r1
      cases q with
      | lst ha hx => exact ⟨_, _, rfl, ha.sq, k _ _ S1 H1 q1 e1 w1 (ItD.enum ha hx)⟩
    · exact q1.elim
theorem zip_get {xs ys : List D} {i : Nat} {x y : D} (h1 : xs[i]? = some x) (h2 : ys[i]? = some y) : (zipD xs ys)[i]? = some (.tup [x, y]) := by
  unfold zipD
  rw [List.getElem?_zipWith, h1, h2]
theorem ItD.zip {K : PySem.W.Frag} {S : As} {H : Hp} {a b : Addr} {xs ys : List V} {ds es : List D} (ha : FzL K H a xs) (hb : FzL K H b ys) (r : Reps K S H xs ds) (q : Reps K S H ys es) : ItD K (Itz K a b) (zipD ds es) S H := fun S2 H2 st ws => by
  have h2 := (FzL.stb st ha).sq
  have h3 := (FzL.stb st hb).sq
  have r2 := Reps.stb st _ _ r
  have q2 := Reps.stb st _ _ q
  have hl := r2.length
  have hm := q2.length
  have hz : (zipD ds es).length = min ds.length es.length := by simp [zipD]
  rw [hz]
  refine ⟨⟨xs, ys, h2, h3, by omega⟩, fun i hi => ⟨⟨xs, ys, xs[i], ys[i], h2, h3, List.getElem?_eq_getElem (by omega), List.getElem?_eq_getElem (by omega)⟩, fun v H3 y => ?_⟩⟩
  obtain ⟨T, x, y, rfl, hT, rfl, hx, hy⟩ := y
  obtain ⟨d, e3, r3⟩ := r2.getV (hx xs h2)
  obtain ⟨d', e4, r4⟩ := q2.getV (hy ys h3)
  have ev : Ev S2 H2 S2 (upd H2 T (.tup [x, y])) := .upd hT
  exact ⟨ev, ws.upd hT, .tup [d, d'], zip_get e3 e4, .tup (SqT.of upd_same) (.cons (Rep.stb (ev.stb ws) _ _ r3) (.cons (Rep.stb (ev.stb ws) _ _ r4) .nil))⟩
theorem ItD.zipT {K : PySem.W.Frag} {S : As} {H : Hp} {a b : Addr} {xs ys : List V} {ds es : List D} (ha : SqT K H a xs) (hb : SqT K H b ys) (r : Reps K S H xs ds) (q : Reps K S H ys es) : ItD K (RZ.ItzT K a b) (zipD ds es) S H := fun S2 H2 st ws => by
  have h2 := SqT.stb st ha
  have h3 := SqT.stb st hb
  have r2 := Reps.stb st _ _ r
  have q2 := Reps.stb st _ _ q
  have hl := r2.length
  have hm := q2.length
  have hz : (zipD ds es).length = min ds.length es.length := by simp [zipD]
  rw [hz]
  refine ⟨⟨xs, ys, h2, h3, by omega⟩, fun i hi => ⟨⟨xs, ys, xs[i], ys[i], h2, h3, List.getElem?_eq_getElem (by omega), List.getElem?_eq_getElem (by omega)⟩, fun v H3 y => ?_⟩⟩
  obtain ⟨T, x, y, rfl, hT, rfl, hx, hy⟩ := y
  obtain ⟨d, e3, r3⟩ := r2.getV (hx xs h2)
  obtain ⟨d', e4, r4⟩ := q2.getV (hy ys h3)
  have ev : Ev S2 H2 S2 (upd H2 T (.tup [x, y])) := .upd hT
  exact ⟨ev, ws.upd hT, .tup [d, d'], zip_get e3 e4, .tup (SqT.of upd_same) (.cons (Rep.stb (ev.stb ws) _ _ r3) (.cons (Rep.stb (ev.stb ws) _ _ r4) .nil))⟩
theorem i_zip2 {e e2 : Expr} {w : WA} (hg : Gl X "zip") (hm : X.mg "zip" = none) (ha : PA X [e, e2] (tDA X.K E w)) (hs : starEach [e, e2] X.env = (false, eval e X.env) :: starEach [e2] X.env := by rfl) (hpl : (backTo pos (starEach [e2] X.env)).any (·.1) = false := by rfl) :
    PI X (.Tuple elts kk tpos) (.Call (.Name "zip" p) [e, e2] [] pos) (tDI X.K E (wZip2 w)) :=
  (RZ.pi_zipA hg hm ha hs hpl).imp fun σ H R h => by
    obtain ⟨O, S, Γ, Qd, Ed, ws, m, w, k, ke⟩ := h
    refine ⟨O, S, Γ, _, Ed, ws, m, w, fun vs ds S1 H1 q1 e1 w1 r1 => ?_, ke⟩
    unfold fZip2 at q1
    split at q1
    · obtain ⟨v, u, rfl, q, q'⟩ := reps2 r1
      cases q with
      | lst ha hx => cases q' with
        | lst hb hy => exact ⟨_, _, _, _, rfl, .inl ⟨ha.sq, hb.sq, k _ _ S1 H1 q1 e1 w1 (ItD.zip ha hb hx hy)⟩⟩
    · obtain ⟨v, u, rfl, q, q'⟩ := reps2 r1
      cases q with
      | tup ha hx => cases q' with
        | tup hb hy => exact ⟨_, _, _, _, rfl, .inr ⟨ha, hb, k _ _ S1 H1 q1 e1 w1 (ItD.zipT ha hb hx hy)⟩⟩
    · exact q1.elim
/-! ### sorted of anything that compares -/
def fSortD : List D → (D → Prop) → Prop
  | [.lst xs], Q => (xs.all (D.fl 12) = true ∧ PySem.W.AllAlike (xs.map D.pd) ∧ PySem.W.Sortable (xs.map D.pd)) ∧ Q (.lst (xs.mergeSort (PySem.W.dataLe false D.pd)))
  | _, _ => False
@[simp] theorem fSortD_1 (xs : List D) (Q : D → Prop) : fSortD [.lst xs] Q = ((xs.all (D.fl 12) = true ∧ PySem.W.AllAlike (xs.map D.pd) ∧ PySem.W.Sortable (xs.map D.pd)) ∧ Q (.lst (xs.mergeSort (PySem.W.dataLe false D.pd)))) := rfl
def rSortD (K : PySem.W.Frag) : List V → Hp → VK → Prop := fun vs H Q => ∃ S a xs ds, vs = [V.ref a] ∧ SqL K H a xs ∧ Reps K S H xs ds ∧ (ds.all (D.fl 12) = true ∧ PySem.W.AllAlike (ds.map D.pd) ∧ PySem.W.Sortable (ds.map D.pd)) ∧
  ∀ ys p, Reps K S H ys (ds.mergeSort (PySem.W.dataLe false D.pd)) → H p = none → Q (.ref p) (upd H p (.lst ys))
theorem each_of {K : PySem.W.Frag} {S : As} {H : Hp} : ∀ {xs : List V} {us : List Value} {ds : List D}, Vals xs us → Reps K S H xs ds → PySem.W.EachIs (fun u d => ∃ v, RelV v u ∧ Rep K S H v d) us ds
  | _, _, [], h, r => by cases r; cases h; exact .nil
  | _, _, d :: ds, h, r => by
    cases r with
    | cons r1 r2 => cases h with
      | cons h1 h2 => exact .cons ⟨_, h1, r1⟩ (each_of h2 r2)
theorem of_each {K : PySem.W.Frag} {S : As} {H : Hp} : ∀ {us : List Value} {ds : List D}, PySem.W.EachIs (fun u d => ∃ v, RelV v u ∧ Rep K S H v d) us ds → ∃ xs : List V, Vals xs us ∧ Reps K S H xs ds
  | _, _, .nil => ⟨[], .nil, .nil⟩
  | _, _, .cons ⟨v, h1, h2⟩ h => by
    obtain ⟨xs, q1, q2⟩ := of_each h
    exact ⟨v :: xs, .cons h1 q1, .cons h2 q2⟩
theorem each_mem' {R R' : Value → D → Prop} : ∀ {us : List Value} {ds : List D}, PySem.W.EachIs R us ds → (∀ u d, d ∈ ds → R u d → R' u d) → PySem.W.EachIs R' us ds
  | _, _, .nil, _ => .nil
  | _, _, .cons h1 h2, q => .cons (q _ _ (List.mem_cons_self ..) h1) (each_mem' h2 fun u d hd => q u d (List.mem_cons_of_mem _ hd))
theorem cr_sortD (hu : X.A.units + 65 < cLine) : CallR X (.builtin "sorted") (rSortD X.K) := by
  intro pins s σ H vs us Q I r h
  obtain ⟨S, a, xs, ds, rfl, hs, hr, ⟨hf, hal, hso⟩, q⟩ := h
  obtain ⟨its, rv, hl, hz⟩ := I.list hs
  obtain ⟨u, rfl, ru⟩ := vals1 r
  obtain rfl : u = Value.ref a := ru
  have hlen : its.length = ds.length := by rw [← rv.length, hr.length]
  have e := each_of rv hr
  have hf' := List.all_eq_true.mp hf
  refine PySem.W.sorted_data (enc := D.pd) (bs := ds) hl.isList e (each_mem' e fun u d hd ⟨v, h1, h2⟩ => Dp.reads I d.pd v u (Rep.dp 12 d v (hf' d hd) h2) h1) hal hso (by rw [← hr.length]; exact hz)
    (fun d hd => by have := (D.fl_ok 12 d (hf' d hd)).2; omega) fun out ho eo => ?_
  obtain ⟨ys, h1, h2⟩ := of_each eo
  obtain ⟨ep, hat⟩ := sortedAll_at s.heap its (List.toArray out)
  refine ⟨.ref (s.heap.objs.size + 1), upd H (s.heap.objs.size + 1) (.lst ys), I.laid (t' := s.toks) (fun b o e => sortedAll_old e) (Nat.le_succ _) ⟨?_, out, ep, h1, hat⟩, rfl, q ys _ h2 (I.hok.fresh (Nat.le_succ _))⟩
  rw [h1.length, ho, ← hr.length]
  exact hz
theorem fc_sortD : FC X.K (rSortD X.K) fSortD := by
  intro S H ws xs Qd Q vs r h k
  unfold fSortD at h
  split at h
  · obtain ⟨v, rfl, q⟩ := reps1 r
    cases q with
    | lst ha hx => exact ⟨S, _, _, _, rfl, ha.sq, hx, h.1, fun ys p hy hp => new_lst ws hy h.2 k p hp⟩
  · exact h.elim
/-! ### list(range(..)) -/
theorem reps_rg {K : PySem.W.Frag} {S : As} {H : Hp} (a b : Int) : Reps K S H (rgV a b) (rangeL a (b - a).toNat) := by
  unfold rgV rangeL
  generalize (b - a).toNat = n
  induction n with
  | zero => exact .nil
  | succ n ih =>
    rw [List.range_succ, List.map_append, List.map_append]
    exact ih.append (.cons (.int _) .nil)
def fLrg1 : D → (D → Prop) → Prop
  | .int n, Q => (-1 ≤ n ∧ n ≤ 16000000) ∧ Q (.lst (rangeL 0 n.toNat))
  | _, _ => False
@[simp] theorem fLrg1_1 (n : Int) (Q : D → Prop) : fLrg1 (.int n) Q = ((-1 ≤ n ∧ n ≤ 16000000) ∧ Q (.lst (rangeL 0 n.toNat))) := rfl
def fLrg2 : D → D → (D → Prop) → Prop
  | .int a, .int b, Q => (-(2 ^ 60) ≤ a ∧ a ≤ 2 ^ 60 ∧ -(2 ^ 60) ≤ b ∧ b ≤ 2 ^ 60 ∧ b - a ≤ 16000000) ∧ Q (.lst (rangeL a (b - a).toNat))
  | _, _, _ => False
@[simp] theorem fLrg2_1 (a b : Int) (Q : D → Prop) : fLrg2 (.int a) (.int b) Q = ((-(2 ^ 60) ≤ a ∧ a ≤ 2 ^ 60 ∧ -(2 ^ 60) ≤ b ∧ b ≤ 2 ^ 60 ∧ b - a ≤ 16000000) ∧ Q (.lst (rangeL a (b - a).toNat))) := rfl
theorem d_lrg1 {e : Expr} {w : WE} {p2 pos2 : Pos} (hc : X.calm = true) (hg : Gl X "list") (hm : X.mg "list" = none) (hg2 : Gl X "range") (hm2 : X.mg "range" = none) (he : PE X e (tD X.K E w)) (na : starEach [.Call (.Name "range" p2) [e] [] pos2] X.env = (false, eval (.Call (.Name "range" p2) [e] [] pos2) X.env) :: starEach [] X.env := by rfl)
    (na2 : starEach [e] X.env = (false, eval e X.env) :: starEach [] X.env := by rfl) :
    PE X (.Call (.Name "list" p) [.Call (.Name "range" p2) [e] [] pos2] [] pos) (tD X.K E (wUn fLrg1 w)) :=
  (pe_listRg hc hg hm (prg_1 hg2 hm2 he na2) na).frz.imp fun σ H Q h => by
    obtain ⟨O, S, Γ, Qd, Ed, ws, m, w, k, ke⟩ := h
    refine ⟨O, S, Γ, _, Ed, ws, m, w, fun v d S1 H1 q1 e1 w1 r1 => ?_, ke⟩
    unfold fLrg1 at q1
    split at q1
    · cases r1
      refine ⟨_, rfl, ⟨by omega, by omega, by omega, by omega, by omega⟩, ?_⟩
      exact new_lst w1 (by have := reps_rg (K := X.K) (S := S1) (H := H1) 0 (by assumption); simpa using this) q1.2 fun v d S' H' q e w' r => k v d S' H' q (e1.trans w1 e) w' r
    · exact q1.elim
theorem d_lrg2 {a b : Expr} {wa wb : WE} {p2 pos2 : Pos} (hc : X.calm = true) (hg : Gl X "list") (hm : X.mg "list" = none) (hg2 : Gl X "range") (hm2 : X.mg "range" = none) (ha : PE X a (tD X.K E wa)) (hb : PE X b (tD X.K E wb))
    (na : starEach [.Call (.Name "range" p2) [a, b] [] pos2] X.env = (false, eval (.Call (.Name "range" p2) [a, b] [] pos2) X.env) :: starEach [] X.env := by rfl)
    (na2 : starEach [a, b] X.env = (false, eval a X.env) :: starEach [b] X.env := by rfl) (nb : starEach [b] X.env = (false, eval b X.env) :: starEach [] X.env := by rfl) (hp : (backTo pos2 (starEach [b] X.env)).any (·.1) = false := by rfl) :
    PE X (.Call (.Name "list" p) [.Call (.Name "range" p2) [a, b] [] pos2] [] pos) (tD X.K E (wBin fLrg2 wa wb)) :=
  (pe_listRg hc hg hm (prg_2 hg2 hm2 ha hb na2 nb hp) na).frz.imp fun σ H Q h => by
    obtain ⟨O, S, Γ, Qd, Ed, ws, m, w, k, ke⟩ := h
    refine ⟨O, S, Γ, _, Ed, ws, m, w, fun v d S1 H1 q1 e1 w1 r1 => ?_, ke⟩
    refine ⟨O, S1, Γ, _, Ed, w1, m.ev ws w1 e1, q1, fun u d2 S2 H2 q2 e2 w2 r2 => ?_, ke.ev w1 e1⟩
    unfold fLrg2 at q2
    split at q2
    · cases r1
      cases r2
      refine ⟨_, _, rfl, rfl, ⟨by omega, by omega, by omega, by omega, by omega⟩, ?_⟩
      exact new_lst w2 (reps_rg _ _) q2.2 fun v d S' H' q e w' r => k v d S' H' q ((e1.trans w1 e2).trans w2 e) w' r
    · exact q2.elim
end
end PD

set_option Elab.async false
set_option linter.all false
set_option maxRecDepth 100000
set_option maxHeartbeats 1000000
namespace PD
open PySem PySem.Spec PyProof.Rows L2 HT
/-! ### t[::-1] of a tuple -/
section
variable {prog : Program} {w : World} {A : Around} {E : Value → Shared → Prop} {s : Shared}
theorem applied_rev {sl : Addr} {vl vu vs : Value} {n : Nat} {Q : Int × Int × Nat → Shared → Prop} (hs : s.heap.IsSliceOf sl vl vu vs) (pl : IsPart vl none) (pu : IsPart vu none) (ps : IsPart vs (some (-1)))
    (h : Q ((n : Int) - 1, -1, n) s) : wpAny (model prog w) A (Builtin.Slice.sliceApplied (.ref sl) (pure (n : Int))) Q E s := by
  obtain ⟨os, hos, hcs, hds⟩ := id hs
  unfold Builtin.Slice.sliceApplied Builtin.Slice.sliceFields
  refine wpAny_bind (wpAny_bind (wpAny_field hos hds (x := vl) rfl (wpAny_bind (wpAny_field hos hds (x := vu) rfl (wpAny_bind (wpAny_field hos hds (x := vs) rfl (wpAny_pure ?_)))))))
  refine wpAny_bind (slicePart_ ps ?_)
  show wpAny _ _ (if ((-1 : Int) == 0) = true then _ else _) _ _ s
  rw [if_neg (by decide)]
  refine wpAny_bind (slicePart_ pl (wpAny_bind (slicePart_ pu (wpAny_bind (wpAny_pure ?_)))))
  have e : Builtin.Slice.slicePlaces ((n : Int) - 1) (-1) (-1) = n := by
    unfold Builtin.Slice.slicePlaces
    rw [if_neg (by decide)]
    by_cases h0 : n = 0
    · subst h0; rfl
    · rw [if_pos (by omega), show (-(-1 : Int)) = 1 by decide, Int.ediv_one]
      omega
  show wpAny _ _ (pure ((n : Int) - 1, (-1 : Int), Builtin.Slice.slicePlaces ((n : Int) - 1) (-1) (-1))) _ _ s
  rw [e]
  exact wpAny_pure h
theorem pick_rev : ∀ (xs : List Value) (n : Nat), n ≤ xs.length → (List.range n).filterMap (fun m : Nat => xs[((xs.length : Int) - 1 + (m : Int) * -1).toNat]?) = (xs.reverse).take n
  | xs, 0, _ => by simp
  | xs, n + 1, h => by
    rw [List.range_succ, List.filterMap_append, pick_rev xs n (by omega), List.take_add_one]
    congr 1
    have e : (((xs.length : Int) - 1 + (n : Int) * -1).toNat) = xs.length - 1 - n := by omega
    rw [List.getElem?_reverse (by omega)]
    show List.filterMap (fun m : Nat => xs[((xs.length : Int) - 1 + (m : Int) * -1).toNat]?) [n] = _
    rw [List.filterMap_cons, e]
    cases xs[xs.length - 1 - n]? <;> rfl
theorem getItem_tuple_rev {t sl : Addr} {items : List Value} {vl vu vs : Value} {Q : Value → Shared → Prop} (ht : IsTup s.heap t items.toArray) (hs : s.heap.IsSliceOf sl vl vu vs) (pl : IsPart vl none) (pu : IsPart vu none) (ps : IsPart vs (some (-1)))
    (h : Q (.ref s.heap.objs.size) { s with heap := s.heap.push { cls := .type "tuple", data := .seq items.reverse.toArray } })
    (hsz : items.length ≤ sizeLine) : wpAny (model prog w) A (getItem (.ref t) (.ref sl)) Q E s := by
  have htake : sizeOk (.seq items.reverse.toArray) := by
    show items.reverse.toArray.size ≤ sizeLine
    rw [List.size_toArray, List.length_reverse]
    exact hsz
  obtain ⟨os, hos, hcs, hds⟩ := id hs
  have hTs : s.TypeIs (.ref sl) "slice" := ⟨os, hos, hcs⟩
  unfold getItem
  try with_reducible refine wpAny_holding ?_
  first | refine wpAny_bind (wpAny_pure ?_) | skip
  refine wpAny_bind (wpAny_sequenceKey ht.typeIs (by decide) ?_)
  refine wpAny_bind (wpAny_callSpecial?_slot (name := Str.ofString "__getitem__") ht.typeIs PyProof.Rows.slot_tuple_getitem
    (wpAny_call_entry PyProof.Rows.slot_tuple_getitem ht.typeIs entry_tuple_getitem ?_ (args_tuple_getitem _ _)))
  show wpAny _ _ (Builtin.Tuple.tupleItemsOf (.ref t) >>= _) _ _ s
  refine wpAny_bind (tupleItemsOf_ ht ?_)
  refine wpAny_bind (wpAny_typeOf hTs ?_)
  rw [if_pos (by decide)]
  refine wpAny_bind (applied_rev hs pl pu ps ?_)
  have hno : ¬ (((((items.toArray.size : Nat) : Int) - 1 == 0) && ((-1 : Int) == 1) && (items.toArray.size == items.toArray.size)) = true) := by
    intro q
    rw [Bool.and_eq_true, Bool.and_eq_true] at q
    exact absurd q.1.2 (by decide)
  show wpAny _ _ (if ((((items.toArray.size : Nat) : Int) - 1 == 0) && ((-1 : Int) == 1) && (items.toArray.size == items.toArray.size)) = true then _ else _) _ _ s
  rw [if_neg hno]
  have hpick : ((List.range items.toArray.size).filterMap fun (k : Nat) => items.toArray[(((items.toArray.size : Nat) : Int) - 1 + (k : Int) * -1).toNat]?).toArray = items.reverse.toArray := by
    rw [List.size_toArray]
    congr 1
    have := pick_rev items items.length (Nat.le_refl _)
    rw [List.take_of_length_le (by simp)] at this
    simpa using this
  rw [hpick]
  first
    | exact wpAny_bind (m := Builtin.Tuple.tupleExact _) (wpAny_newObj_type (wpAny_pure ⟨_, rfl, wpAny_pure h⟩) htake)
    | exact wpAny_bind (m := Builtin.Tuple.tupleExact _) (wpAny_newObj_type (wpAny_bind (wpAny_pure (wpAny_pure ⟨_, rfl, wpAny_pure h⟩))) htake)
    | exact wpAny_bind (wpAny_bind (m := Builtin.Tuple.tupleExact _) (wpAny_newObj_type (wpAny_pure (wpAny_pure ⟨_, rfl, wpAny_pure h⟩)) htake))
    | exact wpAny_bind (wpAny_bind (m := Builtin.Tuple.tupleExact _) (wpAny_newObj_type (wpAny_pure ⟨_, rfl, wpAny_pure h⟩) htake))
end
section
variable {X : Cx} {E : XK}
def tRevT (K : PySem.W.Frag) (te : TE) : TE := fun σ H Q => te σ H fun x H1 => ∃ a xs, x = .ref a ∧ SqT K H1 a xs ∧ ∀ p, H1 p = none → Q (.ref p) (upd H1 p (.tup xs.reverse))
theorem pe_revT {e : Expr} {te : TE} {k : Nat} {p1 p2 p3 pos : Pos} (he : PE X e te) : PE X (.Subscript e (.Slice none none (some (.UnaryOp .USub (.Constant (.int 1) k p1) p2)) p3) pos) (tRevT X.K te) := by
  refine ⟨fun pins s σ H Q I h => ?_⟩
  refine Subscript_ (thn (he.run pins s σ H _ I h) fun v s1 ⟨x, H1, I1, r1, q1⟩ => ?_)
  obtain ⟨a, xs, ex, hx, q⟩ := q1
  subst ex
  cases r1
  have hst : PO X (some (.UnaryOp .USub (.Constant (.int 1) k p1) p2)) (tPart (tUn (rU fun i => .int (-i)) (tC (.int 1)))) := po_some (pe_un un_neg pe_int)
  refine wpAny_Slice (thn (po_none.run pins s1 σ H1 (fun o H2 => o = none ∧ H2 = H1) I1 ⟨rfl, rfl⟩) fun vl s2 ⟨l, H2, I2, pl, el, e2⟩ => ?_)
  subst el e2
  refine thn (po_none.run pins s2 σ H2 (fun o H3 => o = none ∧ H3 = H2) I2 ⟨rfl, rfl⟩) fun vu s3 ⟨u, H3, I3, pu, eu, e3⟩ => ?_
  subst eu e3
  refine thn (hst.run pins s3 σ H3 (fun o H4 => o = some (-1) ∧ H4 = H3) I3 ⟨1, rfl, -1, rfl, rfl, rfl⟩) fun vs s4 ⟨o, H4, I4, ps, eo, e4⟩ => ?_
  subst eo e4
  have I5 : Inv X pins σ H4 { s4 with heap := s4.heap.push { cls := .type "slice", data := .fields #[vl, vu, vs] } } := I4.kept (t' := s4.toks) fun b ob q => Heap.get?_push_of_some _ q
  obtain ⟨its, r, ht, hz⟩ := I5.tuple hx
  have hlen := r.length
  show wpAny (model X.prog X.w) X.A (subscriptTail e (.Slice none none (some (.UnaryOp .USub (.Constant (.int 1) k p1) p2)) p3) (.ref a) (.ref s4.heap.objs.size)) (EP X pins σ Q) X.xe { s4 with heap := s4.heap.push { cls := .type "slice", data := .fields #[vl, vu, vs] } }
  refine tail_any (ops := [.ref a, .ref s4.heap.objs.size]) ht.typeIs (PyProof.Rows.slot_tuple_getitem.lookup) ?_ (by with_unfolding_all rfl)
  refine getItem_tuple_rev ht (Heap.IsSliceOf.new _ vl vu vs) pl pu ps ?_ (by rw [← hlen]; exact hz)
  refine ⟨.ref _, _, I5.laid (t' := s4.toks) (o := .tup xs.reverse) (fun b ob q => Heap.get?_push_of_some _ q) (Nat.le_refl _) ?_, rfl, q _ (I5.hok.fresh (Nat.le_refl _))⟩
  exact ⟨by rw [List.length_reverse]; exact hz, _, r.reverse, IsTup.new _ _⟩
def fRevT : D → (D → Prop) → Prop
  | .tup xs, Q => Q (.tup xs.reverse)
  | _, _ => False
@[simp] theorem fRevT_1 (xs : List D) (Q : D → Prop) : fRevT (.tup xs) Q = Q (.tup xs.reverse) := rfl
theorem d_revT {e : Expr} {w : WE} {k : Nat} {p1 p2 p3 pos : Pos} (he : PE X e (tD X.K E w)) : PE X (.Subscript e (.Slice none none (some (.UnaryOp .USub (.Constant (.int 1) k p1) p2)) p3) pos) (tD X.K E (wUn fRevT w)) :=
  (pe_revT he).frz.imp fun σ H Q h => by
    obtain ⟨O, S, Γ, Qd, Ed, ws, m, w, k, ke⟩ := h
    refine ⟨O, S, Γ, _, Ed, ws, m, w, fun vx x S1 H1 q1 e1 w1 r1 => ?_, ke⟩
    cases r1 <;> first | exact (show False from q1).elim | skip
    rename_i a xs ds ha hxs
    exact ⟨a, xs, rfl, ha, new_tup w1 hxs.reverse q1 fun v d S' H' q e w' r => k v d S' H' q (e1.trans w1 e) w' r⟩
end
end PD

set_option Elab.async false
set_option linter.all false
set_option maxRecDepth 100000
set_option maxHeartbeats 1000000
namespace PD
open PySem PySem.Spec PyProof.Rows L2
/-! ### a cut between two statements -/
def wSeqC (a b : WS) : WS := fun N R E Γ => ∃ I : List Sl → Prop, a I R E Γ ∧ ∀ Γ', I Γ' → b N R E Γ'
theorem cutI {a b : WS} {N : List Sl → Prop} {R : D → Prop} {E : Ex} {Γ : List Sl} (I : List Sl → Prop) (h1 : a I R E Γ) (h2 : ∀ Γ', I Γ' → b N R E Γ') : wSeqC a b N R E Γ := ⟨I, h1, h2⟩
/-- an equation that simp leaves alone -/
def Is {α : Type} (a b : α) : Prop := a = b
section
variable {X : Cx} {E : XK} {pos : Pos}
theorem ss_cut {st : Stmt} {rest : List Stmt} {wa wb : WS} (ha : PS X st (tS X.K E wa)) (hb : PSs X rest (tS X.K E wb)) : PSs X (st :: rest) (tS X.K E (wSeqC wa wb)) := (pss_cons ha hb).imp fun Dn σ H h => by
  obtain ⟨S0, H0, S, Γ, N, R, Ed, st, ⟨I, w, wI⟩, kn, kr, ke⟩ := h
  exact ⟨S0, H0, S, Γ, I, R, Ed, st, w, fun σ' Γ' S' H' q st' sb => ⟨S0, H0, S', Γ', N, R, Ed, st', wI Γ' q, fun σ2 Γ2 S2 H2 q2 st2 sb2 => kn σ2 Γ2 S2 H2 q2 st2 (sb.trans sb2), kr, ke⟩, kr, ke⟩
end
end PD

set_option Elab.async false
set_option linter.all false
set_option maxRecDepth 100000
set_option maxHeartbeats 1000000
namespace PD
open PySem PySem.Spec PyProof.Rows L2
/-! ### comprehensions with two fors -/
theorem Mat.wr {K : PySem.W.Frag} {O S : As} {H : Hp} {σ : L2.St} {Γ : List Sl} {p : Addr} {xs ys : List V} (m : Mat K O S H σ Γ) (hO : ¬ O p) (h : H p = some (.lst xs)) : Mat K O S (upd H p (.lst ys)) σ Γ := by
  have sb : Stb S H S (upd H p (.lst ys)) := .wr h
  refine ⟨m.len, fun j sl hj => ?_, m.dist, m.dis2⟩
  have q := m.at_ j sl hj
  cases sl with
  | no => trivial
  | dat d =>
    obtain ⟨v, e1, r1⟩ := q
    exact ⟨v, e1, Rep.stb sb _ _ r1⟩
  | own es =>
    obtain ⟨b, us, e1, e2, n, r1⟩ := q
    have hne : b ≠ p := fun z => hO (by rw [← z]; exact n.2)
    exact ⟨b, us, e1, by rw [upd_ne hne]; exact e2, n, Reps.stb sb _ _ r1⟩
  | dic ks =>
    obtain ⟨b, e1, e2, n⟩ := q
    have hne : b ≠ p := fun z => hO (by rw [← z]; exact n.2)
    exact ⟨b, e1, by rw [upd_ne hne]; exact e2, n⟩
  | key k =>
    obtain ⟨b, e1, e2⟩ := q
    exact ⟨b, e1, sb.tup _ _ e2⟩
theorem Mat.less {K : PySem.W.Frag} {O O' S : As} {H : Hp} {σ : L2.St} {Γ : List Sl} (m : Mat K O S H σ Γ) (h : ∀ a o, O a → H a = some o → O' a) : Mat K O' S H σ Γ := by
  refine ⟨m.len, fun j sl hj => ?_, m.dist, m.dis2⟩
  have q := m.at_ j sl hj
  cases sl with
  | no => trivial
  | dat d => exact q
  | own es =>
    obtain ⟨b, us, e1, e2, n, r1⟩ := q
    exact ⟨b, us, e1, e2, ⟨n.1, h b _ n.2 e2⟩, r1⟩
  | dic ks =>
    obtain ⟨b, e1, e2, n⟩ := q
    exact ⟨b, e1, e2, ⟨n.1, h b _ n.2 e2⟩⟩
  | key k => exact q
def lcD1 (own : List Nat) (g : WG) (wt : WB) (we : WE) (Γ : List Sl) (acc0 : List D) (N : List D → Prop) (es : List D) : Prop := ∃ I : Nat → List D → Prop, I 0 acc0 ∧
  (∀ j acc e, es[j]? = some e → I j acc → g e (wipeG Γ own) fun Γ' => wt Γ' (fun b => if b = true then we Γ' (fun y => acc.length < 16000000 ∧ I (j + 1) (acc ++ [y])) Ev0 else I (j + 1) acc) Ev0) ∧ ∀ acc, I es.length acc → N acc
def lcD2 (own own1 : List Nat) (g : WG) (wt : WB) (wi1 : WA) (g1 : WG) (wt1 : WB) (we : WE) (Γ : List Sl) (Q : D → Prop) (ds : List D) : Prop := ∃ I : Nat → List D → Prop, I 0 [] ∧
  (∀ i acc d, ds[i]? = some d → I i acc → g d (wipeG Γ own) fun Γ' => wt Γ' (fun b => if b = true then wi1 Γ' (fun es => lcD1 own1 g1 wt1 we Γ' acc (I (i + 1)) es) Ev0 else I (i + 1) acc) Ev0) ∧ ∀ acc, I ds.length acc → Q (.lst acc)
@[simp] def wLc2 (own own1 : List Nat) (wi : WA) (g : WG) (wt : WB) (wi1 : WA) (g1 : WG) (wt1 : WB) (we : WE) : WE := fun Γ Q E => wi Γ (fun ds => lcD2 own own1 g wt wi1 g1 wt1 we Γ Q ds) E
/-- what a turn of the second for does: keeps or not, and gives -/
theorem lcD1_pure {own : List Nat} {g : WG} {wt : WB} {we : WE} {Γ : List Sl} {acc0 : List D} {N : List D → Prop} {es : List D} (p : D → Bool) (f : D → D) (hz : acc0.length + es.length < 16000000)
    (h : ∀ d ∈ es, ∀ (Qt : D → Prop) (Qf : Prop), (p d = true → Qt (f d)) → (p d = false → Qf) → g d (wipeG Γ own) fun Γ' => wt Γ' (fun b => if b = true then we Γ' Qt Ev0 else Qf) Ev0)
    (q : N (acc0 ++ (es.filter p).map f)) : lcD1 own g wt we Γ acc0 N es := by
  refine ⟨fun i acc => acc = acc0 ++ ((es.take i).filter p).map f, by simp, fun i acc d e ha => ?_, fun acc ha => ?_⟩
  · have hd : d ∈ es := List.mem_of_getElem? e
    have et : es.take (i + 1) = es.take i ++ [d] := by rw [List.take_add_one, e]; rfl
    have hl : acc.length < 16000000 := by
      rw [ha, List.length_append, List.length_map]
      have := List.length_filter_le p (es.take i)
      have h2 : (es.take i).length ≤ es.length := by rw [List.length_take]; omega
      omega
    refine h d hd _ _ (fun hp => ⟨hl, ?_⟩) (fun hp => ?_)
    · show acc ++ [f d] = acc0 ++ ((es.take (i + 1)).filter p).map f
      rw [ha, et, List.filter_append, List.map_append]
      simp [hp]
    · show acc = acc0 ++ ((es.take (i + 1)).filter p).map f
      rw [ha, et, List.filter_append, List.map_append]
      simp [hp]
  · rw [ha, List.take_length]
    exact q
section
variable {X : Cx} {E : XK} {pos : Pos}
theorem lc2_imp {K : PySem.W.Frag} {own own1 is is1 : List Nat} {wi wi1 : WA} {g g1 : WG} {wt wt1 : WB} {we : WE} {σ : L2.St} {H : Hp} {O S : As} {Γ : List Sl} {Ed : Ex} {Qd : D → Prop} {Q : VK} (ws : Ws S H) (m : Mat K O S H σ Γ)
    (w : wLc2 own own1 wi g wt wi1 g1 wt1 we Γ Qd Ed) (ke : kE E S H Ed) (his : ∀ i ∈ is, i ∈ own) (his1 : ∀ i ∈ is1, i ∈ own1)
    (k : ∀ D S1 H1 S2 H2 accv acc, Qd (.lst acc) → Ev S H S1 H1 → Ws S1 H1 → Ev S1 H1 S2 H2 → Ws S2 H2 → H1 D = none → H2 D = some (.lst accv) → ¬ S2 D → Reps K S2 H2 accv acc → Q (.ref D) H2) :
    tLc2 (tDI K E wi) (tDG K is g) (tDB K E0 wt) (tDI K E0 wi1) (tDG K is1 g1) (tDB K E0 wt1) (tD K E0 we) own own1 σ H Q := by
  refine ⟨O, S, Γ, _, Ed, ws, m, w, fun ds J S1 H1 q1 e1 w1 it => ?_, ke⟩
  intro Dl hD
  obtain ⟨I, h0, hs, hd⟩ := q1
  let O' : As := fun a => O a ∧ a ≠ Dl
  have hO' : ¬ O' Dl := fun z => z.2 rfl
  have m1 : Mat K O' S1 H1 σ Γ := (m.ev ws w1 e1).less fun a xs ha hx => ⟨ha, fun z => by rw [z, hD] at hx; cases hx⟩
  refine ⟨fun i n H2 => n = ds.length - i ∧ i ≤ ds.length ∧ ∃ S2 accv acc, Ev S1 H1 S2 H2 ∧ Ws S2 H2 ∧ H2 Dl = some (.lst accv) ∧ ¬ S2 Dl ∧ Reps K S2 H2 accv acc ∧ I i acc, ⟨ds.length, by simp, Nat.zero_le _, S1, [], [], .upd hD, w1.upd hD, upd_same, w1.at hD, .nil, h0⟩, ?_⟩
  rintro i n H2 ⟨rfl, hi, S2, accv, acc, e2, w2, hl, nS, ra, hI⟩
  obtain ⟨hstop, hgo⟩ := it S2 H2 (e2.stb w1) w2
  by_cases hlt : i < ds.length
  · obtain ⟨go, hy⟩ := hgo i hlt
    refine .inr ⟨go, fun H' => ∃ S2 accv acc, Ev S1 H1 S2 H' ∧ Ws S2 H' ∧ H' Dl = some (.lst accv) ∧ ¬ S2 Dl ∧ Reps K S2 H' accv acc ∧ I (i + 1) acc, fun H' h' => ⟨ds.length - (i + 1), by omega, rfl, hlt, h'⟩, fun x H3 y => ?_⟩
    obtain ⟨e3, w3, d, ed, rd⟩ := hy x H3 y
    have m3 : Mat K O' S2 H3 (wipe σ own) (wipeG Γ own) := ((m1.ev w1 w2 e2).ev w2 w3 e3).wipe own
    refine ⟨O', S2, _, d, _, w3, m3, rd, hs i acc d ed hI, fun σ4 Γ4 q4 m4 hw => ?_⟩
    refine ⟨(hw own his).trans wipe_wipe, ?_⟩
    have hl3 : H3 Dl = some (.lst accv) := e3.keep _ _ hl nS
    refine ⟨O', S2, Γ4, _, Ev0, w3, m4, q4, fun b S5 H5 q5 e5 w5 => ?_, kE.zero⟩
    have n5 : ¬ S5 Dl := fun z => by
      rcases e5.new _ z with y | y
      · exact nS y
      · rw [hl3] at y; cases y
    have hl5 : H5 Dl = some (.lst accv) := e5.keep _ _ hl3 nS
    have ev5 : Ev S1 H1 S5 H5 := e2.trans w2 (e3.trans w3 e5)
    have ra5 : Reps K S5 H5 accv acc := Reps.stb (e5.stb w3) _ _ (Reps.stb (e3.stb w2) _ _ ra)
    cases b with
    | false => exact ⟨S5, accv, acc, ev5, w5, hl5, n5, ra5, q5⟩
    | true =>
      refine ⟨O', S5, Γ4, _, Ev0, w5, m4.ev w3 w5 e5, q5, fun es J1 S6 H6 q6 e6 w6 it1 => ?_, kE.zero⟩
      have n6 : ¬ S6 Dl := fun z => by
        rcases e6.new _ z with y | y
        · exact n5 y
        · rw [hl5] at y; cases y
      have hl6 : H6 Dl = some (.lst accv) := e6.keep _ _ hl5 n5
      have ra6 : Reps K S6 H6 accv acc := Reps.stb (e6.stb w5) _ _ ra5
      have ev6 : Ev S1 H1 S6 H6 := ev5.trans w5 e6
      have m6 : Mat K O' S6 H6 σ4 Γ4 := (m4.ev w3 w5 e5).ev w5 w6 e6
      obtain ⟨I1, h10, h1s, h1d⟩ := q6
      refine ⟨fun j n H7 => n = es.length - j ∧ j ≤ es.length ∧ ∃ S7 accv acc, Ev S1 H1 S7 H7 ∧ Ws S7 H7 ∧ H7 Dl = some (.lst accv) ∧ ¬ S7 Dl ∧ Reps K S7 H7 accv acc ∧ I1 j acc ∧ Mat K O' S7 H7 σ4 Γ4 ∧ Stb S6 H6 S7 H7, ⟨es.length, by simp, Nat.zero_le _, S6, accv, acc, ev6, w6, hl6, n6, ra6, h10, m6, .refl⟩, ?_⟩
      rintro j n H7 ⟨rfl, hj, S7, accv7, acc7, ev7, w7, hl7, n7, ra7, hI7, m7, sb7⟩
      obtain ⟨hstop1, hgo1⟩ := it1 S7 H7 sb7 w7
      by_cases hlt1 : j < es.length
      · obtain ⟨go1, hy1⟩ := hgo1 j hlt1
        refine .inr ⟨go1, fun H7 => ∃ S7 accv acc, Ev S1 H1 S7 H7 ∧ Ws S7 H7 ∧ H7 Dl = some (.lst accv) ∧ ¬ S7 Dl ∧ Reps K S7 H7 accv acc ∧ I1 (j + 1) acc ∧ Mat K O' S7 H7 σ4 Γ4 ∧ Stb S6 H6 S7 H7, fun H' h' => ⟨es.length - (j + 1), by omega, rfl, hlt1, h'⟩, fun x H8 y => ?_⟩
        obtain ⟨e8, w8, e, ee, re⟩ := hy1 x H8 y
        have m8 := m7.ev w7 w8 e8
        have hl8 : H8 Dl = some (.lst accv7) := e8.keep _ _ hl7 n7
        refine ⟨O', S7, _, e, _, w8, m8.wipe own1, re, h1s j acc7 e ee hI7, fun σ9 Γ9 q9 m9 hw9 => ?_⟩
        refine ⟨(hw9 own1 his1).trans wipe_wipe, ?_⟩
        refine ⟨O', S7, Γ9, _, Ev0, w8, m9, q9, fun b S10 H10 q10 e10 w10 => ?_, kE.zero⟩
        have n10 : ¬ S10 Dl := fun z => by
          rcases e10.new _ z with y | y
          · exact n7 y
          · rw [hl8] at y; cases y
        have hl10 : H10 Dl = some (.lst accv7) := e10.keep _ _ hl8 n7
        have ev10 : Ev S1 H1 S10 H10 := ev7.trans w7 (e8.trans w8 e10)
        have ra10 : Reps K S10 H10 accv7 acc7 := Reps.stb (e10.stb w8) _ _ (Reps.stb (e8.stb w7) _ _ ra7)
        have m10 := m8.ev w8 w10 e10
        have sb10 : Stb S6 H6 S10 H10 := sb7.trans ((e8.stb w7).trans (e10.stb w8))
        cases b with
        | false => exact ⟨S10, accv7, acc7, ev10, w10, hl10, n10, ra10, q10, m10, sb10⟩
        | true =>
          refine ⟨O', S10, Γ9, _, Ev0, w10, m9.ev w8 w10 e10, q10, fun v yd S11 H11 q11 e11 w11 r11 => ?_, kE.zero⟩
          have n11 : ¬ S11 Dl := fun z => by
            rcases e11.new _ z with y | y
            · exact n10 y
            · rw [hl10] at y; cases y
          have hl11 : H11 Dl = some (.lst accv7) := e11.keep _ _ hl10 n10
          have ra11 : Reps K S11 H11 accv7 acc7 := Reps.stb (e11.stb w10) _ _ ra10
          have ev11 : Ev S1 H1 S11 H11 := ev10.trans w10 e11
          have st : Stb S11 H11 S11 (upd H11 Dl (.lst (accv7 ++ [v]))) := .wr hl11
          refine ⟨accv7, hl11, ?_, S11, accv7 ++ [v], acc7 ++ [yd], ⟨fun b o hb nb => ?_, ev11.src, ev11.new⟩, fun b hb => ?_, upd_same, n11, Reps.stb st _ _ (ra11.append (.cons r11 .nil)), q11.2, (m10.ev w10 w11 e11).wr hO' hl11, (sb10.trans (e11.stb w10)).trans st⟩
          · rw [ra11.length, sizeLine_eq]; have := q11.1; omega
          · rw [upd_ne (ne_of_none hb hD)]; exact ev11.keep b o hb nb
          · obtain ⟨o, e, q⟩ := w11 b hb
            exact ⟨o, by rw [upd_ne (fun z => n11 (by rw [← z]; exact hb))]; exact e, q⟩
      · have e : j = es.length := by omega
        subst e
        exact .inl ⟨hstop1, S7, accv7, acc7, ev7, w7, hl7, n7, ra7, h1d acc7 hI7⟩
  · have e : i = ds.length := by omega
    subst e
    exact .inl ⟨hstop, k Dl S1 H1 S2 H2 accv acc (hd acc hI) e1 w1 e2 w2 hD hl nS ra⟩
theorem d_lc2 {elt tg iter tg1 iter1 : Expr} {ifs ifs1 : List Expr} {scope : Scope} {own : List (Str × Nat)} (own1 : List Nat) {is is1 : List Nat} {wi wi1 : WA} {g g1 : WG} {wt wt1 : WB} {we : WE} (hc : X.calm = true) (hN : X.N.Nodup) (hi : PI X tg iter (tDI X.K E wi)) (ok : BlkOk X.N X.env.scope scope own)
    (hg : ∀ (s : Shared) (H : Hp) (C : Addr) (cl : List (Str × Addr)) (fp : List Addr), PG (X.blk s H scope (compEnvC scope cl C X.env) fp) tg (tDG X.K is g)) (ht : ∀ (s : Shared) (H : Hp) (C : Addr) (cl : List (Str × Addr)) (fp : List Addr), PTs (X.blk s H scope (compEnvC scope cl C X.env) fp) ifs (tDB X.K E0 wt))
    (hi1 : ∀ (s : Shared) (H : Hp) (C : Addr) (cl : List (Str × Addr)) (fp : List Addr), PI (X.blk s H scope (compEnvC scope cl C X.env) fp) tg1 iter1 (tDI X.K E0 wi1))
    (hg1 : ∀ (s : Shared) (H : Hp) (C : Addr) (cl : List (Str × Addr)) (fp : List Addr), PG (X.blk s H scope (compEnvC scope cl C X.env) fp) tg1 (tDG X.K is1 g1)) (ht1 : ∀ (s : Shared) (H : Hp) (C : Addr) (cl : List (Str × Addr)) (fp : List Addr), PTs (X.blk s H scope (compEnvC scope cl C X.env) fp) ifs1 (tDB X.K E0 wt1))
    (he : ∀ (s : Shared) (H : Hp) (C : Addr) (cl : List (Str × Addr)) (fp : List Addr), PE (X.blk s H scope (compEnvC scope cl C X.env) fp) elt (tD X.K E0 we)) (hv : ∀ i ∈ own1, i ∈ own.map (·.2) := by decide) (his : ∀ i ∈ is, i ∈ own.map (·.2) := by decide) (his1 : ∀ i ∈ is1, i ∈ own1 := by decide)
    (hs : ∀ x, foldedSetIterable iter X.env x = pure x := by intro _; rfl) (hs1 : ∀ env x, foldedSetIterable iter1 env x = pure x := by intro _ _; rfl) :
    PE X (.ListComp elt [⟨tg, iter, ifs, 0⟩, ⟨tg1, iter1, ifs1, 0⟩] scope pos) (tD X.K E (wLc2 (own.map (·.2)) own1 wi g wt wi1 g1 wt1 we)) :=
  (pe_lc2 hc hN hi ok hv hg ht hi1 hg1 ht1 he hs hs1).frz.imp fun σ H Q h => by
    obtain ⟨O, S, Γ, Qd, Ed, ws, m, w, k, ke⟩ := h
    refine lc2_imp ws m w ke his his1 fun Dl S1 H1 S2 H2 accv acc q e1 w1 e2 w2 hD hl nS ra => ?_
    refine .inr ⟨Dl, accv, rfl, hl, fun o => ?_⟩
    have ev : Ev S1 H1 S2 (upd H2 Dl (.frz o (.lst accv))) := Ev.frz hD hl w1 e2 nS
    have st : Stb S2 H2 S2 (upd H2 Dl (.frz o (.lst accv))) := .wr hl
    exact k _ _ S2 _ q (e1.trans w1 ev) (w2.frz nS) (.lst (.inl ⟨o, upd_same⟩) (Reps.stb st _ _ ra))
theorem s_setLc2 {i : Nat} {y : Str} {py : Pos} {elt tg iter tg1 iter1 : Expr} {ifs ifs1 : List Expr} {scope : Scope} {own : List (Str × Nat)} (own1 : List Nat) {is is1 : List Nat} {spos : Pos} {wi wi1 : WA} {g g1 : WG} {wt wt1 : WB} {we : WE} (hc : X.calm = true) (hN : X.N.Nodup) (hy : X.N[i]? = some y) (hyl : X.env.scope.names.lookup y = some .local)
    (hsw : swapsWith (.ListComp elt [⟨tg, iter, ifs, 0⟩, ⟨tg1, iter1, ifs1, 0⟩] scope pos) (some (.Name y py)) spos.line X.env = pure true) (hi : PI X tg iter (tDI X.K E wi)) (ok : BlkOk X.N X.env.scope scope own)
    (hg : ∀ (s : Shared) (H : Hp) (C : Addr) (cl : List (Str × Addr)) (fp : List Addr), PG (X.blk s H scope (compEnvC scope cl C X.env) fp) tg (tDG X.K is g)) (ht : ∀ (s : Shared) (H : Hp) (C : Addr) (cl : List (Str × Addr)) (fp : List Addr), PTs (X.blk s H scope (compEnvC scope cl C X.env) fp) ifs (tDB X.K E0 wt))
    (hi1 : ∀ (s : Shared) (H : Hp) (C : Addr) (cl : List (Str × Addr)) (fp : List Addr), PI (X.blk s H scope (compEnvC scope cl C X.env) fp) tg1 iter1 (tDI X.K E0 wi1))
    (hg1 : ∀ (s : Shared) (H : Hp) (C : Addr) (cl : List (Str × Addr)) (fp : List Addr), PG (X.blk s H scope (compEnvC scope cl C X.env) fp) tg1 (tDG X.K is1 g1)) (ht1 : ∀ (s : Shared) (H : Hp) (C : Addr) (cl : List (Str × Addr)) (fp : List Addr), PTs (X.blk s H scope (compEnvC scope cl C X.env) fp) ifs1 (tDB X.K E0 wt1))
    (he : ∀ (s : Shared) (H : Hp) (C : Addr) (cl : List (Str × Addr)) (fp : List Addr), PE (X.blk s H scope (compEnvC scope cl C X.env) fp) elt (tD X.K E0 we)) (hv : ∀ i ∈ own1, i ∈ own.map (·.2) := by decide) (his : ∀ i ∈ is, i ∈ own.map (·.2) := by decide) (his1 : ∀ i ∈ is1, i ∈ own1 := by decide)
    (hs : ∀ x, foldedSetIterable iter X.env x = pure x := by intro _; rfl) (hs1 : ∀ env x, foldedSetIterable iter1 env x = pure x := by intro _ _; rfl) :
    PS X (.Assign [.Name y py] (.ListComp elt [⟨tg, iter, ifs, 0⟩, ⟨tg1, iter1, ifs1, 0⟩] scope pos) spos) (tS X.K E (wAsg (wLc2 (own.map (·.2)) own1 wi g wt wi1 g1 wt1 we) (gN i))) :=
  (PS.frzNx (ps_setLc2 hc hN hy hyl hsw hi ok hv hg ht hi1 hg1 ht1 he hs hs1)).imp fun Dn σ H h => by
    obtain ⟨S0, H0, S, Γ, N, R, Ed, st, w, kn, kr, ke⟩ := h
    refine lc2_imp st.ws st.mat w (st.ke ke) his his1 fun Dl S1 H1 S2 H2 accv acc q e1 w1 e2 w2 hD hl nS ra => ?_
    refine .inr ⟨Dl, accv, hl, fun o => ?_⟩
    have ee : Ev S1 H1 S2 (upd H2 Dl (.frz o (.lst accv))) := Ev.frz hD hl w1 e2 nS
    have sb : Stb S2 H2 S2 (upd H2 Dl (.frz o (.lst accv))) := .wr hl
    have w3 := w2.frz (o := o) (xs := accv) nS
    have st' := st.next (e1.trans w1 ee) w3
    exact kn _ _ S2 _ q ⟨w3, st'.mat.setDat (.lst (.inl ⟨o, upd_same⟩) (Reps.stb sb _ _ ra)), st'.ev⟩ ((e1.trans w1 ee).stb st.ws)
end
end PD

set_option Elab.async false
set_option linter.all false
set_option maxRecDepth 100000
set_option maxHeartbeats 1000000
namespace PD
open PySem PySem.Spec PyProof.Rows L2
/-! ### enumerate of a tuple -/
theorem enum_new1 {v : Value} {o : Obj} {Hs : Heap → Prop} (B : Begins v o Hs) :
    Meets (Builtin.«enumerate.__new__» ⟨[.type "enumerate", v], []⟩) (fun _ R s => Hs s.heap ∧ R (.ok (.ret (.ref (s.heap.push o).objs.size)))
      { s with heap := (s.heap.push o).push { cls := .type "enumerate", data := .fields #[.none, .bool false, .ref s.heap.objs.size, rawInt 0, .none, .none] } }) :=
  .of_wp fun prog w A R s hh => by
    obtain ⟨hp, g, dd, tk, os⟩ := s
    obtain ⟨h1, hh⟩ := hh
    have hsub := sub_enumerate
    have it1 : ∀ {A' : Around} {E : Value → Shared → Prop} {Q : Value → Shared → Prop}, Q (.ref hp.objs.size) ⟨hp.push o, g, dd, tk, os⟩ → wpAny (model prog w) A' (pyIter v) Q E ⟨hp, g, dd, tk, os⟩ := fun qq => B.iter prog w _ _ ⟨hp, g, dd, tk, os⟩ _ h1 qq
    wp_walk using it1
    refine wpAny_stack_any fun _ => wpAny_pure ?_
    split
    · rename_i cc _ _ _ _ _
      cases (cc == Value.type "enumerate") <;> (wp_walk using it1; exact ⟨_, rfl, hh⟩)
    · wp_walk using it1
      exact ⟨_, rfl, hh⟩
section
variable {prog : Program} {w : World} {A : Around} {E : Value → Shared → Prop} {s : Shared}
theorem enum_tuple {l : Addr} {items : Array Value} {Q : Value → Shared → Prop} (hL : s.heap.IsTuple l items)
    (hq : ∀ h', IsEnum h' (s.heap.objs.size + 1) s.heap.objs.size 0 .none → h'.IsTupleIter s.heap.objs.size l 0 → (∀ b o, s.heap.get? b = some o → h'.get? b = some o) → Q (.ref (s.heap.objs.size + 1)) { s with heap := h' }) :
    wpAny (model prog w) A (call (.type "enumerate") [.ref l]) Q E s := by
  refine callType_new F.called_enumerate (by decide) (F.typeCall_enumerate_1 _) (F.newCall_enumerate_1 _) (fun obj => F.args_object_init_2 obj _) F.entry_enumerate_new (enum_new1 (begins_tuple l items)) ⟨hL, ?_⟩
  have hz : (s.heap.push { cls := .type "tuple_iterator", data := .fields #[.ref l, .int 0 0] }).objs.size = s.heap.objs.size + 1 := Heap.size_push ..
  show _ ∧ _
  rw [hz]
  have he : IsEnum ((s.heap.push { cls := .type "tuple_iterator", data := .fields #[.ref l, .int 0 0] }).push { cls := .type "enumerate", data := .fields #[.none, .bool false, .ref s.heap.objs.size, rawInt 0, .none, .none] }) (s.heap.objs.size + 1) s.heap.objs.size 0 .none := by
    have q := Heap.get?_push_size (s.heap.push { cls := .type "tuple_iterator", data := .fields #[.ref l, .int 0 0] }) (o := { cls := .type "enumerate", data := .fields #[.none, .bool false, .ref s.heap.objs.size, rawInt 0, .none, .none] }) rfl
    rw [hz] at q
    exact q
  exact ⟨⟨_, he, rfl⟩, hq _ he ⟨_, Heap.get?_push_of_some _ (Heap.get?_push_size _ rfl), rfl, rfl⟩ fun b o x => Heap.get?_push_of_some _ (Heap.get?_push_of_some _ x)⟩
end
/-- the tuple at a as it stands at each turn, each item in a new pair -/
def IteT (K : PySem.W.Frag) (a : Addr) : It where
  go i H := ∃ xs x, SqT K H a xs ∧ xs[i]? = some x
  yld i H v H' := ∃ T x, v = .ref T ∧ H T = none ∧ H' = upd H T (.tup [.int (i : Nat), x]) ∧ ∀ xs, SqT K H a xs → xs[i]? = some x
  stop i H := ∃ xs, SqT K H a xs ∧ xs.length ≤ i
theorem turn_enumT {P : Program} {w : World} {K : PySem.W.Frag} {elts : List Expr} {kk : Nat} {tpos : Pos} (a e it : Addr) :
    Turn P w K (.Tuple elts kk tpos) (IteT K a) [e, it] e (fun i h => (∃ old, IsEnum h e it ((i : Nat) : Int) old) ∧ h.IsTupleIter it a i ∧ e ≠ it ∧ a ≠ it ∧ e ≠ a) where
  mem := by simp
  obj := by
    rintro i h ⟨⟨old, he⟩, ⟨o, ho, hc, hd⟩, _⟩ b hb
    simp only [List.mem_cons, List.not_mem_nil, or_false] at hb
    rcases hb with rfl | rfl
    · exact ⟨_, he, fun v q => nomatch q⟩
    · exact ⟨o, ho, fun v q => by rw [hd] at q; cases q⟩
  keep := by
    rintro i h h' ⟨⟨old, he⟩, hi, hne⟩ k
    exact ⟨⟨old, k e (by simp) _ he⟩, hi.at fun o q => k it (by simp) o q, hne⟩
  item := by
    intro X hP hw hK hc i pins s σ H E I hf st hg
    subst hP hw hK
    obtain ⟨⟨old, he⟩, hit, hne, hai, hea⟩ := st
    obtain ⟨xs, x, hq, hx⟩ := hg
    obtain ⟨its, rv, p, hz⟩ := I.tuple hq
    obtain ⟨u, hu, ru⟩ := rv.get hx
    have pt : s.heap.IsTuple a its.toArray := p
    have hel : e < s.heap.objs.size := Heap.lt_size he
    have hil : it < s.heap.objs.size := by
      obtain ⟨_, q, _⟩ := hit
      exact Heap.lt_size q
    have hlt : i < its.toArray.size := by
      have := (List.getElem?_eq_some_iff.mp hu).1
      simpa using this
    refine wpAny_pyNext_enum_itemC (Draws.tuple (show X.A.in1.handled = none from I.ok.hd hc) it a hai its.toArray) he ⟨hit, pt⟩ hlt hne (by simp [hne, hea]) fun y h' tk hy ho hst hT hsz hk => ?_
    have hyu : y = u := by
      have : its.toArray[i]? = some u := by simpa using hu
      rw [this] at hy
      exact (Option.some.inj hy).symm
    subst hyu
    refine ⟨_, rfl, wpAny_letOwnedTupleGo_enum (s := { s with heap := h', toks := tk + 1 }) ho fun h'' he' sb => ?_⟩
    have hT2 : h''.get? s.heap.objs.size = some { cls := .type "tuple", data := .seq #[.int i tk, y] } := (sb.2 _ (Nat.ne_of_gt hel)).trans hT
    have new : ObjOk X.prog X.w (upd H s.heap.objs.size (.tup [.int (i : Nat), x])) h'' s.heap.objs.size (.tup [.int (i : Nat), x]) := ⟨by show 2 ≤ sizeLine; decide, [.int i tk, y], .cons ⟨_, rfl⟩ (.cons ru .nil), ⟨_, hT2, rfl, _, rfl⟩⟩
    have old' : ∀ b ob, ¬ b ∈ [e, it] → s.heap.get? b = some ob → h''.get? b = some ob := fun b ob hb q => by
      have h1 : b ≠ e := fun z => hb (by simp [z])
      have h2 : b ≠ it := fun z => hb (by simp [z])
      exact (sb.2 b h1).trans (hk b ob h1 h2 q)
    have I1 : Inv X pins σ (upd H s.heap.objs.size (.tup [.int (i : Nat), x])) { s with heap := h'', toks := tk + 1 } := I.turnedNew (ch := [e, it]) old' hf (Nat.le_refl _) new
    refine ⟨.ref s.heap.objs.size, _, I1, rfl, ⟨_, x, rfl, I.hok.fresh (Nat.le_refl _), rfl, fun ys hy2 => by rw [I.tuple_inj hy2 hq]; exact hx⟩, ⟨⟨y, ?_⟩, hst.1.at fun o q => (sb.2 it (Ne.symm hne)).trans q, hne, hai, hea⟩, fun b hb => ?_⟩
    · rw [show ((i + 1 : Nat) : Int) = (i : Int) + 1 by omega]
      exact he'
    · have hb' : b < s.heap.objs.size := by
        simp only [List.mem_cons, List.not_mem_nil, or_false] at hb
        rcases hb with rfl | rfl
        · exact hel
        · exact hil
      rw [upd_ne (Nat.ne_of_lt hb')]
      exact (hf b hb).1
  done := by
    intro X hP hw hK hc i pins s σ H E I hf st hg
    subst hP hw hK
    obtain ⟨⟨old, he⟩, hit, hne, hai, hea⟩ := st
    obtain ⟨xs, hq, hx⟩ := hg
    obtain ⟨its, rv, p, hz⟩ := I.tuple hq
    obtain ⟨f0, f1, f2, f3, f4, f5⟩ := hf it (by simp)
    have hl := rv.length
    have pt : s.heap.IsTuple a its.toArray := p
    have hT : s.TypeIs (.ref e) "enumerate" := ⟨_, he, rfl⟩
    unfold pyNext
    refine wpAny_bind (wpAny_attempt (wpAny_callSpecial?_slot (name := Str.ofString "__next__") hT F.slot_enumerate_next (wpAny_call_entry F.slot_enumerate_next hT F.entry_enumerate_next ?_ (F.args_enumerate_next_1 _))))
    show wpAny _ _ (field (.ref e) 2 >>= _) _ _ _
    refine wpAny_bind (wpAny_field he rfl (x := .ref it) rfl ?_)
    refine wpAny_bind (wpAny_nextOf_tuple_end (I.ok.hd hc) hit pt (by simp; omega) fun h' x he' hx' => ?_)
    obtain ⟨o, ho, hcl⟩ := hx'
    refine wpAny_bind (wpAny_isInstance (T := "StopIteration") (b := true) ⟨o, ho, hcl⟩ isSubtype_stop ?_)
    exact wpAny_pure ⟨rfl, I.turned (t' := s.toks) (fun b o hb q => he' b o hb q) f0 f1 f3 f4 f5⟩
  self := by
    rintro A i s Q E ⟨⟨_, he⟩, _⟩ h
    exact wpAny_pyIter_enum he h
def iEnum2 (K : PySem.W.Frag) (ta : TA) : TI := fun σ H R => ta σ H fun vs H1 => ∃ a xs, vs = [.ref a] ∧ SqT K H1 a xs ∧ R (IteT K a) H1
theorem pi_enumT {X : Cx} {e : Expr} {ta : TA} {p pos tpos : Pos} {elts : List Expr} {kk : Nat} (hg : Gl X "enumerate") (hm : X.mg "enumerate" = none) (ha : PA X [e] ta) (hs : starEach [e] X.env = [(false, eval e X.env)]) :
    PI X (.Tuple elts kk tpos) (.Call (.Name "enumerate" p) [e] [] pos) (iEnum2 X.K ta) := by
  refine ⟨fun pins s σ H R I h => ?_⟩
  refine Call_ (ld_blt I hg hm boot_enumerate (PyProof.Rows.callWith_type1 (thn (ha.run pos pins s σ H _ I h) fun us s1 ⟨vs, H1, I1, r1, q1⟩ => ?_) hs rfl))
  obtain ⟨a, xs, rfl, hq, q⟩ := q1
  cases r1 with
  | cons r rr =>
    cases rr
    cases r
    obtain ⟨its, rv, p', hz⟩ := I1.tuple hq
    have pt : s1.heap.IsTuple a its.toArray := p'
    refine enum_tuple pt fun h' he hit hk => wpAny_pyIter_enum he ?_
    have I2 : Inv X pins σ H1 { s1 with heap := h' } := I1.kept (t' := s1.toks) hk
    have hal : a < s1.heap.objs.size := by
      obtain ⟨_, z, _⟩ := pt
      exact Heap.lt_size z
    have a1 : a ≠ s1.heap.objs.size := Nat.ne_of_lt hal
    have a2 : s1.heap.objs.size + 1 ≠ a := fun z => absurd hal (by rw [← z]; exact Nat.not_lt.mpr (Nat.le_succ _))
    refine ⟨s1.heap.objs.size + 1, [s1.heap.objs.size + 1, s1.heap.objs.size], _, _, H1, rfl, I2, turn_enumT a (s1.heap.objs.size + 1) s1.heap.objs.size, ⟨⟨.none, he⟩, hit, Nat.succ_ne_self _, a1, a2⟩, fun b hb => ?_, q⟩
    have hle : s1.heap.objs.size ≤ b := by
      simp only [List.mem_cons, List.not_mem_nil, or_false] at hb
      rcases hb with rfl | rfl
      · exact Nat.le_succ _
      · exact Nat.le_refl _
    exact I1.fpOk hle (I1.hok.fresh hle)
theorem ItD.enumT {K : PySem.W.Frag} {S : As} {H : Hp} {a : Addr} {xs : List V} {ds : List D} (ha : SqT K H a xs) (r : Reps K S H xs ds) : ItD K (IteT K a) (enumD 0 ds) S H := fun S2 H2 st ws => by
  have h2 := SqT.stb st ha
  have r2 := Reps.stb st _ _ r
  have hl := r2.length
  rw [enumD_len]
  refine ⟨⟨xs, h2, by omega⟩, fun i hi => ⟨⟨xs, xs[i], h2, List.getElem?_eq_getElem (by omega)⟩, fun v H3 y => ?_⟩⟩
  obtain ⟨T, x, rfl, hT, rfl, hx⟩ := y
  obtain ⟨d, e3, r3⟩ := r2.getV (hx xs h2)
  have ev : Ev S2 H2 S2 (upd H2 T (.tup [.int (i : Nat), x])) := .upd hT
  exact ⟨ev, ws.upd hT, .tup [.int ((0 + i : Nat) : Int), d], by rw [enumD_get, e3]; rfl, .tup (SqT.of upd_same) (.cons (by rw [Nat.zero_add]; exact .int _) (.cons (Rep.stb (ev.stb ws) _ _ r3) .nil))⟩
def fEnumT : List D → (List D → Prop) → Prop
  | [.tup xs], Q => Q (enumD 0 xs)
  | _, _ => False
@[simp] theorem fEnumT_1 (xs : List D) (Q : List D → Prop) : fEnumT [.tup xs] Q = Q (enumD 0 xs) := rfl
@[simp] def wEnumT (w : WA) : WA := fun Γ Q E => w Γ (fun ds => fEnumT ds Q) E
theorem i_enumT {X : Cx} {E : XK} {p pos tpos : Pos} {elts : List Expr} {kk : Nat} {e : Expr} {w : WA} (hg : Gl X "enumerate") (hm : X.mg "enumerate" = none) (ha : PA X [e] (tDA X.K E w)) (hs : starEach [e] X.env = [(false, eval e X.env)] := by rfl) :
    PI X (.Tuple elts kk tpos) (.Call (.Name "enumerate" p) [e] [] pos) (tDI X.K E (wEnumT w)) :=
  (pi_enumT hg hm ha hs).imp fun σ H R h => by
    obtain ⟨O, S, Γ, Qd, Ed, ws, m, w, k, ke⟩ := h
    refine ⟨O, S, Γ, _, Ed, ws, m, w, fun vs ds S1 H1 q1 e1 w1 r1 => ?_, ke⟩
    unfold fEnumT at q1
    split at q1
    · obtain ⟨v, rfl, q⟩ := reps1 r1
      cases q with
      | tup ha hx => exact ⟨_, _, rfl, ha, k _ _ S1 H1 q1 e1 w1 (ItD.enumT ha hx)⟩
    · exact q1.elim
/-! ### an own list read by an expression that gives data without lists -/
mutual
def D.noL : D → Bool
  | .non => true
  | .bl _ => true
  | .int _ => true
  | .str _ => true
  | .tup xs => D.noLs xs
  | _ => false
def D.noLs : List D → Bool
  | [] => true
  | x :: xs => D.noL x && D.noLs xs
end
section
variable {K : PySem.W.Frag} {S S' : As} {H : Hp} {a : Addr} {o : Obj} {xs ys : List V}
theorem sqT_unl {b : Addr} {vs : List V} (ha : H a = some (.frz o (.lst ys))) (h : SqT K H b vs) : SqT K (upd H a (.lst xs)) b vs := by
  rcases h with (h | ⟨o', h⟩) | h
  · exact .inl (.inl (by rw [upd_ne (fun z => by rw [z, ha] at h; cases h)]; exact h))
  · exact .inl (.inr ⟨o', by rw [upd_ne (fun z => by rw [z, ha] at h; cases h)]; exact h⟩)
  · exact .inr h
mutual
theorem Rep.unl (ha : H a = some (.frz o (.lst ys))) : ∀ (d : D) (v : V), d.noL = true → Rep K S H v d → Rep K S' (upd H a (.lst xs)) v d
  | .non, _, _, h => by cases h; exact .non
  | .bl _, _, _, h => by cases h; exact .bl _
  | .int _, _, _, h => by cases h; exact .int _
  | .str _, _, _, h => by cases h; exact .str _
  | .tup ds, _, n, h => by cases h with | tup h r => exact .tup (sqT_unl ha h) (Reps.unl ha ds _ n r)
  | .lst _, _, n, _ => by cases n
  | .src, _, n, _ => by cases n
  | .ty _, _, n, _ => by cases n
  | .dct _, _, n, _ => by cases n
  | .exc _ _, _, n, _ => by cases n
theorem Reps.unl (ha : H a = some (.frz o (.lst ys))) : ∀ (ds : List D) (vs : List V), D.noLs ds = true → Reps K S H vs ds → Reps K S' (upd H a (.lst xs)) vs ds
  | [], _, _, h => by cases h; exact .nil
  | d :: ds, _, n, h => by
    have n' : (D.noL d && D.noLs ds) = true := n
    rw [Bool.and_eq_true] at n'
    cases h with | cons h r => exact .cons (Rep.unl ha d _ n'.1 h) (Reps.unl ha ds _ n'.2 r)
end
end
@[simp] def wLockT (i : Nat) (w : WE) : WE := fun Γ Q E => ∃ ds, Γ[i]? = some (.own ds) ∧ w (Γ.set i (.dat (.lst ds))) (fun d => d.noL = true ∧ Q d) Ev0
theorem d_lockT {X : Cx} {E : XK} (i : Nat) {e : Expr} {w : WE} (h : PE X e (tD X.K E0 w)) : PE X e (tD X.K E (wLockT i w)) := h.lockd.imp fun σ H Q h => by
  obtain ⟨O, S, Γ, Qd, Ed, ws, m, ⟨ds, hg, w⟩, k, ke⟩ := h
  obtain ⟨a, vs, e1, e2, ⟨n, f⟩, r⟩ := m.at_ i _ hg
  refine ⟨a, vs, e2, fun o => ⟨O, S, _, _, Ev0, ws.frz n, m.frzOwn hg e1 e2 r, w, fun v d S' H' q ev w' rv => ?_, .zero⟩⟩
  have hz : H' a = some (.frz o (.lst vs)) := ev.keep _ _ upd_same n
  have n' : ¬ S' a := fun z => by
    rcases ev.new _ z with y | y
    · exact n y
    · rw [upd_same] at y; cases y
  refine ⟨hz, k v d S' _ q.2 ⟨fun b x q z => ?_, ev.src, fun b z => ?_⟩ (fun b hb => ?_) (Rep.unl hz d v q.1 rv)⟩
  · by_cases y : b = a
    · subst y
      rw [upd_same]
      rw [e2] at q
      exact q
    · rw [upd_ne y]
      exact ev.keep _ _ (by rw [upd_ne y]; exact q) z
  · rcases ev.new b z with y | y
    · exact .inl y
    · by_cases hb : b = a
      · rw [hb, upd_same] at y; cases y
      · rw [upd_ne hb] at y; exact .inr y
  · obtain ⟨o2, e3, q3⟩ := w' b hb
    exact ⟨o2, by rw [upd_ne (fun z => n' (by rw [← z]; exact hb))]; exact e3, q3⟩
end PD

set_option Elab.async false
set_option linter.all false
set_option maxRecDepth 100000
set_option maxHeartbeats 1000000
namespace PD
open PySem PySem.Spec PyProof.Rows L2
section
variable {X : Cx} {E : XK} {pos : Pos}
/-! ### found.extend([..]) -/
@[simp] def wLcL (own : List Nat) (wi : WA) (g : WG) (wt : WB) (we : WE) : WA := fun Γ Q E => wLc own wi g wt we Γ (fun d => ∃ ds, d = .lst ds ∧ Q ds) E
theorem dl_lc {elt tg iter : Expr} {ifs : List Expr} {scope : Scope} {own : List (Str × Nat)} {is : List Nat} {wi : WA} {g : WG} {wt : WB} {we : WE} (hc : X.calm = true) (hN : X.N.Nodup) (hi : PI X tg iter (tDI X.K E wi)) (ok : BlkOk X.N X.env.scope scope own)
    (hg : ∀ (s : Shared) (H : Hp) (C : Addr) (cl : List (Str × Addr)) (fp : List Addr), PG (X.blk s H scope (compEnvC scope cl C X.env) fp) tg (tDG X.K is g)) (ht : ∀ (s : Shared) (H : Hp) (C : Addr) (cl : List (Str × Addr)) (fp : List Addr), PTs (X.blk s H scope (compEnvC scope cl C X.env) fp) ifs (tDB X.K E0 wt))
    (he : ∀ (s : Shared) (H : Hp) (C : Addr) (cl : List (Str × Addr)) (fp : List Addr), PE (X.blk s H scope (compEnvC scope cl C X.env) fp) elt (tD X.K E0 we)) (his : ∀ i ∈ is, i ∈ own.map (·.2) := by decide) (hs : ∀ x, foldedSetIterable iter X.env x = pure x := by intro _; rfl) :
    PE X (.ListComp elt [⟨tg, iter, ifs, 0⟩] scope pos) (tDL X.K E (wLcL (own.map (·.2)) wi g wt we)) :=
  (pe_lc hc hN hi ok hg ht he hs).imp fun σ H Q h => by
    obtain ⟨O, S, Γ, Qd, Ed, ws, m, w, k, ke⟩ := h
    refine lc_imp ws m w ke his fun Dl S1 H1 S2 H2 accv acc q e1 w1 e2 w2 hD hl nS ra => ?_
    obtain ⟨ds, e, q⟩ := q
    cases e
    exact k Dl accv acc S2 H2 q (e1.trans w1 e2) w2 (e1.free w1 hD) hl nS ra
@[simp] def wExt (i : Nat) (w : WA) : WS := fun N _ E Γ => ∃ ds, Γ[i]? = some (.own ds) ∧ w Γ (fun es => ds.length + es.length ≤ sizeLine ∧ N (Γ.set i (.own (ds ++ es)))) E
theorem s_ext (i : Nat) {x : Str} {p1 apos cpos : Pos} {e : Expr} {w : WA} (he : PE X e (tDL X.K E w)) (hN : X.N[i]? = some x := by rfl) (hv : Vis X.env.scope x := by first | exact Or.inl rfl | exact Or.inr (Or.inl rfl) | exact Or.inr (Or.inr rfl)) (hd : (x == ("__debug__" : Str)) = false := by decide)
    (hcd : (x == ("__classdict__" : Str)) = false := by decide)
    (hst : starEach (e :: []) X.env = (false, eval e X.env) :: starEach [] X.env := by rfl)
    (hbase : attributeBase (.Name x p1) "extend" X.env (eval (.Name x p1) X.env) = eval (.Name x p1) X.env := by rfl)
    (hfew : ((backTo cpos (starEach (e :: []) X.env)).all (fun x => !x.1) && (backToKw cpos (keywordEach [] X.env)).all (fun x => x.1.isSome)
      && decide ((e :: ([] : List Expr)).length + ([] : List Keyword).length + (if ([] : List Keyword).isEmpty then 0 else 1) < 30)) = true := by rfl)
    (hline : (apos.endLine == cpos.line) = true := by rfl) (hplain : (backTo cpos (starEach [] X.env)).any (·.1) = false := by rfl)
    (hs : swapsWith (.Call (.Attribute (.Name x p1) "extend" apos) [e] [] cpos) none pos.line X.env = pure false := by rfl) :
    PS X (.Expr (.Call (.Attribute (.Name x p1) "extend" apos) [e] [] cpos) pos) (tS X.K E (wExt i w)) :=
  (ps_expr (pe_bm PySem.F.plainAttrs_list PySem.F.slot_list_extend PySem.F.type_list_extend mt_extend (pv i hN hv hd hcd) (pa_cons he pa_nil hst) hbase hfew hline hst hplain) hs).imp fun Dn σ H h => by
    obtain ⟨S0, H0, S, Γ, N, R, Ed, st, ⟨ds, hg, w⟩, kn, kr, ke⟩ := h
    obtain ⟨a, vs, e1, e2, ⟨n, f⟩, r⟩ := st.mat.at_ i _ hg
    refine ⟨.ref a, e1, .inl ⟨rfl, vs, SqL.of e2⟩, ?_⟩
    refine ⟨_, S, Γ, _, Ed, st.ws, st.mat, w, fun p us es S' H' q e w' hp hl np rv => ?_, st.ke ke⟩
    have st' := st.next e w'
    have h2 : H' a = some (.lst vs) := e.keep _ _ e2 n
    have n' : ¬ S' a := fun z => by
      rcases e.new _ z with y | y
      · exact n y
      · rw [e2] at y; cases y
    have r' : Reps X.K S' H' vs ds := Reps.stb (e.stb st.ws) _ _ r
    obtain ⟨st2, sb⟩ := st'.wrOwn hg e1 h2 n' f (r'.append rv)
    refine ⟨a, p, vs, us, rfl, rfl, h2, hl, by rw [r'.length, rv.length]; exact q.1, ?_⟩
    exact kn _ _ S' _ q.2 st2 ((e.stb st.ws).trans sb)
/-! ### dicts of texts by texts that nobody changes -/
def fzD (Q : VK) : VK := fun v H => Q v H ∨ ∃ a kvs, v = .ref a ∧ H a = some (.dK kvs) ∧ ∀ o, Q v (upd H a (.frz o (.dK kvs)))
theorem _root_.L2.PE.frzD {X : Cx} {e : Expr} {t : TE} (h : PE X e t) : PE X e (fun σ H Q => t σ H (fzD Q)) := by
  refine ⟨fun pins s σ H Q I w => thn (h.run pins s σ H _ I w) fun u s1 hh => ?_⟩
  obtain ⟨v, H', I', r, q⟩ := hh
  rcases q with q | ⟨a, kvs, e1, e2, q⟩
  · exact ⟨v, H', I', r, q⟩
  · obtain ⟨od, I2⟩ := I'.lock e2 (show Mut (some (.dK kvs)) from trivial)
    exact ⟨v, _, I2, r, q od⟩
theorem new_dct {K : PySem.W.Frag} {S : As} {H : Hp} {kvs : List (Str × Str)} {Qd : D → Prop} {Q : VK} (ws : Ws S H) (q : Qd (.dct kvs)) (k : ∀ v d S' H', Qd d → Ev S H S' H' → Ws S' H' → Rep K S' H' v d → Q v H') : ∀ p, H p = none → fzD Q (.ref p) (upd H p (.dK (strKV kvs))) := fun p hp => by
  refine .inr ⟨p, _, rfl, upd_same, fun o => ?_⟩
  have ev : Ev S H S (upd (upd H p (.dK (strKV kvs))) p (.frz o (.dK (strKV kvs)))) := by rw [upd_upd]; exact .upd hp
  exact k _ _ S _ q ev (by rw [upd_upd]; exact ws.upd hp) (.dct (o := o) upd_same)
def strTrs (kvs : List (Str × Str)) : List (TE × TE) := kvs.map fun p => (tC (.str p.1), tC (.str p.2))
theorem pairs_str : ∀ (kvs : List (Str × Str)) (σ : L2.St) (H : Hp) (Q : List (V × V) → Hp → Prop), Q (kvs.map fun p => (V.str p.1, V.str p.2)) H → tPairs (strTrs kvs) σ H Q
  | [], _, _, _, h => h
  | p :: kvs, σ, H, Q, h => pairs_str kvs σ H (fun ps H3 => Q ((V.str p.1, V.str p.2) :: ps) H3) h
theorem d_disp {kvs : List (Str × Str)} {keys : List (Option Expr)} {values : List Expr} (h : PPs X pos keys values (strTrs kvs)) (hm : mergeK [] (strKV kvs) = strKV kvs) (hz : kvs.length ≤ 15) (hall : keys.all (·.isSome) = true := by rfl) (hl : keys.length = values.length := by rfl)
    (h0 : keys ≠ [] := by intro z; cases z) (h15 : keys.length ≤ 15 := by decide) : PE X (.Dict keys values pos) (tD X.K E (wC (.dct kvs))) := (pe_disp h hall hl h0 h15).frzD.imp fun σ H Q hh => by
  obtain ⟨O, S, Γ, Qd, Ed, ws, m, q, k, ke⟩ := hh
  intro p hp
  refine pairs_str kvs σ _ _ ⟨upd_same, strKV kvs, ?_, ?_, ?_⟩
  · unfold strKV
    rw [List.map_map]
    rfl
  · unfold strKV
    rw [List.length_map]
    exact hz
  · rw [hm, upd_upd]
    exact new_dct ws q k p hp
def strPr (p : Str × Str) : D := .tup [.str p.1, .str p.2]
theorem reps_prs {K : PySem.W.Frag} {S : As} {H : Hp} : ∀ {kvs : List (Str × Str)} {vs : List V}, Reps K S H vs (kvs.map strPr) → ∃ ps : List Addr, vs = ps.map V.ref ∧ Paired (fun p kv => SqT K H p [kV kv.1, kv.2]) ps (strKV kvs)
  | [], _, h => by cases h; exact ⟨[], rfl, .nil⟩
  | p :: kvs, _, h => by
    cases h with
    | cons h r =>
      obtain ⟨ps, rfl, hp⟩ := reps_prs r
      cases h with
      | tup ha hx =>
        rename_i a xs
        cases hx with
        | cons h1 hx =>
          cases hx with
          | cons h2 hx =>
            cases hx; cases h1; cases h2
            exact ⟨a :: ps, rfl, .cons ha hp⟩
def fDict : List D → (D → Prop) → Prop
  | [.lst xs], Q => ∃ kvs, xs = kvs.map strPr ∧ mergeK [] (strKV kvs) = strKV kvs ∧ Q (.dct kvs)
  | _, _ => False
@[simp] theorem fDict_1 (xs : List D) (Q : D → Prop) : fDict [.lst xs] Q = ∃ kvs, xs = kvs.map strPr ∧ mergeK [] (strKV kvs) = strKV kvs ∧ Q (.dct kvs) := rfl
theorem d_dict {x : Str} {p : Pos} {e : Expr} {w : WA} (hc : X.calm = true) (hg : Gl X x) (hm : X.mg x = none) (hv : bootBuiltins x = some (.type "dict")) (ha : PA X [e] (tDA X.K E w))
    (hn : x ≠ "__name__" := by decide) (hdb : (x == ("__debug__" : Str)) = false := by decide) (he : starEach [e] X.env = (false, eval e X.env) :: starEach [] X.env := by rfl) (hpl : (backTo pos (starEach [] X.env)).any (·.1) = false := by rfl) :
    PE X (.Call (.Name x p) [e] [] pos) (tD X.K E (wCB fDict w)) := (pe_callTy (call_dictP hc) hg hm hv ha hn hdb he hpl).frzD.imp fun σ H Q h => by
  obtain ⟨O, S, Γ, Qd, Ed, ws, m, w, k, ke⟩ := h
  refine ⟨O, S, Γ, _, Ed, ws, m, w, fun vs ds S1 H1 q1 e1 w1 r1 => ?_, ke⟩
  unfold fDict at q1
  split at q1
  · obtain ⟨v, rfl, q⟩ := reps1 r1
    obtain ⟨kvs, rfl, hmg, qd⟩ := q1
    cases q with
    | lst ha hx =>
      obtain ⟨ps, rfl, hp⟩ := reps_prs hx
      refine ⟨_, ps, _, rfl, ha.sq, hp, fun p hp => ?_⟩
      rw [hmg]
      exact new_dct w1 qd (fun v d S' H' q e w' r => k v d S' H' q (e1.trans w1 e) w' r) p hp
  · exact q1.elim
theorem valV_str (z : Str) : ∀ kvs : List (Str × Str), valV (strKV kvs) (.inr z) = (kvs.lookup z).map V.str
  | [] => rfl
  | (k, s) :: kvs => by
    show valV ((Sum.inr k, V.str s) :: strKV kvs) (.inr z) = _
    rw [List.lookup_cons]
    by_cases h : z = k
    · subst h
      rw [valV_pos rfl]
      simp
    · rw [valV_neg (fun e => h (Sum.inr.inj e).symm), valV_str z kvs]
      have : (z == k) = false := by simpa using h
      rw [this]
def look2 (kvs : List (Str × Str)) (z : Str) (y : D) : D := match kvs.lookup z with
  | some s => .str s
  | none => y
def fDGet (i : D) (z y : D) (Q : D → Prop) : Prop := match i, z with
  | .dct kvs, .str z => Q (look2 kvs z y)
  | _, _ => False
@[simp] theorem fDGet_1 (kvs : List (Str × Str)) (z : Str) (y : D) (Q : D → Prop) : fDGet (.dct kvs) (.str z) y Q = Q (look2 kvs z y) := rfl
@[simp] def wDGet (i : Nat) (we wf : WE) : WE := fun Γ Q E => ∃ kvs, Γ[i]? = some (.dat (.dct kvs)) ∧ we Γ (fun z => wf Γ (fun y => fDGet (.dct kvs) z y Q) E) E
theorem d_dget (i : Nat) {e f : Expr} {x : Str} {p apos : Pos} {we wf : WE} (hu : X.A.units + 1 < cLine) (he : PE X e (tD X.K E we)) (hf : PE X f (tD X.K E wf)) (m : M2 X (.Name x p) "get" apos e f pos) (hN : X.N[i]? = some x := by rfl) (hv : Vis X.env.scope x := by first | exact Or.inl rfl | exact Or.inr (Or.inl rfl) | exact Or.inr (Or.inr rfl)) (hd : (x == ("__debug__" : Str)) = false := by decide)
    (hcd : (x == ("__classdict__" : Str)) = false := by decide) : PE X (.Call (.Attribute (.Name x p) "get" apos) [e, f] [] pos) (tD X.K E (wDGet i we wf)) := (pe_dget2 hu (pv i hN hv hd hcd) he hf m).imp fun σ H Q h => by
  obtain ⟨O, S, Γ, Qd, Ed, ws, mt, ⟨kvs, hg, w⟩, k, ke⟩ := h
  obtain ⟨v, e1, r⟩ := mt.at_ i _ hg
  cases r with
  | dct ha =>
    rename_i a o
    refine ⟨.ref a, e1, a, rfl, .inl ⟨_, .inr ⟨o, ha⟩⟩, ?_⟩
    refine ⟨O, S, Γ, _, Ed, ws, mt, w, fun vz z S1 H1 q1 ev1 w1 r1 => ?_, ke⟩
    refine ⟨O, S1, Γ, _, Ed, w1, mt.ev ws w1 ev1, q1, fun vy y S2 H2 q2 ev2 w2 r2 => ?_, ke.ev w1 ev1⟩
    have ee := ev1.trans w1 ev2
    have ha2 := (ee.stb ws).frz _ _ _ ha
    have r1' := Rep.stb (ev2.stb w1) _ _ r1
    cases z <;> first | exact (show False from q2).elim | skip
    rename_i z
    cases r1'
    refine ⟨valV (strKV kvs) (.inr z), .inl ⟨_, .inr z, .inr ⟨o, ha2⟩, rfl, rfl⟩, ?_⟩
    rw [valV_str]
    have q3 : Qd (look2 kvs z y) := q2
    unfold look2 at q3
    cases hk : kvs.lookup z with
    | some s =>
      rw [hk] at q3
      exact k _ _ S2 H2 q3 ee w2 (.str s)
    | none =>
      rw [hk] at q3
      exact k _ _ S2 H2 q3 ee w2 r2
end
theorem hu1 {k : Nat} {A : Around} (hr : Room k A) : A.units + 1 < cLine := by
  have := hr.units
  omega
end PD

set_option Elab.async false
set_option linter.all false
set_option maxRecDepth 100000
set_option maxHeartbeats 1000000
namespace PD
open PySem PySem.Spec PyProof.Rows L2
section
variable {X : Cx} {E : XK} {pos : Pos}
/-! ### two names at once, one of them a new list of one's own -/
@[simp] def wParL (i j : Nat) (wl : WA) (we : WE) : WS := fun N _ E Γ => wl Γ (fun ds => we Γ (fun d => N ((Γ.set i (.own ds)).set j (.dat d))) E) E
@[simp] def wParR (i j : Nat) (we : WE) (wl : WA) : WS := fun N _ E Γ => we Γ (fun d => wl Γ (fun ds => N ((Γ.set i (.dat d)).set j (.own ds))) E) E
theorem s_parL {i j : Nat} {x y : Str} {a b : Expr} {wl : WA} {we : WE} {px py pt : Pos} {kt k2 pt2} (hc : X.calm = true) (hN : X.N.Nodup) (hi : X.N[i]? = some x) (hj : X.N[j]? = some y) (hij : i ≠ j)
    (hx : X.env.scope.names.lookup x = some .local) (hy : X.env.scope.names.lookup y = some .local) (ha : PE X a (tDL X.K E wl)) (hb : PE X b (tD X.K E we))
    (hw : swappedStores [.Tuple [.Name x px, .Name y py] kt pt] (.Tuple [a, b] k2 pt2) X.env = pure (some [x, y]))
    (hst : starEach [a, b] X.env = (false, eval a X.env) :: starEach [b] X.env := by rfl) (hst2 : starEach [b] X.env = (false, eval b X.env) :: starEach [] X.env := by rfl)
    (hs : swapsWithSole [.Tuple [.Name x px, .Name y py] kt pt] (.Tuple [a, b] k2 pt2) pos.line X.env = pure false := by rfl) :
    PS X (.Assign [.Tuple [.Name x px, .Name y py] kt pt] (.Tuple [a, b] k2 pt2) pos) (tS X.K E (wParL i j wl we)) := (ps_par hc hN hi hj hij hx hy (pa_cons ha (pa_cons hb pa_nil hst2) hst) hw hs).imp fun Dn σ H h => by
  obtain ⟨S0, H0, S, Γ, N, R, Ed, st, w, kn, kr, ke⟩ := h
  refine ⟨_, S, Γ, _, Ed, st.ws, st.mat, w, fun p vs ds S1 H1 q1 e1 w1 hp hl ns r => ?_, st.ke ke⟩
  refine ⟨_, S1, Γ, _, Ed, w1, st.mat.ev st.ws w1 e1, q1, fun v d S2 H2 q2 e2 w2 rv => ?_, (st.ke ke).ev w1 e1⟩
  have h2 : H2 p = some (.lst vs) := e2.keep _ _ hl ns
  have n2 : ¬ S2 p := fun z => by
    rcases e2.new _ z with y | y
    · exact ns y
    · rw [hl] at y
      exact absurd y (by simp)
  have e := e1.trans w1 e2
  have r2 := Reps.stb (e2.stb w1) _ _ r
  exact ⟨_, _, rfl, kn _ _ S2 H2 q2 ⟨w2, (Mat.setOwn st.ws w2 st.mat e hp h2 n2 (st.ev.free st.ws hp) r2).setDat rv, st.ev.trans st.ws e⟩ (e.stb st.ws)⟩
theorem s_parR {i j : Nat} {x y : Str} {a b : Expr} {wl : WA} {we : WE} {px py pt : Pos} {kt k2 pt2} (hc : X.calm = true) (hN : X.N.Nodup) (hi : X.N[i]? = some x) (hj : X.N[j]? = some y) (hij : i ≠ j)
    (hx : X.env.scope.names.lookup x = some .local) (hy : X.env.scope.names.lookup y = some .local) (ha : PE X a (tD X.K E we)) (hb : PE X b (tDL X.K E wl))
    (hw : swappedStores [.Tuple [.Name x px, .Name y py] kt pt] (.Tuple [a, b] k2 pt2) X.env = pure (some [x, y]))
    (hst : starEach [a, b] X.env = (false, eval a X.env) :: starEach [b] X.env := by rfl) (hst2 : starEach [b] X.env = (false, eval b X.env) :: starEach [] X.env := by rfl)
    (hs : swapsWithSole [.Tuple [.Name x px, .Name y py] kt pt] (.Tuple [a, b] k2 pt2) pos.line X.env = pure false := by rfl) :
    PS X (.Assign [.Tuple [.Name x px, .Name y py] kt pt] (.Tuple [a, b] k2 pt2) pos) (tS X.K E (wParR i j we wl)) := (ps_par hc hN hi hj hij hx hy (pa_cons ha (pa_cons hb pa_nil hst2) hst) hw hs).imp fun Dn σ H h => by
  obtain ⟨S0, H0, S, Γ, N, R, Ed, st, w, kn, kr, ke⟩ := h
  refine ⟨_, S, Γ, _, Ed, st.ws, st.mat, w, fun v d S1 H1 q1 e1 w1 rv => ?_, st.ke ke⟩
  refine ⟨_, S1, Γ, _, Ed, w1, st.mat.ev st.ws w1 e1, q1, fun p vs ds S2 H2 q2 e2 w2 hp hl ns r => ?_, (st.ke ke).ev w1 e1⟩
  have e := e1.trans w1 e2
  have m1 := (st.mat.ev st.ws w1 e1).setDat (i := i) rv
  exact ⟨_, _, rfl, kn _ _ S2 H2 q2 ⟨w2, Mat.setOwn w1 w2 m1 e2 hp hl ns (st.ev.free st.ws (e1.free w1 hp)) r, st.ev.trans st.ws e⟩ (e.stb st.ws)⟩
end
end PD

set_option Elab.async false
set_option linter.all false
set_option maxRecDepth 100000
set_option maxHeartbeats 1000000
namespace PD
open PySem PySem.Spec PyProof.Rows L2
/-! ### zip of a tuple and a list -/
theorem zipSep {z TI TO i1 i2 a b : Addr} (D : ZipApart z TI TO i1 i2 a b) (h1 : a ≠ z) (h2 : a ≠ TO) (h3 : b ≠ z) (h4 : b ≠ TO) (h5 : b ≠ i1) (h6 : a ≠ i2) : ZipSep2 z TI TO i1 i2 [i1, a] [i2, b] where
  TIz := D.TIz
  TOz := D.TOz
  TITO := D.TITO
  TIi1 := D.TIi1
  mem1 := by simp
  zf1 := by simp [D.i1z.symm, Ne.symm h1]
  Tf1 := by simp [D.TOi1, Ne.symm h2]
  TIi2 := D.TIi2
  mem2 := by simp
  zf2 := by simp [D.i2z.symm, Ne.symm h3]
  Tf2 := by simp [D.TOi2, Ne.symm h4]
  sep1_2 := by simp [D.i12, Ne.symm h5]
  sep2_1 := by simp [D.i12.symm, Ne.symm h6]
/-- the tuple at a and the list at b as they stand at each turn, the items in new pairs -/
def ItzM (K : PySem.W.Frag) (a b : Addr) : It :=
  ⟨fun i H => ∃ (xs ys : List V) (x y : V), SqT K H a xs ∧ SqL K H b ys ∧ xs[i]? = some x ∧ ys[i]? = some y,
    fun i H v H' => ∃ T x y, v = .ref T ∧ H T = none ∧ H' = upd H T (.tup [x, y]) ∧ (∀ xs, SqT K H a xs → xs[i]? = some x) ∧ ∀ ys, SqL K H b ys → ys[i]? = some y,
    fun i H => ∃ xs ys : List V, SqT K H a xs ∧ SqL K H b ys ∧ (xs.length ≤ i ∨ ys.length ≤ i) ∧ i ≤ xs.length ∧ i ≤ ys.length⟩
theorem turn_zipM {P : Program} {w : World} {K : PySem.W.Frag} {elts : List Expr} {kk : Nat} {tpos : Pos} {a b z TI TO i1 i2 : Addr} (D : ZipApart z TI TO i1 i2 a b) (S : ZipSep2 z TI TO i1 i2 [i1, a] [i2, b]) (ha : a ≠ i1) (hb : b ≠ i2) :
    Turn P w K (.Tuple elts kk tpos) (ItzM K a b) [z, TI, TO, i1, i2] z (fun i h => IsZip h z TI TO .none ∧ IsPair h TI (.ref i1) (.ref i2) ∧ (∃ x y, IsPair h TO x y) ∧ h.IsTupleIter i1 a i ∧ h.IsListIter i2 b i) where
  mem := by simp
  obj := fun i h st c hc => by
    obtain ⟨hz, hTI, ⟨x, y, hTO⟩, ⟨o1, e1, _, d1⟩, ⟨o2, e2, _, d2⟩⟩ := st
    have e' : c = z ∨ c = TI ∨ c = TO ∨ c = i1 ∨ c = i2 := by simpa using hc
    rcases e' with q | q | q | q | q
    · rw [q]; exact ⟨_, hz, fun v q => nomatch q⟩
    · rw [q]; exact ⟨_, hTI, fun v q => nomatch q⟩
    · rw [q]; exact ⟨_, hTO, fun v q => nomatch q⟩
    · rw [q]; exact ⟨o1, e1, fun v q => by rw [d1] at q; cases q⟩
    · rw [q]; exact ⟨o2, e2, fun v q => by rw [d2] at q; cases q⟩
  keep := fun i h h' st k => by
    obtain ⟨hz, hTI, ⟨x, y, hTO⟩, h1, h2⟩ := st
    exact ⟨k z (by simp) _ hz, k TI (by simp) _ hTI, ⟨x, y, k TO (by simp) _ hTO⟩, h1.at fun o q => k i1 (by simp) o q, h2.at fun o q => k i2 (by simp) o q⟩
  item := by
    intro X hP hw hK hc i pins s σ H E I hf st hg
    subst hP hw hK
    obtain ⟨hz, hTI, ⟨x0, y0, hTO⟩, h1, h2⟩ := st
    obtain ⟨xs, ys, x, y, hqx, hqy, hx, hy⟩ := hg
    obtain ⟨its, rv, p, _⟩ := I.tuple hqx
    obtain ⟨its2, rv2, p2, _⟩ := I.list hqy
    obtain ⟨u, hu, ru⟩ := rv.get hx
    obtain ⟨u2, hu2, ru2⟩ := rv2.get hy
    have hzl : z < s.heap.objs.size := Heap.lt_size hz
    have pt : s.heap.IsTuple a its.toArray := p
    have hlt : i < its.toArray.size := by simpa using (List.getElem?_eq_some_iff.mp hu).1
    have hlt2 : i < its2.toArray.size := by simpa using (List.getElem?_eq_some_iff.mp hu2).1
    refine wpAny_pyNext_zipD2_item S (Draws.tuple (show X.A.in1.handled = none from I.ok.hd hc) i1 a ha its.toArray) (Draws.list (show X.A.in1.handled = none from I.ok.hd hc) i2 b hb its2.toArray) hz hTI hTO ⟨h1, pt⟩ ⟨h2, p2.isList⟩ hlt hlt2 fun x1 x2 h' tk y1 y2 z' TO' s1' s2' hT hsz hk => ?_
    obtain rfl : x1 = u := by
      have : its.toArray[i]? = some u := by simpa using hu
      exact Option.some.inj (y1.symm.trans this)
    obtain rfl : x2 = u2 := by
      have : its2.toArray[i]? = some u2 := by simpa using hu2
      exact Option.some.inj (y2.symm.trans this)
    obtain ⟨h1', _⟩ := s1'
    obtain ⟨h2', _⟩ := s2'
    refine ⟨_, rfl, wpAny_letOwnedTupleGo_zip (s := { s with heap := h', toks := tk }) z' fun h'' z'' sb => ?_⟩
    have hT2 : h''.get? s.heap.objs.size = some { cls := .type "tuple", data := .seq #[x1, x2] } := (sb.2 _ (Nat.ne_of_gt hzl)).trans hT
    have new : ObjOk X.prog X.w (upd H s.heap.objs.size (.tup [x, y])) h'' s.heap.objs.size (.tup [x, y]) :=
      ⟨by show 2 ≤ sizeLine; decide, [x1, x2], .cons ru (.cons ru2 .nil), ⟨_, hT2, rfl, _, rfl⟩⟩
    have I1 : Inv X pins σ (upd H s.heap.objs.size (.tup [x, y])) { s with heap := h'', toks := tk } :=
      I.turnedNew (ch := [z, TI, TO, i1, i2]) (fun c o hb q => (sb.2 c (fun q' => hb (by simp [q']))).trans (hk c o (fun q' => hb (by simp [q'])) (fun q' => hb (by simp [q'])) (fun q' => hb (by simp [q'])) (fun q' => hb (by simp [q'])) q)) hf (Nat.le_refl _) new
    refine ⟨.ref s.heap.objs.size, _, I1, rfl, ⟨_, x, y, rfl, I.hok.fresh (Nat.le_refl _), rfl, fun l hl => by rw [I.tuple_inj hl hqx]; exact hx, fun l hl => by rw [I.list_inj hl hqy]; exact hy⟩, ⟨z'', ?_, ⟨x1, x2, ?_⟩, ?_, ?_⟩, fun c hcm => ?_⟩
    · exact (sb.2 _ D.TIz).trans (hk _ _ D.TIz D.TITO D.TIi1 D.TIi2 hTI)
    · exact (sb.2 _ D.TOz).trans TO'
    · exact h1'.at fun o q => (sb.2 _ D.i1z).trans q
    · exact h2'.at fun o q => (sb.2 _ D.i2z).trans q
    · have hlt : c < s.heap.objs.size := by
        have e' : c = z ∨ c = TI ∨ c = TO ∨ c = i1 ∨ c = i2 := by simpa using hcm
        rcases e' with q | q | q | q | q
        · rw [q]; exact hzl
        · rw [q]; exact Heap.lt_size hTI
        · rw [q]; exact Heap.lt_size hTO
        · rw [q]; obtain ⟨_, e1, _⟩ := h1; exact Heap.lt_size e1
        · rw [q]; obtain ⟨_, e2, _⟩ := h2; exact Heap.lt_size e2
      rw [upd_ne (Nat.ne_of_lt hlt)]
      exact (hf c hcm).1
  done := by
    intro X hP hw hK hc i pins s σ H E I hf st hg
    subst hP hw hK
    obtain ⟨hz, hTI, ⟨x0, y0, hTO⟩, h1, h2⟩ := st
    obtain ⟨xs, ys, hqx, hqy, hend, hle1, hle2⟩ := hg
    obtain ⟨its, rv, p, _⟩ := I.tuple hqx
    obtain ⟨its2, rv2, p2, _⟩ := I.list hqy
    have l1 := rv.length
    have l2 := rv2.length
    have pt : s.heap.IsTuple a its.toArray := p
    refine wpAny_pyNext_zipD2_end S (Draws.tuple (show X.A.in1.handled = none from I.ok.hd hc) i1 a ha its.toArray) (Draws.list (show X.A.in1.handled = none from I.ok.hd hc) i2 b hb its2.toArray) hz hTI hTO ⟨h1, pt⟩ ⟨h2, p2.isList⟩ (by simp; omega) (by simp; omega) (by simp; omega) fun h' tk hk => ⟨rfl, I.turnedL (t' := tk) (ch := [z, TI, TO, i1, i2]) (fun c o hb q =>
      hk c o (fun q' => hb (by simp [q'])) (fun q' => hb (by simp [q'])) (fun q' => hb (by simp [q'])) (fun q' => hb (by simp [q'])) q) hf⟩
  self := fun A i s Q E st h => wpAny_pyIter_zip st.1 h
def iZipM (K : PySem.W.Frag) (ta : TA) : TI := fun σ H R => ta σ H fun vs H1 => ∃ a b xs ys, vs = [.ref a, .ref b] ∧ (SqT K H1 a xs ∧ SqL K H1 b ys ∧ R (ItzM K a b) H1)
theorem pi_zipM {X : Cx} {e e2 : Expr} {ta : TA} {p pos tpos : Pos} {elts : List Expr} {kk : Nat} (hg : Gl X "zip") (hm : X.mg "zip" = none) (ha : PA X [e, e2] ta)
    (hs : starEach [e, e2] X.env = (false, eval e X.env) :: starEach [e2] X.env := by rfl) (hpl : (backTo pos (starEach [e2] X.env)).any (·.1) = false := by rfl) :
    PI X (.Tuple elts kk tpos) (.Call (.Name "zip" p) [e, e2] [] pos) (iZipM X.K ta) := by
  refine ⟨fun pins s σ H R I h => ?_⟩
  refine Call_ (ld_blt I hg hm PyProof.Rows.boot_zip (PyProof.Rows.callWith_type1 (thn (ha.run pos pins s σ H _ I h) fun us s1 ⟨vs, H1, I1, r1, q1⟩ => ?_) hs hpl))
  obtain ⟨a, b, xs, ys, ex, q1⟩ := q1
  subst ex
  cases r1 with
  | cons r rr =>
    cases rr with
    | cons r' rr =>
      cases rr
      cases r
      cases r'
      have fresh5 : ∀ c, c ∈ [s1.heap.objs.size + 4, s1.heap.objs.size + 2, s1.heap.objs.size + 3, s1.heap.objs.size, s1.heap.objs.size + 1] → FpOk X pins H1 c := fun c hcm => by
        have e' : c = s1.heap.objs.size + 4 ∨ c = s1.heap.objs.size + 2 ∨ c = s1.heap.objs.size + 3 ∨ c = s1.heap.objs.size ∨ c = s1.heap.objs.size + 1 := by simpa using hcm
        have hle : s1.heap.objs.size ≤ c := by
          rcases e' with z | z | z | z | z
          · rw [z]; exact Nat.le_add_right _ _
          · rw [z]; exact Nat.le_add_right _ _
          · rw [z]; exact Nat.le_add_right _ _
          · rw [z]; exact Nat.le_refl _
          · rw [z]; exact Nat.le_add_right _ _
        exact I1.fpOk hle (I1.hok.fresh hle)
      obtain ⟨hqx, hqy, q⟩ := q1
      obtain ⟨its, rv, p1, _⟩ := I1.tuple hqx
      obtain ⟨its2, rv2, p2, _⟩ := I1.list hqy
      obtain ⟨o1, ho1, _⟩ := id p1
      have hal : a < s1.heap.objs.size := Heap.lt_size ho1
      have hbl : b < s1.heap.objs.size := p2.lt
      have ap := PySem.W.ktu_apart s1.heap.objs.size a b hal hbl
      have ne : ∀ c k : Nat, c < s1.heap.objs.size → c ≠ s1.heap.objs.size + k := fun c k h q => by omega
      refine zip_begins2 (begins_tuple a its.toArray) (begins_list b its2.toArray) (show s1.heap.IsTuple a its.toArray from p1) p2.isList fun h' hz hTI hTO h1 h2 hsz hk => wpAny_pyIter_zip hz ?_
      have I2 : Inv X pins σ H1 { s1 with heap := h' } := I1.kept (t' := s1.toks) hk
      exact ⟨s1.heap.objs.size + 4, [s1.heap.objs.size + 4, s1.heap.objs.size + 2, s1.heap.objs.size + 3, s1.heap.objs.size, s1.heap.objs.size + 1], _, _, H1, rfl, I2,
        turn_zipM ap (zipSep ap (ne a 4 hal) (ne a 3 hal) (ne b 4 hbl) (ne b 3 hbl) (ne b 0 hbl) (ne a 1 hal)) (ne a 0 hal) (ne b 1 hbl), ⟨hz, hTI, ⟨_, _, hTO⟩, ⟨_, h1, rfl, rfl⟩, ⟨_, h2, rfl, rfl⟩⟩, fresh5, q⟩
theorem ItD.zipM {K : PySem.W.Frag} {S : As} {H : Hp} {a b : Addr} {xs ys : List V} {ds es : List D} (ha : SqT K H a xs) (hb : FzL K H b ys) (r : Reps K S H xs ds) (q : Reps K S H ys es) : ItD K (ItzM K a b) (zipD ds es) S H := fun S2 H2 st ws => by
  have h2 := SqT.stb st ha
  have h3 := (FzL.stb st hb).sq
  have r2 := Reps.stb st _ _ r
  have q2 := Reps.stb st _ _ q
  have hl := r2.length
  have hm := q2.length
  have hz : (zipD ds es).length = min ds.length es.length := by simp [zipD]
  rw [hz]
  refine ⟨⟨xs, ys, h2, h3, by omega, by omega, by omega⟩, fun i hi => ⟨⟨xs, ys, xs[i], ys[i], h2, h3, List.getElem?_eq_getElem (by omega), List.getElem?_eq_getElem (by omega)⟩, fun v H3 y => ?_⟩⟩
  obtain ⟨T, x, y, rfl, hT, rfl, hx, hy⟩ := y
  obtain ⟨d, e3, r3⟩ := r2.getV (hx xs h2)
  obtain ⟨d', e4, r4⟩ := q2.getV (hy ys h3)
  have ev : Ev S2 H2 S2 (upd H2 T (.tup [x, y])) := .upd hT
  exact ⟨ev, ws.upd hT, .tup [d, d'], zip_get e3 e4, .tup (SqT.of upd_same) (.cons (Rep.stb (ev.stb ws) _ _ r3) (.cons (Rep.stb (ev.stb ws) _ _ r4) .nil))⟩
def fZipM : List D → (List D → Prop) → Prop
  | [.tup xs, .lst ys], Q => Q (zipD xs ys)
  | _, _ => False
@[simp] theorem fZipM_1 (xs ys : List D) (Q : List D → Prop) : fZipM [.tup xs, .lst ys] Q = Q (zipD xs ys) := rfl
@[simp] def wZipM (w : WA) : WA := fun Γ Q E => w Γ (fun ds => fZipM ds Q) E
section
variable {X : Cx} {E : XK} {p pos tpos : Pos} {elts : List Expr} {kk : Nat}
theorem i_zipM {e e2 : Expr} {w : WA} (hg : Gl X "zip") (hm : X.mg "zip" = none) (ha : PA X [e, e2] (tDA X.K E w)) (hs : starEach [e, e2] X.env = (false, eval e X.env) :: starEach [e2] X.env := by rfl) (hpl : (backTo pos (starEach [e2] X.env)).any (·.1) = false := by rfl) :
    PI X (.Tuple elts kk tpos) (.Call (.Name "zip" p) [e, e2] [] pos) (tDI X.K E (wZipM w)) :=
  (pi_zipM hg hm ha hs hpl).imp fun σ H R h => by
    obtain ⟨O, S, Γ, Qd, Ed, ws, m, w, k, ke⟩ := h
    refine ⟨O, S, Γ, _, Ed, ws, m, w, fun vs ds S1 H1 q1 e1 w1 r1 => ?_, ke⟩
    unfold fZipM at q1
    split at q1
    · obtain ⟨v, u, rfl, q, q'⟩ := reps2 r1
      cases q with
      | tup ha hx => cases q' with
        | lst hb hy => exact ⟨_, _, _, _, rfl, ha, hb.sq, k _ _ S1 H1 q1 e1 w1 (ItD.zipM ha hb hx hy)⟩
    · exact q1.elim
end
end PD

set_option Elab.async false
set_option linter.all false
set_option maxRecDepth 100000
set_option maxHeartbeats 1000000
namespace PD
open PySem PySem.Spec PyProof.Rows L2
/-! ### a def whose last statement hands out a list of its own -/
@[simp] def wLockL (i : Nat) (w : WA) : WA := fun Γ Q E => ∃ ds, Γ[i]? = some (.own ds) ∧ w (Γ.set i (.dat (.lst ds))) (fun es => D.noLs es = true ∧ Q es) Ev0
theorem d_lockL {X : Cx} {E : XK} (i : Nat) {e : Expr} {w : WA} (h : PE X e (tDL X.K E0 w)) : PE X e (tDL X.K E (wLockL i w)) := h.lockd.imp fun σ H Q h => by
  obtain ⟨O, S, Γ, Qd, Ed, ws, m, ⟨ds, hg, w⟩, k, ke⟩ := h
  obtain ⟨a, vs, e1, e2, ⟨n, f⟩, r⟩ := m.at_ i _ hg
  refine ⟨a, vs, e2, fun o => ⟨O, S, _, _, Ev0, ws.frz n, m.frzOwn hg e1 e2 r, w, fun p us es S' H' q ev w' hp hl hns rv => ?_, .zero⟩⟩
  have hz : H' a = some (.frz o (.lst vs)) := ev.keep _ _ upd_same n
  have n' : ¬ S' a := fun z => by
    rcases ev.new _ z with y | y
    · exact n y
    · rw [upd_same] at y; cases y
  have hpa : p ≠ a := fun z => by rw [z, upd_same] at hp; cases hp
  refine ⟨hz, k p us es S' _ q.2 ⟨fun b x q z => ?_, ev.src, fun b z => ?_⟩ (fun b hb => ?_) (by rw [upd_ne hpa] at hp; exact hp) (by rw [upd_ne hpa]; exact hl) hns (Reps.unl hz es us q.1 rv)⟩
  · by_cases y : b = a
    · subst y
      rw [upd_same]
      rw [e2] at q
      exact q
    · rw [upd_ne y]
      exact ev.keep _ _ (by rw [upd_ne y]; exact q) z
  · rcases ev.new b z with y | y
    · exact .inl y
    · by_cases hb : b = a
      · rw [hb, upd_same] at y; cases y
      · rw [upd_ne hb] at y; exact .inr y
  · obtain ⟨o2, e3, q3⟩ := w' b hb
    exact ⟨o2, by rw [upd_ne (fun z => n' (by rw [← z]; exact hb))]; exact e3, q3⟩
/-- y = [.. for ..], one's own, while a list of one's own is read -/
@[simp] def wOwnLcK (i j : Nat) (own : List Nat) (wi : WA) (g : WG) (wt : WB) (we : WE) : WS := fun N _ _ Γ => ∃ es, Γ[j]? = some (.own es) ∧ wLc own wi g wt we (Γ.set j (.dat (.lst es))) (fun d => ∃ ds, d = .lst ds ∧ D.noLs ds = true ∧ N (Γ.set i (.own ds))) Ev0
theorem s_ownLcK {X : Cx} {E : XK} {i : Nat} (j : Nat) {y : Str} {py pos : Pos} {elt tg iter : Expr} {ifs : List Expr} {scope : Scope} {own : List (Str × Nat)} {is : List Nat} {spos : Pos} {wi : WA} {g : WG} {wt : WB} {we : WE} (hc : X.calm = true) (hN : X.N.Nodup) (hy : X.N[i]? = some y) (hyl : X.env.scope.names.lookup y = some .local)
    (hsw : swapsWith (.ListComp elt [⟨tg, iter, ifs, 0⟩] scope pos) (some (.Name y py)) spos.line X.env = pure true) (hi : PI X tg iter (tDI X.K E wi)) (ok : BlkOk X.N X.env.scope scope own)
    (hg : ∀ (s : Shared) (H : Hp) (C : Addr) (cl : List (Str × Addr)) (fp : List Addr), PG (X.blk s H scope (compEnvC scope cl C X.env) fp) tg (tDG X.K is g)) (ht : ∀ (s : Shared) (H : Hp) (C : Addr) (cl : List (Str × Addr)) (fp : List Addr), PTs (X.blk s H scope (compEnvC scope cl C X.env) fp) ifs (tDB X.K E0 wt))
    (he : ∀ (s : Shared) (H : Hp) (C : Addr) (cl : List (Str × Addr)) (fp : List Addr), PE (X.blk s H scope (compEnvC scope cl C X.env) fp) elt (tD X.K E0 we)) (his : ∀ i ∈ is, i ∈ own.map (·.2) := by decide) (hs : ∀ x, foldedSetIterable iter X.env x = pure x := by intro _; rfl) :
    PS X (.Assign [.Name y py] (.ListComp elt [⟨tg, iter, ifs, 0⟩] scope pos) spos) (tS X.K E (wOwnLcK i j (own.map (·.2)) wi g wt we)) :=
  (ps_lock (ps_setLc hc hN hy hyl hsw hi ok hg ht he hs)).imp fun Dn σ H h => by
    obtain ⟨S0, H0, S, Γ, N, R, Ed, st, ⟨es, hj, w⟩, kn, kr, ke⟩ := h
    obtain ⟨a, vs, e1, e2, ⟨n, f⟩, r⟩ := st.mat.at_ j _ hj
    refine ⟨a, .lst vs, e2, trivial, fun o => ?_⟩
    refine lc_imp (st.ws.frz n) (st.mat.frzOwn hj e1 e2 r) w kE.zero his fun Dl S1 H1 S2 H2 accv acc q ev1 w1 ev2 w2 hD hl nS ra => ?_
    obtain ⟨ds, e, hnl, q⟩ := q
    cases e
    have ev := ev1.trans w1 ev2
    have hz : H2 a = some (.frz o (.lst vs)) := ev.keep _ _ upd_same n
    have n' : ¬ S2 a := fun z => by
      rcases ev.new _ z with y | y
      · exact n y
      · rw [upd_same] at y; cases y
    have hD0 := ev1.free w1 hD
    have hpa : Dl ≠ a := fun z => by rw [z, upd_same] at hD0; cases hD0
    have hDH : H Dl = none := by rw [upd_ne hpa] at hD0; exact hD0
    have EV : Ev S H S2 (upd H2 a (.lst vs)) := ⟨fun b x q z => by
      by_cases y : b = a
      · subst y
        rw [upd_same]
        rw [e2] at q
        exact q
      · rw [upd_ne y]
        exact ev.keep _ _ (by rw [upd_ne y]; exact q) z, ev.src, fun b z => by
      rcases ev.new b z with y | y
      · exact .inl y
      · by_cases hb : b = a
        · rw [hb, upd_same] at y; cases y
        · rw [upd_ne hb] at y; exact .inr y⟩
    have W : Ws S2 (upd H2 a (.lst vs)) := fun b hb => by
      obtain ⟨o2, e3, q3⟩ := w2 b hb
      exact ⟨o2, by rw [upd_ne (fun z => n' (by rw [← z]; exact hb))]; exact e3, q3⟩
    exact ⟨hz, kn _ _ S2 _ q ⟨W, Mat.setOwn st.ws W st.mat EV hDH (by rw [upd_ne hpa]; exact hl) nS (st.ev.free st.ws hDH) (Reps.unl hz acc accv hnl ra), st.ev.trans st.ws EV⟩ (EV.stb st.ws)⟩
abbrev DFL := List D → (List D → Prop) → Ex → Prop
def spDL (K : PySem.W.Frag) (n : Nat) (F : DFL) : Sp := fun vs H Q E => ∃ S ds Qd Ed, Ws S H ∧ Reps K S H vs ds ∧ ds.length = n ∧ F ds Qd Ed ∧
  (∀ p us es S' H', Qd es → Ev S H S' H' → Ws S' H' → H p = none → H' p = some (.lst us) → ¬ S' p → Reps K S' H' us es → Q (.ref p) H') ∧ kE E S H Ed
abbrev WSL := (List D → Prop) → List Sl → Prop
def tSL (K : PySem.W.Frag) (w : WSL) : TS := fun Dn σ H => ∃ S0 H0 S Γ R, Stt K S0 H0 S H σ Γ ∧ w R Γ ∧
  (∀ p us es S' H', R es → Ev S0 H0 S' H' → Ws S' H' → H0 p = none → H' p = some (.lst us) → ¬ S' p → Reps K S' H' us es → Dn.rt (.ref p) H')
section
variable {X : Cx} {E : XK} {pos : Pos}
@[simp] def wSeqL (a : WS) (b : WSL) : WSL := fun R Γ => a (b R) (fun _ => False) Ev0 Γ
theorem ss_consL {st : Stmt} {rest : List Stmt} {wa : WS} {wb : WSL} (ha : PS X st (tS X.K E wa)) (hb : PSs X rest (tSL X.K wb)) : PSs X (st :: rest) (tSL X.K (wSeqL wa wb)) := (pss_cons ha hb).imp fun Dn σ H h => by
  obtain ⟨S0, H0, S, Γ, R, st, w, kr⟩ := h
  exact ⟨S0, H0, S, Γ, _, _, _, st, w, fun σ' Γ' S' H' q st' sb => ⟨S0, H0, S', Γ', R, st', q, kr⟩, fun _ _ _ _ q => q.elim, .zero⟩
@[simp] def wRetL (i : Nat) : WSL := fun R Γ => ∃ ds, Γ[i]? = some (.own ds) ∧ R ds
theorem ss_retL (i : Nat) {x : Str} {p1 : Pos} (hN : X.N[i]? = some x := by rfl) (hv : Vis X.env.scope x := by first | exact Or.inl rfl | exact Or.inr (Or.inl rfl) | exact Or.inr (Or.inr rfl)) (hd : (x == ("__debug__" : Str)) = false := by decide)
    (hcd : (x == ("__classdict__" : Str)) = false := by decide) : PSs X [.Return (some (.Name x p1)) pos] (tSL X.K (wRetL i)) :=
  (pss_one (ps_ret (pv i hN hv hd hcd))).imp fun Dn σ H h => by
    obtain ⟨S0, H0, S, Γ, R, st, ⟨ds, hg, q⟩, kr⟩ := h
    obtain ⟨a, vs, e1, e2, ⟨n, f⟩, r⟩ := st.mat.at_ i _ hg
    exact ⟨.ref a, e1, kr a vs ds S H q st.ev st.ws f e2 n r⟩
end
section
variable {P : Program} {w : World} {K : PySem.W.Frag} {mg : Str → Option Value} {base : Heap}
theorem fn_pdL {x qual : Str} {st : Stmt} {f : Addr} {fd : FuncData} {N ps : List Str} {k : Nat} {F : DFL} {wb : WSL} (Fu : Fun K x qual st f fd) (Sc : FnScope N ps (defScope st))
    (spec : ∀ ds Q E, ds.length = ps.length → F ds Q E → wb Q (startG N ds))
    (hbody : ∀ (cdv : Value) (A : Around) (outer : List Env) (s : Shared) (H : Hp) (E : XK), Room k (A.deeper (envOfC qual (defScope st) s.heap.objs.size f cdv)) → PSs (cxOf CX0 P w K mg base N qual (defScope st) f cdv A outer s H E).nox (defBody st) (tSL K wb)) :
    FnOk P w K mg base CX0 (k + 1) f fd ps (spDL K ps.length F) := by
  refine Fu.ok Sc (fun vs H Q E h => ?_) fun cdv A outer s H vs Q E hr h => ?_
  · obtain ⟨S, ds, Qd, Ed, ws, r, hl, _⟩ := h
    rw [r.length, hl]
  · obtain ⟨S, ds, Qd, Ed, ws, r, hl, hf, kq, ke⟩ := h
    exact ⟨_, hbody cdv A outer s H E hr, S, H, S, _, _, ⟨ws, mat_start r, .refl⟩, spec ds Qd Ed hl hf, fun p us es S' H' q e w' h1 h2 h3 r => kq p us es S' H' q e w' h1 h2 h3 r⟩
end
@[simp] def wCallL (n : Nat) (F : DFL) (w : WA) : WA := fun Γ Q E => w Γ (fun ds => ds.length = n ∧ F ds Q E) E
section
variable {X : Cx} {E : XK} {CX : CXT} {k : Nat} {f : Addr} {fd : FuncData} {ps : List Str} {F : DFL} {x : Str} {p pos : Pos} {e : Expr} {es : List Expr} {n : Nat}
theorem dl_call {w : WA} (G : FnOk X.prog X.w X.K X.mg X.base CX k f fd ps (spDL X.K n F)) (hr : Room k X.A) (hg : Gl X x) (hm : X.mg x = some (.ref f)) (hk : PySem.W.keepIn X.K (.ref f) = true) (hb : Binds X.K fd ps []) (hx : Passes CX X E) (ha : PA X (e :: es) (tDA X.K E w))
    (hdb : (x == ("__debug__" : Str)) = false := by decide) (he : starEach (e :: es) X.env = (false, eval e X.env) :: starEach es X.env := by rfl) (hpl : (backTo pos (starEach es X.env)).any (·.1) = false := by rfl) :
    PE X (.Call (.Name x p) (e :: es) [] pos) (tDL X.K E (wCallL n F w)) :=
  (pe_call G hr hg hm hk hb .nil hx ha hdb he hpl).imp fun σ H Q h => by
    obtain ⟨O, S, Γ, Qd, Ed, ws, m, w, k, ke⟩ := h
    refine ⟨O, S, Γ, _, Ed, ws, m, w, fun vs ds S1 H1 q1 e1 w1 r1 => ?_, ke⟩
    exact ⟨S1, ds, Qd, Ed, w1, by rw [List.append_nil]; exact r1, q1.1, q1.2, fun p us es S' H' q e w' h1 h2 h3 r => k p us es S' H' q (e1.trans w1 e) w' (e1.free w1 h1) h2 h3 r, ke.ev w1 e1⟩
/-- a new list taken as any other datum -/
@[simp] def wOff (w : WA) : WE := fun Γ Q E => w Γ (fun es => Q (.lst es)) E
theorem d_off {e : Expr} {w : WA} (h : PE X e (tDL X.K E w)) : PE X e (tD X.K E (wOff w)) := h.frz.imp fun σ H Q h => by
  obtain ⟨O, S, Γ, Qd, Ed, ws, m, w, k, ke⟩ := h
  refine ⟨O, S, Γ, _, Ed, ws, m, w, fun p us es S' H' q e w' hp hl hns r => .inr ⟨p, us, rfl, hl, fun o => ?_⟩, ke⟩
  exact k (.ref p) (.lst es) S' _ q ⟨fun b x q z => by
    rw [upd_ne (fun y => by rw [y, hp] at q; cases q)]
    exact e.keep _ _ q z, e.src, e.new⟩ (w'.frz hns) (.lst (.inl ⟨o, upd_same⟩) (Reps.stb (.wr hl) _ _ r))
end
end PD

set_option Elab.async false
set_option linter.all false
set_option maxRecDepth 100000
set_option maxHeartbeats 2000000
namespace PD
open PySem PySem.Spec PyProof.Rows L2
/-! ### try: .. except X as n: suite; the error is tracked, so it may be handed on -/
abbrev ErrO (oe : Obj) : HO := .frz oe (.ext fun _ => True)
section
variable {X : Cx} {pins : List (Addr × Obj)} {σ : L2.St} {H : Hp} {s sI : Shared}
theorem Inv.track {σI : L2.St} {HI : Hp} {a : Addr} {oe : Obj} {vs : Array Value} (I : Inv X pins σ H s) (J : Inv X pins σI HI sI) (ha : s.heap.get? a = some oe) (hd : oe.data = .fields vs) (na : H a = none) (nI : sI.heap.get? a = none) (nL : a ≠ X.env.locals) :
    Inv X pins σ (upd H a (ErrO oe)) s := by
  have ne : ∀ b o, H b = some o → b ≠ a := fun b o e z => by rw [z, na] at e; cases e
  refine ⟨I.ok, I.os, I.bare, ⟨I.base.keep, I.base.slot, fun b o e n hx => ?_, I.base.there, fun b xs e => ?_, fun b o x e => ?_, fun b ps e => ?_⟩, I.loc, I.cell, ?_, fun x c e => ?_, fun p hp => ?_, fun b o e => ?_, I.len⟩
  · have hb : b ≠ a := fun z => by
      obtain ⟨o', e1⟩ := J.base.there b o e hx
      rw [z, nI] at e1
      cases e1
    rw [upd_ne hb]
    exact I.base.free b o e n hx
  · have q := I.base.tups b xs e
    rw [upd_ne (ne b _ q)]; exact q
  · have q := I.base.frzs b o x e
    rw [upd_ne (ne b _ q)]; exact q
  · obtain ⟨m, q⟩ := I.base.tbls b ps e
    exact ⟨m, by rw [upd_ne (ne b _ q)]; exact q⟩
  · rw [upd_ne (Ne.symm nL)]; exact I.free
  · have hc : c ≠ a := fun z => by
      obtain ⟨v, oc, ho, hdc⟩ := I.cell x c e
      rw [z, ha] at ho
      cases ho
      rw [hd] at hdc
      cases hdc
    rw [upd_ne hc]; exact I.freeC x c e
  · obtain ⟨e, n, r⟩ := I.pin p hp
    have hp2 : p.1 ≠ a := fun z => by
      obtain ⟨e', _⟩ := J.pin p hp
      rw [z, nI] at e'
      cases e'
    exact ⟨e, by rw [upd_ne hp2]; exact n, r⟩
  · by_cases hb : b = a
    · rw [hb, upd_same] at e
      cases e
      rw [hb]
      exact ⟨ha, trivial, ⟨oe, ha⟩, fun _ _ _ _ => trivial⟩
    · rw [upd_ne hb] at e
      exact (I.hok b o e).stay (fun c v _ q => q) (fun c q => by rw [upd_ne (ne c _ q)]; exact q) fun c xs q => by rw [upd_ne (ne c _ q)]; exact q
theorem Inv.suiteT (I : Inv X pins σ H s) (a : Addr) : Inv (X.suite a (X.pn ++ pins)) [] σ H s :=
  ⟨I.ok.suite _ _, I.os, I.bare, I.base, I.loc, I.cell, I.free, I.freeC, fun p hp => by
    have hp' : p ∈ X.pn ++ pins := by rw [List.append_nil] at hp; exact hp
    exact I.pin p hp', I.hok, I.len⟩
theorem Inv.unsuiteT {a : Addr} {pn' : List (Addr × Obj)} (I : Inv (X.suite a (X.pn ++ pins)) pn' σ H s) (ok : X.Ok) : Inv X pins σ H s :=
  ⟨ok, I.os, I.bare, I.base, I.loc, I.cell, I.free, I.freeC, fun p hp => I.pin p (List.mem_append_left _ hp), I.hok, I.len⟩
end
/-- what the clause 'except x as n' wishes of an exception of the body: slot i is n's; the error is tracked -/
def wAsT (K : PySem.W.Frag) (c : Value) (i : Nat) (ts : Addr → TS) (Wout : WX) (D : Ends) : WX := fun cls d σ H =>
  ∃ b, PySem.W.exmOne K cls c = some b ∧ (b = true → ∀ a oe, H a = none → L2N.Zn cls d oe → (∃ vs, oe.data = .fields vs) →
    ts a { nx := fun σ' H' => D.nx (σ'.set i none) H', rt := D.rt, bk := fun σ' H' => D.bk (σ'.set i none) H', ct := fun σ' H' => D.ct (σ'.set i none) H' } (σ.set i (some (.ref a))) (upd H a (ErrO oe))) ∧
    (b = false → Wout cls d σ H)
section
variable {X : Cx} {x n : Str} {c : Value} {i : Nat} {body suite : List Stmt} {b₀ : Stmt} {np pos pos' : Pos} {tb : WX → TS} {ts : Addr → TS} {Wout : WX}
theorem ps_try_asT (hs : X.stack = X.env :: X.outer) (hf : X.env.frame = some X.env.locals) (hN : X.N.Nodup) (hi : X.N[i]? = some n) (hln : X.env.kindOf n = some .local) (hc : Names X x c) (tk : L2N.Takes X Wout)
    (hb : ∀ (W : WX) (pn : List (Addr × Obj)) (xe : Value → Shared → Prop), L2N.Takes (X.tr pn xe) W → PassesOwn (model X.prog X.w) X.A X.env xe → PSs (X.tr pn xe) body (tb W))
    (hsu : ∀ (a : Addr) (pn : List (Addr × Obj)), PSs (X.suite a pn) (b₀ :: suite) (ts a)) :
    PS X (.Try body [.ExceptHandler (some (.Name x np)) (some n) (b₀ :: suite) pos'] [] [] pos) (fun D σ H => tb (wAsT X.K c i ts Wout D) D σ H) := by
  refine ⟨fun pins s σ H D I h => ?_⟩
  have ok := I.ok
  have hfr : X.A.frames = some (X.env :: X.outer) := by rw [ok.frames, hs]
  have hloc : Loc X.env.scope n := .inl hln
  refine wpAny_Try_except ?_
  refine wpAny_mono ((hb (wAsT X.K c i ts Wout D) (X.pn ++ pins) (fun e s₁ => wpAny (model X.prog X.w) X.A (noteFrame e X.env) (fun _ s₂ => wpAny (model X.prog X.w) X.A (setFlight e none) (fun _ s₃ =>
    wpAny (model X.prog X.w) X.A (handleBy e X.env [.ExceptHandler (some (.Name x np)) (some n) (b₀ :: suite) pos']) (SP X pins D) X.xe s₃) X.xe s₂) X.xe s₁) (fun u s' xx => ?_) PassesOwn.looking).run [] s σ H D (I.toTry _) h) (fun f s1 hsp => ?_) (fun e s1 he => he)
  · obtain ⟨a, B, sI, pins', σ', H', cls, d, rfl, J', nb, up, sky, na, os, ag, b, hb1, hyes, hno⟩ := xx
    have J : Inv X pins σ' H' sI := J'.ofTry ok
    have sky' : Sky B (X.env :: X.outer) a (L2N.Zn cls d) X.env.locals s'.heap := by rw [← hs]; exact sky
    show wpAny (model X.prog X.w) X.A (noteFrame (.ref a) X.env) _ _ _
    refine L2N.Sky.land L2N.Zn.steady hfr hf sky' fun h3 fl3 up3 => ?_
    have J3 : Inv X pins σ' H' { s' with heap := h3 } := J.landed nb fl3.1 (up.trans up3) os ag
    obtain ⟨oe3, vs3, he3, hz3, hd3⟩ := fl3.there
    have notFr : ∀ {h : Heap} {o : Obj} {vs : Array Value}, h.FunFrames B (X.env :: X.outer) → h.get? a = some o → o.data = .fields vs → a ∉ frs (X.env :: X.outer) := fun {h o vs} ff e dd hm => by
      obtain ⟨_, o', e', hnf⟩ := ff.mem hm
      rw [e] at e'; cases e'
      exact hnf _ dd
    have nfr := notFr fl3.2.2.1 he3 hd3
    have nL : a ≠ X.env.locals := fun z => nfr (List.mem_filterMap.mpr ⟨X.env, List.mem_cons_self, by rw [hf, z]⟩)
    have nF : a ∉ X.fs := fun hm => by
      obtain ⟨e, he, q⟩ := List.mem_filterMap.mp hm
      exact nfr (List.mem_filterMap.mpr ⟨e, List.mem_cons_of_mem _ he, q⟩)
    have nI : sI.heap.get? a = none := by
      cases hg : sI.heap.get? a with
      | none => rfl
      | some o =>
        have := nb a o hg (by rw [hs]; exact nfr)
        rw [fl3.2.1] at this
        cases this
    have S3 := J3.suite he3 hd3 na nL nF
    refine wpAny_handleBy_cons (codeAny_handlers_test ?_) (by intro q; cases q)
    have LT : PySem.W.Looks (model X.prog X.w) h3 (typeOf (.ref a)) cls := fun A Q E s k q => wpAny_typeOf_ref (k _ _ he3) (by rw [hz3.1]; exact q)
    have LM := PySem.W.exm_one (M := model X.prog X.w) (J3.kIn) LT hb1
    have test : ∀ {Q : Value → Shared → Prop} {E : Value → Shared → Prop}, Q c { s' with heap := h3 } → wpAny (model X.prog X.w) (X.A.mark (some (.ref a))) (eval (.Name x np) X.env) Q E { s' with heap := h3 } := fun {Q E} q => by
      obtain ⟨hg, hdbg, hm | ⟨hm, hv, hnn⟩⟩ := hc
      · exact ld_glob (X := X.suite a ((a, oe3) :: (X.pn ++ pins))) S3 hg hm q hdbg
      · exact ld_blt (X := X.suite a ((a, oe3) :: (X.pn ++ pins))) S3 hg hm hv q hnn hdbg
    refine test (LM.here ?_)
    cases b with
    | true =>
      refine codeAny_handlers_suite_as ?_
      refine HandSPX.lands_againZ fl3 fun h4 fl4 up4 => ?_
      have J4 : Inv X pins σ' H' { s' with heap := h4 } := J.landed nb fl4.1 ((up.trans up3).trans up4) os ag
      obtain ⟨oe4, vs4, he4, hz4, hd4⟩ := fl4.there
      have S4 := PD.Inv.suiteT (PD.Inv.track J4 J he4 hd4 na nI nL) a
      refine store_ok (X := X.suite a (X.pn ++ pins)) (v := .ref a) S4 hN hi hloc rfl (fun s5 S5 => ?_) (.inr hln)
      refine wpAny_mono ((hsu a (X.pn ++ pins)).run [] s5 _ _ _ S5 (hyes rfl a oe4 na hz4 ⟨_, hd4⟩)) (fun f s6 hsp => ?_) (fun _ _ z => False.elim z)
      have end_ : ∀ {σ6 : L2.St} {H6 : Hp} {Q : Shared → Prop}, Inv (X.suite a (X.pn ++ pins)) [] σ6 H6 s6 → (∀ s7, Inv X pins (σ6.set i none) H6 s7 → Q s7) →
          wpAny (model X.prog X.w) X.A (do bindName X.env n .none; unbindBehindTheSuite X.env n pos') (fun _ s7 => Q s7) X.xe s6 := fun {σ6 H6 Q} S6 hq => gone_ok (PD.Inv.unsuiteT S6 ok) hN hi hln hq
      cases f with
      | next =>
        obtain ⟨σ6, H6, S6, q6⟩ := hsp
        exact end_ S6 fun s7 J7 => ⟨_, _, J7, q6⟩
      | brk =>
        obtain ⟨σ6, H6, S6, q6⟩ := hsp
        exact end_ S6 fun s7 J7 => ⟨_, _, J7, q6⟩
      | cont =>
        obtain ⟨σ6, H6, S6, q6⟩ := hsp
        exact end_ S6 fun s7 J7 => ⟨_, _, J7, q6⟩
      | ret u =>
        obtain ⟨v6, σ6, H6, S6, r6, q6⟩ := hsp
        exact end_ S6 fun s7 J7 => ⟨_, _, _, J7, r6, q6⟩
    | false =>
      show wpAny _ X.A (handleBy (.ref a) X.env []) _ _ _
      refine wpAny_handleBy_nil ?_
      obtain ⟨k1, k2, k3, oe, vs, T, oT, ts', he, hz, hd, h1, hr⟩ := id fl3
      unfold PySem.passOn
      refine wpAny_bind (wpAny_field he hd h1 ?_)
      rw [if_neg (show ¬ ((Value.ref T == Value.none) = true) from by simp)]
      have fin : wpAny (model X.prog X.w) X.A (setFlight (.ref a) X.env.frame) (fun _ s4 => wpAny (model X.prog X.w) X.A (throw (.ref a) : Sem Flow) (SP X pins D) X.xe s4) X.xe { s' with heap := h3 } := by
        rw [hf]
        refine HandSPX.setFlight_upZ fl3 fun h4 hh4 up4 => wpAny_throw (tk _ _ ?_)
        exact ⟨a, B, sI, pins, σ', H', cls, d, rfl, J, nb, (up.trans up3).trans up4, .inr (.inr (by rw [hs]; exact hh4)), na, os, ag, hno rfl⟩
      first
        | exact wpAny_bind (wpAny_pure (wpAny_bind fin))
        | exact wpAny_bind fin
  · cases f with
    | next =>
      obtain ⟨σ', H', J', q⟩ := hsp
      exact wpAny_execs_nil ⟨σ', H', J'.ofTry ok, q⟩
    | brk =>
      obtain ⟨σ', H', J', q⟩ := hsp
      exact ⟨σ', H', J'.ofTry ok, q⟩
    | cont =>
      obtain ⟨σ', H', J', q⟩ := hsp
      exact ⟨σ', H', J'.ofTry ok, q⟩
    | ret u =>
      obtain ⟨v, σ', H', J', r, q⟩ := hsp
      exact ⟨v, σ', H', J'.ofTry ok, r, q⟩
end
theorem passN {X : Cx} : Passes (L2N.CX X.prog X.w) X E0 := fun _ _ _ _ _ _ _ h => by
  obtain ⟨_, _, _, _, _, _, _, _, _, _, _, _, z⟩ := h
  exact z.elim
theorem takesN {X : Cx} : L2N.Takes X (fun _ _ _ _ => False) := fun _ _ x => by
  obtain ⟨_, _, _, _, _, _, _, _, _, _, _, _, _, _, _, _, z⟩ := x
  exact z.elim
section
variable {P : Program} {w : World} {K : PySem.W.Frag} {mg : Str → Option Value} {base : Heap}
/-- a def that may raise -/
theorem fn_pdN {x qual : Str} {st : Stmt} {f : Addr} {fd : FuncData} {N ps : List Str} {k : Nat} {F : DF} {wb : WS} (Fu : Fun K x qual st f fd) (Sc : FnScope N ps (defScope st))
    (spec : ∀ ds Q E, ds.length = ps.length → F ds Q E → wb (fun _ => Q .non) Q E (startG N ds))
    (hbody : ∀ (cdv : Value) (A : Around) (outer : List Env) (s : Shared) (H : Hp) (E : XK), Room k (A.deeper (envOfC qual (defScope st) s.heap.objs.size f cdv)) → PSs (cxOf (L2N.CX P w) P w K mg base N qual (defScope st) f cdv A outer s H E) (defBody st) (tS K E wb)) :
    FnOk P w K mg base (L2N.CX P w) (k + 1) f fd ps (spD K ps.length F) := by
  obtain ⟨oc, od, kV, doc, pm, an, cdv, ct, osl, rfl, lk, hcd⟩ := Fu.ex
  refine fn_of lk hcd Sc (fun vs H Q E h => ?_) fun A outer s H vs Q E hr h => ?_
  · obtain ⟨S, ds, Qd, Ed, ws, r, hl, _⟩ := h
    rw [r.length, hl]
  · obtain ⟨S, ds, Qd, Ed, ws, r, hl, hf, kq, ke⟩ := h
    refine ⟨_, hbody cdv A outer s H E hr, S, H, S, _, _, _, Ed, ⟨ws, mat_start r, .refl⟩, spec ds Qd Ed hl hf, fun σ' Γ' S' H' q st' _ => ?_, fun v d S' H' q e w' r => kq v d S' H' q e w' r, ke⟩
    exact kq .non .non S' H' q st'.ev st'.ws .non
end
end PD

set_option Elab.async false
set_option linter.all false
set_option maxRecDepth 100000
set_option maxHeartbeats 2000000
namespace PD
open PySem PySem.Spec PyProof.Rows L2
theorem mat_no {K : PySem.W.Frag} {O S : As} {H : Hp} {σ : L2.St} {n : Nat} (h : σ.length = n) : Mat K O S H σ (List.replicate n .no) := by
  refine ⟨by simp [h], fun i sl e => ?_, fun i j a ds es h1 _ _ _ => ?_, fun i j a x y h1 _ hx _ _ _ => ?_⟩
  rotate_left 2
  · rw [(List.mem_replicate.mp (List.mem_of_getElem? h1)).2] at hx
    exact hx.elim
  · rw [(List.mem_replicate.mp (List.mem_of_getElem? e)).2]
    trivial
  · have := (List.mem_replicate.mp (List.mem_of_getElem? h1)).2
    cases this
/-- an exception's wish, whatever the names hold -/
abbrev EW (W : WX) (n : Nat) : XK := fun cls d H => ∀ σ : L2.St, σ.length = n → W cls d σ H
theorem passW {X : Cx} {W : WX} (tk : L2N.Takes X W) : Passes (L2N.CX X.prog X.w) X (EW W X.N.length) := fun _ σ _ _ e s' I c => tk e s' (L2N.XE.of_call I (fun cls d H' h => h σ I.len) c)
@[simp] def wTry (n i : Nat) (P : Value → Prop) (wb : WS) (ws : Addr → WS) : WS := fun N R _ Γ => wb N R (fun c => P c ∧ ∀ a, ws a (fun _ => False) R Ev0 ((List.replicate n Sl.no).set i (.dat (.exc c a)))) Γ
section
variable {X : Cx} {E : XK} {x n : Str} {c : Value} {i : Nat} {body suite : List Stmt} {b₀ : Stmt} {np pos pos' : Pos} {P : Value → Prop} {wb : WS} {ws : Addr → WS}
theorem s_try (hs : X.stack = X.env :: X.outer) (hf : X.env.frame = some X.env.locals) (hN : X.N.Nodup) (hi : X.N[i]? = some n) (hln : X.env.kindOf n = some .local) (hc : Names X x c) (hP : ∀ cl, P cl → PySem.W.exmOne X.K cl c = some true)
    (hb : ∀ (W : WX) (pn : List (Addr × Obj)) (xe : Value → Shared → Prop), L2N.Takes (X.tr pn xe) W → PassesOwn (model X.prog X.w) X.A X.env xe → PSs (X.tr pn xe) body (tS X.K (EW W X.N.length) wb))
    (hsu : ∀ (a : Addr) (pn : List (Addr × Obj)), PSs (X.suite a pn) (b₀ :: suite) (tS X.K E0 (ws a))) :
    PS X (.Try body [.ExceptHandler (some (.Name x np)) (some n) (b₀ :: suite) pos'] [] [] pos) (tS X.K E (wTry X.N.length i P wb ws)) :=
  (ps_try_asT (Wout := fun _ _ _ _ => False) hs hf hN hi hln hc takesN hb hsu).imp fun Dn σ H h => by
    obtain ⟨S0, H0, S, Γ, N, R, Ed, st, w, kn, kr, ke⟩ := h
    refine ⟨S0, H0, S, Γ, N, R, _, st, w, kn, kr, fun cl S' H' q ev w' => ?_⟩
    intro σ' hl
    obtain ⟨hp, q⟩ := q
    refine ⟨true, hP cl hp, fun _ a oe na hz h3 => ?_, fun z => nomatch z⟩
    have eA : Ev S' H' S' (upd H' a (ErrO oe)) := .upd na
    exact ⟨S0, H0, S', _, fun _ => False, R, Ev0, ⟨w'.upd na, (mat_no hl).setDat (.exc upd_same hz.1 hz.2.1 h3 hz.2.2), ev.trans w' eA⟩, q a, fun _ _ _ _ z => z.elim, kr, .zero⟩
/-- raise X('..') -/
@[simp] def wRaise (c : Value) : WS := fun _ _ E _ => E c
theorem s_raise {C : Addr} {bmB : List Value} {B newId initId : String} {m : Str} {j : Nat} {p p2 pos1 : Pos} (hc : X.calm = true) (tk : L2N.Takes X (fun cls d _ H => E cls d H)) (F : ExcBaseFacts B newId initId bmB) (q : PySem.W.excIn X.K C bmB newId = true) (gC : X.mg x = some (.ref C)) (kC : PySem.W.keepIn X.K (.ref C) = true)
    (r : Raises X (.ref C)) (hg : Gl X x) (hdb : (x == ("__debug__" : Str)) = false := by decide) : PS X (.Raise (some (.Call (.Name x p) [.Constant (.str m) j p2] [] pos1)) none pos) (tS X.K E (wRaise (.ref C))) :=
  (L2N.ps_raise hc tk (L2N.pmk_own F q gC kC r hg hdb)).imp fun Dn σ H h => by
    obtain ⟨S0, H0, S, Γ, N, R, Ed, st, w, kn, kr, ke⟩ := h
    exact ke (.ref C) S H w st.ev st.ws
/-- isinstance(e, X), e an error that is data -/
@[simp] def wIsE (i : Nat) (P : Value → Prop) (f : Value → Option Bool) : WE := fun Γ Q _ => ∃ c b a, Γ[i]? = some (.dat (.exc c a)) ∧ P c ∧ f c = some b ∧ Q (.bl b)
def rIsT (K : PySem.W.Frag) (cv : Value) (cV : V) : List V → Hp → VK → Prop := fun xs H Q => ∃ (a D : Addr) (oe : Obj) (b : Bool), xs = [.ref a, cV] ∧ H a = some (ErrO oe) ∧ oe.cls = .ref D ∧ oe.dict = none ∧ (∃ vs, oe.data = .fields vs) ∧ ExcC K D ∧ PySem.W.kitOne K (.ref D) cv = some b ∧ Q (.bl b) H
theorem call_isT {X : Cx} {cv : Value} {cV : V} (hcv : ∀ u, RelV cV u → u = cv) : CallR X (.builtin "isinstance") (rIsT X.K cv cV) := by
  intro pins s σ H xs us Q I r h
  obtain ⟨a, D, oe, b, rfl, ha, h1, h2, ⟨vs, hv⟩, C, e, q⟩ := h
  cases r with
  | cons rx rr =>
    cases rr with
    | cons rt rr =>
      cases rr
      cases rx
      have ec := hcv _ rt
      subst ec
      have hget := (I.hok a _ ha).1
      have J : PySem.W.InstAt s.heap a oe D none := by
        obtain ⟨oc, od, oda, osl⟩ := oe
        dsimp only at h1 h2 hv
        subst h1 h2 hv
        exact ⟨hget, rfl, rfl, trivial⟩
      exact PySem.W.kia_one (PySem.W.handS_kitx_exc C.hg C.hk C.hs C.hd C.ha C.hn C.ht C.hm) I.kIn J e (fun z => nomatch z) fun tk => ⟨.bl b, H, I.kept (t' := tk) fun _ _ z => z, rfl, q⟩
theorem d_isE {i : Nat} {e x : Str} {p p1 p2 pos : Pos} {cv : Value} {cV : V} {P : Value → Prop} {f : Value → Option Bool} (hcv : ∀ u, RelV cV u → u = cv) (hx : PE X (.Name x p2) (tC cV)) (hg : Gl X "isinstance") (hm : X.mg "isinstance" = none)
    (hP : ∀ c, P c → ∃ D, c = .ref D ∧ ExcC X.K D) (hf : ∀ c b, f c = some b → PySem.W.kitOne X.K c cv = some b) (hN : X.N[i]? = some e := by rfl) (hv : Vis X.env.scope e := by first | exact Or.inl rfl | exact Or.inr (Or.inl rfl) | exact Or.inr (Or.inr rfl)) (hd : (e == ("__debug__" : Str)) = false := by decide)
    (hcd : (e == ("__classdict__" : Str)) = false := by decide) (hs2 : starEach [.Name x p2] X.env = (false, eval (.Name x p2) X.env) :: starEach [] X.env := by rfl) (hs1 : starEach [.Name e p1, .Name x p2] X.env = (false, eval (.Name e p1) X.env) :: starEach [.Name x p2] X.env := by rfl)
    (hpl : (backTo pos (starEach [.Name x p2] X.env)).any (·.1) = false := by rfl) :
    PE X (.Call (.Name "isinstance" p) [.Name e p1, .Name x p2] [] pos) (tD X.K E (wIsE i P f)) :=
  (pe_callB (call_isT hcv) hg hm (by decide +kernel) (pa_cons (pv i hN hv hd hcd) (pa_cons hx pa_nil hs2) hs1) (he := hs1) (hpl := hpl)).imp fun σ H Q h => by
    obtain ⟨O, S, Γ, Qd, Ed, ws, m, ⟨c, b, a0, hs, hp, hfc, q⟩, k, ke⟩ := h
    obtain ⟨v, e1, r⟩ := m.at_ i _ hs
    cases r with
    | exc ha h1 h2 h3 h4 =>
      obtain ⟨D, rfl, hC⟩ := hP c hp
      exact ⟨_, e1, _, D, _, b, rfl, ha, h1, h2, h3, hC, hf _ _ hfc, k _ _ S H q .refl ws (.bl _)⟩
/-! ### [f, g][k](..): one of two defs -/
@[simp] def wCallAt (n : Nat) (F G : DF) (wi : WE) (w : WA) : WE := fun Γ Q E => wi Γ (fun k => (k = .int 0 ∧ w Γ (fun ds => ds.length = n ∧ F ds Q E) E) ∨ (k = .int 1 ∧ w Γ (fun ds => ds.length = n ∧ G ds Q E) E)) E
theorem d_callAt {CX : CXT} {k l n : Nat} {f g : Addr} {fd gd : FuncData} {ps qs : List Str} {F G : DF} {xf xg : Str} {idx e : Expr} {es : List Expr} {p1 p2 p3 p4 pos : Pos} {wi : WE} {wa : WA} (hF : FnOk X.prog X.w X.K X.mg X.base CX k f fd ps (spD X.K n F)) (hG : FnOk X.prog X.w X.K X.mg X.base CX l g gd qs (spD X.K n G))
    (rF : Room k X.A) (rG : Room l X.A) (gF : Gl X xf) (gG : Gl X xg) (mF : X.mg xf = some (.ref f)) (mG : X.mg xg = some (.ref g)) (kF : PySem.W.keepIn X.K (.ref f) = true) (kG : PySem.W.keepIn X.K (.ref g) = true) (bF : Binds X.K fd ps []) (bG : Binds X.K gd qs []) (hx : Passes CX X E)
    (hi : PE X idx (tD X.K E wi)) (ha : PA X (e :: es) (tDA X.K E wa)) (hix : PlainIx idx := by intro _ _; rfl) (dF : (xf == ("__debug__" : Str)) = false := by decide) (dG : (xg == ("__debug__" : Str)) = false := by decide)
    (s1 : starEach [.Name xg p2] X.env = (false, eval (.Name xg p2) X.env) :: starEach [] X.env := by rfl) (s2 : starEach [.Name xf p1, .Name xg p2] X.env = (false, eval (.Name xf p1) X.env) :: starEach [.Name xg p2] X.env := by rfl)
    (he : starEach (e :: es) X.env = (false, eval e X.env) :: starEach es X.env := by rfl) (hpl : (backTo pos (starEach es X.env)).any (·.1) = false := by rfl)
    (hc : eval (.Call (.Subscript (.List [.Name xf p1, .Name xg p2] p3) idx p4) (e :: es) [] pos) X.env = (do callWith pos (← eval (.Subscript (.List [.Name xf p1, .Name xg p2] p3) idx p4) X.env) [] (backTo pos (starEach (e :: es) X.env)) (backToKw pos (keywordEach [] X.env))) := by rfl) :
    PE X (.Call (.Subscript (.List [.Name xf p1, .Name xg p2] p3) idx p4) (e :: es) [] pos) (tD X.K E (wCallAt n F G wi wa)) := by
  refine ⟨fun pins s σ H Q I h => ?_⟩
  obtain ⟨O, S, Γ, Qd, Ed, ws, m, w, kq, ke⟩ := h
  have hfun := pe_ix (pos := p4) ix_list (pe_lst (pos := p3) (pa_cons (pe_glob (pos := p1) (v := .ref f) gF mF rfl dF) (pa_cons (pe_glob (pos := p2) (v := .ref g) gG mG rfl dG) pa_nil s1) s2)) hi hix
  have args : ∀ (T : DF) (S1 : As) (H1 : Hp), Ws S1 H1 → Ev S H S1 H1 → wCallAt n T T (fun _ q _ => q (.int 0)) wa Γ Qd Ed → tDA X.K E wa σ H1 (fun vs H2 => spD X.K n T (vs ++ []) H2 Q E) := fun T S1 H1 w1 ev q => by
    have q' : wa Γ (fun ds => ds.length = n ∧ T ds Qd Ed) Ed := by
      rcases q with ⟨_, q⟩ | ⟨z, _⟩
      · exact q
      · cases z
    exact ⟨O, S1, Γ, _, Ed, w1, m.ev ws w1 ev, q', fun vs ds S2 H2 q2 e2 w2 r2 => ⟨S2, ds, Qd, Ed, w2, by rw [List.append_nil]; exact r2, q2.1, q2.2, fun v d S' H' q e w' r => kq v d S' H' q ((ev.trans w1 e2).trans w2 e) w' r, (ke.ev w1 ev).ev w2 e2⟩, ke.ev w1 ev⟩
  refine Call_ (thn (hfun.run pins s σ H (fun v H1 => ∃ S1, Ws S1 H1 ∧ Ev S H S1 H1 ∧ ((v = .ref f ∧ wa Γ (fun ds => ds.length = n ∧ F ds Qd Ed) Ed) ∨ (v = .ref g ∧ wa Γ (fun ds => ds.length = n ∧ G ds Qd Ed) Ed))) I ?_) fun u s1 ⟨v, H1, I1, r, S1, w1, ev, q⟩ => ?_) hc
  · refine ⟨by show 2 ≤ sizeLine; decide, fun p hp => ⟨O, S, Γ, _, Ed, ws.upd hp, m.ev ws (ws.upd hp) (.upd hp), w, fun v d S1 H1 q1 e1 w1 r1 => ?_, ke.ev (ws.upd hp) (.upd hp)⟩⟩
    have eA : Ev S H S (upd H p (.lst [.ref f, .ref g])) := .upd hp
    have hl : H1 p = some (.lst [.ref f, .ref g]) := e1.keep _ _ upd_same (ws.at hp)
    have ev := eA.trans (ws.upd hp) e1
    rcases q1 with ⟨rfl, q⟩ | ⟨rfl, q⟩
    · cases r1
      exact ⟨p, _, 0, .ref f, rfl, rfl, SqL.of hl, rfl, S1, w1, ev, .inl ⟨rfl, q⟩⟩
    · cases r1
      exact ⟨p, _, 1, .ref g, rfl, rfl, SqL.of hl, rfl, S1, w1, ev, .inr ⟨rfl, q⟩⟩
  · rcases q with ⟨rfl, q⟩ | ⟨rfl, q⟩
    · cases r
      refine PySem.W.callWith_K (h₀ := X.base) I1.ok.mod.kin kF (thn (ha.run pos pins s1 σ H1 _ I1 (args F S1 H1 w1 ev (.inl ⟨rfl, q⟩))) fun us s2 ⟨vs, H2, I2, r2, q2⟩ => ⟨I2.kIn, ?_⟩) he hpl
      exact run_fn hF rF bF .nil hx I2 r2 q2
    · cases r
      refine PySem.W.callWith_K (h₀ := X.base) I1.ok.mod.kin kG (thn (ha.run pos pins s1 σ H1 _ I1 (args G S1 H1 w1 ev (.inl ⟨rfl, q⟩))) fun us s2 ⟨vs, H2, I2, r2, q2⟩ => ⟨I2.kIn, ?_⟩) he hpl
      exact run_fn hG rG bG .nil hx I2 r2 q2
end
end PD

set_option Elab.async false
set_option linter.all false
set_option maxRecDepth 100000
set_option maxHeartbeats 2000000
namespace PD
open PySem PySem.Spec PyProof.Rows L2
/-! ### x.split(sep) -/
def fSplit : D → D → (D → Prop) → Prop
  | .str a, .str b, Q => ((b.length == 0) = false ∧ a.length + 2 ≤ sizeLine) ∧ Q (.lst ((Txt.split a b).map D.str))
  | _, _, _ => False
@[simp] theorem fSplit_1 (a b : Str) (Q : D → Prop) : fSplit (.str a) (.str b) Q = (((b.length == 0) = false ∧ a.length + 2 ≤ sizeLine) ∧ Q (.lst ((Txt.split a b).map D.str))) := rfl
@[simp] def wSplit (wo we : WE) : WE := fun Γ Q E => wo Γ (fun x => ∃ a, x = .str a ∧ we Γ (fun y => fSplit (.str a) y Q) E) E
section
variable {X : Cx} {E : XK} {pos apos : Pos}
theorem d_split {o e : Expr} {wo we : WE} (ho : PE X o (tD X.K E wo)) (he : PE X e (tD X.K E we)) (hs : starEach [e] X.env = [(false, eval e X.env)] := by rfl)
    (hbase : attributeBase o "split" X.env (eval o X.env) = eval o X.env := by rfl) (hline : (apos.endLine == pos.line) = true := by rfl) : PE X (.Call (.Attribute o "split" apos) [e] [] pos) (tD X.K E (wSplit wo we)) :=
  (pe_m1 F.slot_str_split F.type_str_split mt_split ho he hs hbase hline).frz.imp fun σ H Q h => by
    obtain ⟨O, S, Γ, Qd, Ed, ws, m, w, k, ke⟩ := h
    refine ⟨O, S, Γ, _, Ed, ws, m, w, fun vx x S1 H1 q1 e1 w1 r1 => ?_, ke⟩
    obtain ⟨a, rfl, q1⟩ := q1
    cases r1
    refine ⟨⟨a, rfl⟩, O, S1, Γ, _, Ed, w1, m.ev ws w1 e1, q1, fun vy y S2 H2 q2 e2 w2 r2 => ?_, ke.ev w1 e1⟩
    unfold fSplit at q2
    split at q2
    · rename_i a' b' hab
      cases hab
      cases r2
      obtain ⟨⟨h1, h2⟩, q⟩ := q2
      refine ⟨_, _, rfl, rfl, h1, h2, fun p hp => ?_⟩
      exact new_lst w2 (reps_strs _) q (fun v d S' H' q e w' r => k v d S' H' q ((e1.trans w1 e2).trans w2 e) w' r) p hp
    · exact q2.elim
end
end PD

set_option Elab.async false
set_option linter.all false
set_option maxRecDepth 100000
set_option maxHeartbeats 1000000
namespace PD
open PySem PySem.Spec PyProof.Rows L2
/-! ### list(zip(xs, ys)) of two lists -/
theorem zl_no_len : typeLookup (.type "zip") "__len__" = pure none := am_miss_of_fast (by decide +kernel)
theorem zl_no_hint : typeLookup (.type "zip") "__length_hint__" = pure none := am_miss_of_fast (by decide +kernel)
/-- the zip and its two sources after i turns; L: the list that is being filled -/
def Zst (z TI TO i1 i2 a b L : Nat) (xs ys : Array Value) (i : Nat) (h : Heap) : Prop :=
  (IsPair h TI (.ref i1) (.ref i2) ∧ h.IsListIter i1 a i ∧ h.IsListIter i2 b i ∧ h.IsList a xs ∧ h.IsList b ys) ∧
    ((IsZip h z TI TO .none ∧ ∃ p q, IsPair h TO p q) ∨ ∃ T f oT, (IsZipHeld h z TI TO T f ∧ h.get? T = some oT) ∧ T ≠ z ∧ T ≠ i1 ∧ T ≠ i2 ∧ T ≠ L)
/-- all that a zip leans on stands ahead of the list -/
structure Zlow (z TI TO i1 i2 a b L : Nat) : Prop where
  z : z < L
  ti : TI < L
  to : TO < L
  i1 : i1 < L
  i2 : i2 < L
  a : a < L
  b : b < L
section
variable {prog : Program} {w : World} {A : Around} {E : Value → Shared → Prop} {s : Shared} {z TI TO i1 i2 a b L : Nat} {xs ys : Array Value} {i : Nat}
theorem Zst.at {h h' : Heap} (st : Zst z TI TO i1 i2 a b L xs ys i h) (lo : Zlow z TI TO i1 i2 a b L) (k : ∀ c o, c ≠ L → h.get? c = some o → h'.get? c = some o) : Zst z TI TO i1 i2 a b L xs ys i h' := by
  obtain ⟨⟨t1, t2, t3, t4, t5⟩, t6⟩ := st
  refine ⟨⟨k _ _ (Nat.ne_of_lt lo.ti) t1, t2.at fun o e => k _ o (Nat.ne_of_lt lo.i1) e, t3.at fun o e => k _ o (Nat.ne_of_lt lo.i2) e, t4.at fun o e => k _ o (Nat.ne_of_lt lo.a) e, t5.at fun o e => k _ o (Nat.ne_of_lt lo.b) e⟩, ?_⟩
  rcases t6 with ⟨u, p, q, v⟩ | ⟨T, f, oT, ⟨u, v⟩, r⟩
  · exact .inl ⟨k _ _ (Nat.ne_of_lt lo.z) u, p, q, k _ _ (Nat.ne_of_lt lo.to) v⟩
  · exact .inr ⟨T, f, oT, ⟨k _ _ (Nat.ne_of_lt lo.z) u, k _ _ r.2.2.2 v⟩, r⟩
theorem zl_item {x y : Value} {Q : Option Value → Shared → Prop} (D : ZipApart z TI TO i1 i2 a b) (st : Zst z TI TO i1 i2 a b L xs ys i s.heap) (hL : L < s.heap.objs.size) (hx : xs[i]? = some x) (hy : ys[i]? = some y)
    (q : ∀ h', Zst z TI TO i1 i2 a b L xs ys (i + 1) h' → IsPair h' s.heap.objs.size x y → h'.objs.size = s.heap.objs.size + 1 → (∀ c o, c ≠ z → c ≠ TO → c ≠ i1 → c ≠ i2 → s.heap.get? c = some o → h'.get? c = some o) → Q (some (.ref s.heap.objs.size)) { s with heap := h' }) :
    wpAny (model prog w) A (pyNext (.ref z)) Q E s := by
  obtain ⟨⟨t1, t2, t3, t4, t5⟩, t6⟩ := st
  have n1 : s.heap.objs.size ≠ i1 := let ⟨_, e, _⟩ := t2; Nat.ne_of_gt (Heap.lt_size e)
  have n2 : s.heap.objs.size ≠ i2 := let ⟨_, e, _⟩ := t3; Nat.ne_of_gt (Heap.lt_size e)
  rcases t6 with ⟨u, p, q0, v⟩ | ⟨T, f, oT, ⟨u, v⟩, r1, r2, r3, r4⟩
  · refine wpAny_pyNext_zip_item D u t1 v t2 t3 t4 t5 hx hy fun h' g1 g2 g3 g4 g5 g6 g7 => q h' ⟨⟨g7 _ _ D.TIz D.TITO D.TIi1 D.TIi2 t1, g3, g4, t4.at fun o e => g7 _ o D.l1z D.l1TO D.l1i1 D.l1i2 e, t5.at fun o e => g7 _ o D.l2z D.l2TO D.l2i1 D.l2i2 e⟩, .inr ?_⟩ g5 g6 g7
    exact ⟨s.heap.objs.size, false, _, ⟨g1, g5⟩, Nat.ne_of_gt (Heap.lt_size u), n1, n2, Nat.ne_of_gt hL⟩
  · refine wpAny_pyNext_zip_item_held D u v t1 t2 t3 t4 t5 hx hy fun h' g1 g3 g4 g5 g6 g7 => q h' ⟨⟨g7 _ _ D.TIz D.TIi1 D.TIi2 t1, g3, g4, t4.at fun o e => g7 _ o D.l1z D.l1i1 D.l1i2 e, t5.at fun o e => g7 _ o D.l2z D.l2i1 D.l2i2 e⟩, .inr ?_⟩ g5 g6 fun c o c1 _ c3 c4 e => g7 c o c1 c3 c4 e
    exact ⟨T, true, oT, ⟨g1, g7 _ _ r1 r2 r3 v⟩, r1, r2, r3, r4⟩
theorem zl_done {Q : Option Value → Shared → Prop} (hh : A.handled = none) (D : ZipApart z TI TO i1 i2 a b) (st : Zst z TI TO i1 i2 a b L xs ys i s.heap) (he : xs[i]? = none ∨ ys[i]? = none)
    (q : ∀ h', (∀ c o, c ≠ z → c ≠ TO → c ≠ i1 → c ≠ i2 → s.heap.get? c = some o → h'.get? c = some o) → Q none { s with heap := h' }) : wpAny (model prog w) A (pyNext (.ref z)) Q E s := by
  obtain ⟨⟨t1, t2, t3, t4, t5⟩, t6⟩ := st
  rcases t6 with ⟨u, p, q0, v⟩ | ⟨T, f, oT, ⟨u, v⟩, r1, r2, r3, r4⟩
  · exact wpAny_pyNext_zip_end hh D u t1 v t2 t3 t4 t5 he fun h' k => q h' fun c o c1 c2 c3 c4 e => k c o c1 c2 c3 c4 e
  · exact wpAny_pyNext_zip_end_held hh D u v t1 t2 t3 t4 t5 he fun h' k => q h' fun c o c1 _ c3 c4 e => k c o c1 c3 c4 e
/-- the pairs that were handed out -/
structure Zts (L : Nat) (xs ys : Array Value) (ts : List Nat) (h : Heap) : Prop where
  asc : ts.Pairwise (· < ·)
  lo : ∀ t ∈ ts, L < t ∧ t < h.objs.size
  pair : ∀ (j : Nat) t, ts[j]? = some t → ∃ x y, xs[j]? = some x ∧ ys[j]? = some y ∧ IsPair h t x y
theorem Zts.snoc {h h' : Heap} {ts : List Nat} {x y : Value} (t : Zts L xs ys ts h) (hL : L < h.objs.size) (hs : h'.objs.size = h.objs.size + 1) (k : ∀ c o, L < c → h.get? c = some o → h'.get? c = some o) (hp : IsPair h' h.objs.size x y) (hx : xs[ts.length]? = some x) (hy : ys[ts.length]? = some y) :
    Zts L xs ys (ts ++ [h.objs.size]) h' where
  asc := List.pairwise_append.mpr ⟨t.asc, List.pairwise_singleton .., fun c hc d hd => by rw [List.mem_singleton.mp hd]; exact (t.lo c hc).2⟩
  lo := fun c hc => by
    rcases List.mem_append.mp hc with hc | hc
    · have := t.lo c hc
      omega
    · rw [List.mem_singleton.mp hc]
      omega
  pair := fun j c hj => by
    by_cases hl : j < ts.length
    · rw [List.getElem?_append_left hl] at hj
      obtain ⟨x', y', e1, e2, e3⟩ := t.pair j c hj
      exact ⟨x', y', e1, e2, k _ _ (t.lo c (List.mem_of_getElem? hj)).1 e3⟩
    · rw [List.getElem?_append_right (by omega)] at hj
      have : j - ts.length = 0 := by
        have := (List.getElem?_eq_some_iff.mp hj).1
        simp at this
        omega
      rw [this] at hj
      cases hj
      have : j = ts.length := by omega
      subst this
      exact ⟨x, y, hx, hy, hp⟩
theorem Zts.at {h h' : Heap} {ts : List Nat} (t : Zts L xs ys ts h) (hs : h.objs.size ≤ h'.objs.size) (k : ∀ c o, L < c → h.get? c = some o → h'.get? c = some o) : Zts L xs ys ts h' :=
  ⟨t.asc, fun c hc => by have := t.lo c hc; omega, fun j c hj => let ⟨x, y, e1, e2, e3⟩ := t.pair j c hj; ⟨x, y, e1, e2, k _ _ (t.lo c (List.mem_of_getElem? hj)).1 e3⟩⟩
abbrev isL (h : Heap) (L : Nat) (ts : List Nat) (c : Nat) : Prop := h.get? L = some { cls := .type "list", dict := none, data := .seq (ts.map Value.ref).toArray c, slots := #[] }
theorem zl_loop {R : Result → Shared → Prop} (hh : A.handled = none) (D : ZipApart z TI TO i1 i2 a b) (lo : Zlow z TI TO i1 i2 a b L) (res : Value) (n : Nat) (hn : n = min xs.size ys.size) (hz : n ≤ sizeLine) :
    ∀ (k : Nat) (s : Shared) (ts : List Nat) (c : Nat), n = ts.length + k → Zst z TI TO i1 i2 a b L xs ys ts.length s.heap → isL s.heap L ts c → Zts L xs ys ts s.heap →
    (∀ h' ts' c', (∀ d o, d ≠ z → d ≠ TO → d ≠ i1 → d ≠ i2 → d ≠ L → s.heap.get? d = some o → h'.get? d = some o) → ts'.length = n → isL h' L ts' c' → Zts L xs ys ts' h' → R (.ok (.ret res)) { s with heap := h' }) →
    codeAny (model prog w) A (.builtin "list.extend.loop" ⟨[.ref L, .ref z, res], []⟩) R s := by
  intro k
  induction k with
  | zero =>
    intro s ts c hk st hl ht hR
    refine codeAny_builtin F.entry_extend_loop ?_
    rw [Around.under_plainId F.plain_extend_loop _]
    show wpAny _ A.in1 (pyNext (.ref z) >>= _) _ _ s
    refine wpAny_bind (zl_done (A := A.in1) hh D st ?_ fun h' g => ?_)
    · rcases Nat.le_total xs.size ys.size with q | q
      · exact .inl (Array.getElem?_eq_none (by omega))
      · exact .inr (Array.getElem?_eq_none (by omega))
    · have gL : ∀ d o, d ≠ z → d ≠ TO → d ≠ i1 → d ≠ i2 → d ≠ L → s.heap.get? d = some o → h'.get? d = some o := fun d o c1 c2 c3 c4 _ e => g d o c1 c2 c3 c4 e
      have hL' := g L _ (Nat.ne_of_gt lo.z) (Nat.ne_of_gt lo.to) (Nat.ne_of_gt lo.i1) (Nat.ne_of_gt lo.i2) hl
      have up : ∀ c o, L < c → s.heap.get? c = some o → h'.get? c = some o := fun c o hc e => g c o (by have := lo.z; omega) (by have := lo.to; omega) (by have := lo.i1; omega) (by have := lo.i2; omega) e
      refine wpAny_pure (hR h' ts c gL (by omega) hL' ⟨ht.asc, fun t htm => ⟨(ht.lo t htm).1, ?_⟩, fun j t hj => ?_⟩)
      · obtain ⟨j, hj⟩ := List.getElem?_of_mem htm
        obtain ⟨_, _, _, _, e⟩ := ht.pair j t hj
        exact Heap.lt_size (up _ _ (ht.lo t htm).1 e)
      · obtain ⟨x, y, e1, e2, e3⟩ := ht.pair j t hj
        exact ⟨x, y, e1, e2, up _ _ (ht.lo t (List.mem_of_getElem? hj)).1 e3⟩
  | succ k ih =>
    intro s ts c hk st hl ht hR
    have lx : ts.length < xs.size := by omega
    have ly : ts.length < ys.size := by omega
    have hLs : L < s.heap.objs.size := Heap.lt_size hl
    refine codeAny_builtin F.entry_extend_loop ?_
    rw [Around.under_plainId F.plain_extend_loop _]
    show wpAny _ A.in1 (pyNext (.ref z) >>= _) _ _ s
    refine wpAny_bind (zl_item (A := A.in1) D st hLs (Array.getElem?_eq_getElem lx) (Array.getElem?_eq_getElem ly) fun h1 st1 hp hs1 g => ?_)
    have hL1 := g L _ (Nat.ne_of_gt lo.z) (Nat.ne_of_gt lo.to) (Nat.ne_of_gt lo.i1) (Nat.ne_of_gt lo.i2) hl
    have up : ∀ c o, L < c → s.heap.get? c = some o → h1.get? c = some o := fun c o hc e => g c o (by have := lo.z; omega) (by have := lo.to; omega) (by have := lo.i1; omega) (by have := lo.i2; omega) e
    have t1 := ht.snoc hLs hs1 up hp (Array.getElem?_eq_getElem lx) (Array.getElem?_eq_getElem ly)
    show wpAny _ A.in1 (updateSeq L (·.push (.ref s.heap.objs.size)) >>= _) _ _ _
    refine wpAny_bind ?_
    have ol : ∀ d o, d ≠ L → h1.get? d = some o → (h1.update L (Obj.mapSeq (·.push (.ref s.heap.objs.size)))).get? d = some o := fun d o hd e => (Heap.get?_update_other _ _ (Ne.symm hd)).trans e
    obtain ⟨c2, hL2⟩ : ∃ c2, isL (h1.update L (Obj.mapSeq (·.push (.ref s.heap.objs.size)))) L (ts ++ [s.heap.objs.size]) c2 := ⟨_, (Heap.get?_update_self (Obj.mapSeq (·.push (.ref s.heap.objs.size))) hL1 rfl).trans (by simp [Obj.mapSeq]; rfl)⟩
    refine wpAny_updateSeq (s := { s with heap := h1 }) hL1 rfl (wpAny_pure ⟨plainId_quiet F.plain_extend_loop _, ih { s with heap := _ } (ts ++ [s.heap.objs.size]) c2 (by simp; omega) ?_ hL2 ?_ fun h' ts' c' g' l' hl' ht' => ?_⟩)
      (by simp; omega) (by simp; omega)
    · rw [List.length_append]
      exact st1.at lo ol
    · refine t1.at ?_ fun c o hc e => ol c o (Nat.ne_of_gt hc) e
      rw [show (Heap.update h1 L (Obj.mapSeq (·.push (.ref s.heap.objs.size)))).objs.size = h1.objs.size from Heap.size_update ..]
      exact Nat.le_refl _
    · exact hR h' ts' c' (fun d o c1 c2 c3 c4 c5 e => g' d o c1 c2 c3 c4 c5 (ol d o c5 (g d o c1 c2 c3 c4 e))) l' hl' ht'
theorem zl_call {Q : Value → Shared → Prop} (hh : A.handled = none) (D : ZipApart z TI TO i1 i2 a b) (lo : Zlow z TI TO i1 i2 a b s.heap.objs.size) (hz : min xs.size ys.size ≤ sizeLine)
    (st : (IsPair s.heap TI (.ref i1) (.ref i2) ∧ s.heap.IsListIter i1 a 0 ∧ s.heap.IsListIter i2 b 0 ∧ s.heap.IsList a xs ∧ s.heap.IsList b ys) ∧ IsZip s.heap z TI TO .none ∧ ∃ p q, IsPair s.heap TO p q)
    (q : ∀ h' ts c, (∀ d o, d ≠ z → d ≠ TO → d ≠ i1 → d ≠ i2 → s.heap.get? d = some o → h'.get? d = some o) → ts.length = min xs.size ys.size → isL h' s.heap.objs.size ts c → Zts s.heap.objs.size xs ys ts h' → Q (.ref s.heap.objs.size) { s with heap := h' }) :
    wpAny (model prog w) A (call (.type "list") [.ref z]) Q E s := by
  generalize hL : s.heap.objs.size = L at lo q
  have hLn : ∀ (d : Nat) o, s.heap.get? d = some o → d ≠ L := fun d o e => by rw [← hL]; exact Nat.ne_of_lt (Heap.lt_size e)
  refine callType_codes (Q₁ := fun obj s1 => obj = .ref L ∧ s1 = { s with heap := s.heap.push { cls := .type "list", data := .seq #[] } }) F.called_list (F.typeCall_list_1 _) F.entry_list_init (code_list_new _ ⟨by rw [hL], rfl⟩) fun obj s1 h1 => ?_
  obtain ⟨rfl, rfl⟩ := h1
  have e0 : (s.heap.push { cls := .type "list", data := .seq #[] }).get? L = some { cls := .type "list", data := .seq #[] } := by rw [← hL]; exact Heap.get?_push_size _ rfl
  have k0 : ∀ d o, s.heap.get? d = some o → (s.heap.push { cls := .type "list", data := .seq #[] }).get? d = some o := fun d o e => Heap.get?_push_of_some _ e
  generalize s.heap.push { cls := .type "list", data := .seq #[] } = g0 at e0 k0
  refine ⟨⟨_, e0, rfl⟩, F.args_list_init_2 _ _, ?_⟩
  show wpAny _ A.in1.in1 (do let old ← Builtin.List.listItems (.ref L); Builtin.List.listUpdate (.ref L) (fun _ => #[]); letGo old.toList.reverse; Builtin.List.listExtendWith (.ref L) (.ref z) .none) _ _ _
  refine wpAny_bind ?_
  unfold Builtin.List.listItems
  refine wpAny_bind (wpAny_seqItems (s := { s with heap := g0 }) e0 rfl (wpAny_pure ?_))
  show wpAny _ A.in1.in1 (updateSeq L (fun _ => #[]) >>= fun _ => letGo (#[] : Array Value).toList.reverse >>= fun _ => Builtin.List.listExtendWith (.ref L) (.ref z) .none) _ _ _
  refine wpAny_bind (wpAny_updateSeq (s := { s with heap := g0 }) e0 rfl ?_)
  have e1 := Heap.get?_update_self (Obj.mapSeq (fun _ => (#[] : Array Value))) e0 rfl
  have k1 : ∀ d o, s.heap.get? d = some o → (g0.update L (Obj.mapSeq (fun _ => (#[] : Array Value)))).get? d = some o := fun d o e => (Heap.get?_update_other _ _ (Ne.symm (hLn d o e))).trans (k0 d o e)
  generalize g0.update L (Obj.mapSeq (fun _ => (#[] : Array Value))) = g1 at e1 k1
  refine wpAny_bind (wpAny_letGo ?_)
  unfold Builtin.List.listExtendWith
  have zt : ∀ g, (∀ d o, s.heap.get? d = some o → g.get? d = some o) → Shared.TypeIs { s with heap := g } (.ref z) "zip" := fun g k => ⟨_, k _ _ st.2.1, rfl⟩
  refine wpAny_bind (wpAny_typeOf (zt g1 k1) ?_)
  have c1 : Builtin.List.listSameRef (.ref L) (.ref z) = false := by
    simp [Builtin.List.listSameRef, Nat.ne_of_gt lo.z]
  have c2 : (Value.type "zip" == Value.type "list") = false := by decide
  have c3 : (Value.type "zip" == Value.type "tuple") = false := by decide
  simp only [c1, c2, c3, Bool.or_false, Bool.false_eq_true, if_false]
  refine wpAny_bind (wpAny_pyIter_zip (k1 _ _ st.2.1) ?_)
  refine wpAny_bind (wpAny_holding ?_)
  unfold Builtin.List.listLengthHint
  refine wpAny_bind (wpAny_specialOf (zt g1 k1) zl_no_len ?_)
  show wpAny _ A.in1.in1 (specialOf (Value.ref z) (Str.ofString "__length_hint__") >>= _) _ _ _
  refine wpAny_bind (wpAny_specialOf (zt g1 k1) zl_no_hint ?_)
  refine wpAny_pure ?_
  show wpAny _ A.in1.in1 (rule "list.extend.makes-room" >>= fun _ => Builtin.List.listTouch (.ref L) >>= fun _ => again (.builtin "list.extend.loop" ⟨[.ref L, .ref z, .none], []⟩)) _ _ _
  refine wpAny_bind (wpAny_rule ?_)
  refine wpAny_bind ?_
  show wpAny _ A.in1.in1 (updateSeq L (·.push .none) >>= fun _ => updateSeq L (·.pop)) _ _ _
  refine wpAny_bind (wpAny_updateSeq (s := { s with heap := g1 }) e1 rfl ?_)
  have e2 := Heap.get?_update_self (Obj.mapSeq (·.push Value.none)) e1 rfl
  have k2 : ∀ d o, s.heap.get? d = some o → (g1.update L (Obj.mapSeq (·.push Value.none))).get? d = some o := fun d o e => (Heap.get?_update_other _ _ (Ne.symm (hLn d o e))).trans (k1 d o e)
  generalize g1.update L (Obj.mapSeq (·.push Value.none)) = g2 at e2 k2
  refine wpAny_updateSeq (s := { s with heap := g2 }) e2 rfl ?_ (hz := by seq_fits)
  have e3 := Heap.get?_update_self (Obj.mapSeq (·.pop)) e2 rfl
  have k3 : ∀ d o, s.heap.get? d = some o → (g2.update L (Obj.mapSeq (·.pop))).get? d = some o := fun d o e => (Heap.get?_update_other _ _ (Ne.symm (hLn d o e))).trans (k2 d o e)
  generalize g2.update L (Obj.mapSeq (·.pop)) = g3 at e3 k3
  obtain ⟨⟨t1, t2, t3, t4, t5⟩, u, p, r, v⟩ := st
  refine wpAny_pure ⟨plainId_quiet F.plain_extend_loop _, zl_loop (A := A.in1) (L := L) hh D lo .none (min xs.size ys.size) rfl hz (min xs.size ys.size) { s with heap := g3 } [] _ (by simp)
    ⟨⟨k3 _ _ t1, t2.at fun o e => k3 _ o e, t3.at fun o e => k3 _ o e, t4.at fun o e => k3 _ o e, t5.at fun o e => k3 _ o e⟩, .inl ⟨k3 _ _ u, p, r, k3 _ _ v⟩⟩ e3 ⟨.nil, (fun _ h => nomatch h), fun j t hj => nomatch (show (none : Option Nat) = some t from hj)⟩ fun h' ts c' g l hl ht => ?_⟩
  exact ⟨rfl, q h' ts c' (fun d o n1 n2 n3 n4 e => g d o n1 n2 n3 n4 (hLn d o e) (k3 d o e)) l hl ht⟩
end
/-! ### .. at the hand layer -/
def updTs (H : Hp) : List Nat → List V → List V → Hp
  | t :: ts, x :: xs, y :: ys => upd (updTs H ts xs ys) t (.tup [x, y])
  | _, _, _ => H
theorem updTs_off {H : Hp} {b : Nat} : ∀ (ts : List Nat) (xs ys : List V), b ∉ ts → updTs H ts xs ys b = H b
  | [], _, _, _ => by simp [updTs]
  | _ :: _, [], _, _ => by simp [updTs]
  | _ :: _, _ :: _, [], _ => by simp [updTs]
  | t :: ts, x :: xs, y :: ys, h => by
    obtain ⟨h1, h2⟩ : b ≠ t ∧ b ∉ ts := ⟨fun z => h (by simp [z]), fun z => h (List.mem_cons_of_mem _ z)⟩
    show upd (updTs H ts xs ys) t _ b = H b
    rw [upd_ne h1, updTs_off ts xs ys h2]
theorem updTs_at {H : Hp} : ∀ (ts : List Nat) (xs ys : List V) (j : Nat) (t : Nat) (x y : V), ts.Nodup → ts[j]? = some t → xs[j]? = some x → ys[j]? = some y → updTs H ts xs ys t = some (.tup [x, y])
  | [], _, _, _, _, _, _, _, h, _, _ => by simp at h
  | _ :: _, [], _, _, _, _, _, _, _, h, _ => by simp at h
  | _ :: _, _ :: _, [], _, _, _, _, _, _, _, h => by simp at h
  | t :: ts, x :: xs, y :: ys, 0, _, _, _, _, h1, h2, h3 => by
    cases h1; cases h2; cases h3
    exact upd_same
  | t :: ts, x :: xs, y :: ys, j + 1, t', x', y', hn, h1, h2, h3 => by
    obtain ⟨n1, n2⟩ := List.nodup_cons.mp hn
    have h1' : ts[j]? = some t' := h1
    have : t' ≠ t := fun e => n1 (e ▸ List.mem_of_getElem? h1')
    show upd (updTs H ts xs ys) t _ t' = _
    rw [upd_ne this]
    exact updTs_at ts xs ys j t' x' y' n2 h1' h2 h3
theorem inv_many {X : Cx} {pins : List (Addr × Obj)} {σ : List (Option V)} {H H' : Hp} {s : Shared} {h' : Heap} {t' : Nat} (I : Inv X pins σ H s) (k : ∀ b u, s.heap.get? b = some u → h'.get? b = some u) (same : ∀ b : Nat, b < s.heap.objs.size → H' b = H b)
    (new : ∀ (b : Nat) o, s.heap.objs.size ≤ b → H' b = some o → ObjOk X.prog X.w H' h' b o) : Inv X pins σ H' { s with heap := h', toks := t' } := by
  have old : ∀ b o, H b = some o → H' b = some o := fun b o e => (same b (I.hok.lt e)).trans e
  refine I.un ⟨fun b o e n _ _ => k b o e, fun b o e n _ _ => ⟨o.slots, k b o e⟩, fun b o e n _ => (same b (Heap.lt_size e)).trans n, fun b o e _ => ⟨o, k b o e⟩, fun b xs e => old _ _ e, fun b o u e => old _ _ e, fun b ps e => ⟨#[], by rw [Array.append_empty]; exact old _ _ e⟩⟩ fun b o e => ?_
  rcases Nat.lt_or_ge b s.heap.objs.size with hb | hb
  · rw [same b hb] at e
    exact (I.hok b o e).stay (fun c v _ q => k c v q) (fun c q => old _ _ q) fun c xs q => old _ _ q
  · exact new b o hb e
def tLZ (K : PySem.W.Frag) (ta : TA) : TE := fun σ H Q => ta σ H fun vs H1 => ∃ a b xs ys, vs = [V.ref a, V.ref b] ∧ SqL K H1 a xs ∧ SqL K H1 b ys ∧
  ∀ (ts : List Nat) (L : Nat), ts.length = min xs.length ys.length → ts.Nodup → L ∉ ts → (∀ t ∈ ts, H1 t = none) → H1 L = none → Q (.ref L) (upd (updTs H1 ts xs ys) L (.lst (ts.map V.ref)))
theorem vals_ts : ∀ ts : List Nat, Vals (ts.map V.ref) (ts.map Value.ref)
  | [] => .nil
  | _ :: ts => .cons rfl (vals_ts ts)
theorem pe_listZip {X : Cx} {a b : Expr} {ta : TA} {p p2 pos pos2 : Pos} (hc : X.calm = true) (hg : Gl X "list") (hm : X.mg "list" = none) (hg2 : Gl X "zip") (hm2 : X.mg "zip" = none) (ha : PA X [a, b] ta)
    (na : starEach [.Call (.Name "zip" p2) [a, b] [] pos2] X.env = (false, eval (.Call (.Name "zip" p2) [a, b] [] pos2) X.env) :: starEach [] X.env := by rfl)
    (hs : starEach [a, b] X.env = (false, eval a X.env) :: starEach [b] X.env := by rfl) (hpl : (backTo pos2 (starEach [b] X.env)).any (·.1) = false := by rfl) :
    PE X (.Call (.Name "list" p) [.Call (.Name "zip" p2) [a, b] [] pos2] [] pos) (tLZ X.K ta) := by
  refine ⟨fun pins s σ H Q I h => ?_⟩
  refine Call_ (ld_blt I hg hm boot_list (PyProof.Rows.callWith_type1 (args_cons ?_ na) na))
  refine Call_ (ld_blt I hg2 hm2 PyProof.Rows.boot_zip (PyProof.Rows.callWith_type1 (thn (ha.run pos2 pins s σ H _ I h) fun us s1 ⟨vs, H1, I1, r1, q1⟩ => ?_) hs hpl))
  obtain ⟨a, b, xs, ys, ex, hqx, hqy, q⟩ := q1
  subst ex
  cases r1 with
  | cons r rr =>
    cases rr with
    | cons r' rr =>
      cases rr
      cases r
      cases r'
      obtain ⟨its, rv, p1, z1⟩ := I1.list hqx
      obtain ⟨its2, rv2, p2, z2⟩ := I1.list hqy
      have la : @LT.lt Nat _ a s1.heap.objs.size := p1.lt
      have lb : @LT.lt Nat _ b s1.heap.objs.size := p2.lt
      have l1 := rv.length
      have l2 := rv2.length
      refine call_zip_2 p1.isList p2.isList fun h' hz hTI hTO h1 h2 hsz hk => args_nil ?_
      generalize hN : s1.heap.objs.size = N at *
      refine zl_call (s := { s1 with heap := h' }) (I1.ok.hd hc) (by rw [← hN]; exact PySem.W.ktu_apart s1.heap.objs.size a b (by rw [hN]; exact la) (by rw [hN]; exact lb)) ?lo ?sz ⟨⟨hTI, h1, h2, p1.isList.at fun o e => hk _ o e, p2.isList.at fun o e => hk _ o e⟩, hz, _, _, hTO⟩ fun h'' ts c g hl hL ht => ?_
      case lo =>
        show Zlow _ _ _ _ _ _ _ h'.objs.size
        rw [hsz]
        exact ⟨by omega, by omega, by omega, by omega, by omega, by omega, by omega⟩
      case sz =>
        show min its.toArray.size its2.toArray.size ≤ sizeLine
        simp
        omega
      · simp only [] at g hL ht ⊢
        rw [hsz] at hL ht ⊢
        have hlen : ts.length = min xs.length ys.length := by
          rw [hl]
          simp
          omega
        have hnd : ts.Nodup := ht.asc.imp fun h => Nat.ne_of_lt h
        have hni : N + 5 ∉ ts := fun z => Nat.lt_irrefl _ (ht.lo _ z).1
        have hge : ∀ t ∈ ts, N ≤ t := fun t htm => by have := (ht.lo t htm).1; omega
        have fr : ∀ b : Nat, N ≤ b → H1 b = none := fun b hb => I1.hok.fresh (by rw [hN]; exact hb)
        have I2 : Inv X pins σ (upd (updTs H1 ts xs ys) (N + 5) (.lst (ts.map V.ref))) { s1 with heap := h'', toks := s1.toks } := by
          refine inv_many I1 (fun b u e => ?_) (fun b hb => ?_) fun b o hb e => ?_
          · have hb : @LT.lt Nat _ b N := by rw [← hN]; exact Heap.lt_size e
            exact g b u (Nat.ne_of_lt (by omega)) (Nat.ne_of_lt (by omega)) (Nat.ne_of_lt (by omega)) (Nat.ne_of_lt (by omega)) (hk b u e)
          · rw [hN] at hb
            rw [upd_ne (Nat.ne_of_lt (by omega)), updTs_off ts xs ys fun z => by have := hge b z; omega]
          · rw [hN] at hb
            by_cases e1 : b = N + 5
            · subst e1
              rw [upd_same] at e
              cases e
              refine ⟨?_, ts.map Value.ref, c, vals_ts ts, hL⟩
              rw [List.length_map, hlen]
              omega
            · rw [upd_ne e1] at e
              by_cases e2 : b ∈ ts
              · obtain ⟨j, hj⟩ := List.getElem?_of_mem e2
                obtain ⟨x', y', x1, y1, hp⟩ := ht.pair j b hj
                have hjl := (List.getElem?_eq_some_iff.mp hj).1
                have jx : j < xs.length := by omega
                have jy : j < ys.length := by omega
                rw [updTs_at ts xs ys j b xs[j] ys[j] hnd hj (List.getElem?_eq_getElem jx) (List.getElem?_eq_getElem jy)] at e
                cases e
                obtain ⟨u1, hu1, ru1⟩ := rv.get (List.getElem?_eq_getElem jx)
                obtain ⟨u2, hu2, ru2⟩ := rv2.get (List.getElem?_eq_getElem jy)
                obtain rfl : x' = u1 := by
                  have : its.toArray[j]? = some u1 := by simpa using hu1
                  exact Option.some.inj (x1.symm.trans this)
                obtain rfl : y' = u2 := by
                  have : its2.toArray[j]? = some u2 := by simpa using hu2
                  exact Option.some.inj (y1.symm.trans this)
                exact ⟨by show 2 ≤ sizeLine; decide, [x', y'], .cons ru1 (.cons ru2 .nil), ⟨_, hp, rfl, _, rfl⟩⟩
              · rw [updTs_off ts xs ys e2, fr b hb] at e
                cases e
        exact ⟨.ref (N + 5), _, I2, rfl, q ts (N + 5) hlen hnd hni (fun t htm => fr t (hge t htm)) (fr _ (by omega))⟩
/-! ### .. over data -/
def fLZip : List D → (D → Prop) → Prop
  | [.lst xs, .lst ys], Q => Q (.lst (zipD xs ys))
  | _, _ => False
@[simp] theorem fLZip_1 (xs ys : List D) (Q : D → Prop) : fLZip [.lst xs, .lst ys] Q = Q (.lst (zipD xs ys)) := rfl
theorem ev_ts {S : As} {H : Hp} (ws : Ws S H) : ∀ (ts : List Nat) (xs ys : List V), ts.Nodup → (∀ t ∈ ts, H t = none) → Ev S H S (updTs H ts xs ys) ∧ Ws S (updTs H ts xs ys)
  | [], _, _, _, _ => ⟨by simpa [updTs] using Ev.refl, by simpa [updTs] using ws⟩
  | _ :: _, [], _, _, _ => ⟨by simpa [updTs] using Ev.refl, by simpa [updTs] using ws⟩
  | _ :: _, _ :: _, [], _, _ => ⟨by simpa [updTs] using Ev.refl, by simpa [updTs] using ws⟩
  | t :: ts, x :: xs, y :: ys, hn, h => by
    obtain ⟨n1, n2⟩ := List.nodup_cons.mp hn
    obtain ⟨e, w⟩ := ev_ts ws ts xs ys n2 fun t ht => h t (List.mem_cons_of_mem _ ht)
    have h0 : updTs H ts xs ys t = none := (updTs_off ts xs ys n1).trans (h t (List.mem_cons_self ..))
    exact ⟨e.trans w (.upd h0), w.upd h0⟩
theorem reps_ts {K : PySem.W.Frag} {S : As} {H : Hp} : ∀ (ts : List Nat) (xs ys : List V) (ds es : List D), ts.length = min xs.length ys.length → (∀ (j t : Nat) x y, ts[j]? = some t → xs[j]? = some x → ys[j]? = some y → H t = some (.tup [x, y])) →
    Reps K S H xs ds → Reps K S H ys es → Reps K S H (ts.map V.ref) (zipD ds es)
  | ts, [], ys, ds, es, hl, _, r1, _ => by
    cases r1
    have : ts = [] := List.eq_nil_of_length_eq_zero (by simpa using hl)
    subst this
    exact .nil
  | ts, x :: xs, [], ds, es, hl, _, r1, r2 => by
    cases r2
    have : ts = [] := List.eq_nil_of_length_eq_zero (by simpa using hl)
    subst this
    cases r1
    exact .nil
  | [], x :: xs, y :: ys, _, _, hl, _, _, _ => by simp at hl
  | t :: ts, x :: xs, y :: ys, _, _, hl, h, r1, r2 => by
    cases r1 with
    | cons a1 b1 => cases r2 with
      | cons a2 b2 => exact .cons (.tup (SqT.of (h 0 t x y rfl rfl rfl)) (.cons a1 (.cons a2 .nil))) (reps_ts ts xs ys _ _ (by simp at hl; omega) (fun j t' x' y' h1 h2 h3 => h (j + 1) t' x' y' h1 h2 h3) b1 b2)
theorem d_lzip {X : Cx} {E : XK} {a b : Expr} {w : WA} {p p2 pos pos2 : Pos} (hc : X.calm = true) (hg : Gl X "list") (hm : X.mg "list" = none) (hg2 : Gl X "zip") (hm2 : X.mg "zip" = none) (ha : PA X [a, b] (tDA X.K E w))
    (na : starEach [.Call (.Name "zip" p2) [a, b] [] pos2] X.env = (false, eval (.Call (.Name "zip" p2) [a, b] [] pos2) X.env) :: starEach [] X.env := by rfl)
    (hs : starEach [a, b] X.env = (false, eval a X.env) :: starEach [b] X.env := by rfl) (hpl : (backTo pos2 (starEach [b] X.env)).any (·.1) = false := by rfl) :
    PE X (.Call (.Name "list" p) [.Call (.Name "zip" p2) [a, b] [] pos2] [] pos) (tD X.K E (wCB fLZip w)) :=
  (pe_listZip hc hg hm hg2 hm2 ha na hs hpl).frz.imp fun σ H Q h => by
    obtain ⟨O, S, Γ, Qd, Ed, ws, m, w, k, ke⟩ := h
    refine ⟨O, S, Γ, _, Ed, ws, m, w, fun vs ds S1 H1 q1 e1 w1 r1 => ?_, ke⟩
    unfold fLZip at q1
    split at q1
    · obtain ⟨v, u, rfl, q, q'⟩ := reps2 r1
      cases q with
      | lst ha hx => cases q' with
        | lst hb hy =>
          refine ⟨_, _, _, _, rfl, ha.sq, hb.sq, fun ts L hl hn hL hts hLn => ?_⟩
          obtain ⟨e2, w2⟩ := ev_ts w1 ts _ _ hn hts
          exact new_lst w2 (reps_ts ts _ _ _ _ hl (fun j t x y h1 h2 h3 => updTs_at ts _ _ j t x y hn h1 h2 h3) (Reps.stb (e2.stb w1) _ _ hx) (Reps.stb (e2.stb w1) _ _ hy)) q1 (fun v d S' H' q e w' r => k v d S' H' q ((e1.trans w1 e2).trans w2 e) w' r) L ((updTs_off ts _ _ hL).trans hLn)
    · exact q1.elim
end PD

set_option Elab.async false
set_option linter.all false
set_option maxRecDepth 100000
set_option maxHeartbeats 2000000
namespace PD
open PySem PySem.Spec PyProof.Rows L2
open HotX (HotAt raiseNew_hot)
/-! ### while an error is handled: the end of an iterator -/
section
variable {prog : Program} {w : World} {A : Around} {E : Value → Shared → Prop} {s : Shared}
theorem HotAt.keep {x1 : Addr} {h h' : Heap} (hot : HotAt A x1 h) (k : ∀ o, h.get? x1 = some o → h'.get? x1 = some o) : HotAt A x1 h' := by
  obtain ⟨hh, o, vs, e, d, c⟩ := hot
  exact ⟨hh, o, vs, k o e, d, c⟩
theorem nextOf_end_hot {it l x1 : Addr} {i : Nat} {items : Array Value} {Q : Value → Shared → Prop} (hot : HotAt A x1 s.heap) (hne : x1 ≠ it) (hit : s.heap.IsListIter it l i) (hl : s.heap.IsList l items) (hx : items[i]? = none)
    (hE : ∀ h' e, Heap.ExtBut it s.heap h' → (∃ o, h'.get? e = some o ∧ o.cls = .type "StopIteration") → E (.ref e) { s with heap := h' }) : wpAny (model prog w) A (Builtin.SmallTypes.nextOf (.ref it)) Q E s := by
  obtain ⟨o, ho, _, hd⟩ := id hit
  obtain ⟨ol, hol, _, nl, hdl⟩ := hl
  obtain ⟨hh, o1, v1, e1, d1, c1⟩ := hot
  unfold Builtin.SmallTypes.nextOf
  refine wpAny_bind (wpAny_callSpecial?_slot (name := Str.ofString "__next__") hit.typeIs slot_listiter_next (wpAny_call_entry slot_listiter_next hit.typeIs entry_listiter_next ?_ (args_listiter_next _)))
  show wpAny _ _ (field (.ref it) 0 >>= _) _ _ s
  refine wpAny_bind (wpAny_field ho hd (x := .ref l) rfl ?_)
  show wpAny _ _ (if (Value.ref l == Value.none) = true then _ else _) _ _ s
  rw [if_neg (show ¬ ((Value.ref l == Value.none) = true) from Bool.false_ne_true)]
  show wpAny _ _ (field (.ref it) 1 >>= _) _ _ s
  refine wpAny_bind (wpAny_field ho hd (x := .int i 0) rfl ?_)
  show wpAny _ _ (seqItems? (.ref l) >>= _) _ _ s
  refine wpAny_bind (wpAny_seqItems hol hdl ?_)
  simp only [Int.toNat_natCast, hx]
  refine wpAny_bind (wpAny_rule (wpAny_bind (wpAny_setField ho hd (by simp) ?_)))
  show wpAny _ _ (newExc (.type "StopIteration") [] >>= _) _ _ _
  refine wpAny_bind ?_
  simp only [newExc, newTuple]
  refine wpAny_bind (wpAny_newObj_type ?_ (by size_fits))
  refine wpAny_bind (m := firstArgMember _ _) (wpAny_of_eq (a := Value.none) (by first | rfl | (simp only [firstArgMember]; rfl)) ?_)
  refine wpAny_newObj_type ?_ (by size_fits)
  have e2 := (Heap.get?_update_other s.heap (Obj.mapFields (·.setIfInBounds 0 Value.none)) (Ne.symm hne)).trans e1
  refine raiseNew_hot ⟨hh, o1, v1, Heap.get?_push_of_some _ (Heap.get?_push_of_some _ e2), d1, c1⟩ (Nat.ne_of_lt (Heap.lt_size (Heap.get?_push_of_some _ e2))) (Heap.get?_push_size _ rfl) rfl (by first | (simp; done) | (simp; omega) | (simp only [Array.size_append]; simp; omega)) ?_
  refine hE _ _ (fun b ob hb e => ?_) ⟨_, Heap.get?_update_self _ (Heap.get?_push_size _ rfl) rfl, rfl⟩
  have e3 := (Heap.get?_update_other s.heap (Obj.mapFields (·.setIfInBounds 0 Value.none)) (Ne.symm hb)).trans e
  rw [Heap.get?_update_other _ _ (Nat.ne_of_gt (Heap.lt_size (Heap.get?_push_of_some _ e3)))]
  exact Heap.get?_push_of_some _ (Heap.get?_push_of_some _ e3)
theorem zip_end_hot {z TI TO i1 i2 l1 l2 x1 : Addr} {k1 k2 : Nat} {xs ys : Array Value} {a b : Value} {Q : Fin → Shared → Prop} (hot : HotAt A x1 s.heap) (nz : x1 ≠ z) (nTO : x1 ≠ TO) (n1 : x1 ≠ i1) (n2 : x1 ≠ i2) (D : ZipApart z TI TO i1 i2 l1 l2)
    (hz : IsZip s.heap z TI TO .none) (hTI : IsPair s.heap TI (.ref i1) (.ref i2)) (hTO : IsPair s.heap TO a b) (h1 : s.heap.IsListIter i1 l1 k1) (h2 : s.heap.IsListIter i2 l2 k2) (hl1 : s.heap.IsList l1 xs) (hl2 : s.heap.IsList l2 ys) (hend : xs[k1]? = none ∨ ys[k2]? = none)
    (hE : ∀ h' e, (∀ c o, c ≠ z → c ≠ TO → c ≠ i1 → c ≠ i2 → s.heap.get? c = some o → h'.get? c = some o) → (∃ o, h'.get? e = some o ∧ o.cls = .type "StopIteration") → E (.ref e) { s with heap := h' }) :
    wpAny (model prog w) A (Builtin.«zip.__next__» ⟨[.ref z], []⟩) Q E s := by
  show wpAny _ _ (field (.ref z) 2 >>= _) _ _ _
  refine wpAny_bind (wpAny_field hz rfl (x := .bool false) rfl ?_)
  show wpAny _ _ (field (.ref z) 3 >>= _) _ _ _
  refine wpAny_bind (wpAny_field hz rfl (x := .ref TI) rfl ?_)
  refine wpAny_bind (wpAny_seqItems hTI rfl ?_)
  show wpAny _ _ (Builtin.SmallTypes.ownedTupleIsFree (.ref z) >>= _) _ _ _
  refine wpAny_bind ?_
  unfold Builtin.SmallTypes.ownedTupleIsFree
  refine wpAny_bind (wpAny_field hz rfl (x := .none) rfl (wpAny_pure ?_))
  simp only [if_true]
  refine wpAny_bind (wpAny_rule ?_)
  refine wpAny_bind (wpAny_field hz rfl (x := .ref TO) rfl ?_)
  refine wpAny_bind (wpAny_setField_rec hz (by simp) fun g1 z1 s1 => ?_)
  replace z1 : IsZip g1 z TI TO .ellipsis := z1
  refine wpAny_bind ?_
  simp only [List.zipIdx_cons, List.zipIdx_nil, List.forIn_cons, List.forIn_nil]
  refine wpAny_bind (wpAny_bind (wpAny_onRaise ?_))
  have hot1 : HotAt A x1 g1 := HotAt.keep hot fun o e => s1.extBut _ _ nz e
  show wpAny _ _ (Builtin.SmallTypes.nextOf (.ref i1) >>= _) _ _ _
  cases hx : xs[k1]? with
  | none =>
    refine wpAny_bind (nextOf_end_hot (s := { s with heap := g1 }) hot1 n1 (h1.extBut s1.extBut D.i1z) (hl1.extBut s1.extBut D.l1z) hx fun g2 e s2 he => ?_)
    obtain ⟨oe, hoe, hce⟩ := he
    have z2 : IsZip g2 z TI TO .ellipsis := s2 _ _ D.i1z.symm z1
    have hez : e ≠ z := fun x => by subst x; rw [z2] at hoe; cases hoe; simp at hce
    refine wpAny_setField_rec z2 (by simp) fun g3 _ s3 => hE g3 e (fun c o c1 _ c3 _ x => s3.extBut _ _ c1 (s2 _ _ c3 (s1.extBut _ _ c1 x))) ⟨oe, s3.extBut _ _ hez hoe, hce⟩
  | some x =>
    have hy : ys[k2]? = none := by rcases hend with h | h; rw [hx] at h; cases h; exact h
    refine wpAny_bind (wpAny_nextOf_list_item (s := { s with heap := g1 }) (h1.extBut s1.extBut D.i1z) (hl1.extBut s1.extBut D.l1z) hx fun g2 _ s2 => wpAny_pure ?_)
    have t2 : IsPair g2 TO a b := s2.extBut _ _ D.TOi1 (s1.extBut _ _ D.TOz hTO)
    refine wpAny_bind (wpAny_seqItems t2 rfl ?_)
    refine wpAny_bind (wpAny_updateSeq_pair t2 fun g3 t3 s3 => ?_)
    refine wpAny_bind (wpAny_letGo (wpAny_pure ?_))
    refine wpAny_bind (wpAny_bind (wpAny_onRaise ?_))
    have hot3 : HotAt A x1 g3 := HotAt.keep (HotAt.keep hot1 fun o e => s2.extBut _ _ n1 e) fun o e => s3.extBut _ _ nTO e
    show wpAny _ _ (Builtin.SmallTypes.nextOf (.ref i2) >>= _) _ _ _
    refine wpAny_bind (nextOf_end_hot (s := { s with heap := g3 }) hot3 n2 (((h2.extBut s1.extBut D.i2z).extBut s2.extBut D.i12.symm).extBut s3.extBut D.TOi2.symm) (((hl2.extBut s1.extBut D.l2z).extBut s2.extBut D.l2i1).extBut s3.extBut D.l2TO) hy fun g4 e s4 he => ?_)
    obtain ⟨oe, hoe, hce⟩ := he
    have z4 : IsZip g4 z TI TO .ellipsis := s4 _ _ D.i2z.symm (s3.extBut _ _ D.TOz.symm (s2.extBut _ _ D.i1z.symm z1))
    have hez : e ≠ z := fun x => by subst x; rw [z4] at hoe; cases hoe; simp at hce
    refine wpAny_setField_rec z4 (by simp) fun g5 _ s5 => hE g5 e (fun c o c1 c2 c3 c4 x => s5.extBut _ _ c1 (s4 _ _ c4 (s3.extBut _ _ c2 (s2.extBut _ _ c3 (s1.extBut _ _ c1 x))))) ⟨oe, s5.extBut _ _ hez hoe, hce⟩
theorem pyNext_zip_end_hot {z TI TO i1 i2 l1 l2 x1 : Addr} {k1 k2 : Nat} {xs ys : Array Value} {a b : Value} {Q : Option Value → Shared → Prop} (hot : HotAt A x1 s.heap) (nz : x1 ≠ z) (nTO : x1 ≠ TO) (n1 : x1 ≠ i1) (n2 : x1 ≠ i2) (D : ZipApart z TI TO i1 i2 l1 l2)
    (hz : IsZip s.heap z TI TO .none) (hTI : IsPair s.heap TI (.ref i1) (.ref i2)) (hTO : IsPair s.heap TO a b) (h1 : s.heap.IsListIter i1 l1 k1) (h2 : s.heap.IsListIter i2 l2 k2) (hl1 : s.heap.IsList l1 xs) (hl2 : s.heap.IsList l2 ys) (hend : xs[k1]? = none ∨ ys[k2]? = none)
    (hQ : ∀ h', (∀ c o, c ≠ z → c ≠ TO → c ≠ i1 → c ≠ i2 → s.heap.get? c = some o → h'.get? c = some o) → Q none { s with heap := h' }) : wpAny (model prog w) A (pyNext (.ref z)) Q E s := by
  have hT : s.TypeIs (.ref z) "zip" := ⟨_, hz, rfl⟩
  unfold pyNext
  refine wpAny_bind (wpAny_attempt (wpAny_callSpecial?_slot (name := Str.ofString "__next__") hT F.slot_zip_next
    (wpAny_call_entry F.slot_zip_next hT F.entry_zip_next (zip_end_hot ?_ nz nTO n1 n2 D hz hTI hTO h1 h2 hl1 hl2 hend fun h' e hk he => ?_) (F.args_zip_next_1 _))))
  · obtain ⟨hh, r⟩ := hot
    exact ⟨hh, r⟩
  · obtain ⟨o, ho, hc⟩ := he
    refine wpAny_bind (wpAny_isInstance (T := "StopIteration") (b := true) ⟨o, ho, hc⟩ isSubtype_stop ?_)
    exact wpAny_pure (hQ _ hk)
end
end PD

set_option Elab.async false
set_option linter.all false
set_option maxRecDepth 100000
set_option maxHeartbeats 2000000
namespace PD
open PySem PySem.Spec PyProof.Rows L2
open HotX (HotAt raiseNew_hot)
/-- the error that is handled is tracked from the def's start on; its context is None -/
def HotT (X : Cx) : Prop := ∃ (a : Addr) (oe : Obj) (u : HO) (vs : Array Value), X.A.handled = some (.ref a) ∧ X.H_0 a = some (.frz oe u) ∧ oe.data = .fields vs ∧ vs[2]? = some .none
theorem HotT.at {X : Cx} {pins : List (Addr × Obj)} {σ : L2.St} {H : Hp} {s : Shared} (c : HotT X) (I : Inv X pins σ H s) : ∃ a oe u, H a = some (.frz oe u) ∧ HotAt X.A a s.heap := by
  obtain ⟨a, oe, u, vs, h1, h2, h3, h4⟩ := c
  have h := I.base.frzs a oe u h2
  exact ⟨a, oe, u, h, h1, oe, vs, (I.hok a _ h).1, h3, h4⟩
/-! ### what is walked -/
structure TurnT (P : Program) (w : World) (K : PySem.W.Frag) (tg : Expr) (J : It) (fp : List Addr) (it : Addr) (tn : Nat → Heap → Prop) : Prop where
  base : Turn P w K tg J fp it tn
  item : ∀ (X : Cx), X.prog = P → X.w = w → X.K = K → ∀ (i : Nat) (pins : List (Addr × Obj)) (s : Shared) (σ : L2.St) (H : Hp) (E : Value → Shared → Prop), Inv X pins σ H s → (∀ b ∈ fp, FpOk X pins H b) → tn i s.heap → J.go i H →
    wpAny (model P w) X.A (pyNext (.ref it)) (fun r s1 => ∃ u, r = some u ∧ wpAny (model P w) X.A (letOwnedTupleGo tg (.ref it) u) (fun _ s2 => ∃ x H', Inv X pins σ H' s2 ∧ RelV x u ∧ J.yld i H x H' ∧ tn (i + 1) s2.heap ∧ ∀ b ∈ fp, H' b = none) E s1) E s
  done : ∀ (X : Cx), X.prog = P → X.w = w → X.K = K → HotT X → ∀ (i : Nat) (pins : List (Addr × Obj)) (s : Shared) (σ : L2.St) (H : Hp) (E : Value → Shared → Prop), Inv X pins σ H s → (∀ b ∈ fp, FpOk X pins H b) → tn i s.heap → J.stop i H →
    wpAny (model P w) X.A (pyNext (.ref it)) (fun r s1 => r = none ∧ Inv X pins σ H s1) E s
theorem turn_zipT {P : Program} {w : World} {K : PySem.W.Frag} {elts : List Expr} {kk : Nat} {tpos : Pos} {a b z TI TO i1 i2 : Addr} (D : ZipApart z TI TO i1 i2 a b) :
    TurnT P w K (.Tuple elts kk tpos) (Itz K a b) [z, TI, TO, i1, i2] z (fun i h => IsZip h z TI TO .none ∧ IsPair h TI (.ref i1) (.ref i2) ∧ (∃ x y, IsPair h TO x y) ∧ h.IsListIter i1 a i ∧ h.IsListIter i2 b i) where
  base := turn_zip D
  item := by
    intro X hP hw hK i pins s σ H E I hf st ⟨xs, ys, x, y, gx, gy, hx, hy⟩
    subst hP hw hK
    obtain ⟨hz, hTI, ⟨x0, y0, hTO⟩, h1, h2⟩ := st
    obtain ⟨as, ra, pa, _⟩ := I.list gx
    obtain ⟨bs, rb, pb, _⟩ := I.list gy
    obtain ⟨u, eu, ru⟩ := ra.get hx
    obtain ⟨v, ev, rv⟩ := rb.get hy
    have lz : z < s.heap.objs.size := Heap.lt_size hz
    refine wpAny_pyNext_zip_item D hz hTI hTO h1 h2 pa.isList pb.isList (x := u) (y := v) (by simpa using eu) (by simpa using ev) fun g zg tg h1g h2g hT hsz hk => ?_
    refine ⟨_, rfl, wpAny_letOwnedTupleGo_zip (s := { s with heap := g }) zg fun g2 zg2 sb => ?_⟩
    have hT2 : g2.get? s.heap.objs.size = some { cls := .type "tuple", data := .seq #[u, v] } := (sb.2 _ (Nat.ne_of_gt lz)).trans hT
    have new : ObjOk X.prog X.w (upd H s.heap.objs.size (.tup [x, y])) g2 s.heap.objs.size (.tup [x, y]) := ⟨by show 2 ≤ sizeLine; decide, [u, v], .cons ru (.cons rv .nil), ⟨_, hT2, rfl, _, rfl⟩⟩
    have nm : ∀ c, c ∉ [z, TI, TO, i1, i2] → c ≠ z ∧ c ≠ TO ∧ c ≠ i1 ∧ c ≠ i2 := fun c hb => ⟨fun q => hb (by simp [q]), fun q => hb (by simp [q]), fun q => hb (by simp [q]), fun q => hb (by simp [q])⟩
    have I1 : Inv X pins σ (upd H s.heap.objs.size (.tup [x, y])) { s with heap := g2 } :=
      I.turnedNew (t' := s.toks) (ch := [z, TI, TO, i1, i2]) (fun c o hb q => let ⟨q1, q2, q3, q4⟩ := nm c hb; (sb.2 c q1).trans (hk c o q1 q2 q3 q4 q)) hf (Nat.le_refl _) new
    refine ⟨.ref s.heap.objs.size, _, I1, rfl, ⟨_, x, y, rfl, I.hok.fresh (Nat.le_refl _), rfl, fun l hl => by rw [I.list_inj hl gx]; exact hx, fun l hl => by rw [I.list_inj hl gy]; exact hy⟩,
      ⟨zg2, (sb.2 _ D.TIz).trans (hk _ _ D.TIz D.TITO D.TIi1 D.TIi2 hTI), ⟨u, v, (sb.2 _ D.TOz).trans tg⟩, h1g.at fun o q => (sb.2 _ D.i1z).trans q, h2g.at fun o q => (sb.2 _ D.i2z).trans q⟩, fun c hcm => ?_⟩
    have hlt : c < s.heap.objs.size := by
      obtain ⟨o, e, _⟩ := (turn_zip (P := X.prog) (w := X.w) (K := X.K) (elts := elts) (kk := kk) (tpos := tpos) D).obj i s.heap ⟨hz, hTI, ⟨x0, y0, hTO⟩, h1, h2⟩ c hcm
      exact Heap.lt_size e
    rw [upd_ne (Nat.ne_of_lt hlt)]
    exact (hf c hcm).1
  done := by
    intro X hP hw hK hc i pins s σ H E I hf st ⟨xs, ys, gx, gy, hend⟩
    subst hP hw hK
    obtain ⟨hz, hTI, ⟨x0, y0, hTO⟩, h1, h2⟩ := st
    obtain ⟨as, ra, pa, _⟩ := I.list gx
    obtain ⟨bs, rb, pb, _⟩ := I.list gy
    have l1 := ra.length
    have l2 := rb.length
    have he : as.toArray[i]? = none ∨ bs.toArray[i]? = none := by
      rcases hend with q | q
      · exact .inl (by simp; omega)
      · exact .inr (by simp; omega)
    obtain ⟨x1, oe, u, hx1, hot⟩ := hc.at I
    have ne : ∀ c ∈ [z, TI, TO, i1, i2], x1 ≠ c := fun c hm e => by
      have := (hf c hm).1
      rw [← e, hx1] at this
      cases this
    exact pyNext_zip_end_hot hot (ne z (by simp)) (ne TO (by simp)) (ne i1 (by simp)) (ne i2 (by simp)) D hz hTI hTO h1 h2 pa.isList pb.isList he fun h' hk => ⟨rfl, I.turnedL (t' := s.toks) (ch := [z, TI, TO, i1, i2]) (fun c o hb q =>
      hk c o (fun e => hb (by simp [e])) (fun e => hb (by simp [e])) (fun e => hb (by simp [e])) (fun e => hb (by simp [e])) q) hf⟩
def PIET (X : Cx) (pins : List (Addr × Obj)) (σ : L2.St) (tg : Expr) (R : It → Hp → Prop) (itv : Value) (s2 : Shared) : Prop :=
  ∃ (it : Addr) (fp : List Addr) (tn : Nat → Heap → Prop) (J : It) (H' : Hp), itv = .ref it ∧ Inv X pins σ H' s2 ∧ TurnT X.prog X.w X.K tg J fp it tn ∧ tn 0 s2.heap ∧ (∀ b ∈ fp, FpOk X pins H' b) ∧ R J H'
structure PIT (X : Cx) (tg iter : Expr) (wi : TI) : Prop where
  run : ∀ (pins : List (Addr × Obj)) (s : Shared) (σ : L2.St) (H : Hp) (R : It → Hp → Prop), Inv X pins σ H s → wi σ H R →
    wpAny (model X.prog X.w) X.A (eval iter X.env) (fun v s1 => wpAny (model X.prog X.w) X.A (pyIter v) (PIET X pins σ tg R) X.xe s1) X.xe s
theorem PIT.imp {X : Cx} {tg iter : Expr} {wi wj : TI} (h : PIT X tg iter wi) (k : ∀ σ H R, wj σ H R → wi σ H R) : PIT X tg iter wj := ⟨fun pins s σ H R I w => h.run pins s σ H R I (k σ H R w)⟩
theorem pi_zipT {X : Cx} {e e2 : Expr} {ta : TA} {p pos tpos : Pos} {elts : List Expr} {kk : Nat} (hg : Gl X "zip") (hm : X.mg "zip" = none) (ha : PA X [e, e2] ta)
    (hs : starEach [e, e2] X.env = (false, eval e X.env) :: starEach [e2] X.env := by rfl) (hpl : (backTo pos (starEach [e2] X.env)).any (·.1) = false := by rfl) : PIT X (.Tuple elts kk tpos) (.Call (.Name "zip" p) [e, e2] [] pos) (iZip X.K ta) := by
  refine ⟨fun pins s σ H R I h => ?_⟩
  refine Call_ (ld_blt I hg hm PyProof.Rows.boot_zip (PyProof.Rows.callWith_type1 (thn (ha.run pos pins s σ H _ I h) fun us s1 ⟨vs, H1, I1, r1, q1⟩ => ?_) hs hpl))
  obtain ⟨a, b, xs, ys, ex, gx, gy, q⟩ := q1
  subst ex
  cases r1 with
  | cons r rr => cases rr with
    | cons r' rr =>
      cases rr
      cases r
      cases r'
      obtain ⟨as, ra, pa, _⟩ := I1.list gx
      obtain ⟨bs, rb, pb, _⟩ := I1.list gy
      refine call_zip_2 pa.isList pb.isList fun h' hz hTI hTO h1 h2 hsz hk => wpAny_pyIter_zip hz ?_
      have I2 : Inv X pins σ H1 { s1 with heap := h' } := I1.kept (t' := s1.toks) hk
      refine ⟨s1.heap.objs.size + 4, [s1.heap.objs.size + 4, s1.heap.objs.size + 2, s1.heap.objs.size + 3, s1.heap.objs.size, s1.heap.objs.size + 1], _, _, H1, rfl, I2, turn_zipT (PySem.W.ktu_apart s1.heap.objs.size a b pa.lt pb.lt), ⟨hz, hTI, ⟨_, _, hTO⟩, h1, h2⟩, fun c hcm => ?_, q⟩
      have hle : s1.heap.objs.size ≤ c := by
        have e' : c = s1.heap.objs.size + 4 ∨ c = s1.heap.objs.size + 2 ∨ c = s1.heap.objs.size + 3 ∨ c = s1.heap.objs.size ∨ c = s1.heap.objs.size + 1 := by simpa using hcm
        rcases e' with e | e | e | e | e <;> rw [e] <;> first | exact Nat.le_refl _ | exact Nat.le_add_right _ _
      exact I1.fpOk hle (I1.hok.fresh hle)
end PD

set_option Elab.async false
set_option linter.all false
set_option maxRecDepth 100000
set_option maxHeartbeats 2000000
namespace PD
open PySem PySem.Spec PyProof.Rows L2
open HotX (HotAt)
/-! ### a list comprehension while an error is handled -/
section
variable {X : Cx}
theorem lc_coreT {pins : List (Addr × Obj)} {s : Shared} {σ : L2.St} {H : Hp} {Q : VK} {elt tg iter : Expr} {ifs : List Expr} {scope : Scope} {own : List (Str × Nat)} {pos pos' : Pos} {wi : TI} {g : TG} {tt : TT} {te : TE} {use : Option (Value → Sem Unit)} {Qf : Value → Shared → Prop}
    (hc : HotT X) (hN : X.N.Nodup) (I : Inv X pins σ H s) (hi : PIT X tg iter wi) (ok : BlkOk X.N X.env.scope scope own)
    (hg : ∀ (s : Shared) (H : Hp) (C : Addr) (cl : List (Str × Addr)) (fp : List Addr), HotT (X.blk s H scope (compEnvC scope cl C X.env) fp) → PG (X.blk s H scope (compEnvC scope cl C X.env) fp) tg g) (ht : ∀ (s : Shared) (H : Hp) (C : Addr) (cl : List (Str × Addr)) (fp : List Addr), PTs (X.blk s H scope (compEnvC scope cl C X.env) fp) ifs tt)
    (he : ∀ (s : Shared) (H : Hp) (C : Addr) (cl : List (Str × Addr)) (fp : List Addr), PE (X.blk s H scope (compEnvC scope cl C X.env) fp) elt te) (hs : ∀ x, foldedSetIterable iter X.env x = pure x)
    (h : tLc wi g tt te (own.map (·.2)) σ H Q)
    (out : ∀ D C s' m H', Inv X pins σ H' s' → Q (.ref D) H' → s'.heap.Ns C m → FpOk X pins H' C → compPost (model X.prog X.w) X.A X.xe use Qf (.ref D) C (.ok .next) s') :
    wpAny (model X.prog X.w) X.A (comprehension (.ListComp elt [⟨tg, iter, ifs, 0⟩] scope pos) scope X.env pos' (newList []) false (eval iter X.env) use) Qf X.xe s := by
  have fr : ∀ y ∈ scope.names, y.2 = .free → ∃ c, X.env.cells.lookup y.1 = some c := fun y hy e => (ok.free y hy e).elim (fun k => I.ok.has _ (.inl k)) fun k => I.ok.has _ (.inr k)
  refine wpAny_comprehension_free (use := use) rfl hs (closure_ok fr) ok.kind (fun y hy e => by rw [ok.uniq y hy, e]) (thn (hi.run pins s σ H _ I h) fun xv s1 hx => thn hx fun itv s2 ⟨it, fp, tn, J, H2, e, I2, T, st2, f2, q⟩ => ?_)
  subst e
  refine wpAny_newObj_type (newEnv_comp ?_) (by show 0 ≤ sizeLine; decide)
  generalize hD : s2.heap.objs.size = D
  obtain ⟨W, ⟨m0, w0⟩, turn⟩ := q D (I2.hok.fresh (Nat.le_of_eq hD))
  generalize hs3 : ({ s2 with heap := s2.heap.push { cls := .type "list", data := .seq ([] : List Value).toArray } } : Shared) = s3
  have h3 : s3.heap = s2.heap.push { cls := .type "list", data := .seq ([] : List Value).toArray } := by rw [← hs3]
  have I3 : Inv X pins σ (upd H2 D (.lst [])) s3 := by
    rw [← hs3]
    exact I2.laid (t' := s2.toks) (fun b o e => Heap.get?_push_of_some _ e) (Nat.le_of_eq hD) ⟨Nat.zero_le _, [], 0, .nil, by rw [← hD]; exact Heap.get?_push_size _ rfl⟩
  have f3 : ∀ b ∈ fp, FpOk X pins (upd H2 D (.lst [])) b ∧ b < s3.heap.objs.size := fun b hb => by
    obtain ⟨o, e, _⟩ := T.base.obj _ _ st2 b hb
    have hlt := Heap.lt_size e
    refine ⟨⟨?_, (f2 b hb).2⟩, by rw [h3, Heap.size_push]; exact Nat.lt_succ_of_lt hlt⟩
    rw [upd_ne (by rw [← hD]; exact Nat.ne_of_lt hlt)]
    exact (f2 b hb).1
  have st3 : tn 0 s3.heap := T.base.keep _ _ _ st2 fun b _ o e => by rw [h3]; exact Heap.get?_push_of_some _ e
  have I4 := block_start I3 ok hN f3
  have hot3 : HotT (X.blk s3 (upd H2 D (.lst [])) scope (compEnvC scope (cellsFrom (s3.heap.objs.size + 1) scope.names (cloFrom X.env.cells scope.names [])) s3.heap.objs.size X.env) fp) := by
    obtain ⟨a, oe, u, vs, k1, k2, k3, k4⟩ := hc
    exact ⟨a, oe, u, vs, k1, I3.base.frzs a oe u k2, k3, k4⟩
  have pg := hg s3 (upd H2 D (.lst [])) s3.heap.objs.size (cellsFrom (s3.heap.objs.size + 1) scope.names (cloFrom X.env.cells scope.names [])) fp hot3
  have pt := ht s3 (upd H2 D (.lst [])) s3.heap.objs.size (cellsFrom (s3.heap.objs.size + 1) scope.names (cloFrom X.env.cells scope.names [])) fp
  have pe := he s3 (upd H2 D (.lst [])) s3.heap.objs.size (cellsFrom (s3.heap.objs.size + 1) scope.names (cloFrom X.env.cells scope.names [])) fp
  show codeAny _ _ (.compStart (.ListComp elt [⟨tg, iter, ifs, 0⟩] scope pos) 0 (.ref it) (.ref D) (compEnvC scope (cellsFrom (s3.heap.objs.size + 1) scope.names (cloFrom X.env.cells scope.names [])) s3.heap.objs.size X.env)) (compPost (model X.prog X.w) X.A X.xe use Qf (.ref D) s3.heap.objs.size) { s3 with heap := pushCells (s3.heap.push { cls := .type "dict", data := .dict #[] }) scope.names }
  have nfp : ∀ b ∈ fp, (upd H2 D (.lst [])) b = none := fun b hb => (f3 b hb).1.1
  generalize hce : compEnvC scope (cellsFrom (s3.heap.objs.size + 1) scope.names (cloFrom X.env.cells scope.names [])) s3.heap.objs.size X.env = ce at I4 pg pt pe hot3 ⊢
  have cL : ce.locals = s3.heap.objs.size := by subst hce; rfl
  generalize hH3 : upd H2 D (.lst []) = H3 at I3 I4 pg pt pe w0 nfp f3 hot3
  generalize hs4 : ({ s3 with heap := pushCells (s3.heap.push { cls := .type "dict", data := .dict #[] }) scope.names } : Shared) = s4 at I4 ⊢
  have st4 : tn 0 s4.heap := T.base.keep _ _ _ st3 fun b _ o e => by rw [← hs4]; exact pushCells_keeps _ _ _ _ (Heap.get?_push_of_some _ e)
  have stat : ∀ {σ' : L2.St} {H' : Hp} {s' : Shared}, Inv (X.blk s3 H3 scope ce fp) [] σ' H' s' → (∀ b ∈ fp, H' b = none) → ∀ b ∈ fp, FpOk (X.blk s3 H3 scope ce fp) [] H' b := fun {σ' H' s'} I' hn b hb =>
    ⟨hn b hb, (I'.ok.exf b hb).1, I'.ok.exfs b hb, .inl hb, fun x c e => (I'.ok.exf b hb).2 x c e, fun p hp => absurd (show p ∈ ([] : List (Addr × Obj)) ++ [] from hp) (by simp)⟩
  refine codeAny_compStart_list ?_ (T.base.self X.A 0 _ _ _ st4 ?_) <;> refine compLoop_any (fun n s' => ∃ i H', Inv (X.blk s3 H3 scope ce fp) [] (wipe σ (own.map (·.2))) H' s' ∧ tn i s'.heap ∧ (∀ b ∈ fp, H' b = none) ∧ W i n H') ?_ m0 ⟨0, H3, I4, st4, nfp, w0⟩
  all_goals
    rintro n s5 ⟨i, H5, I5, st5, n5, w5⟩
    rcases turn i n H5 w5 with ⟨stop, qq⟩ | ⟨go, Nx, hNx, step⟩
    · refine thnF (T.done (X.blk s3 H3 scope ce fp) rfl rfl rfl hot3 i [] s5 _ H5 (fun _ _ => False) I5 (stat I5 n5) st5 stop) fun r s6 ⟨hr, I6⟩ => ?_
      subst hr
      have I7 : Inv X pins σ H5 s6 := I3.call' (ch := fp) I6.os I6.base I6.hok I6.bare fun b hb => ⟨(f3 b hb).1.2.2.2.1, (f3 b hb).1.2.1, (f3 b hb).1.2.2.2.2.1, (f3 b hb).1.2.2.2.2.2⟩
      have nC : H5 s3.heap.objs.size = none := cL ▸ (show H5 ce.locals = none from I6.free)
      obtain ⟨m, hn, _⟩ := I6.loc
      exact out D s3.heap.objs.size s6 m H5 I7 qq (cL ▸ (show s6.heap.Ns ce.locals m from hn)) (I3.fpOk (Nat.le_refl _) nC)
    · refine thnF (T.item (X.blk s3 H3 scope ce fp) rfl rfl rfl i [] s5 _ H5 (fun _ _ => False) I5 (stat I5 n5) st5 go) fun r s6 ⟨u, hr, h6⟩ => ?_
      subst hr
      refine thnF h6 fun _ s7 ⟨x, H7, I7, r7, y7, st7, n7⟩ => ?_
      have I7' := I7.pinned (stat I7 n7) (T.base.obj _ _ st7)
      refine thnF (pg.run _ s7 _ H7 x u _ I7' r7 (step x H7 y7)) fun _ s8 ⟨σ8, H8, I8, hw8, q8⟩ => ?_
      refine thnF (pt.run _ s8 σ8 H8 _ I8 q8) fun b s9 ⟨H9, I9, q9⟩ => ?_
      have fin : ∀ {s' : Shared} {H' : Hp}, Inv (X.blk s3 H3 scope ce fp) ([] ++ pinsAt fp s7.heap) σ8 H' s' → Nx H' → ∃ m, m < n ∧ ∃ i H', Inv (X.blk s3 H3 scope ce fp) [] (wipe σ (own.map (·.2))) H' s' ∧ tn i s'.heap ∧ (∀ b ∈ fp, H' b = none) ∧ W i m H' := fun {s' H'} I' nx => by
        obtain ⟨m', hm, w'⟩ := hNx H' nx
        have pin' : ∀ b ∈ fp, ∀ o, s7.heap.get? b = some o → s'.heap.get? b = some o ∧ H' b = none := fun b hb o e =>
          let z := I'.pin (b, o) (List.mem_append_right _ (List.mem_append_right _ (mem_pinsAt hb e)))
          ⟨z.1, z.2.1⟩
        have hl : (wipe σ (own.map (·.2))).length = σ8.length := by rw [← hw8, wipe_length]
        refine ⟨m', hm, i + 1, H', (I'.unpinned (pins := [])).weak hl (fun j v e => (wipe_some (hw8 ▸ e)).1), T.base.keep _ _ _ st7 fun b hb o e => (pin' b hb o e).1, fun b hb => ?_, w'⟩
        obtain ⟨o, e, _⟩ := T.base.obj _ _ st7 b hb
        exact (pin' b hb o e).2
      cases b with
      | false =>
        simp only [Bool.false_eq_true, if_false] at q9 ⊢
        exact fin I9 q9
      | true =>
        simp only [if_true] at q9 ⊢
        refine thnF (pe.run _ s9 σ8 H9 _ I9 q9) fun z s10 ⟨yv, H10, I10, r10, acc, hD10, hz10, nx⟩ => ?_
        exact app_ok (X := X.blk s3 H3 scope ce fp) I10 hD10 hz10 r10 fun s11 I11 => fin I11 nx
theorem ps_setLcT {i : Nat} {y : Str} {py : Pos} {elt tg iter : Expr} {ifs : List Expr} {scope : Scope} {own : List (Str × Nat)} {pos spos : Pos} {wi : TI} {g : TG} {tt : TT} {te : TE} (hc : HotT X) (hN : X.N.Nodup) (hy : X.N[i]? = some y) (hyl : X.env.scope.names.lookup y = some .local)
    (hsw : swapsWith (.ListComp elt [⟨tg, iter, ifs, 0⟩] scope pos) (some (.Name y py)) spos.line X.env = pure true) (hi : PIT X tg iter wi) (ok : BlkOk X.N X.env.scope scope own)
    (hg : ∀ (s : Shared) (H : Hp) (C : Addr) (cl : List (Str × Addr)) (fp : List Addr), HotT (X.blk s H scope (compEnvC scope cl C X.env) fp) → PG (X.blk s H scope (compEnvC scope cl C X.env) fp) tg g) (ht : ∀ (s : Shared) (H : Hp) (C : Addr) (cl : List (Str × Addr)) (fp : List Addr), PTs (X.blk s H scope (compEnvC scope cl C X.env) fp) ifs tt)
    (he : ∀ (s : Shared) (H : Hp) (C : Addr) (cl : List (Str × Addr)) (fp : List Addr), PE (X.blk s H scope (compEnvC scope cl C X.env) fp) elt te) (hs : ∀ x, foldedSetIterable iter X.env x = pure x := by intro _; rfl) :
    PS X (.Assign [.Name y py] (.ListComp elt [⟨tg, iter, ifs, 0⟩] scope pos) spos) (tAsg (tLc wi g tt te (own.map (·.2))) (gName i)) := by
  refine ⟨fun pins s σ H D I h => ?_⟩
  rw [exec_Assign_Name_used _ _ _ _ hsw]
  refine wpAny_bind (wpAny_standAt (wpAny_bind ?_))
  show wpAny _ X.A (do let _ ← comprehension (.ListComp elt [⟨tg, iter, ifs, 0⟩] scope pos) scope X.env (firstIterPos [⟨tg, iter, ifs, 0⟩] pos) (newList []) false (eval iter X.env) (some (assign (.Name y py) X.env))) _ _ s
  have h : tLc wi g tt te (own.map (·.2)) σ H (fun x H1 => gName i x σ H1 D.nx) := h
  refine wpAny_bind (thn (lc_coreT (Qf := fun _ s' => SP X pins D .next s') hc hN I hi ok hg ht he hs h fun L C s' m H' I' q hn f => ?_) fun _ s' hq => wpAny_pure (wpAny_pure hq))
  show wpAny _ _ (assign (.Name y py) X.env (.ref L)) _ _ _
  refine wpAny_assign_Name (store_ok2 (v := V.ref L) I' hN hy (.inl hyl) rfl (fun s2 I2 ⟨a, sb, ha⟩ => ?_) (.inr hyl))
  obtain ⟨f0, f1, f2, f3, f4, f5⟩ := f
  have haC : C ≠ a := ha.elim (fun z => by rw [z]; exact f1) fun z e => f4 y a z e.symm
  exact ⟨m, hn.sameBut sb haC, fun h3 sb3 => ⟨_, H', I2.turned (t' := s2.toks) (fun b o hb e => (sb3.2 b hb).trans e) f0 f1 f3 f4 f5, q⟩⟩
end
end PD

set_option Elab.async false
set_option linter.all false
set_option maxRecDepth 100000
set_option maxHeartbeats 2000000
namespace PD
open PySem PySem.Spec PyProof.Rows L2
open HotX (HotAt)
open L2H (RoomH cxH inv_startH PinOk)
/-! ### defs that are called while an error is handled -/
structure FnT (P : Program) (w : World) (K : PySem.W.Frag) (mg : Str → Option Value) (base : Heap) (k : Nat) (f : Addr) (fd : FuncData) (ps : List Str) (sp : Sp) : Prop where
  len : ∀ vs H Q E, sp vs H Q E → vs.length = ps.length
  run : ∀ (A : Around) (outer : List Env) (s : Shared) (H : Hp) (args : Args) (us : List Value) (vs : List V) (Q : VK) (E : XK) (a : Addr) (oe : Obj) (u : HO) (ws : Array Value), RoomH k A → A.handled = some (.ref a) → H a = some (.frz oe u) → oe.data = .fields ws → ws[2]? = some .none →
    Env0 P w K mg base A outer s H → BindsTo s fd args (ps.zip us) → Vals vs us → sp vs H Q E → codeAny (model P w) A (.call (.ref f) args) (CR CX0 outer P w H s Q E) s
theorem fn_ofT {P : Program} {w : World} {K : PySem.W.Frag} {mg : Str → Option Value} {base : Heap} {k : Nat} {f : Addr} {name qual : Str} {params : Arguments} {body : List Stmt} {scope : Scope} {dV kV doc pm cdv ct oc : Value} {an od : Option Addr}
    {osl : Array (Option Value)} {N ps : List Str} {sp : Sp} (lk : K.lookup f = some ⟨oc, od, .func (PySem.W.fnOf name qual params body scope dV kV doc pm an cdv ct), osl⟩) (hcd : PySem.W.codeIn K cdv qual = true) (S : FnScope N ps scope)
    (len : ∀ vs H Q E, sp vs H Q E → vs.length = ps.length)
    (hbody : ∀ (A : Around) (outer : List Env) (s : Shared) (H : Hp) (vs : List V) (Q : VK) (E : XK) (p : Addr × Obj), RoomH k (A.deeper (envOfC qual scope s.heap.objs.size f cdv)) → HotT (cxH CX0 P w K mg base N qual scope f cdv A outer s H E p) → sp vs H Q E →
      ∃ t, PSs (cxH CX0 P w K mg base N qual scope f cdv A outer s H E p) body t ∧ t { nx := fun _ H' => Q .non H', rt := Q } (L2.start N vs) H) :
    FnT P w K mg base (k + 1) f (PySem.W.fnOf name qual params body scope dV kV doc pm an cdv ct) ps sp := by
  refine ⟨len, fun A outer s H args us vs Q E a oe u ws hr hh ha hd hc e0 hb r hsp => ?_⟩
  have hl := len _ _ _ _ hsp
  have KX : K.In s.heap := e0.mod.kin.keeps fun b o e => (e0.bs b o e).1
  have lim : s.heap.NoLimit := e0.mod.nolimit.keeps fun b o e => (e0.bs b o e).1
  have hkind : ∀ y ∈ ps.zip us, scope.names.lookup y.1 = some .local ∨ (scope.names.lookup y.1 = some .cell ∧ ((cellsFrom (s.heap.objs.size + 1) scope.names []).lookup y.1).isSome = true) := fun ⟨n, v⟩ hy => (S.par n (List.of_mem_zip hy).1).elim .inl fun q => .inr ⟨q, PySem.W.cellsFrom_some _ _ _ (.inl q)⟩
  have bf := e0.mod.kin _ _ lk
  have nf : f ∉ frs outer := fun hm => by
    have := (e0.funs.mem hm).1
    rw [bf] at this
    cases this
  have pin : PinOk outer H s (f, _) := ⟨(e0.bs _ _ bf).1, (e0.bs _ _ bf).2, nf, fun v z => nomatch z⟩
  refine codeAny_call_function hr.depth (KX _ _ lk) rfl S.co S.gen rfl (PySem.W.codeRec_of KX hcd) (hb _ _ _ _ ?_)
  refine wpAny_newFunctionEnv_cells S.kind hkind fun env he s1 x => ?_
  subst he
  refine ⟨lim.keeps x.toInCall.keep, codeAny_func ?_⟩
  obtain ⟨t, ht, hq⟩ := hbody A outer s H vs Q E _ (hr.deeper _) ⟨a, oe, u, ws, hh, ha, hd, hc⟩ hsp
  have I := inv_startH (CX := CX0) (E := E) S pin e0 hl r x
  refine wpAny_mono (ht.run [] s1 (L2.start N vs) H _ I hq) (fun fl s' hs => ?_) fun e s' hs => hs
  cases fl with
  | ret u => obtain ⟨v, σ', H', J, rv, q⟩ := hs; exact ⟨v, H', J.os, J.bare, J.base, J.hok, rv, q⟩
  | next => obtain ⟨σ', H', J, q⟩ := hs; exact ⟨V.non, H', J.os, J.bare, J.base, J.hok, rfl, q⟩
  | brk => obtain ⟨_, _, _, q⟩ := hs; exact False.elim q
  | cont => obtain ⟨_, _, _, q⟩ := hs; exact False.elim q
section
variable {P : Program} {w : World} {K : PySem.W.Frag} {mg : Str → Option Value} {base : Heap}
theorem fn_pdT {x qual : Str} {st : Stmt} {f : Addr} {fd : FuncData} {N ps : List Str} {k : Nat} {F : DF} {wb : WS} (Fu : Fun K x qual st f fd) (Sc : FnScope N ps (defScope st))
    (spec : ∀ ds Q E, ds.length = ps.length → F ds Q E → wb (fun _ => Q .non) Q Ev0 (startG N ds))
    (hbody : ∀ (cdv : Value) (A : Around) (outer : List Env) (s : Shared) (H : Hp) (E : XK) (p : Addr × Obj), RoomH k (A.deeper (envOfC qual (defScope st) s.heap.objs.size f cdv)) → HotT (cxH CX0 P w K mg base N qual (defScope st) f cdv A outer s H E p) → PSs (cxH CX0 P w K mg base N qual (defScope st) f cdv A outer s H E p) (defBody st) (tS K E0 wb)) :
    FnT P w K mg base (k + 1) f fd ps (spD K ps.length F) := by
  obtain ⟨oc, od, kV, doc, pm, an, cdv, ct, osl, rfl, lk, hcd⟩ := Fu.ex
  refine fn_ofT lk hcd Sc (fun vs H Q E h => ?_) fun A outer s H vs Q E p hr hot h => ?_
  · obtain ⟨S, ds, Qd, Ed, ws, r, hl, _⟩ := h
    rw [r.length, hl]
  · obtain ⟨S, ds, Qd, Ed, ws, r, hl, hf, kq, ke⟩ := h
    refine ⟨_, hbody _ A outer s H E p hr hot, S, H, S, _, _, _, Ev0, ⟨ws, mat_start r, .refl⟩, spec ds Qd Ed hl hf, fun σ' Γ' S' H' q st' _ => ?_, fun v d S' H' q e w' r => kq v d S' H' q e w' r, .zero⟩
    exact kq .non .non S' H' q st'.ev st'.ws .non
end
theorem hu64H {k : Nat} {A : Around} (hr : RoomH k A) : A.units + 64 < cLine := by have := hr.un; omega
theorem hu65H {k : Nat} {A : Around} (hr : RoomH k A) : A.units + 65 < cLine := by have := hr.un; omega
theorem roomH_suite {k : Nat} {X : Cx} {a : Addr} {pn : List (Addr × Obj)} (r : Room k X.A) : RoomH k (X.suite a pn).A := ⟨r.dp, r.un⟩
@[simp] def wCallT (i : Nat) (a : Addr) (n : Nat) (F : DF) (w : WA) : WE := fun Γ Q E => (∃ c, Γ[i]? = some (.dat (.exc c a))) ∧ w Γ (fun ds => ds.length = n ∧ F ds Q E) E
section
variable {X : Cx} {E : XK} {k : Nat} {f a : Addr} {fd : FuncData} {ps : List Str} {F : DF} {x : Str} {p pos : Pos} {e : Expr} {es : List Expr} {n : Nat}
theorem d_callT {w : WA} (i : Nat) (G : FnT X.prog X.w X.K X.mg X.base k f fd ps (spD X.K n F)) (hr : RoomH k X.A) (hh : X.A.handled = some (.ref a)) (hg : Gl X x) (hm : X.mg x = some (.ref f)) (hk : PySem.W.keepIn X.K (.ref f) = true) (hb : Binds X.K fd ps []) (ha : PA X (e :: es) (tDA X.K E w))
    (hdb : (x == ("__debug__" : Str)) = false := by decide) (he : starEach (e :: es) X.env = (false, eval e X.env) :: starEach es X.env := by rfl) (hpl : (backTo pos (starEach es X.env)).any (·.1) = false := by rfl) :
    PE X (.Call (.Name x p) (e :: es) [] pos) (tD X.K E (wCallT i a n F w)) := by
  refine ⟨fun pins s σ H Q I h => ?_⟩
  obtain ⟨O, S, Γ, Qd, Ed, ws, m, ⟨⟨c, hi⟩, w⟩, kq, ke⟩ := h
  obtain ⟨v, e1, r⟩ := m.at_ i _ hi
  cases r with
  | exc h0 h1 h2 h3 h4 =>
    rename_i oe
    obtain ⟨vs0, d0⟩ := h3
    refine wpAny_Call_Name_kw (ld_glob I hg hm ?_ hdb)
    refine PySem.W.callWith_K (h₀ := X.base) I.ok.mod.kin hk (thn (ha.run pos pins s σ H (fun vs H1 => spD X.K n F vs H1 Q E ∧ H1 a = some (ErrO oe)) I ?_) fun us s1 ⟨vs, H1, I1, r1, q1, q2⟩ => ⟨I1.kIn, ?_⟩) he hpl
    · exact ⟨O, S, Γ, _, Ed, ws, m, w, fun vs ds S1 H1 q1 e1 w1 r1 => ⟨⟨S1, ds, Qd, Ed, w1, r1, q1.1, q1.2, fun v d S' H' q e w' r => kq v d S' H' q (e1.trans w1 e) w' r, ke.ev w1 e1⟩, (e1.stb ws).frz _ _ _ h0⟩, ke⟩
    · have hl : us.length = ps.length := by rw [← r1.length]; exact G.len _ _ _ _ q1
      have b := hb s1 us I1.kIn (by rw [List.append_nil]; exact hl)
      rw [List.append_nil] at b
      refine wpAny_call (codeAny_mono (G.run X.A X.stack s1 H1 ⟨us, []⟩ us vs Q E a oe _ vs0 hr hh q2 d0 (h4 vs0 d0) I1.env0 b r1 q1) fun r s' hq => ?_)
      cases r with
      | error e => exact hq.elim
      | ok fl =>
        cases fl with
        | ret u => exact I1.after hq
        | next => exact False.elim hq
        | brk => exact False.elim hq
        | cont => exact False.elim hq
/-! ### the rules for such a def's body -/
def fZipL : List D → (List D → Prop) → Prop
  | [.lst xs, .lst ys], Q => Q (zipD xs ys)
  | _, _ => False
@[simp] theorem fZipL_1 (xs ys : List D) (Q : List D → Prop) : fZipL [.lst xs, .lst ys] Q = Q (zipD xs ys) := rfl
@[simp] def wZipL (w : WA) : WA := fun Γ Q E => w Γ (fun ds => fZipL ds Q) E
theorem i_zipT {e2 : Expr} {w : WA} {elts : List Expr} {kk : Nat} {tpos : Pos} (hg : Gl X "zip") (hm : X.mg "zip" = none) (ha : PA X [e, e2] (tDA X.K E w)) (hs : starEach [e, e2] X.env = (false, eval e X.env) :: starEach [e2] X.env := by rfl) (hpl : (backTo pos (starEach [e2] X.env)).any (·.1) = false := by rfl) :
    PIT X (.Tuple elts kk tpos) (.Call (.Name "zip" p) [e, e2] [] pos) (tDI X.K E (wZipL w)) :=
  (pi_zipT hg hm ha hs hpl).imp fun σ H R h => by
    obtain ⟨O, S, Γ, Qd, Ed, ws, m, w, k, ke⟩ := h
    refine ⟨O, S, Γ, _, Ed, ws, m, w, fun vs ds S1 H1 q1 e1 w1 r1 => ?_, ke⟩
    unfold fZipL at q1
    split at q1
    · obtain ⟨v, u, rfl, q, q'⟩ := reps2 r1
      cases q with
      | lst ha hx => cases q' with
        | lst hb hy => exact ⟨_, _, _, _, rfl, ha.sq, hb.sq, k _ _ S1 H1 q1 e1 w1 (ItD.zip ha hb hx hy)⟩
    · exact q1.elim
theorem s_setLcT {i : Nat} {y : Str} {py : Pos} {elt tg iter : Expr} {ifs : List Expr} {scope : Scope} {own : List (Str × Nat)} {is : List Nat} {spos : Pos} {wi : WA} {g : WG} {wt : WB} {we : WE} (hc : HotT X) (hN : X.N.Nodup) (hy : X.N[i]? = some y) (hyl : X.env.scope.names.lookup y = some .local)
    (hsw : swapsWith (.ListComp elt [⟨tg, iter, ifs, 0⟩] scope pos) (some (.Name y py)) spos.line X.env = pure true) (hi : PIT X tg iter (tDI X.K E wi)) (ok : BlkOk X.N X.env.scope scope own)
    (hg : ∀ (s : Shared) (H : Hp) (C : Addr) (cl : List (Str × Addr)) (fp : List Addr), HotT (X.blk s H scope (compEnvC scope cl C X.env) fp) → PG (X.blk s H scope (compEnvC scope cl C X.env) fp) tg (tDG X.K is g)) (ht : ∀ (s : Shared) (H : Hp) (C : Addr) (cl : List (Str × Addr)) (fp : List Addr), PTs (X.blk s H scope (compEnvC scope cl C X.env) fp) ifs (tDB X.K E0 wt))
    (he : ∀ (s : Shared) (H : Hp) (C : Addr) (cl : List (Str × Addr)) (fp : List Addr), PE (X.blk s H scope (compEnvC scope cl C X.env) fp) elt (tD X.K E0 we)) (his : ∀ i ∈ is, i ∈ own.map (·.2) := by decide) (hs : ∀ x, foldedSetIterable iter X.env x = pure x := by intro _; rfl) :
    PS X (.Assign [.Name y py] (.ListComp elt [⟨tg, iter, ifs, 0⟩] scope pos) spos) (tS X.K E (wAsg (wLc (own.map (·.2)) wi g wt we) (gN i))) :=
  (PS.frzNx (ps_setLcT hc hN hy hyl hsw hi ok hg ht he hs)).imp fun Dn σ H h => by
    obtain ⟨S0, H0, S, Γ, N, R, Ed, st, w, kn, kr, ke⟩ := h
    refine lc_imp st.ws st.mat w (st.ke ke) his fun Dl S1 H1 S2 H2 accv acc q e1 w1 e2 w2 hD hl nS ra => ?_
    refine .inr ⟨Dl, accv, hl, fun o => ?_⟩
    have ee : Ev S1 H1 S2 (upd H2 Dl (.frz o (.lst accv))) := Ev.frz hD hl w1 e2 nS
    have sb : Stb S2 H2 S2 (upd H2 Dl (.frz o (.lst accv))) := .wr hl
    have w3 := w2.frz (o := o) (xs := accv) nS
    have st' := st.next (e1.trans w1 ee) w3
    exact kn _ _ S2 _ q ⟨w3, st'.mat.setDat (.lst (.inl ⟨o, upd_same⟩) (Reps.stb sb _ _ ra)), st'.ev⟩ ((e1.trans w1 ee).stb st.ws)
end
end PD

set_option Elab.async false
set_option linter.all false
set_option maxRecDepth 100000
set_option maxHeartbeats 2000000
namespace PD
open PySem PySem.Spec PyProof.Rows L2
open HotX (HotAt raiseNew_hot)
/-! ### a tuple is taken apart while an error is handled -/
section
variable {prog : Program} {w : World} {A : Around} {E : Value → Shared → Prop} {s : Shared}
theorem next_tuple_end_hot {it t x1 : Addr} {i : Nat} {items : Array Value} {Q : Option Value → Shared → Prop} (hot : HotAt A x1 s.heap) (hne : x1 ≠ it) (hit : IsTupIter s.heap it t i) (ht : IsTup s.heap t items) (hx : items[i]? = none)
    (hQ : ∀ h', Heap.ExtBut it s.heap h' → Q none { s with heap := h' }) : wpAny (model prog w) A (pyNext (.ref it)) Q E s := by
  obtain ⟨o, ho, _, hd⟩ := id hit
  obtain ⟨ol, hol, _, nl, hdl⟩ := ht
  obtain ⟨hh, o1, v1, e1, d1, c1⟩ := hot
  unfold pyNext
  refine wpAny_bind (wpAny_attempt (wpAny_callSpecial?_slot (name := Str.ofString "__next__") hit.typeIs slot_tupleiter_next (wpAny_call_entry slot_tupleiter_next hit.typeIs entry_tupleiter_next ?_ (args_tupleiter_next _))))
  show wpAny _ _ (field (.ref it) 0 >>= _) _ _ s
  refine wpAny_bind (wpAny_field ho hd (x := .ref t) rfl ?_)
  show wpAny _ _ (if (Value.ref t == Value.none) = true then _ else _) _ _ s
  rw [if_neg (show ¬ ((Value.ref t == Value.none) = true) from Bool.false_ne_true)]
  show wpAny _ _ (field (.ref it) 1 >>= _) _ _ s
  refine wpAny_bind (wpAny_field ho hd (x := .int i 0) rfl ?_)
  show wpAny _ _ (seqItems? (.ref t) >>= _) _ _ s
  refine wpAny_bind (wpAny_seqItems hol hdl ?_)
  simp only [Int.toNat_natCast, hx]
  refine wpAny_bind (wpAny_rule (wpAny_bind (wpAny_setField ho hd (by simp) ?_)))
  show wpAny _ _ (newExc (.type "StopIteration") [] >>= _) _ _ _
  refine wpAny_bind ?_
  simp only [newExc, newTuple]
  refine wpAny_bind (wpAny_newObj_type ?_ (by size_fits))
  refine wpAny_bind (m := firstArgMember _ _) (wpAny_of_eq (a := Value.none) (by first | rfl | (simp only [firstArgMember]; rfl)) ?_)
  refine wpAny_newObj_type ?_ (by size_fits)
  have e2 := (Heap.get?_update_other s.heap (Obj.mapFields (·.setIfInBounds 0 Value.none)) (Ne.symm hne)).trans e1
  refine raiseNew_hot ⟨hh, o1, v1, Heap.get?_push_of_some _ (Heap.get?_push_of_some _ e2), d1, c1⟩ (Nat.ne_of_lt (Heap.lt_size (Heap.get?_push_of_some _ e2))) (Heap.get?_push_size _ rfl) rfl (by first | (simp; done) | (simp; omega) | (simp only [Array.size_append]; simp; omega)) ?_
  refine wpAny_bind (wpAny_isInstance (T := "StopIteration") (b := true) ⟨_, Heap.get?_update_self _ (Heap.get?_push_size _ rfl) rfl, rfl⟩ isSubtype_stop ?_)
  refine wpAny_pure (hQ _ fun b ob hb e => ?_)
  have e3 := (Heap.get?_update_other s.heap (Obj.mapFields (·.setIfInBounds 0 Value.none)) (Ne.symm hb)).trans e
  rw [Heap.get?_update_other _ _ (Nat.ne_of_gt (Heap.lt_size (Heap.get?_push_of_some _ e3)))]
  exact Heap.get?_push_of_some _ (Heap.get?_push_of_some _ e3)
theorem unpackItems_tuple_hot {t x1 : Addr} {items : Array Value} {Q : List Value → Shared → Prop} (hot : HotAt A x1 s.heap) (ht : IsTup s.heap t items)
    (hQ : ∀ h', Heap.ExtBut s.heap.objs.size s.heap h' → Q items.toList { s with heap := h' }) : wpAny (model prog w) A (unpackItems (.ref t) items.size none) Q E s := by
  have hlt : t ≠ s.heap.objs.size := by obtain ⟨o, ho, _⟩ := ht; exact Nat.ne_of_lt (Heap.lt_size ho)
  have hx1 : x1 ≠ s.heap.objs.size := by obtain ⟨_, o, _, ho, _⟩ := hot; exact Nat.ne_of_lt (Heap.lt_size ho)
  unfold unpackItems
  refine wpAny_bind ?_
  unfold notIterableAtAll
  refine wpAny_bind (wpAny_specialOf ht.typeIs slot_tuple_iter.lookup ?_)
  refine wpAny_pure ?_
  simp only [Bool.false_eq_true, if_false]
  refine wpAny_bind (wpAny_holding (iter_tuple ht ?_))
  refine wpAny_bind (wpAny_holding (draw_tuple hlt items.size 0 _ _ ⟨_, Heap.get?_push_size _ rfl, rfl, rfl⟩ (ht.push _) (by omega) fun g i1 s1 => ?_))
  have hall : List.take items.size (List.drop 0 items.toList) = items.toList := by
    rw [List.drop_zero]
    exact List.take_of_length_le (by simp)
  rw [hall, if_neg (by simp)]
  have t1 : IsTup g t items := (ht.push _).extBut s1.extBut hlt
  have hot1 : HotAt A x1 g := HotAt.keep (HotAt.keep hot fun o e => Heap.get?_push_of_some _ e) fun o e => s1.extBut _ _ hx1 e
  refine wpAny_bind (wpAny_holding (next_tuple_end_hot (s := { s with heap := g }) ?_ hx1 i1 t1 (by simp) fun g2 e2 => ?_))
  · obtain ⟨hh, r⟩ := hot1
    exact ⟨hh, r⟩
  · simp only [Option.isSome_none, Bool.false_eq_true, if_false]
    exact wpAny_pure (hQ g2 fun b o hb e => e2 b o hb (s1.extBut b o hb (Heap.get?_push_of_some _ e)))
theorem assign_tuple_hot {env : Env} {elts : List Expr} {k : Nat} {pos : Pos} {t x1 : Addr} {items : Array Value} {Q : Unit → Shared → Prop} (hot : HotAt A x1 s.heap) (ht : IsTup s.heap t items) (hn : (assignEach elts env).length = items.size) (hstar : (assignEach elts env).findIdx? (·.1) = none)
    (h : ∀ h', Heap.ExtBut s.heap.objs.size s.heap h' → wpAny (model prog w) A (assignInOrder ((assignEach elts env).map (·.2)) items.toList) Q E { s with heap := h' }) : wpAny (model prog w) A (assign (.Tuple elts k pos) env (.ref t)) Q E s := by
  rw [assign_Tuple]
  refine wpAny_bind (wpAny_standAt ?_)
  unfold unpack
  rw [hn, hstar]
  exact wpAny_bind (wpAny_holding (unpackItems_tuple_hot hot ht h))
end
section
variable {X : Cx} {pos : Pos}
theorem pg_tupT {es : List Expr} {k : Nat} {t : TGs} {n : Nat} (hc : HotT X) (h : PGs X es t) (hn : (assignEach es X.env).length = n := by rfl) (hst : (assignEach es X.env).findIdx? (·.1) = none := by rfl) : PG X (.Tuple es k pos) (gTup X.K n t) := by
  refine ⟨fun pins s σ H v u Q I r hw => ?_⟩
  obtain ⟨a, xs, e1, hq, hl, hw⟩ := hw
  subst e1
  cases r
  obtain ⟨its, rv, ht, hz⟩ := I.tuple hq
  obtain ⟨x1, _, _, _, hot⟩ := hc.at I
  refine assign_tuple_hot hot ht (by simp [hn, ← hl, rv.length]) hst fun h' hx => ?_
  exact h.run pins _ σ H xs _ Q (I.kept (h' := h') (t' := s.toks) fun b o e => hx b o (Nat.ne_of_lt (Heap.lt_size e)) e) (by simpa using rv) hw
theorem g_tupT {es : List Expr} {k : Nat} {is : List Nat} {gs : WGs} {n : Nat} (hc : HotT X) (h : PGs X es (tDGs X.K is gs)) (hn : (assignEach es X.env).length = n := by rfl) (hst : (assignEach es X.env).findIdx? (·.1) = none := by rfl) : PG X (.Tuple es k pos) (tDG X.K is (gT n gs)) := (pg_tupT hc h hn hst).imp fun v σ H Q h => by
  obtain ⟨O, S, Γ, d, k, ws, m, r, ⟨ds, e, hl, g⟩, q⟩ := h
  subst e
  cases r with
  | tup ha hx => exact ⟨_, _, rfl, ha, by rw [hx.length]; exact hl, O, S, Γ, ds, k, ws, m, hx, g, q⟩
end
end PD

set_option Elab.async false
set_option linter.all false
set_option maxRecDepth 100000
set_option maxHeartbeats 2000000
namespace PD
open PySem PySem.Spec PyProof.Rows L2
theorem hu64S {k : Nat} {X : Cx} {a : Addr} {pn : List (Addr × Obj)} (hr : Room k X.A) : (X.suite a pn).A.units + 64 < cLine := by have := hr.un; show X.A.units + 64 < cLine; omega
theorem hu65S {k : Nat} {X : Cx} {a : Addr} {pn : List (Addr × Obj)} (hr : Room k X.A) : (X.suite a pn).A.units + 65 < cLine := by have := hr.un; show X.A.units + 65 < cLine; omega
/-! ### x.join(ys) -/
theorem strs_of {K : PySem.W.Frag} {S : As} {H : Hp} : ∀ {ys : List Str} {vs : List V}, Reps K S H vs (ys.map D.str) → vs = ys.map V.str
  | [], _, r => by cases r; rfl
  | y :: ys, _, r => by
    cases r with
    | cons h r =>
      cases h
      rw [strs_of r]
      rfl
def fJoin : D → D → (D → Prop) → Prop
  | .str a, x, Q => ∃ ys : List Str, (x = .lst (ys.map D.str) ∨ x = .tup (ys.map D.str)) ∧ (ys.map (·.length)).sum + ys.length * a.length ≤ 16777216 ∧ Q (.str (Txt.join a ys))
  | _, _, _ => False
@[simp] theorem fJoin_1 (a : Str) (x : D) (Q : D → Prop) : fJoin (.str a) x Q = ∃ ys : List Str, (x = .lst (ys.map D.str) ∨ x = .tup (ys.map D.str)) ∧ (ys.map (·.length)).sum + ys.length * a.length ≤ 16777216 ∧ Q (.str (Txt.join a ys)) := rfl
@[simp] def wJoin (wo we : WE) : WE := fun Γ Q E => wo Γ (fun x => ∃ a, x = .str a ∧ we Γ (fun y => fJoin (.str a) y Q) E) E
section
variable {X : Cx} {E : XK} {pos apos : Pos}
theorem d_join {o e : Expr} {wo we : WE} (ho : PE X o (tD X.K E wo)) (he : PE X e (tD X.K E we)) (hs : starEach [e] X.env = [(false, eval e X.env)] := by rfl)
    (hbase : attributeBase o "join" X.env (eval o X.env) = eval o X.env := by rfl) (hline : (apos.endLine == pos.line) = true := by rfl) : PE X (.Call (.Attribute o "join" apos) [e] [] pos) (tD X.K E (wJoin wo we)) :=
  (pe_join ho he hs hbase hline).imp fun σ H Q h => by
    obtain ⟨O, S, Γ, Qd, Ed, ws, m, w, k, ke⟩ := h
    refine ⟨O, S, Γ, _, Ed, ws, m, w, fun vx x S1 H1 q1 e1 w1 r1 => ?_, ke⟩
    obtain ⟨a, rfl, q1⟩ := q1
    cases r1
    refine ⟨⟨a, rfl⟩, O, S1, Γ, _, Ed, w1, m.ev ws w1 e1, q1, fun vy y S2 H2 q2 e2 w2 r2 => ?_, ke.ev w1 e1⟩
    obtain ⟨ys, hy, hz, q⟩ := q2
    have fin : ∀ p, (SqL X.K H2 p (ys.map V.str) ∨ SqT X.K H2 p (ys.map V.str)) → vy = .ref p → ∃ a' p, ∃ ys : List Str, V.str a = .str a' ∧ [vy] = [.ref p] ∧ (SqL X.K H2 p (ys.map V.str) ∨ SqT X.K H2 p (ys.map V.str)) ∧ (ys.map (·.length)).sum + ys.length * a'.length ≤ 16777216 ∧ Q (.str (Txt.join a' ys)) H2 := fun p hp e =>
      ⟨a, p, ys, rfl, by rw [e], hp, hz, k _ _ S2 H2 q (e1.trans w1 e2) w2 (.str _)⟩
    rcases hy with rfl | rfl
    · cases r2 with
      | lst ha hx => exact fin _ (.inl (strs_of hx ▸ ha.sq)) rfl
    · cases r2 with
      | tup ha hx => exact fin _ (.inr (strs_of hx ▸ ha)) rfl
end
end PD

set_option Elab.async false
set_option linter.all false
set_option maxRecDepth 100000
set_option maxHeartbeats 1000000
namespace PD
open PySem PySem.Spec PyProof.Rows L2
/-! ### a dict of one's own, its keys pairs of ints, its values True -/
abbrev WK := List Sl → (KP → Prop) → Ex → Prop
def tDK (K : PySem.W.Frag) (E : XK) (w : WK) : TE := fun σ H Q => ∃ O S Γ Qd Ed, Ws S H ∧ Mat K O S H σ Γ ∧ w Γ Qd Ed ∧ (∀ p k S' H', Qd k → Ev S H S' H' → Ws S' H' → H' p = some (.tup (kpV k)) → Q (.ref p) H') ∧ kE E S H Ed
section
variable {K : PySem.W.Frag} {O S S' : As} {H H' : Hp} {σ : L2.St} {Γ : List Sl}
theorem reps_int2 {a b : Int} {vs : List V} (r : Reps K S H vs [.int a, .int b]) : vs = kpV (a, b) := by
  cases r with
  | cons r1 r => cases r with
    | cons r2 r => cases r; cases r1; cases r2; rfl
theorem Mat.setKey {i : Nat} {a : Addr} {p : KP} (m : Mat K O S H σ Γ) (r : H a = some (.tup (kpV p))) : Mat K O S H (σ.set i (some (.ref a))) (Γ.set i (.key p)) := by
  refine ⟨by simpa using m.len, fun j sl h => ?_, fun j k b ds es h1 h2 h3 h4 => ?_, m.dis2.set (fun z => z.elim)⟩
  · by_cases hj : i = j
    · subst hj
      by_cases hl : i < Γ.length
      · rw [List.getElem?_set_self hl] at h
        cases h
        exact ⟨a, by rw [List.getElem?_set_self (by rw [← m.len]; exact hl)], r⟩
      · rw [List.getElem?_eq_none (by simp; omega)] at h; cases h
    · rw [List.getElem?_set_ne hj] at h ⊢
      exact m.at_ j sl h
  · have nj : ∀ {k : Nat} {ds : List D}, (Γ.set i (.key p))[k]? = some (.own ds) → i ≠ k := fun {k ds} h z => by
      subst z
      by_cases hl : i < Γ.length
      · rw [List.getElem?_set_self hl] at h; cases h
      · rw [List.getElem?_eq_none (by simp; omega)] at h; cases h
    have n1 := nj h1
    have n2 := nj h2
    rw [List.getElem?_set_ne n1] at h1 h3
    rw [List.getElem?_set_ne n2] at h2 h4
    exact m.dist j k b ds es h1 h2 h3 h4
theorem Mat.setDic {i : Nat} {p : Addr} {ks : List KP} (ws : Ws S H) (m : Mat K O S H σ Γ) (hp : H p = none) (ho : O p) :
    Mat K O S (upd H p (.dT (kpKV ks))) (σ.set i (some (.ref p))) (Γ.set i (.dic ks)) := by
  have ev : Ev S H S (upd H p (.dT (kpKV ks))) := .upd hp
  have w' : Ws S (upd H p (.dT (kpKV ks))) := ws.upd hp
  have m' := m.ev ws w' ev
  have other : ∀ {j : Nat} {y : Sl} {a : Addr}, Γ[j]? = some y → isDic y → σ[j]? = some (some (.ref a)) → a ≠ p := fun {j y a} h1 hy h2 z => by
    cases y with
    | dic ks =>
      obtain ⟨b, e1, e2, _⟩ := m.at_ j _ h1
      rw [h2] at e1
      cases e1
      rw [z, hp] at e2; cases e2
    | no => exact hy
    | dat d => exact hy
    | own d => exact hy
    | key d => exact hy
  refine ⟨by simpa using m.len, fun j sl h => ?_, fun j k a es fs h1 h2 h3 h4 => ?_, fun j k a x y h1 h2 hx hy h3 h4 => ?_⟩
  · by_cases hj : i = j
    · subst hj
      by_cases hi : i < Γ.length
      · rw [List.getElem?_set_self hi] at h
        cases h
        exact ⟨p, by rw [List.getElem?_set_self (by rw [← m.len]; exact hi)], upd_same, ⟨ws.at hp, ho⟩⟩
      · rw [List.getElem?_eq_none (by simp; omega)] at h; cases h
    · rw [List.getElem?_set_ne hj] at h ⊢
      exact m'.at_ j sl h
  · have nj : ∀ {k : Nat} {ds : List D}, (Γ.set i (.dic ks))[k]? = some (.own ds) → i ≠ k := fun {k ds} h z => by
      subst z
      by_cases hl : i < Γ.length
      · rw [List.getElem?_set_self hl] at h; cases h
      · rw [List.getElem?_eq_none (by simp; omega)] at h; cases h
    have n1 := nj h1
    have n2 := nj h2
    rw [List.getElem?_set_ne n1] at h1 h3
    rw [List.getElem?_set_ne n2] at h2 h4
    exact m.dist j k a es fs h1 h2 h3 h4
  · by_cases hj : i = j
    · by_cases hk : i = k
      · omega
      · subst hj
        rw [List.getElem?_set_ne hk] at h2 h4
        by_cases hi : i < σ.length
        · rw [List.getElem?_set_self hi] at h3
          cases h3
          exact absurd rfl (other h2 hy h4)
        · rw [List.getElem?_eq_none (by simp; omega)] at h3; cases h3
    · rw [List.getElem?_set_ne hj] at h1 h3
      by_cases hk : i = k
      · subst hk
        by_cases hi : i < σ.length
        · rw [List.getElem?_set_self hi] at h4
          cases h4
          exact absurd rfl (other h1 hx h3)
        · rw [List.getElem?_eq_none (by simp; omega)] at h4; cases h4
      · rw [List.getElem?_set_ne hk] at h2 h4
        exact m.dis2 j k a x y h1 h2 hx hy h3 h4
theorem Stb.wrD {p : Addr} {kvs : List (List Key × V)} {o : HO} (h : H p = some (.dT kvs)) : Stb S H S (L2.upd H p o) :=
  ⟨fun b x e => by rw [upd_ne (fun z => by rw [z, h] at e; cases e)]; exact e, fun b u x e => by rw [upd_ne (fun z => by rw [z, h] at e; cases e)]; exact e, fun _ h => h⟩
/-- the own dict at slot i becomes another -/
theorem Stt.wrDic {S0 : As} {H0 : Hp} {i : Nat} {a : Addr} {ks ls : List KP} (st : Stt K S0 H0 S H σ Γ) (hg : Γ[i]? = some (.dic ks)) (hs : σ[i]? = some (some (.ref a))) (hl : H a = some (.dT (kpKV ks))) (n : ¬ S a) (f : H0 a = none) :
    Stt K S0 H0 S (upd H a (.dT (kpKV ls))) σ (Γ.set i (.dic ls)) ∧ Stb S H S (upd H a (.dT (kpKV ls))) := by
  have sb : Stb S H S (upd H a (.dT (kpKV ls))) := .wrD hl
  have hi : i < Γ.length := (List.getElem?_eq_some_iff.mp hg).1
  have m := st.mat
  refine ⟨⟨fun b hb => ?_, ⟨by simpa using m.len, fun j sl h => ?_, fun j k b es fs h1 h2 h3 h4 => ?_, m.dis2.setG' hg trivial⟩, ⟨fun b x q z => by rw [upd_ne (ne_of_none q f)]; exact st.ev.keep b x q z, st.ev.src, st.ev.new⟩⟩, sb⟩
  · obtain ⟨o, e, q⟩ := st.ws b hb
    exact ⟨o, by rw [upd_ne (fun z => n (by rw [← z]; exact hb))]; exact e, q⟩
  · by_cases hj : i = j
    · subst hj
      rw [List.getElem?_set_self hi] at h
      cases h
      exact ⟨a, hs, upd_same, ⟨n, f⟩⟩
    · rw [List.getElem?_set_ne hj] at h
      have q := m.at_ j sl h
      cases sl with
      | no => trivial
      | dat d =>
        obtain ⟨v, e1, r1⟩ := q
        exact ⟨v, e1, Rep.stb sb _ _ r1⟩
      | own es =>
        obtain ⟨b, us, e1, e2, n, r1⟩ := q
        have hne : b ≠ a := fun z => by rw [z, hl] at e2; cases e2
        exact ⟨b, us, e1, by rw [upd_ne hne]; exact e2, n, Reps.stb sb _ _ r1⟩
      | dic ls =>
        obtain ⟨b, e1, e2, n⟩ := q
        have hne : b ≠ a := fun z => hj (m.dis2 i j a _ _ hg h trivial trivial hs (by rw [← z]; exact e1))
        exact ⟨b, e1, by rw [upd_ne hne]; exact e2, n⟩
      | key p =>
        obtain ⟨b, e1, e2⟩ := q
        exact ⟨b, e1, sb.tup _ _ e2⟩
  · have nj : ∀ {k : Nat} {ds : List D}, (Γ.set i (.dic ls))[k]? = some (.own ds) → i ≠ k := fun {k ds} h z => by
      subst z
      rw [List.getElem?_set_self hi] at h; cases h
    rw [List.getElem?_set_ne (nj h1)] at h1
    rw [List.getElem?_set_ne (nj h2)] at h2
    exact m.dist j k b es fs h1 h2 h3 h4
end
def putP (ks : List KP) (p : KP) : List KP := if p ∈ ks then ks else ks ++ [p]
theorem putP_kv (ks : List KP) (p : KP) : putK (kpKV ks) [Sum.inl p.1, Sum.inl p.2] (.bl true) = kpKV (putP ks p) := by
  have e : ∀ q : KP, (([Sum.inl q.1, Sum.inl q.2] : List Key) = [Sum.inl p.1, Sum.inl p.2]) ↔ q = p := fun q => by
    constructor
    · intro h
      simp at h
      exact Prod.ext h.1 h.2
    · rintro rfl; rfl
  unfold putK putP kpKV
  have e2 : ((ks.map fun p => (([Sum.inl p.1, Sum.inl p.2] : List Key), V.bl true)).any fun kv => decide (kv.1 = [Sum.inl p.1, Sum.inl p.2])) = decide (p ∈ ks) := by
    rw [List.any_map, Bool.eq_iff_iff]
    simp only [List.any_eq_true, Function.comp, decide_eq_true_eq, e]
    exact ⟨fun ⟨q, h1, h2⟩ => h2 ▸ h1, fun h => ⟨p, h, rfl⟩⟩
  rw [e2]
  by_cases h : p ∈ ks
  · rw [if_pos (by simpa using h), if_pos h, List.map_map]
    refine List.map_congr_left fun q _ => ?_
    show (if ([Sum.inl q.1, Sum.inl q.2] : List Key) = [Sum.inl p.1, Sum.inl p.2] then _ else _) = _
    split <;> rfl
  · rw [if_neg (by simpa using h), if_neg h, List.map_append]
    rfl
section
variable {X : Cx} {E : XK} {pos : Pos}
@[simp] def wKey (w : WA) : WK := fun Γ Q E => w Γ (fun ds => ∃ a b, ds = [.int a, .int b] ∧ Q (a, b)) E
theorem dk_tup {es : List Expr} {w : WA} {x1} (h : PA X es (tDA X.K E w)) : PE X (.Tuple es x1 pos) (tDK X.K E (wKey w)) := (pe_tup h).imp fun σ H Q h => by
  obtain ⟨O, S, Γ, Qd, Ed, ws, m, w, k, ke⟩ := h
  refine ⟨O, S, Γ, _, Ed, ws, m, w, fun vs ds S1 H1 q1 e1 w1 r1 => ?_, ke⟩
  obtain ⟨a, b, rfl, q⟩ := q1
  obtain rfl := reps_int2 r1
  exact ⟨le1000 (by simp [kpV]), fun p hp => k p (a, b) S1 _ q (e1.trans w1 (.upd hp)) (w1.upd hp) upd_same⟩
@[simp] def wKV (i : Nat) : WK := fun Γ Q _ => ∃ p, Γ[i]? = some (.key p) ∧ Q p
theorem dk_v (i : Nat) {x : Str} {p1 : Pos} (hN : X.N[i]? = some x := by rfl) (hv : Vis X.env.scope x := by first | exact Or.inl rfl | exact Or.inr (Or.inl rfl) | exact Or.inr (Or.inr rfl)) (hd : (x == ("__debug__" : Str)) = false := by decide)
    (hcd : (x == ("__classdict__" : Str)) = false := by decide) : PE X (.Name x p1) (tDK X.K E (wKV i)) := (pv i hN hv hd hcd).imp fun σ H Q h => by
  obtain ⟨O, S, Γ, Qd, Ed, ws, m, ⟨p, hg, q⟩, k, ke⟩ := h
  obtain ⟨a, e1, e2⟩ := m.at_ i _ hg
  exact ⟨.ref a, e1, k a p S H q .refl ws e2⟩
abbrev DFK := List D → (KP → Prop) → Ex → Prop
def spDK (K : PySem.W.Frag) (n : Nat) (F : DFK) : Sp := fun vs H Q E => ∃ S ds Qd Ed, Ws S H ∧ Reps K S H vs ds ∧ ds.length = n ∧ F ds Qd Ed ∧
  (∀ p k S' H', Qd k → Ev S H S' H' → Ws S' H' → H' p = some (.tup (kpV k)) → Q (.ref p) H') ∧ kE E S H Ed
abbrev WSK := (KP → Prop) → List Sl → Prop
def tSK (K : PySem.W.Frag) (w : WSK) : TS := fun Dn σ H => ∃ S0 H0 S Γ R, Stt K S0 H0 S H σ Γ ∧ w R Γ ∧
  (∀ p k S' H', R k → Ev S0 H0 S' H' → Ws S' H' → H' p = some (.tup (kpV k)) → Dn.rt (.ref p) H')
@[simp] def wSeqK (a : WS) (b : WSK) : WSK := fun R Γ => a (b R) (fun _ => False) Ev0 Γ
theorem ss_consK {st : Stmt} {rest : List Stmt} {wa : WS} {wb : WSK} (ha : PS X st (tS X.K E wa)) (hb : PSs X rest (tSK X.K wb)) : PSs X (st :: rest) (tSK X.K (wSeqK wa wb)) := (pss_cons ha hb).imp fun Dn σ H h => by
  obtain ⟨S0, H0, S, Γ, R, st, w, kr⟩ := h
  exact ⟨S0, H0, S, Γ, _, _, _, st, w, fun σ' Γ' S' H' q st' sb => ⟨S0, H0, S', Γ', R, st', q, kr⟩, fun _ _ _ _ q => q.elim, .zero⟩
@[simp] def wRetK (w : WK) : WSK := fun R Γ => w Γ R Ev0
theorem ss_retK {e : Expr} {w : WK} (h : PE X e (tDK X.K E w)) : PSs X [.Return (some e) pos] (tSK X.K (wRetK w)) := (pss_one (ps_ret h)).imp fun Dn σ H h => by
  obtain ⟨S0, H0, S, Γ, R, st, w, kr⟩ := h
  exact ⟨_, S, Γ, R, Ev0, st.ws, st.mat, w, fun p k S' H' q e w' h => kr p k S' H' q (st.ev.trans st.ws e) w' h, .zero⟩
end
section
variable {P : Program} {w : World} {K : PySem.W.Frag} {mg : Str → Option Value} {base : Heap}
theorem fn_pdK {x qual : Str} {st : Stmt} {f : Addr} {fd : FuncData} {N ps : List Str} {k : Nat} {F : DFK} {wb : WSK} (Fu : Fun K x qual st f fd) (Sc : FnScope N ps (defScope st))
    (spec : ∀ ds Q E, ds.length = ps.length → F ds Q E → wb Q (startG N ds))
    (hbody : ∀ (cdv : Value) (A : Around) (outer : List Env) (s : Shared) (H : Hp) (E : XK), Room k (A.deeper (envOfC qual (defScope st) s.heap.objs.size f cdv)) → PSs (cxOf CX0 P w K mg base N qual (defScope st) f cdv A outer s H E).nox (defBody st) (tSK K wb)) :
    FnOk P w K mg base CX0 (k + 1) f fd ps (spDK K ps.length F) := by
  refine Fu.ok Sc (fun vs H Q E h => ?_) fun cdv A outer s H vs Q E hr h => ?_
  · obtain ⟨S, ds, Qd, Ed, ws, r, hl, _⟩ := h
    rw [r.length, hl]
  · obtain ⟨S, ds, Qd, Ed, ws, r, hl, hf, kq, ke⟩ := h
    exact ⟨_, hbody cdv A outer s H E hr, S, H, S, _, _, ⟨ws, mat_start r, .refl⟩, spec ds Qd Ed hl hf, fun p k S' H' q e w' h => kq p k S' H' q e w' h⟩
end
@[simp] def wCallK (n : Nat) (F : DFK) (w : WA) : WK := fun Γ Q E => w Γ (fun ds => ds.length = n ∧ F ds Q E) E
section
variable {X : Cx} {E : XK} {CX : CXT} {k : Nat} {f : Addr} {fd : FuncData} {ps : List Str} {F : DFK} {x : Str} {p pos : Pos} {e : Expr} {es : List Expr} {n : Nat}
theorem dk_call {w : WA} (G : FnOk X.prog X.w X.K X.mg X.base CX k f fd ps (spDK X.K n F)) (hr : Room k X.A) (hg : Gl X x) (hm : X.mg x = some (.ref f)) (hk : PySem.W.keepIn X.K (.ref f) = true) (hb : Binds X.K fd ps []) (hx : Passes CX X E) (ha : PA X (e :: es) (tDA X.K E w))
    (hdb : (x == ("__debug__" : Str)) = false := by decide) (he : starEach (e :: es) X.env = (false, eval e X.env) :: starEach es X.env := by rfl) (hpl : (backTo pos (starEach es X.env)).any (·.1) = false := by rfl) :
    PE X (.Call (.Name x p) (e :: es) [] pos) (tDK X.K E (wCallK n F w)) :=
  (pe_call G hr hg hm hk hb .nil hx ha hdb he hpl).imp fun σ H Q h => by
    obtain ⟨O, S, Γ, Qd, Ed, ws, m, w, k, ke⟩ := h
    refine ⟨O, S, Γ, _, Ed, ws, m, w, fun vs ds S1 H1 q1 e1 w1 r1 => ?_, ke⟩
    exact ⟨S1, ds, Qd, Ed, w1, by rw [List.append_nil]; exact r1, q1.1, q1.2, fun p k2 S' H' q e w' h => k p k2 S' H' q (e1.trans w1 e) w' h, ke.ev w1 e1⟩
end
section
variable {X : Cx} {E : XK} {pos : Pos}
/-- y = a key -/
@[simp] def wAsgK (i : Nat) (w : WK) : WS := fun N _ E Γ => w Γ (fun p => N (Γ.set i (.key p))) E
theorem s_asgK {i : Nat} {x : Str} {e : Expr} {w : WK} {pos' : Pos} (hN : X.N.Nodup) (hi : X.N[i]? = some x) (hx : Loc X.env.scope x) (he : PE X e (tDK X.K E w)) (hs : swapsWith e (some (.Name x pos')) pos.line X.env = pure false := by rfl) (hf : X.fn x = true ∨ X.env.scope.names.lookup x = some .local := by first | exact .inl rfl | exact .inr rfl | assumption) :
    PS X (.Assign [.Name x pos'] e pos) (tS X.K E (wAsgK i w)) := (ps_set hN hi hx he hs hf).imp fun Dn σ H h => by
  obtain ⟨S0, H0, S, Γ, N, R, Ed, st, w, kn, kr, ke⟩ := h
  refine ⟨_, S, Γ, _, Ed, st.ws, st.mat, w, fun p k S' H' q e w' h => ?_, st.ke ke⟩
  exact kn _ _ S' H' q ⟨w', (st.mat.ev st.ws w' e).setKey h, st.ev.trans st.ws e⟩ (e.stb st.ws)
/-- y = {} -/
@[simp] def wDNew (i : Nat) : WS := fun N _ _ Γ => N (Γ.set i (.dic []))
theorem s_dnew {i : Nat} {x : Str} {pos' p2 : Pos} (hN : X.N.Nodup) (hi : X.N[i]? = some x) (hx : Loc X.env.scope x) (hs : swapsWith (.Dict [] [] p2) (some (.Name x pos')) pos.line X.env = pure false := by rfl) (hf : X.fn x = true ∨ X.env.scope.names.lookup x = some .local := by first | exact .inl rfl | exact .inr rfl | assumption) :
    PS X (.Assign [.Name x pos'] (.Dict [] [] p2) pos) (tS X.K E (wDNew i)) := (ps_set hN hi hx pe_dnewT hs hf).imp fun Dn σ H h => by
  obtain ⟨S0, H0, S, Γ, N, R, Ed, st, w, kn, kr, ke⟩ := h
  intro p hp
  have ev : Ev S H S (upd H p (.dT [])) := .upd hp
  exact kn _ _ S _ w ⟨st.ws.upd hp, Mat.setDic (ks := []) st.ws st.mat hp (st.ev.free st.ws hp), st.ev.trans st.ws ev⟩ (ev.stb st.ws)
/-- y, z = e, {} -/
@[simp] def wParRD (i j : Nat) (we : WE) : WS := fun N _ E Γ => we Γ (fun d => N ((Γ.set i (.dat d)).set j (.dic []))) E
theorem s_parRD {i j : Nat} {x y : Str} {a : Expr} {we : WE} {px py pt p2 : Pos} {kt k2 pt2} (hc : X.calm = true) (hN : X.N.Nodup) (hi : X.N[i]? = some x) (hj : X.N[j]? = some y) (hij : i ≠ j)
    (hx : X.env.scope.names.lookup x = some .local) (hy : X.env.scope.names.lookup y = some .local) (ha : PE X a (tD X.K E we))
    (hw : swappedStores [.Tuple [.Name x px, .Name y py] kt pt] (.Tuple [a, .Dict [] [] p2] k2 pt2) X.env = pure (some [x, y]))
    (hst : starEach [a, .Dict [] [] p2] X.env = (false, eval a X.env) :: starEach [.Dict [] [] p2] X.env := by rfl) (hst2 : starEach [.Dict [] [] p2] X.env = (false, eval (.Dict [] [] p2) X.env) :: starEach [] X.env := by rfl)
    (hs : swapsWithSole [.Tuple [.Name x px, .Name y py] kt pt] (.Tuple [a, .Dict [] [] p2] k2 pt2) pos.line X.env = pure false := by rfl) :
    PS X (.Assign [.Tuple [.Name x px, .Name y py] kt pt] (.Tuple [a, .Dict [] [] p2] k2 pt2) pos) (tS X.K E (wParRD i j we)) := (ps_par hc hN hi hj hij hx hy (pa_cons ha (pa_cons pe_dnewT pa_nil hst2) hst) hw hs).imp fun Dn σ H h => by
  obtain ⟨S0, H0, S, Γ, N, R, Ed, st, w, kn, kr, ke⟩ := h
  refine ⟨_, S, Γ, _, Ed, st.ws, st.mat, w, fun v d S1 H1 q1 e1 w1 rv => ?_, st.ke ke⟩
  intro p hp
  have e2 : Ev S1 H1 S1 (upd H1 p (.dT [])) := .upd hp
  have e := e1.trans w1 e2
  have m1 := (st.mat.ev st.ws w1 e1).setDat (i := i) rv
  exact ⟨_, _, rfl, kn _ _ S1 _ q1 ⟨w1.upd hp, Mat.setDic (ks := []) w1 m1 hp (st.ev.free st.ws (e1.free w1 hp)), st.ev.trans st.ws e⟩ (e.stb st.ws)⟩
/-- d[key] = True -/
@[simp] def wDPut (i : Nat) (wk : WK) : WS := fun N _ E Γ => ∃ ks, Γ[i]? = some (.dic ks) ∧ wk Γ (fun p => ks.length < 16000000 ∧ N (Γ.set i (.dic (putP ks p)))) E
theorem s_dput (i : Nat) {x : Str} {k : Expr} {wk : WK} {p1 p2 p3 : Pos} {j3} (hu : X.A.units + 1 < cLine) (hk : PE X k (tDK X.K E wk)) (hN : X.N[i]? = some x := by rfl) (hv : Vis X.env.scope x := by first | exact Or.inl rfl | exact Or.inr (Or.inl rfl) | exact Or.inr (Or.inr rfl)) (hd : (x == ("__debug__" : Str)) = false := by decide)
    (hcd : (x == ("__classdict__" : Str)) = false := by decide) (hs : swapsWith (.Constant (.bool true) j3 p3) (some (.Subscript (.Name x p1) k p2)) pos.line X.env = pure false := by rfl) :
    PS X (.Assign [.Subscript (.Name x p1) k p2] (.Constant (.bool true) j3 p3) pos) (tS X.K E (wDPut i wk)) := (ps_dput hu (pv i hN hv hd hcd) hk pe_bl hs).imp fun Dn σ H h => by
  obtain ⟨S0, H0, S, Γ, N, R, Ed, st, ⟨ks, hg, w⟩, kn, kr, ke⟩ := h
  obtain ⟨a, e1, e2, n, f⟩ := st.mat.at_ i _ hg
  refine ⟨.ref a, e1, ?_⟩
  refine ⟨_, S, Γ, _, Ed, st.ws, st.mat, w, fun p q S' H' hq e w' h => ?_, st.ke ke⟩
  have st' := st.next e w'
  obtain ⟨a', e3, e4, n', f'⟩ := st'.mat.at_ i _ hg
  rw [e1] at e3
  cases e3
  obtain ⟨s2, sb⟩ := st'.wrDic (ls := putP ks q) hg e1 e4 n' f'
  refine ⟨a, _, rfl, DPut.t (k := [Sum.inl q.1, Sum.inl q.2]) e4 h (by unfold kpKV; rw [List.length_map, sizeLine_eq]; omega), ?_⟩
  rw [putP_kv]
  exact kn _ _ S' _ hq.2 s2 ((e.stb st.ws).trans sb)
end
end PD

set_option Elab.async false
set_option linter.all false
set_option maxRecDepth 100000
set_option maxHeartbeats 1000000
namespace PD
open PySem PySem.Spec PyProof.Rows L2
/-! ### sorted(d), d a dict of one's own -/
section
open PySem.W PySem.Calls PyProof.V
variable {prog : Program} {w : World} {A : Around} {E : Value → Shared → Prop} {s : Shared} {T : String} {r d : Addr} {n : Nat} {P : Nat → Value → Prop} {OK : Heap → Prop} {Q : Value → Shared → Prop}
theorem sortedKeys (K : PySem.W.KdlSrc prog w T r d n P OK) (hh : A.handled = none) (hok : OK s.heap) (hn : n ≤ sizeLine)
    (h : ∀ (h' : Heap) (tk : Nat) (vs : List Value), (∀ b o, s.heap.get? b = some o → h'.get? b = some o) → vs.length = n → (∀ (j : Nat) (v : Value), vs[j]? = some v → P j v) →
      wpAny (model prog w) A.in1 (call (.builtin "list.sort") [.ref h'.objs.size]) (fun _ s' => Q (.ref h'.objs.size) s') E { s with heap := h'.push { cls := .type "list", data := .seq vs.toArray }, toks := tk }) :
    wpAny (model prog w) A (call (.builtin "sorted") [.ref r]) Q E s := by
  refine call_function_entry kind_sorted plain_sorted entry_sorted (args_sorted1 _) ?_
  unfold Builtin.«sorted»
  refine wpAny_bind (m := checkCount "sorted" 1 1 _) (wpAny_pure ?_)
  refine wpAny_bind (kdu_collect (A := A.in1) K hh hok hn fun h' tk acc hk hacc => ?_)
  have hl : acc.toList.length = n := by rw [Array.length_toList]; exact hacc.1
  refine wpAny_bind (wpAny_newList ?_ (by rw [hl]; exact hn))
  have hg := h h' tk acc.toList hk hl (fun j v e => hacc.2 j v (by rw [← Array.getElem?_toList]; exact e))
  refine wpAny_bind (wpAny_holding (wpAny_mono hg (fun _ s' x => ?_) fun _ _ e => e))
  exact wpAny_pure ⟨_, rfl, x⟩
end
def keysOk (ks : List KP) : Prop := PySem.W.AllAlike ((ks.map kpD).map D.pd) ∧ PySem.W.Sortable ((ks.map kpD).map D.pd)
def rSortK (K : PySem.W.Frag) : List V → Hp → VK → Prop := fun vs H Q => ∃ S a ks, vs = [V.ref a] ∧ H a = some (.dT (kpKV ks)) ∧ keysOk ks ∧
  ∀ ys p, Reps K S H ys ((ks.map kpD).mergeSort (PySem.W.dataLe false D.pd)) → H p = none → Q (.ref p) (upd H p (.lst ys))
theorem fl_kpD (p : KP) : (kpD p).fl 12 = true := rfl
theorem reps_keys {K : PySem.W.Frag} {S : As} {H : Hp} : ∀ {ks : List KP} {xs : List (List Key × Addr × Value)}, KT H (kpKV ks) xs → Reps K S H ((xs.map fun x => x.2.1).map V.ref) (ks.map kpD)
  | [], _, h => by cases h; exact .nil
  | p :: ks, _, h => by
    cases h with
    | cons h1 h2 => exact .cons (.tup (SqT.of h1.2.1) (.cons (.int _) (.cons (.int _) .nil))) (reps_keys h2)
theorem reads_key {h : Heap} {v : Value} {p : KP} {as : List Addr} (q : Reads h v (kpD p).pd as) : as = [] := by
  have q : Reads h v (.tuple [.int p.1, .int p.2]) as := q
  cases q with
  | tuple h1 h2 h3 h4 =>
    rename_i vs n
    generalize vs.toList = l at h4
    cases h4 with
    | cons q1 q2 =>
      cases q1
      cases q2 with
      | cons q3 q4 =>
        cases q3
        cases q4
        rfl
theorem cr_sortK {X : Cx} (hc : X.calm = true) (hu : X.A.units + 65 < cLine) : CallR X (.builtin "sorted") (rSortK X.K) := by
  intro pins s σ H vs us Q I r h
  obtain ⟨S, a, ks, rfl, ha, ⟨hal, hso⟩, q⟩ := h
  obtain ⟨u, rfl, ru⟩ := vals1 r
  obtain rfl : u = Value.ref a := ru
  obtain ⟨z, hs, xs, pr, o, es, ep, ho, hx, hdt, he, hn⟩ := (show ObjOk X.prog X.w H s.heap a (.dT (kpKV ks)) from I.hok a _ ha)
  have l1 : es.size = xs.length := size_of_entries he
  have l2 : (kpKV ks).length = xs.length := Paired.length pr
  have l3 : (kpKV ks).length = ks.length := by simp [kpKV]
  refine sortedKeys (kdl_raw hs hx hdt) (I.ok.hd hc) ho (by omega) fun h' tk vs hk hl hp => ?_
  have ev : vs = (xs.map fun x => x.2.1).map Value.ref := by
    apply List.ext_getElem?
    intro j
    rw [List.map_map, List.getElem?_map]
    cases hj : vs[j]? with
    | none =>
      have h1 := List.getElem?_eq_none_iff.mp hj
      rw [List.getElem?_eq_none (by omega)]
      all_goals rfl
    | some v =>
      obtain ⟨en, hen, hv⟩ := hp j v hj
      have qe := entry_at he j
      rw [hen] at qe
      cases hb : xs[j]? with
      | none =>
        rw [hb] at qe
        exact nomatch (show some en = none from qe)
      | some b =>
        rw [hb] at qe
        have e2 : en = entryOfKey (tupleKind (mixKind X.prog X.w)) b := Option.some.inj qe
        rw [hv, e2]
        all_goals rfl
  have rp : Reps X.K S H ((xs.map fun x => x.2.1).map V.ref) (ks.map kpD) := reps_keys pr
  have rv : Vals ((xs.map fun x => x.2.1).map V.ref) vs := by rw [ev]; exact vals_refs _
  have e := each_of rv rp
  have hob : (h'.push { cls := .type "list", data := .seq vs.toArray }).get? h'.objs.size = some (seqObj "list" vs.toArray 0) := Heap.get?_push_size _ rfl
  have kb : ∀ b o, s.heap.get? b = some o → (h'.push { cls := .type "list", data := .seq vs.toArray }).get? b = some o := fun b o e => Heap.get?_push_of_some _ (hk b o e)
  have er := each_mem' (R' := fun u d => ∃ as, Reads (h'.push { cls := .type "list", data := .seq vs.toArray }) u d.pd as ∧ h'.objs.size ∉ as) e fun u d hd ⟨v, h1, h2⟩ => by
    obtain ⟨p, _, rfl⟩ := List.mem_map.mp hd
    obtain ⟨as, q⟩ := Dp.reads I (kpD p).pd v u (Rep.dp 12 (kpD p) v (fl_kpD p) h2) h1
    refine ⟨as, PyProof.Rows.Reads.keeps kb q, ?_⟩
    rw [reads_key q]
    simp
  have hlen : vs.length = ks.length := by omega
  refine PySem.W.list_sort_data (A := X.A.in1) (enc := D.pd) (bs := ks.map kpD) hob e er hal hso (by rw [List.length_map]; omega) (fun d hd => ?_) fun out ho2 eo => ?_
  · obtain ⟨p, _, rfl⟩ := List.mem_map.mp hd
    have := (D.fl_ok 12 (kpD p) (fl_kpD p)).2
    show X.A.units + 1 + 1 + _ < _
    omega
  · obtain ⟨ys, h1, h2⟩ := of_each eo
    obtain ⟨c, hat⟩ := sortedHeap_at (out := List.toArray out) hob
    have hlt : ∀ b o, s.heap.get? b = some o → b < h'.objs.size := fun b o e => Heap.lt_size (hk b o e)
    have hp0 : s.heap.get? h'.objs.size = none := by
      cases y : s.heap.get? h'.objs.size with
      | none => rfl
      | some o => exact absurd (hlt _ _ y) (Nat.lt_irrefl _)
    have hn0 := HOk.gone I.hok hp0
    refine ⟨.ref h'.objs.size, upd H h'.objs.size (.lst ys), Inv.laidN (s := s) (t' := tk) I (fun b o e => ?_) hp0 hn0 ⟨?_, out, c, h1, hat⟩, rfl, q ys _ h2 hn0⟩
    · rw [sortedHeap_old (Nat.ne_of_lt (hlt b o e)) (by rw [Heap.size_push]; exact Nat.lt_succ_of_lt (hlt b o e))]
      exact kb b o e
    · rw [h1.length, ho2, List.length_map]
      omega
/-- sorted(d): a new list -/
@[simp] def wSortK (i : Nat) : WE := fun Γ Q _ => ∃ ks, Γ[i]? = some (.dic ks) ∧ keysOk ks ∧ Q (.lst ((ks.map kpD).mergeSort (PySem.W.dataLe false D.pd)))
theorem d_sortK {X : Cx} {E : XK} {pos : Pos} (i : Nat) {x : Str} {p1 p2 : Pos} (hc : X.calm = true) (hu : X.A.units + 65 < cLine) (hg : Gl X "sorted") (hm : X.mg "sorted" = none) (hN : X.N[i]? = some x := by rfl) (hv : Vis X.env.scope x := by first | exact Or.inl rfl | exact Or.inr (Or.inl rfl) | exact Or.inr (Or.inr rfl))
    (hd : (x == ("__debug__" : Str)) = false := by decide) (hcd : (x == ("__classdict__" : Str)) = false := by decide) (he : starEach [.Name x p1] X.env = (false, eval (.Name x p1) X.env) :: starEach [] X.env := by rfl) (hpl : (backTo pos (starEach [] X.env)).any (·.1) = false := by rfl) :
    PE X (.Call (.Name "sorted" p2) [.Name x p1] [] pos) (tD X.K E (wSortK i)) :=
  (pe_callB (cr_sortK hc hu) hg hm (by rfl) (pa_cons (pv i hN hv hd hcd) pa_nil he) (he := he) (hpl := hpl)).frz.imp fun σ H Q h => by
    obtain ⟨O, S, Γ, Qd, Ed, ws, m, ⟨ks, hgk, hk, q⟩, k, ke⟩ := h
    obtain ⟨a, e1, e2, n⟩ := m.at_ i _ hgk
    refine ⟨.ref a, e1, S, a, ks, rfl, e2, hk, fun ys p r hp => ?_⟩
    exact new_lst ws r q k p hp
end PD

set_option Elab.async false
set_option linter.all false
set_option maxRecDepth 100000
set_option maxHeartbeats 1000000
namespace RG
/-! ### formations along their long side, as the number grows -/
/-- a person: al * m + be * q + ga -/
structure Pn where
  al : Int
  be : Int
  ga : Int
def Pn.at (p : Pn) (m q : Int) : Int := p.al * m + p.be * q + p.ga
abbrev En (α : Type) := List (Option α)
def emap {α β : Type} (g : α → β) (e : En α) : En β := e.map (Option.map g)
def evE (m q : Int) (e : En Pn) : En Int := emap (fun p => p.at m q) e
inductive Seg where
  | blk (es : List (En Pn))
  | run (k : Nat) (pat : List (En Pn))
def Seg.ev (m : Nat) : Seg → List (En Int)
  | .blk es => es.map (evE m 0)
  | .run k pat => (List.range (m - k)).flatMap fun q : Nat => pat.map (evE m q)
def evs (m : Nat) (ss : List Seg) : List (En Int) := ss.flatMap (Seg.ev m)
@[simp] theorem evs_nil (m : Nat) : evs m [] = [] := rfl
@[simp] theorem evs_cons (m : Nat) (s : Seg) (ss : List Seg) : evs m (s :: ss) = s.ev m ++ evs m ss := rfl
@[simp] theorem evs_append (m : Nat) (ss ts : List Seg) : evs m (ss ++ ts) = evs m ss ++ evs m ts := List.flatMap_append
theorem emap_emap {α β γ : Type} (g : α → β) (f : β → γ) (e : En α) : emap f (emap g e) = emap (fun x => f (g x)) e := by
  unfold emap
  rw [List.map_map]
  congr 1
  funext o
  cases o <;> rfl
/-! ### each entry becomes entries -/
def Nat1 (f : {α : Type} → En α → List (En α)) : Prop := ∀ {α β : Type} (g : α → β) (e : En α), f (emap g e) = (f e).map (emap g)
def Seg.fm (f : En Pn → List (En Pn)) : Seg → Seg
  | .blk es => .blk (es.flatMap f)
  | .run k pat => .run k (pat.flatMap f)
theorem flatMap_ev (f : {α : Type} → En α → List (En α)) (hf : Nat1 f) (m q : Int) (es : List (En Pn)) : (es.map (evE m q)).flatMap f = (es.flatMap f).map (evE m q) := by
  induction es with
  | nil => rfl
  | cons e es ih =>
    rw [List.map_cons, List.flatMap_cons, List.flatMap_cons, List.map_append, ih]
    congr 1
    exact hf _ e
theorem Seg.fm_ev (f : {α : Type} → En α → List (En α)) (hf : Nat1 f) (m : Nat) (s : Seg) : (s.fm f).ev m = (s.ev m).flatMap f := by
  cases s with
  | blk es => exact (flatMap_ev f hf m 0 es).symm
  | run k pat =>
    show (List.range (m - k)).flatMap (fun q : Nat => (pat.flatMap f).map (evE m q)) = ((List.range (m - k)).flatMap fun q : Nat => pat.map (evE m q)).flatMap f
    rw [List.flatMap_assoc]
    congr 1
    funext q
    exact (flatMap_ev f hf m q pat).symm
theorem fm_ev (f : {α : Type} → En α → List (En α)) (hf : Nat1 f) (m : Nat) (ss : List Seg) : evs m (ss.map (Seg.fm f)) = (evs m ss).flatMap f := by
  induction ss with
  | nil => rfl
  | cons s ss ih => rw [List.map_cons, evs_cons, evs_cons, List.flatMap_append, ih, Seg.fm_ev f hf]
/-! ### the other way round -/
def Pn.rv (k : Nat) (p : Pn) : Pn := ⟨p.al + p.be, -p.be, p.ga - p.be * (k + 1)⟩
def Seg.rv : Seg → Seg
  | .blk es => .blk es.reverse
  | .run k pat => .run k (pat.reverse.map (emap (Pn.rv k)))
def rvs (ss : List Seg) : List Seg := (ss.map Seg.rv).reverse
theorem Pn.rv_at (k : Nat) (p : Pn) (m q : Int) : (p.rv k).at m q = p.at m (m - k - 1 - q) := by
  unfold Pn.rv Pn.at
  simp only [Int.mul_sub, Int.add_mul, Int.neg_mul, Int.mul_add, Int.mul_one]
  omega
theorem evE_rv (k : Nat) (m q : Int) (e : En Pn) : evE m q (emap (Pn.rv k) e) = evE m (m - k - 1 - q) e := by
  unfold evE
  rw [emap_emap]
  congr 1
  funext p
  exact Pn.rv_at k p m q
theorem range_rev_flatMap {α : Type} (g : Nat → List α) : ∀ n : Nat, ((List.range n).flatMap g).reverse = (List.range n).flatMap fun q => (g (n - 1 - q)).reverse
  | 0 => rfl
  | n + 1 => by
    rw [List.range_succ, List.flatMap_append, List.reverse_append, range_rev_flatMap g n]
    have e : List.range n ++ [n] = 0 :: (List.range n).map (· + 1) := by
      rw [← List.range_succ, List.range_succ_eq_map]
    rw [e]
    simp only [List.flatMap_cons, List.flatMap_nil, List.append_nil, List.flatMap_map]
    congr 1
    congr 1
    funext q
    congr 2
    omega
theorem Seg.rv_ev (m : Nat) (s : Seg) : s.rv.ev m = (s.ev m).reverse := by
  cases s with
  | blk es => exact List.map_reverse
  | run k pat =>
    show (List.range (m - k)).flatMap (fun q : Nat => (pat.reverse.map (emap (Pn.rv k))).map (evE m q)) = ((List.range (m - k)).flatMap fun q : Nat => pat.map (evE m q)).reverse
    rw [range_rev_flatMap]
    simp only [List.flatMap_def]
    congr 1
    refine List.map_congr_left fun q hq => ?_
    have hq' : q < m - k := List.mem_range.mp hq
    rw [List.map_map, List.map_reverse]
    congr 1
    refine List.map_congr_left fun e _ => ?_
    show evE m q (emap (Pn.rv k) e) = _
    rw [evE_rv]
    congr 1
    omega
theorem rvs_ev (m : Nat) : ∀ ss : List Seg, evs m (rvs ss) = (evs m ss).reverse
  | [] => rfl
  | s :: ss => by
    have ih := rvs_ev m ss
    unfold rvs at ih ⊢
    rw [List.map_cons, List.reverse_cons, evs_append, ih, evs_cons m s ss, List.reverse_append]
    simp [Seg.rv_ev]
/-! ### k entries become one -/
def chk {α : Type} (k : Nat) : Nat → List α → List (List α)
  | 0, _ => []
  | _ + 1, [] => []
  | fuel + 1, x :: xs => (x :: xs).take k :: chk k fuel ((x :: xs).drop k)
def chunk {α : Type} (k : Nat) (xs : List α) : List (List α) := chk k (xs.length + 1) xs
theorem chk_fuel {α : Type} {k : Nat} (hk : 0 < k) : ∀ (f g : Nat) (xs : List α), xs.length < f → xs.length < g → chk k f xs = chk k g xs
  | 0, _, xs, h, _ => absurd h (Nat.not_lt_zero _)
  | _, 0, xs, _, h => absurd h (Nat.not_lt_zero _)
  | f + 1, g + 1, [], _, _ => rfl
  | f + 1, g + 1, x :: xs, h1, h2 => by
    show _ :: _ = _ :: _
    congr 1
    refine chk_fuel hk f g _ ?_ ?_ <;> (rw [List.length_drop, List.length_cons] at *; omega)
theorem chunk_nil {α : Type} (k : Nat) : chunk k ([] : List α) = [] := rfl
theorem chunk_eq {α : Type} {k : Nat} (hk : 0 < k) {xs : List α} (h : xs ≠ []) : chunk k xs = xs.take k :: chunk k (xs.drop k) := by
  cases xs with
  | nil => exact absurd rfl h
  | cons x xs =>
    show _ :: _ = _ :: _
    congr 1
    refine chk_fuel hk _ _ _ ?_ ?_ <;> (rw [List.length_drop, List.length_cons]; omega)
theorem chunk_append {α : Type} {k : Nat} (hk : 0 < k) : ∀ (n : Nat) (xs ys : List α), xs.length = k * n → chunk k (xs ++ ys) = chunk k xs ++ chunk k ys
  | 0, xs, ys, h => by
    have : xs = [] := List.eq_nil_of_length_eq_zero (by simpa using h)
    subst this
    rfl
  | n + 1, xs, ys, h => by
    have hl : k ≤ xs.length := by rw [h, Nat.mul_succ]; omega
    have hne : xs ≠ [] := fun z => by subst z; simp at hl; omega
    rw [chunk_eq hk (xs := xs ++ ys) (by simp [hne]), chunk_eq hk hne, List.take_append_of_le_length hl, List.drop_append_of_le_length hl, chunk_append hk n (xs.drop k) ys (by rw [List.length_drop, h, Nat.mul_succ]; omega)]
    rfl
theorem chunk_map {α β : Type} {k : Nat} (hk : 0 < k) (g : α → β) : ∀ (n : Nat) (xs : List α), xs.length ≤ n → chunk k (xs.map g) = (chunk k xs).map (List.map g)
  | 0, xs, h => by
    have : xs = [] := List.eq_nil_of_length_eq_zero (by omega)
    subst this
    rfl
  | n + 1, xs, h => by
    by_cases he : xs = []
    · subst he; rfl
    · rw [chunk_eq hk he, chunk_eq hk (xs := xs.map g) (by simpa using he), List.map_cons, ← List.map_take, ← List.map_drop, chunk_map hk g n (xs.drop k) (by
        have : 0 < xs.length := List.length_pos_iff.mpr he
        rw [List.length_drop]; omega)]
theorem chunk_flatMap {α : Type} {k : Nat} (hk : 0 < k) (g : Nat → List α) (w : Nat) (hg : ∀ q, (g q).length = k * w) : ∀ n : Nat, chunk k ((List.range n).flatMap g) = (List.range n).flatMap fun q => chunk k (g q)
  | 0 => rfl
  | n + 1 => by
    rw [List.range_succ, List.flatMap_append, List.flatMap_append]
    have hl : ((List.range n).flatMap g).length = k * (n * w) := by
      rw [List.length_flatMap]
      have : ((List.range n).map fun a => (g a).length) = (List.range n).map fun _ => k * w := List.map_congr_left fun q _ => hg q
      rw [this]
      have : ∀ n : Nat, ((List.range n).map fun _ => k * w).sum = k * (n * w) := fun n => by
        induction n with
        | zero => simp
        | succ n ih => rw [List.range_succ, List.map_append, List.sum_append, ih]; simp [Nat.add_mul, Nat.mul_add]
      exact this n
    rw [chunk_append hk _ _ _ hl, chunk_flatMap hk g w hg n]
    simp
theorem flatMap_len {α : Type} (g : Nat → List α) (w : Nat) (hg : ∀ q, (g q).length = w) : ∀ n : Nat, ((List.range n).flatMap g).length = n * w
  | 0 => by simp
  | n + 1 => by
    rw [List.range_succ, List.flatMap_append, List.length_append, flatMap_len g w hg n]
    simp [hg, Nat.add_mul]
def Nat2 (cb : {α : Type} → List (En α) → En α) : Prop := ∀ {α β : Type} (g : α → β) (es : List (En α)), cb (es.map (emap g)) = emap g (cb es)
def Pn.sh (p : Pn) : Pn := ⟨p.al, p.be, p.ga + p.be⟩
/-- at q = 0 -/
def Pn.fst (p : Pn) : Pn := ⟨p.al, 0, p.ga⟩
/-- at q = m - k - 1 -/
def Pn.lst (k : Nat) (p : Pn) : Pn := ⟨p.al + p.be, 0, p.ga - p.be * (k + 1)⟩
def chs (k : Nat) (cb : List (En Pn) → En Pn) : List (En Pn) → List Seg → List Seg
  | acc, [] => [.blk ((chunk k acc).map cb)]
  | acc, .blk es :: r => chs k cb (acc ++ es) r
  | acc, .run j pat :: r =>
    if acc.length % k = 0 then .blk ((chunk k acc).map cb) :: .run j ((chunk k pat).map cb) :: chs k cb [] r
    else .blk ((chunk k (acc ++ (pat.take (k - acc.length % k)).map (emap Pn.fst))).map cb) ::
      .run (j + 1) ((chunk k (pat.drop (k - acc.length % k) ++ (pat.take (k - acc.length % k)).map (emap Pn.sh))).map cb) ::
      chs k cb ((pat.drop (k - acc.length % k)).map (emap (Pn.lst j))) r
theorem Pn.sh_at (p : Pn) (m q : Int) : p.sh.at m q = p.at m (q + 1) := by
  unfold Pn.sh Pn.at
  simp only [Int.mul_add, Int.mul_one]
  omega
theorem Pn.fst_at (p : Pn) (m q : Int) : p.fst.at m q = p.at m 0 := by
  unfold Pn.fst Pn.at
  simp
theorem Pn.lst_at (k : Nat) (p : Pn) (m q : Int) : (p.lst k).at m q = p.at m (m - k - 1) := by
  unfold Pn.lst Pn.at
  simp only [Int.mul_sub, Int.add_mul, Int.zero_mul, Int.mul_add, Int.mul_one]
  omega
theorem evE_g (g : Pn → Pn) (m q q' : Int) (h : ∀ p, (g p).at m q = p.at m q') (es : List (En Pn)) : (es.map (emap g)).map (evE m q) = es.map (evE m q') := by
  rw [List.map_map]
  refine List.map_congr_left fun e _ => ?_
  show evE m q (emap g e) = _
  unfold evE
  rw [emap_emap]
  congr 1
  funext p
  exact h p
theorem run_rot {α : Type} (t : Nat) (g : Nat → List α) (w : Nat) (hg : ∀ q, (g q).length = w) (ht : t ≤ w) : ∀ n : Nat, (List.range (n + 1)).flatMap g = (g 0).take t ++ (List.range n).flatMap (fun q => (g q).drop t ++ (g (q + 1)).take t) ++ (g n).drop t
  | 0 => by simp
  | n + 1 => by
    rw [List.range_succ, List.flatMap_append, run_rot t g w hg ht n]
    have e : (List.range (n + 1)).flatMap (fun q => (g q).drop t ++ (g (q + 1)).take t) = (List.range n).flatMap (fun q => (g q).drop t ++ (g (q + 1)).take t) ++ ((g n).drop t ++ (g (n + 1)).take t) := by
      rw [List.range_succ, List.flatMap_append]
      simp
    rw [e]
    simp only [List.flatMap_cons, List.flatMap_nil, List.append_nil, List.append_assoc, List.take_append_drop]
theorem chs_ev {k : Nat} (hk : 0 < k) (cb : {α : Type} → List (En α) → En α) (hcb : Nat2 cb) (m : Nat) : ∀ (ss : List Seg) (acc : List (En Pn)),
    (∀ j pat, Seg.run j pat ∈ ss → j < m ∧ pat ≠ [] ∧ k ∣ pat.length) → evs m (chs k cb acc ss) = (chunk k (acc.map (evE m 0) ++ evs m ss)).map cb := by
  have cm : ∀ (q : Int) (es : List (En Pn)), ((chunk k es).map cb).map (evE m q) = (chunk k (es.map (evE m q))).map cb := fun q es => by
    rw [chunk_map hk _ _ _ (Nat.le_refl _), List.map_map, List.map_map]
    exact List.map_congr_left fun e _ => (hcb _ e).symm
  intro ss
  induction ss with
  | nil =>
    intro acc _
    show ((chunk k acc).map cb).map (evE m 0) ++ [] = _
    rw [List.append_nil, cm, evs_nil, List.append_nil]
  | cons s ss ih =>
    intro acc h
    have h' := fun j pat hm => h j pat (List.mem_cons_of_mem _ hm)
    cases s with
    | blk es =>
      show evs m (chs k cb (acc ++ es) ss) = _
      rw [ih _ h', List.map_append, evs_cons, List.append_assoc]
      rfl
    | run j pat =>
      obtain ⟨hj, hne, w, hw⟩ := h j pat (List.mem_cons_self ..)
      have hlen : ∀ q : Nat, (pat.map (evE m q)).length = k * w := fun q => by rw [List.length_map, hw]
      unfold chs
      split
      · rename_i ha
        obtain ⟨a, ha⟩ := Nat.dvd_of_mod_eq_zero ha
        rw [evs_cons, evs_cons, ih _ h', evs_cons]
        show ((chunk k acc).map cb).map (evE m 0) ++ ((List.range (m - j)).flatMap (fun q : Nat => ((chunk k pat).map cb).map (evE m q)) ++ _) = _
        have hl : ((Seg.run j pat).ev m).length = k * ((m - j) * w) := by
          show ((List.range (m - j)).flatMap fun q : Nat => pat.map (evE m q)).length = _
          rw [flatMap_len _ _ hlen, Nat.mul_left_comm]
        rw [List.map_nil, List.nil_append, cm, chunk_append hk a (acc.map (evE m 0)) _ (by rw [List.length_map, ha]), chunk_append hk _ _ _ hl, List.map_append, List.map_append]
        congr 2
        show _ = (chunk k ((List.range (m - j)).flatMap fun q : Nat => pat.map (evE m q))).map cb
        rw [chunk_flatMap hk _ w hlen, List.map_flatMap]
        congr 1
        funext q
        exact cm q pat
      · rename_i ha
        have hak : acc.length % k < k := Nat.mod_lt _ hk
        generalize htt : k - acc.length % k = t
        have hw0 : w ≠ 0 := fun z => hne (List.eq_nil_of_length_eq_zero (by rw [hw, z]; rfl))
        have htw : t ≤ k * w := by
          have : k ≤ k * w := Nat.le_mul_of_pos_right _ (by omega)
          omega
        obtain ⟨n, hn⟩ : ∃ n, m - j = n + 1 := ⟨m - j - 1, by omega⟩
        have hn' : m - (j + 1) = n := by omega
        have hnm : ((m : Int) - j - 1) = n := by omega
        rw [evs_cons, evs_cons, ih _ h', evs_cons]
        show ((chunk k (acc ++ (pat.take t).map (emap Pn.fst))).map cb).map (evE m 0) ++ ((List.range (m - (j + 1))).flatMap (fun q : Nat => ((chunk k (pat.drop t ++ (pat.take t).map (emap Pn.sh))).map cb).map (evE m q)) ++
          (chunk k (((pat.drop t).map (emap (Pn.lst j))).map (evE m 0) ++ evs m ss)).map cb) = _
        have e1 : (acc ++ (pat.take t).map (emap Pn.fst)).map (evE m 0) = acc.map (evE m 0) ++ (pat.map (evE m (0 : Nat))).take t := by
          rw [List.map_append, evE_g Pn.fst m 0 0 (fun p => Pn.fst_at p m 0), List.map_take]
          rfl
        have e2 : ∀ q : Nat, (pat.drop t ++ (pat.take t).map (emap Pn.sh)).map (evE m q) = (pat.map (evE m q)).drop t ++ (pat.map (evE m (q + 1 : Nat))).take t := fun q => by
          rw [List.map_append, evE_g Pn.sh m q ((q : Int) + 1) (fun p => Pn.sh_at p m q), List.map_take, List.map_drop]
          rfl
        have e3 : ((pat.drop t).map (emap (Pn.lst j))).map (evE m 0) = (pat.map (evE m (n : Nat))).drop t := by
          rw [evE_g (Pn.lst j) m 0 (m - j - 1) (fun p => Pn.lst_at j p m 0), hnm, List.map_drop]
        have er : (Seg.run j pat).ev m = (pat.map (evE m (0 : Nat))).take t ++ (List.range n).flatMap (fun q : Nat => (pat.map (evE m q)).drop t ++ (pat.map (evE m (q + 1 : Nat))).take t) ++ (pat.map (evE m (n : Nat))).drop t := by
          show (List.range (m - j)).flatMap (fun q : Nat => pat.map (evE m q)) = _
          rw [hn]
          exact run_rot t (fun q => pat.map (evE m q)) (k * w) hlen htw n
        rw [cm, e1, hn', e3, er]
        have hA : (acc.map (evE m 0) ++ (pat.map (evE m (0 : Nat))).take t).length = k * (acc.length / k + 1) := by
          rw [List.length_append, List.length_map, List.length_take, hlen, Nat.min_eq_left htw]
          have := Nat.div_add_mod acc.length k
          rw [Nat.mul_add, Nat.mul_one]
          omega
        have hB : ∀ q : Nat, ((pat.map (evE m q)).drop t ++ (pat.map (evE m (q + 1 : Nat))).take t).length = k * w := fun q => by
          rw [List.length_append, List.length_drop, List.length_take, hlen, hlen, Nat.min_eq_left htw]
          omega
        have hBl : ((List.range n).flatMap (fun q : Nat => (pat.map (evE m q)).drop t ++ (pat.map (evE m (q + 1 : Nat))).take t)).length = k * (n * w) := by
          rw [flatMap_len _ _ hB, Nat.mul_left_comm]
        rw [show acc.map (evE m 0) ++ ((pat.map (evE m (0 : Nat))).take t ++ (List.range n).flatMap (fun q : Nat => (pat.map (evE m q)).drop t ++ (pat.map (evE m (q + 1 : Nat))).take t) ++ (pat.map (evE m (n : Nat))).drop t ++ evs m ss) =
          (acc.map (evE m 0) ++ (pat.map (evE m (0 : Nat))).take t) ++ ((List.range n).flatMap (fun q : Nat => (pat.map (evE m q)).drop t ++ (pat.map (evE m (q + 1 : Nat))).take t) ++ ((pat.map (evE m (n : Nat))).drop t ++ evs m ss)) by simp only [List.append_assoc]]
        rw [chunk_append hk _ _ _ hA, chunk_append hk _ _ _ hBl, List.map_append, List.map_append]
        congr 2
        rw [chunk_flatMap hk _ w hB, List.map_flatMap]
        congr 1
        funext q
        rw [cm, e2]
end RG

set_option Elab.async false
set_option linter.all false
set_option maxRecDepth 100000
set_option maxHeartbeats 1000000
namespace RG
/-! ### how near to an end a person stands that is in no run -/
def okB (P r zl zh : Int) (p : Pn) : Prop := p.be = 0 ∧ ((p.al = 0 ∧ p.ga < zl) ∨ (p.al = P ∧ r - zh ≤ p.ga))
def okR (P r zl zh : Int) (k : Nat) (p : Pn) : Prop := ((p.al = 0 ∧ p.be = P) ∨ (p.al = P ∧ p.be = -P)) ∧ okB P r (zl + P) (zh + P) p.fst ∧ okB P r (zl + P) (zh + P) (p.lst k)
/-- all persons of a run go one way -/
def Uni (pat : List (En Pn)) : Prop := ∃ b, ∀ e ∈ pat, ∀ p, some p ∈ e → p.be = b
def Seg.bd (P r zl zh : Int) (K : Nat) : Seg → Prop
  | .blk es => ∀ e ∈ es, ∀ p, some p ∈ e → okB P r zl zh p
  | .run k pat => (k ≤ K ∧ Uni pat) ∧ ∀ e ∈ pat, ∀ p, some p ∈ e → okR P r zl zh k p
def Bd (P r zl zh : Int) (K : Nat) (ss : List Seg) : Prop := ∀ s ∈ ss, s.bd P r zl zh K
section
variable {P r zl zh : Int} {K : Nat}
theorem Bd.nil : Bd P r zl zh K [] := fun _ h => nomatch h
theorem Bd.cons {s : Seg} {ss : List Seg} (h : s.bd P r zl zh K) (hs : Bd P r zl zh K ss) : Bd P r zl zh K (s :: ss) := fun t ht => by
  rcases List.mem_cons.mp ht with rfl | ht
  · exact h
  · exact hs t ht
theorem Bd.append {ss ts : List Seg} (h : Bd P r zl zh K ss) (h' : Bd P r zl zh K ts) : Bd P r zl zh K (ss ++ ts) := fun s hs => (List.mem_append.mp hs).elim (h s) (h' s)
theorem okB.le {zl' zh' : Int} {p : Pn} (h : okB P r zl zh p) (h1 : zl ≤ zl') (h2 : zh ≤ zh') : okB P r zl' zh' p := by
  refine ⟨h.1, ?_⟩
  rcases h.2 with ⟨a, b⟩ | ⟨a, b⟩
  · exact .inl ⟨a, by omega⟩
  · exact .inr ⟨a, by omega⟩
theorem Seg.bd_le {zl' zh' : Int} {K' : Nat} {s : Seg} (h : s.bd P r zl zh K) (h1 : zl ≤ zl') (h2 : zh ≤ zh') (hk : K ≤ K') : s.bd P r zl' zh' K' := by
  cases s with
  | blk es => exact fun e he p hp => (h e he p hp).le h1 h2
  | run k pat => exact ⟨⟨Nat.le_trans h.1.1 hk, h.1.2⟩, fun e he p hp => ⟨(h.2 e he p hp).1, (h.2 e he p hp).2.1.le (by omega) (by omega), (h.2 e he p hp).2.2.le (by omega) (by omega)⟩⟩
theorem Bd.le {zl' zh' : Int} {K' : Nat} {ss : List Seg} (h : Bd P r zl zh K ss) (h1 : zl ≤ zl') (h2 : zh ≤ zh') (hk : K ≤ K') : Bd P r zl' zh' K' ss := fun s hs => Seg.bd_le (h s hs) h1 h2 hk
theorem mem_emap {α β : Type} {g : α → β} {e : En α} {p : β} (h : some p ∈ emap g e) : ∃ x, some x ∈ e ∧ g x = p := by
  obtain ⟨o, ho, e2⟩ := List.mem_map.mp h
  cases o with
  | none => cases e2
  | some x => cases e2; exact ⟨x, ho, rfl⟩
theorem okR.rv {k : Nat} {p : Pn} (h : okR P r zl zh k p) : okR P r zl zh k (p.rv k) := by
  obtain ⟨h0, h1, h2⟩ := h
  refine ⟨?_, ?_, ?_⟩
  · unfold Pn.rv
    simp only
    omega
  · exact h2
  · have e : (p.rv k).lst k = p.fst := by
      unfold Pn.rv Pn.lst Pn.fst
      simp only [Pn.mk.injEq, Int.neg_mul, true_and]
      omega
    rw [e]
    exact h1
theorem Bd.rvs {ss : List Seg} (h : Bd P r zl zh K ss) : Bd P r zl zh K (rvs ss) := fun s hs => by
  unfold RG.rvs at hs
  rw [List.mem_reverse] at hs
  obtain ⟨s, hs1, rfl⟩ := List.mem_map.mp hs
  have q := h s hs1
  cases s with
  | blk es => exact fun e he p hp => q e (List.mem_reverse.mp he) p hp
  | run k pat =>
    obtain ⟨b, hb⟩ := q.1.2
    refine ⟨⟨q.1.1, -b, fun e he p hp => by
      obtain ⟨e, he1, rfl⟩ := List.mem_map.mp he
      obtain ⟨p, hp1, rfl⟩ := mem_emap hp
      show -p.be = -b
      rw [hb e (List.mem_reverse.mp he1) p hp1]⟩, fun e he p hp => ?_⟩
    obtain ⟨e, he1, rfl⟩ := List.mem_map.mp he
    obtain ⟨p, hp1, rfl⟩ := mem_emap hp
    exact (q.2 e (List.mem_reverse.mp he1) p hp1).rv
/-- no new persons -/
def Sub1 (f : {α : Type} → En α → List (En α)) : Prop := ∀ {α : Type} (e e' : En α) (p : α), e' ∈ f e → some p ∈ e' → some p ∈ e
def Sub2 (cb : {α : Type} → List (En α) → En α) : Prop := ∀ {α : Type} (es : List (En α)) (p : α), some p ∈ cb es → ∃ e ∈ es, some p ∈ e
theorem Bd.fm {ss : List Seg} (f : {α : Type} → En α → List (En α)) (hf : Sub1 f) (h : Bd P r zl zh K ss) : Bd P r zl zh K (ss.map (Seg.fm f)) := fun s hs => by
  obtain ⟨s, hs1, rfl⟩ := List.mem_map.mp hs
  have q := h s hs1
  cases s with
  | blk es =>
    intro e he p hp
    obtain ⟨e0, h0, he⟩ := List.mem_flatMap.mp he
    exact q e0 h0 p (hf e0 e p he hp)
  | run k pat =>
    obtain ⟨b, hb⟩ := q.1.2
    refine ⟨⟨q.1.1, b, fun e he p hp => by
      obtain ⟨e0, h0, he⟩ := List.mem_flatMap.mp he
      exact hb e0 h0 p (hf e0 e p he hp)⟩, fun e he p hp => ?_⟩
    obtain ⟨e0, h0, he⟩ := List.mem_flatMap.mp he
    exact q.2 e0 h0 p (hf e0 e p he hp)
theorem chunk_mem {α : Type} {k : Nat} (hk : 0 < k) : ∀ (n : Nat) (xs : List α) (c : List α) (x : α), xs.length ≤ n → c ∈ chunk k xs → x ∈ c → x ∈ xs
  | 0, xs, c, x, h, hc, hx => by
    have : xs = [] := List.eq_nil_of_length_eq_zero (by omega)
    subst this
    cases hc
  | n + 1, xs, c, x, h, hc, hx => by
    by_cases he : xs = []
    · subst he; cases hc
    · rw [chunk_eq hk he] at hc
      rcases List.mem_cons.mp hc with rfl | hc
      · exact List.mem_of_mem_take hx
      · have : 0 < xs.length := List.length_pos_iff.mpr he
        exact List.mem_of_mem_drop (chunk_mem hk n (xs.drop k) c x (by rw [List.length_drop]; omega) hc hx)
theorem chs_bd {k : Nat} (hk : 0 < k) (hP : 0 < P) (cb : {α : Type} → List (En α) → En α) (hcb : Sub2 cb) : ∀ (ss : List Seg) (acc : List (En Pn)), Bd P r zl zh K ss → (∀ e ∈ acc, ∀ p, some p ∈ e → okB P r (zl + P) (zh + P) p) →
    Bd P r (zl + P) (zh + P) (K + 1) (chs k cb acc ss) := by
  have cm : ∀ (es : List (En Pn)) (e : En Pn) (p : Pn), e ∈ (chunk k es).map cb → some p ∈ e → ∃ e' ∈ es, some p ∈ e' := fun es e p he hp => by
    obtain ⟨c, hc, rfl⟩ := List.mem_map.mp he
    obtain ⟨e', h1, h2⟩ := hcb c p hp
    exact ⟨e', chunk_mem hk _ es c e' (Nat.le_refl _) hc h1, h2⟩
  intro ss
  induction ss with
  | nil =>
    intro acc _ ha
    refine .cons (fun e he p hp => ?_) .nil
    obtain ⟨e', h1, h2⟩ := cm acc e p he hp
    exact ha e' h1 p h2
  | cons s ss ih =>
    intro acc h ha
    have h0 := h s (List.mem_cons_self ..)
    have h' : Bd P r zl zh K ss := fun t ht => h t (List.mem_cons_of_mem _ ht)
    cases s with
    | blk es =>
      refine ih _ h' fun e he p hp => ?_
      rcases List.mem_append.mp he with he | he
      · exact ha e he p hp
      · exact (h0 e he p hp).le (by omega) (by omega)
    | run j pat =>
      unfold chs
      have up : ∀ e ∈ pat, ∀ p, some p ∈ e → okR P r (zl + P) (zh + P) (j + 1) p := fun e he p hp => by
        obtain ⟨q0, q1, q2⟩ := h0.2 e he p hp
        refine ⟨q0, q1.le (by omega) (by omega), ⟨rfl, ?_⟩⟩
        have e1 : (p.lst (j + 1)).ga = (p.lst j).ga - p.be := by
          unfold Pn.lst
          simp only [Int.mul_add, Int.mul_one, Int.natCast_add, Int.natCast_one]
          omega
        have e2 : (p.lst (j + 1)).al = p.al + p.be := rfl
        have e3 : (p.lst j).al = p.al + p.be := rfl
        rw [e1, e2]
        have q3 := q2.2
        rw [e3] at q3
        omega
      have ups : ∀ e ∈ pat, ∀ p, some p ∈ e → okR P r (zl + P) (zh + P) (j + 1) p.sh := fun e he p hp => by
        obtain ⟨q0, q1, q2⟩ := h0.2 e he p hp
        refine ⟨q0, ⟨rfl, ?_⟩, ?_⟩
        · have e1 : p.sh.fst.ga = p.fst.ga + p.be := rfl
          have e2 : p.sh.fst.al = p.al := rfl
          have e3 : p.fst.al = p.al := rfl
          have q3 := q1.2
          rw [e3] at q3
          rw [e1, e2]
          omega
        · have e1 : p.sh.lst (j + 1) = p.lst j := by
            unfold Pn.lst Pn.sh
            simp only [Pn.mk.injEq, Int.mul_add, Int.mul_one, Int.natCast_add, Int.natCast_one, true_and]
            omega
          rw [e1]
          exact q2.le (by omega) (by omega)
      obtain ⟨b, hb⟩ := h0.1.2
      split
      · refine .cons (fun e he p hp => ?_) (.cons ⟨⟨Nat.le_succ_of_le h0.1.1, b, fun e he p hp => by
            obtain ⟨e', h1, h2⟩ := cm pat e p he hp
            exact hb e' h1 p h2⟩, fun e he p hp => ?_⟩ (ih [] h' (fun e he => nomatch he)))
        · obtain ⟨e', h1, h2⟩ := cm acc e p he hp
          exact ha e' h1 p h2
        · obtain ⟨e', h1, h2⟩ := cm pat e p he hp
          have q := h0.2 e' h1 p h2
          exact ⟨q.1, q.2.1.le (by omega) (by omega), q.2.2.le (by omega) (by omega)⟩
      · refine .cons (fun e he p hp => ?_) (.cons ⟨⟨Nat.succ_le_succ h0.1.1, b, fun e he p hp => by
            obtain ⟨e', h1, h2⟩ := cm _ e p he hp
            rcases List.mem_append.mp h1 with h1 | h1
            · exact hb e' (List.mem_of_mem_drop h1) p h2
            · obtain ⟨e0, h3, rfl⟩ := List.mem_map.mp h1
              obtain ⟨p0, h4, rfl⟩ := mem_emap h2
              exact hb e0 (List.mem_of_mem_take h3) p0 h4⟩, fun e he p hp => ?_⟩ (ih _ h' fun e he p hp => ?_))
        · obtain ⟨e', h1, h2⟩ := cm _ e p he hp
          rcases List.mem_append.mp h1 with h1 | h1
          · exact ha e' h1 p h2
          · obtain ⟨e0, h3, rfl⟩ := List.mem_map.mp h1
            obtain ⟨p0, h4, rfl⟩ := mem_emap h2
            exact (h0.2 e0 (List.mem_of_mem_take h3) p0 h4).2.1
        · obtain ⟨e', h1, h2⟩ := cm _ e p he hp
          rcases List.mem_append.mp h1 with h1 | h1
          · exact up e' (List.mem_of_mem_drop h1) p h2
          · obtain ⟨e0, h3, rfl⟩ := List.mem_map.mp h1
            obtain ⟨p0, h4, rfl⟩ := mem_emap h2
            exact ups e0 (List.mem_of_mem_take h3) p0 h4
        · obtain ⟨e0, h3, rfl⟩ := List.mem_map.mp he
          obtain ⟨p0, h4, rfl⟩ := mem_emap hp
          exact (h0.2 e0 (List.mem_of_mem_drop h3) p0 h4).2.2
end
/-! ### where a person stands -/
def has {α : Type} (X : List (En α)) (l x : Nat) (p : α) : Prop := ∃ e, X[l]? = some e ∧ e[x]? = some (some p)
theorem has_append {α : Type} {X Y : List (En α)} {l x : Nat} {p : α} : has (X ++ Y) l x p ↔ has X l x p ∨ ∃ l', l = X.length + l' ∧ has Y l' x p := by
  constructor
  · rintro ⟨e, h1, h2⟩
    by_cases h : l < X.length
    · rw [List.getElem?_append_left h] at h1
      exact .inl ⟨e, h1, h2⟩
    · rw [List.getElem?_append_right (by omega)] at h1
      exact .inr ⟨l - X.length, by omega, e, h1, h2⟩
  · rintro (⟨e, h1, h2⟩ | ⟨l', rfl, e, h1, h2⟩)
    · have h : l < X.length := (List.getElem?_eq_some_iff.mp h1).1
      exact ⟨e, by rw [List.getElem?_append_left h]; exact h1, h2⟩
    · exact ⟨e, by rw [List.getElem?_append_right (by omega)]; simpa using h1, h2⟩
theorem has_map {es : List (En Pn)} {m q : Int} {l x : Nat} {p : Int} : has (es.map (evE m q)) l x p ↔ ∃ a : Pn, has es l x a ∧ a.at m q = p := by
  constructor
  · rintro ⟨e, h1, h2⟩
    rw [List.getElem?_map] at h1
    cases h3 : es[l]? with
    | none => rw [h3] at h1; cases h1
    | some e0 =>
      rw [h3] at h1
      cases h1
      unfold evE emap at h2
      rw [List.getElem?_map] at h2
      cases h4 : e0[x]? with
      | none => rw [h4] at h2; cases h2
      | some o =>
        rw [h4] at h2
        cases o with
        | none => cases h2
        | some a => cases h2; exact ⟨a, ⟨e0, h3, h4⟩, rfl⟩
  · rintro ⟨a, ⟨e, h1, h2⟩, rfl⟩
    exact ⟨evE m q e, by rw [List.getElem?_map, h1]; rfl, by unfold evE emap; rw [List.getElem?_map, h2]; rfl⟩
theorem has_flat (g : Nat → List (En Int)) (w : Nat) (hg : ∀ q, (g q).length = w) : ∀ (n l x : Nat) (p : Int), has ((List.range n).flatMap g) l x p ↔ ∃ q t, q < n ∧ l = q * w + t ∧ has (g q) t x p
  | 0, l, x, p => by
    constructor
    · rintro ⟨e, h1, _⟩
      simp at h1
    · rintro ⟨q, t, h, _⟩
      omega
  | n + 1, l, x, p => by
    rw [List.range_succ, List.flatMap_append, has_append, has_flat g w hg n, flatMap_len g w hg n]
    constructor
    · rintro (⟨q, t, h1, h2, h3⟩ | ⟨l', h1, h2⟩)
      · exact ⟨q, t, by omega, h2, h3⟩
      · exact ⟨n, l', by omega, h1, by simpa using h2⟩
    · rintro ⟨q, t, h1, h2, h3⟩
      by_cases h : q < n
      · exact .inl ⟨q, t, h, h2, h3⟩
      · have : q = n := by omega
        subst this
        exact .inr ⟨t, h2, by simpa using h3⟩
theorem has_run {k m : Nat} {pat : List (En Pn)} {l x : Nat} {p : Int} : has ((Seg.run k pat).ev m) l x p ↔ ∃ (q t : Nat) (a : Pn), q < m - k ∧ l = q * pat.length + t ∧ has pat t x a ∧ a.at m q = p := by
  show has ((List.range (m - k)).flatMap fun q : Nat => pat.map (evE m q)) l x p ↔ _
  rw [has_flat _ pat.length (fun q => by simp)]
  constructor
  · rintro ⟨q, t, h1, h2, h3⟩
    obtain ⟨a, h4, h5⟩ := has_map.mp h3
    exact ⟨q, t, a, h1, h2, h4, h5⟩
  · rintro ⟨q, t, a, h1, h2, h3, h4⟩
    exact ⟨q, t, h1, h2, has_map.mpr ⟨a, h3, h4⟩⟩
theorem has_evs {m : Nat} : ∀ {ss : List Seg} {l x : Nat} {p : Int}, has (evs m ss) l x p ↔ ∃ pre s post l', ss = pre ++ s :: post ∧ l = (evs m pre).length + l' ∧ has (s.ev m) l' x p
  | [], l, x, p => by
    constructor
    · rintro ⟨e, h, _⟩
      simp at h
    · rintro ⟨pre, s, post, _, h, _⟩
      simp at h
  | s :: ss, l, x, p => by
    rw [evs_cons, has_append]
    constructor
    · rintro (h | ⟨l', rfl, h⟩)
      · exact ⟨[], s, ss, l, rfl, by simp, h⟩
      · obtain ⟨pre, s', post, l2, rfl, rfl, h2⟩ := has_evs.mp h
        exact ⟨s :: pre, s', post, l2, rfl, by simp; omega, h2⟩
    · rintro ⟨pre, s', post, l2, e, rfl, h⟩
      cases pre with
      | nil =>
        cases e
        exact .inl (by simpa using h)
      | cons s0 pre =>
        cases e
        exact .inr ⟨(evs m pre).length + l2, by simp; omega, has_evs.mpr ⟨pre, s', post, l2, rfl, rfl, h⟩⟩
/-- the length, as m grows -/
theorem len_evs (K : Nat) : ∀ ss : List Seg, (∀ k pat, Seg.run k pat ∈ ss → k ≤ K) → ∃ A B : Int, ∀ m : Nat, K ≤ m → ((evs m ss).length : Int) = A * m + B
  | [], _ => ⟨0, 0, fun m _ => by simp⟩
  | s :: ss, h => by
    obtain ⟨A, B, q⟩ := len_evs K ss fun k pat hm => h k pat (List.mem_cons_of_mem _ hm)
    cases s with
    | blk es =>
      refine ⟨A, B + es.length, fun m hm => ?_⟩
      rw [evs_cons, List.length_append, show ((Seg.blk es).ev m).length = es.length from by simp [Seg.ev], Int.natCast_add, q m hm]
      omega
    | run k pat =>
      have hk := h k pat (List.mem_cons_self ..)
      refine ⟨A + pat.length, B - k * pat.length, fun m hm => ?_⟩
      have e : ((Seg.run k pat).ev m).length = (m - k) * pat.length := flatMap_len _ _ (fun q => by simp) _
      rw [evs_cons, List.length_append, e, Int.natCast_add, q m hm, Int.natCast_mul, Int.ofNat_sub (by omega), Int.sub_mul, Int.add_mul]
      rw [Int.mul_comm (m : Int) (pat.length : Int)]
      omega
end RG

set_option Elab.async false
set_option linter.all false
set_option maxRecDepth 100000
set_option maxHeartbeats 1000000
namespace RG
section
variable {P r : Int} {ss : List Seg} {m0 : Nat}
theorem ksOf {zl zh : Int} {K : Nat} (h : Bd P r zl zh K ss) : ∀ k pat, Seg.run k pat ∈ ss → k ≤ K := fun k pat hm => (h _ hm).1.1
/-- one piece: what a decomposition says of all m -/
theorem low_end (hP : 0 < P) (hr0 : 0 ≤ r) (hB : Bd P r (2 * P) (2 * P) 2 ss) (hm : 6 ≤ m0) {l x : Nat} {i : Int} (hi : i < 2 * P) (h : has (evs m0 ss) l x i) :
    ∃ a : Int, ∀ m : Nat, m0 ≤ m → ∃ l' : Nat, (l' : Int) = l + a * (m - m0) ∧ has (evs m ss) l' x i := by
  obtain ⟨pre, s, post, l1, rfl, rfl, h1⟩ := has_evs.mp h
  obtain ⟨A, B, hA⟩ := len_evs 2 pre fun k pat hk => ksOf hB k pat (by simp [hk])
  have hm6 : P * 6 ≤ P * m0 := Int.mul_le_mul_of_nonneg_left (by omega) (by omega)
  have hs := hB s (by simp)
  cases s with
  | blk es =>
    obtain ⟨a, h2, h3⟩ := has_map.mp h1
    have ho : okB P r (2 * P) (2 * P) a := by
      obtain ⟨e, e1, e2⟩ := h2
      exact hs e (List.mem_of_getElem? e1) a (List.mem_of_getElem? e2)
    refine ⟨A, fun m hmm => ⟨(evs m pre).length + l1, ?_, has_evs.mpr ⟨pre, _, post, l1, rfl, rfl, has_map.mpr ⟨a, h2, ?_⟩⟩⟩⟩
    · rw [Int.natCast_add, Int.natCast_add, hA m (by omega), hA m0 (by omega), Int.mul_sub]
      omega
    · unfold Pn.at at h3 ⊢
      rcases ho.2 with ⟨q, _⟩ | ⟨q, w⟩
      · rw [q] at h3 ⊢; simp only [Int.zero_mul, Int.mul_zero] at h3 ⊢; exact h3
      · rw [q] at h3; simp only [Int.mul_zero] at h3; omega
  | run k pat =>
    obtain ⟨q, t, a, hq, rfl, h2, h3⟩ := has_run.mp h1
    have ho : okR P r (2 * P) (2 * P) k a := by
      obtain ⟨e, e1, e2⟩ := h2
      exact hs.2 e (List.mem_of_getElem? e1) a (List.mem_of_getElem? e2)
    unfold Pn.at at h3
    rcases ho.1 with ⟨q1, q2⟩ | ⟨q1, q2⟩
    · refine ⟨A, fun m hmm => ⟨(evs m pre).length + (q * pat.length + t), ?_, has_evs.mpr ⟨pre, _, post, _, rfl, rfl, has_run.mpr ⟨q, t, a, by omega, rfl, h2, ?_⟩⟩⟩⟩
      · rw [Int.natCast_add, Int.natCast_add _ (q * pat.length + t), hA m (by omega), hA m0 (by omega), Int.mul_sub]
        omega
      · unfold Pn.at
        rw [q1] at h3 ⊢
        simp only [Int.zero_mul] at h3 ⊢
        exact h3
    · refine ⟨A + pat.length, fun m hmm => ⟨(evs m pre).length + ((q + (m - m0)) * pat.length + t), ?_, has_evs.mpr ⟨pre, _, post, _, rfl, rfl, has_run.mpr ⟨q + (m - m0), t, a, by omega, rfl, h2, ?_⟩⟩⟩⟩
      · rw [Int.natCast_add, Int.natCast_add _ (q * pat.length + t), hA m (by omega), hA m0 (by omega)]
        simp only [Int.natCast_add, Int.natCast_mul, Int.ofNat_sub hmm, Int.mul_sub, Int.add_mul, Int.sub_mul]
        rw [Int.mul_comm (pat.length : Int) m, Int.mul_comm (pat.length : Int) m0]
        omega
      · unfold Pn.at
        rw [q1, q2] at h3 ⊢
        simp only [Int.natCast_add, Int.ofNat_sub hmm, Int.mul_add, Int.mul_sub, Int.neg_mul] at h3 ⊢
        omega
theorem high_end (hP : 0 < P) (hr0 : 0 ≤ r) (hB : Bd P r (2 * P) (2 * P) 2 ss) (hm : 6 ≤ m0) {l x : Nat} {b : Int} (hi : b < 2 * P) (h : has (evs m0 ss) l x (P * m0 + r - 1 - b)) :
    ∃ a : Int, ∀ m : Nat, m0 ≤ m → ∃ l' : Nat, (l' : Int) = l + a * (m - m0) ∧ has (evs m ss) l' x (P * m + r - 1 - b) := by
  obtain ⟨pre, s, post, l1, rfl, rfl, h1⟩ := has_evs.mp h
  obtain ⟨A, B, hA⟩ := len_evs 2 pre fun k pat hk => ksOf hB k pat (by simp [hk])
  have hm6 : P * 6 ≤ P * m0 := Int.mul_le_mul_of_nonneg_left (by omega) (by omega)
  have hs := hB s (by simp)
  cases s with
  | blk es =>
    obtain ⟨a, h2, h3⟩ := has_map.mp h1
    have ho : okB P r (2 * P) (2 * P) a := by
      obtain ⟨e, e1, e2⟩ := h2
      exact hs e (List.mem_of_getElem? e1) a (List.mem_of_getElem? e2)
    refine ⟨A, fun m hmm => ⟨(evs m pre).length + l1, ?_, has_evs.mpr ⟨pre, _, post, l1, rfl, rfl, has_map.mpr ⟨a, h2, ?_⟩⟩⟩⟩
    · rw [Int.natCast_add, Int.natCast_add, hA m (by omega), hA m0 (by omega), Int.mul_sub]
      omega
    · unfold Pn.at at h3 ⊢
      rcases ho.2 with ⟨q, w⟩ | ⟨q, w⟩
      · rw [q] at h3; simp only [Int.zero_mul, Int.mul_zero] at h3; omega
      · rw [q] at h3 ⊢; simp only [Int.mul_zero] at h3 ⊢; omega
  | run k pat =>
    obtain ⟨q, t, a, hq, rfl, h2, h3⟩ := has_run.mp h1
    have ho : okR P r (2 * P) (2 * P) k a := by
      obtain ⟨e, e1, e2⟩ := h2
      exact hs.2 e (List.mem_of_getElem? e1) a (List.mem_of_getElem? e2)
    unfold Pn.at at h3
    rcases ho.1 with ⟨q1, q2⟩ | ⟨q1, q2⟩
    · refine ⟨A + pat.length, fun m hmm => ⟨(evs m pre).length + ((q + (m - m0)) * pat.length + t), ?_, has_evs.mpr ⟨pre, _, post, _, rfl, rfl, has_run.mpr ⟨q + (m - m0), t, a, by omega, rfl, h2, ?_⟩⟩⟩⟩
      · rw [Int.natCast_add, Int.natCast_add _ (q * pat.length + t), hA m (by omega), hA m0 (by omega)]
        simp only [Int.natCast_add, Int.natCast_mul, Int.ofNat_sub hmm, Int.mul_sub, Int.add_mul, Int.sub_mul]
        rw [Int.mul_comm (pat.length : Int) m, Int.mul_comm (pat.length : Int) m0]
        omega
      · unfold Pn.at
        rw [q1, q2] at h3 ⊢
        simp only [Int.natCast_add, Int.ofNat_sub hmm, Int.mul_add, Int.mul_sub, Int.zero_mul] at h3 ⊢
        omega
    · refine ⟨A, fun m hmm => ⟨(evs m pre).length + (q * pat.length + t), ?_, has_evs.mpr ⟨pre, _, post, _, rfl, rfl, has_run.mpr ⟨q, t, a, by omega, rfl, h2, ?_⟩⟩⟩⟩
      · rw [Int.natCast_add, Int.natCast_add _ (q * pat.length + t), hA m (by omega), hA m0 (by omega), Int.mul_sub]
        omega
      · unfold Pn.at
        rw [q1, q2] at h3 ⊢
        simp only [Int.neg_mul] at h3 ⊢
        omega
theorem mid_run (hP : 0 < P) (hr0 : 0 ≤ r) (hB : Bd P r (2 * P) (2 * P) 2 ss) (hm : 6 ≤ m0) {l x : Nat} {i : Int} (h2P : 2 * P ≤ i) (hi : i < 3 * P) (h : has (evs m0 ss) l x i) :
    ∃ a g : Int, ∀ m w : Nat, m0 ≤ m → i + P * w < P * m + r - 2 * P → ∃ l' : Nat, (l' : Int) = l + a * (m - m0) + g * w ∧ has (evs m ss) l' x (i + P * w) := by
  obtain ⟨pre, s, post, l1, rfl, rfl, h1⟩ := has_evs.mp h
  obtain ⟨A, B, hA⟩ := len_evs 2 pre fun k pat hk => ksOf hB k pat (by simp [hk])
  have hm6 : P * 6 ≤ P * m0 := Int.mul_le_mul_of_nonneg_left (by omega) (by omega)
  have hs := hB s (by simp)
  cases s with
  | blk es =>
    exfalso
    obtain ⟨a, h2, h3⟩ := has_map.mp h1
    have ho : okB P r (2 * P) (2 * P) a := by
      obtain ⟨e, e1, e2⟩ := h2
      exact hs e (List.mem_of_getElem? e1) a (List.mem_of_getElem? e2)
    unfold Pn.at at h3
    rcases ho.2 with ⟨q, w⟩ | ⟨q, w⟩
    · rw [q] at h3; simp only [Int.zero_mul, Int.mul_zero] at h3; omega
    · rw [q] at h3; simp only [Int.mul_zero] at h3; omega
  | run k pat =>
    obtain ⟨q, t, a, hq, rfl, h2, h3⟩ := has_run.mp h1
    have ho : okR P r (2 * P) (2 * P) k a := by
      obtain ⟨e, e1, e2⟩ := h2
      exact hs.2 e (List.mem_of_getElem? e1) a (List.mem_of_getElem? e2)
    have hk : k ≤ 2 := hs.1.1
    unfold Pn.at at h3
    obtain ⟨o1, ⟨_, o2⟩, ⟨_, o3⟩⟩ := ho
    have f1 : a.fst.al = a.al := rfl
    have f2 : a.fst.ga = a.ga := rfl
    have f3 : (a.lst k).al = a.al + a.be := rfl
    have f4 : (a.lst k).ga = a.ga - a.be * (k + 1) := rfl
    rw [f1, f2] at o2
    rw [f3, f4] at o3
    rcases o1 with ⟨q1, q2⟩ | ⟨q1, q2⟩
    · rw [q1, q2] at h3 o3
      simp only [Int.zero_mul, Int.zero_add] at h3 o3
      have o4 : r - (2 * P + P) ≤ a.ga - P * (k + 1) := by omega
      rw [Int.mul_add, Int.mul_one] at o4
      refine ⟨A, pat.length, fun m w hmm hw => ?_⟩
      have hlt : q + w < m - k := by
        rcases Nat.lt_or_ge (q + w) (m - k) with z | z
        · exact z
        · exfalso
          have z' : ((m : Int) - k) ≤ q + w := by omega
          have z2 : P * ((m : Int) - k) ≤ P * (q + w) := Int.mul_le_mul_of_nonneg_left z' (by omega)
          rw [Int.mul_sub, Int.mul_add] at z2
          omega
      refine ⟨(evs m pre).length + ((q + w) * pat.length + t), ?_, has_evs.mpr ⟨pre, _, post, _, rfl, rfl, has_run.mpr ⟨q + w, t, a, hlt, rfl, h2, ?_⟩⟩⟩
      · rw [Int.natCast_add, Int.natCast_add _ (q * pat.length + t), hA m (by omega), hA m0 (by omega)]
        simp only [Int.natCast_add, Int.natCast_mul, Int.mul_sub, Int.add_mul]
        rw [Int.mul_comm (pat.length : Int) w]
        omega
      · unfold Pn.at
        rw [q1, q2]
        simp only [Int.natCast_add, Int.mul_add, Int.zero_mul]
        omega
    · rw [q1, q2] at h3
      simp only [Int.neg_mul] at h3
      have o4 : r - (2 * P + P) ≤ a.ga := by omega
      refine ⟨A + pat.length, -pat.length, fun m w hmm hw => ?_⟩
      have hge : w ≤ q + (m - m0) := by
        rcases Nat.lt_or_ge (q + (m - m0)) w with z | z
        · exfalso
          have z' : ((q : Int) + (m - m0)) + 1 ≤ w := by omega
          have z2 : P * (((q : Int) + (m - m0)) + 1) ≤ P * w := Int.mul_le_mul_of_nonneg_left z' (by omega)
          simp only [Int.mul_add, Int.mul_sub, Int.mul_one] at z2
          omega
        · exact z
      refine ⟨(evs m pre).length + ((q + (m - m0) - w) * pat.length + t), ?_, has_evs.mpr ⟨pre, _, post, _, rfl, rfl, has_run.mpr ⟨q + (m - m0) - w, t, a, by omega, rfl, h2, ?_⟩⟩⟩
      · rw [Int.natCast_add, Int.natCast_add _ (q * pat.length + t), hA m (by omega), hA m0 (by omega)]
        simp only [Int.natCast_add, Int.natCast_mul, Int.ofNat_sub hge, Int.ofNat_sub hmm, Int.mul_sub, Int.add_mul, Int.sub_mul, Int.neg_mul]
        rw [Int.mul_comm (pat.length : Int) w, Int.mul_comm (pat.length : Int) m, Int.mul_comm (pat.length : Int) m0]
        omega
      · unfold Pn.at
        rw [q1, q2]
        simp only [Int.natCast_add, Int.ofNat_sub hge, Int.ofNat_sub hmm, Int.mul_add, Int.mul_sub, Int.neg_mul]
        omega
end
end RG

set_option Elab.async false
set_option linter.all false
set_option maxRecDepth 100000
set_option maxHeartbeats 1000000
namespace RG
/-! ### the words on formations -/
def cell {α : Type} (X : List (En α)) (l x : Nat) : Option α := ((X[l]?).bind (fun e => e[x]?)).join
theorem has_cell {α : Type} {X : List (En α)} {l x : Nat} {p : α} : has X l x p ↔ cell X l x = some p := by
  unfold has cell
  constructor
  · rintro ⟨e, h1, h2⟩
    rw [h1]
    show (e[x]?).join = _
    rw [h2]
    rfl
  · intro h
    cases h1 : X[l]? with
    | none => rw [h1] at h; cases h
    | some e =>
      rw [h1] at h
      have h : (e[x]?).join = some p := h
      cases h2 : e[x]? with
      | none => rw [h2] at h; cases h
      | some o => rw [h2] at h; exact ⟨e, rfl, by rw [h2]; congr 1⟩
def il (c : Nat) {α : Type} (es : List (En α)) : En α := (List.range (2 * c)).map fun x => ((es[x % 2]?).bind (fun e => e[x / 2]?)).join
def jn (k : Nat) {α : Type} (es : List (En α)) : En α := (List.range k).map fun x => ((es[x]?).bind (fun e => e[0]?)).join
def sp (c : Nat) {α : Type} (e : En α) : List (En α) := [(List.range ((c + 1) / 2)).map fun j => (e[2 * j]?).join, (List.range ((c + 1) / 2)).map fun j => (e[2 * j + 1]?).join]
def lane (r : Nat) {α : Type} (e : En α) : List (En α) := match (e[r]?).join with
  | some p => [[some p]]
  | none => []
def fl {α : Type} (e : En α) : List (En α) := (e.filterMap id).map fun p => [some p]
theorem emap_at {α β : Type} (g : α → β) (e : En α) (x : Nat) : ((emap g e)[x]?).join = ((e[x]?).join).map g := by
  unfold emap
  rw [List.getElem?_map]
  cases e[x]? with
  | none => rfl
  | some o => cases o <;> rfl
theorem es_at {α β : Type} (g : α → β) (es : List (En α)) (y x : Nat) : (((es.map (emap g))[y]?).bind (fun e => e[x]?)).join = (((es[y]?).bind (fun e => e[x]?)).join).map g := by
  rw [List.getElem?_map]
  cases es[y]? with
  | none => rfl
  | some e => exact emap_at g e x
theorem il_nat (c : Nat) : Nat2 (il c) := fun g es => by
  unfold il
  rw [emap, List.map_map]
  exact List.map_congr_left fun x _ => es_at g es _ _
theorem jn_nat (k : Nat) : Nat2 (jn k) := fun g es => by
  unfold jn
  rw [emap, List.map_map]
  exact List.map_congr_left fun x _ => es_at g es _ _
theorem sp_nat (c : Nat) : Nat1 (sp c) := fun g e => by
  unfold sp
  simp only [List.map_cons, List.map_nil]
  congr 1
  · rw [emap, emap, List.map_map]
    exact List.map_congr_left fun x _ => emap_at g e _
  · congr 1
    rw [emap, emap, List.map_map]
    exact List.map_congr_left fun x _ => emap_at g e _
theorem lane_nat (r : Nat) : Nat1 (lane r) := fun g e => by
  unfold lane
  simp only []
  rw [emap_at]
  cases (e[r]?).join <;> rfl
theorem fl_nat : Nat1 fl := fun g e => by
  unfold fl
  have : (emap g e).filterMap id = (e.filterMap id).map g := by
    unfold emap
    induction e with
    | nil => rfl
    | cons o e ih => cases o <;> simp_all
  simp only []
  rw [this, List.map_map, List.map_map]
  rfl
theorem mrev_nat : Nat1 (fun {α} (e : En α) => [e.reverse]) := fun g e => by
  show [(emap g e).reverse] = [emap g e.reverse]
  unfold emap
  rw [List.map_reverse]
theorem join_mem {α : Type} {e : En α} {x : Nat} {p : α} (h : (e[x]?).join = some p) : some p ∈ e := by
  cases h2 : e[x]? with
  | none => rw [h2] at h; cases h
  | some o =>
    rw [h2] at h
    have : o = some p := h
    subst this
    exact List.mem_of_getElem? h2
theorem es_mem {α : Type} {es : List (En α)} {y x : Nat} {p : α} (h : ((es[y]?).bind (fun e => e[x]?)).join = some p) : ∃ e ∈ es, some p ∈ e := by
  cases h2 : es[y]? with
  | none => rw [h2] at h; cases h
  | some e =>
    rw [h2] at h
    exact ⟨e, List.mem_of_getElem? h2, join_mem h⟩
theorem il_sub (c : Nat) : Sub2 (il c) := fun es p h => by
  obtain ⟨x, _, h⟩ := List.mem_map.mp h
  exact es_mem h
theorem jn_sub (k : Nat) : Sub2 (jn k) := fun es p h => by
  obtain ⟨x, _, h⟩ := List.mem_map.mp h
  exact es_mem h
theorem sp_sub (c : Nat) : Sub1 (sp c) := fun e e' p h hp => by
  unfold sp at h
  simp only [List.mem_cons, List.not_mem_nil, or_false] at h
  rcases h with rfl | rfl
  · obtain ⟨x, _, h⟩ := List.mem_map.mp hp
    exact join_mem h
  · obtain ⟨x, _, h⟩ := List.mem_map.mp hp
    exact join_mem h
theorem lane_sub (r : Nat) : Sub1 (lane r) := fun e e' p h hp => by
  unfold lane at h
  simp only [] at h
  cases h2 : (e[r]?).join with
  | none => rw [h2] at h; cases h
  | some q =>
    rw [h2] at h
    simp at h
    subst h
    simp at hp
    subst hp
    exact join_mem h2
theorem fl_sub : Sub1 fl := fun e e' p h hp => by
  obtain ⟨q, hq, rfl⟩ := List.mem_map.mp h
  simp at hp
  subst hp
  simpa using hq
theorem mrev_sub : Sub1 (fun {α} (e : En α) => [e.reverse]) := fun e e' p h hp => by
  simp at h
  subst h
  simpa using hp
/-! ### what stands where behind a word -/
section
variable {α : Type} {X : List (En α)} {l x : Nat} {p : α}
theorem has_lt (h : has X l x p) : l < X.length := by
  obtain ⟨e, h1, _⟩ := h
  exact (List.getElem?_eq_some_iff.mp h1).1
theorem has_x {c : Nat} (hc : ∀ e ∈ X, e.length = c) (h : has X l x p) : x < c := by
  obtain ⟨e, h1, h2⟩ := h
  rw [← hc e (List.mem_of_getElem? h1)]
  exact (List.getElem?_eq_some_iff.mp h2).1
theorem has_rev : has X.reverse l x p ↔ l < X.length ∧ has X (X.length - 1 - l) x p := by
  constructor
  · intro h
    have hl := has_lt h
    rw [List.length_reverse] at hl
    obtain ⟨e, h1, h2⟩ := h
    rw [List.getElem?_reverse hl] at h1
    exact ⟨hl, e, h1, h2⟩
  · rintro ⟨hl, e, h1, h2⟩
    exact ⟨e, by rw [List.getElem?_reverse hl]; exact h1, h2⟩
theorem has_mrev {c : Nat} (hc : ∀ e ∈ X, e.length = c) : has (X.map List.reverse) l x p ↔ x < c ∧ has X l (c - 1 - x) p := by
  constructor
  · rintro ⟨e, h1, h2⟩
    rw [List.getElem?_map] at h1
    cases h3 : X[l]? with
    | none => rw [h3] at h1; cases h1
    | some e0 =>
      rw [h3] at h1
      cases h1
      have hl := hc e0 (List.mem_of_getElem? h3)
      have hx : x < e0.length := by
        have := (List.getElem?_eq_some_iff.mp h2).1
        rwa [List.length_reverse] at this
      rw [List.getElem?_reverse hx, hl] at h2
      exact ⟨by omega, e0, h3, h2⟩
  · rintro ⟨hx, e, h1, h2⟩
    have hl := hc e (List.mem_of_getElem? h1)
    exact ⟨e.reverse, by rw [List.getElem?_map, h1]; rfl, by rw [List.getElem?_reverse (by omega), hl]; exact h2⟩
theorem chunk_get {β : Type} {k : Nat} (hk : 0 < k) : ∀ (n : Nat) (xs : List β) (l : Nat), xs.length ≤ n → (chunk k xs)[l]? = if k * l < xs.length then some ((xs.drop (k * l)).take k) else none
  | 0, xs, l, h => by
    have : xs = [] := List.eq_nil_of_length_eq_zero (by omega)
    subst this
    simp [chunk_nil]
  | n + 1, xs, l, h => by
    by_cases he : xs = []
    · subst he; simp [chunk_nil]
    · have hp : 0 < xs.length := List.length_pos_iff.mpr he
      rw [chunk_eq hk he]
      cases l with
      | zero => simp [hp]
      | succ l =>
        rw [List.getElem?_cons_succ, chunk_get hk n (xs.drop k) l (by rw [List.length_drop]; omega), List.length_drop, List.drop_drop, Nat.mul_succ]
        by_cases hl : k * l + k < xs.length
        · rw [if_pos (by omega), if_pos hl, Nat.add_comm k (k * l)]
        · rw [if_neg (by omega), if_neg hl]
theorem chunk_len {β : Type} {k : Nat} (hk : 0 < k) : ∀ (n : Nat) (xs : List β), xs.length ≤ n → (chunk k xs).length = (xs.length + k - 1) / k
  | 0, xs, h => by
    have : xs = [] := List.eq_nil_of_length_eq_zero (by omega)
    subst this
    simp [chunk_nil]
    rw [Nat.div_eq_of_lt (by omega)]
  | n + 1, xs, h => by
    by_cases he : xs = []
    · subst he
      simp [chunk_nil]
      rw [Nat.div_eq_of_lt (by omega)]
    · have hp : 0 < xs.length := List.length_pos_iff.mpr he
      rw [chunk_eq hk he, List.length_cons, chunk_len hk n (xs.drop k) (by rw [List.length_drop]; omega), List.length_drop]
      by_cases hl : xs.length ≤ k
      · rw [Nat.sub_eq_zero_of_le hl, Nat.zero_add, Nat.div_eq_of_lt (by omega), show xs.length + k - 1 = (xs.length - 1) + k by omega, Nat.add_div_right _ hk, Nat.div_eq_of_lt (by omega)]
      · rw [show xs.length + k - 1 = (xs.length - k + k - 1) + k by omega, Nat.add_div_right _ hk]
theorem cell_chunk {k : Nat} (hk : 0 < k) (cb : List (En α) → En α) : cell ((chunk k X).map cb) l x = if k * l < X.length then ((cb ((X.drop (k * l)).take k))[x]?).join else none := by
  unfold cell
  rw [List.getElem?_map, chunk_get hk _ _ _ (Nat.le_refl _)]
  split <;> rfl
theorem has_il {c : Nat} (hc : ∀ e ∈ X, e.length = c) : has ((chunk 2 X).map (il c)) l x p ↔ has X (2 * l + x % 2) (x / 2) p := by
  rw [has_cell, has_cell, cell_chunk (by decide)]
  by_cases hx : x < 2 * c
  · by_cases hl : 2 * l < X.length
    · rw [if_pos hl]
      unfold il cell
      rw [List.getElem?_map, List.getElem?_range hx]
      show (((((X.drop (2 * l)).take 2)[x % 2]?).bind (fun e => e[x / 2]?)).join = some p) ↔ _
      rw [List.getElem?_take_of_lt (by omega), List.getElem?_drop]
    · rw [if_neg hl]
      constructor
      · intro h; cases h
      · intro h
        have := has_lt (has_cell.mpr h)
        omega
  · constructor
    · intro h
      split at h
      · unfold il at h
        rw [List.getElem?_eq_none (by simp; omega)] at h
        cases h
      · cases h
    · intro h
      have := has_x hc (has_cell.mpr h)
      omega
theorem has_jn {k : Nat} (hk : 0 < k) : has ((chunk k X).map (jn k)) l x p ↔ x < k ∧ has X (k * l + x) 0 p := by
  rw [has_cell, has_cell, cell_chunk hk]
  by_cases hx : x < k
  · by_cases hl : k * l < X.length
    · rw [if_pos hl]
      unfold jn cell
      rw [List.getElem?_map, List.getElem?_range hx]
      show (((((X.drop (k * l)).take k)[x]?).bind (fun e => e[0]?)).join = some p) ↔ _
      rw [List.getElem?_take_of_lt hx, List.getElem?_drop]
      exact ⟨fun h => ⟨hx, h⟩, fun h => h.2⟩
    · rw [if_neg hl]
      constructor
      · intro h; cases h
      · intro h
        have := has_lt (has_cell.mpr h.2)
        omega
  · constructor
    · intro h
      split at h
      · unfold jn at h
        rw [List.getElem?_eq_none (by simp; omega)] at h
        cases h
      · cases h
    · intro h
      omega
theorem sp_get (c : Nat) : ∀ (X : List (En α)) (l : Nat), (X.flatMap (sp c))[l]? = (X[l / 2]?).bind fun e => (sp c e)[l % 2]?
  | [], l => by simp
  | e :: X, 0 => rfl
  | e :: X, 1 => rfl
  | e :: X, l + 2 => by
    rw [show (l + 2) / 2 = l / 2 + 1 by omega, show (l + 2) % 2 = l % 2 by omega, List.getElem?_cons_succ, ← sp_get c X l]
    rfl
theorem has_sp {c : Nat} (hc : ∀ e ∈ X, e.length = c) : has (X.flatMap (sp c)) l x p ↔ has X (l / 2) (2 * x + l % 2) p := by
  rw [has_cell, has_cell]
  unfold cell
  rw [sp_get]
  cases h : X[l / 2]? with
  | none => simp
  | some e =>
    have he := hc e (List.mem_of_getElem? h)
    show ((((sp c e)[l % 2]?).bind fun e => e[x]?).join = some p) ↔ ((e[2 * x + l % 2]?).join = some p)
    by_cases hx : x < (c + 1) / 2
    · have h2 : l % 2 = 0 ∨ l % 2 = 1 := by omega
      rcases h2 with h2 | h2
      · rw [h2]
        unfold sp
        show ((((List.range ((c + 1) / 2)).map fun j => (e[2 * j]?).join)[x]?).join = some p) ↔ _
        rw [List.getElem?_map, List.getElem?_range hx]
        rfl
      · rw [h2]
        unfold sp
        show ((((List.range ((c + 1) / 2)).map fun j => (e[2 * j + 1]?).join)[x]?).join = some p) ↔ _
        rw [List.getElem?_map, List.getElem?_range hx]
        rfl
    · have h1 : e[2 * x + l % 2]? = none := List.getElem?_eq_none (by omega)
      rw [h1]
      have h2 : l % 2 = 0 ∨ l % 2 = 1 := by omega
      rcases h2 with h2 | h2
      · rw [h2]
        unfold sp
        show ((((List.range ((c + 1) / 2)).map fun j => (e[2 * j]?).join)[x]?).join = some p) ↔ _
        rw [List.getElem?_eq_none (by simp; omega)]
      · rw [h2]
        unfold sp
        show ((((List.range ((c + 1) / 2)).map fun j => (e[2 * j + 1]?).join)[x]?).join = some p) ↔ _
        rw [List.getElem?_eq_none (by simp; omega)]
theorem sp_len (c : Nat) : ∀ X : List (En α), (X.flatMap (sp c)).length = 2 * X.length
  | [] => rfl
  | e :: X => by
    rw [List.flatMap_cons, List.length_append, sp_len c X]
    show 2 + _ = _
    rw [List.length_cons]
    omega
end
end RG

set_option Elab.async false
set_option linter.all false
set_option maxRecDepth 100000
set_option maxHeartbeats 1000000
namespace RG
open SQ
/-! ### the program's squads -/
abbrev Sq := Nat × Nat × List (Nat × Nat)
def moved (w : Wd) (R F : Nat) (s : Nat × Nat) : Nat × Nat := match w with
  | .right => (s.2, R - 1 - s.1)
  | .left => (F - 1 - s.2, s.1)
  | .about => (R - 1 - s.1, F - 1 - s.2)
  | .change => (R - 1 - s.1, s.2)
  | .double => (2 * s.1 + s.2 % 2, s.2 / 2)
  | .undouble => if R % 2 = 0 then (s.1 / 2, 2 * s.2 + s.1 % 2) else s
  | _ => s
def resized (w : Wd) (R F : Nat) : Nat × Nat := match w with
  | .right => (F, R)
  | .left => (F, R)
  | .double => (2 * R, (F + 1) / 2)
  | .undouble => if R % 2 = 0 then (R / 2, 2 * F) else (R, F)
  | _ => (R, F)
def lexLt (a b : Nat × Nat) : Bool := decide (a.1 < b.1) || (decide (a.1 = b.1) && decide (a.2 < b.2))
def rankAt (ps : List (Nat × Nat)) (s : Nat × Nat) : Nat := (ps.filter fun t => lexLt t s).length
def inRanks (ps : List (Nat × Nat)) (w : Nat) : List (Nat × Nat) := ps.map fun s => (rankAt ps s / w, rankAt ps s % w)
def obeyed (w : Wd) (st : Sq) : Sq := match w with
  | .line => (1, st.2.2.length, inRanks st.2.2 st.2.2.length)
  | .col2 => ((st.2.2.length + 1) / 2, 2, inRanks st.2.2 2)
  | .col3 => ((st.2.2.length + 2) / 3, 3, inRanks st.2.2 3)
  | w => ((resized w st.1 st.2.1).1, (resized w st.1 st.2.1).2, st.2.2.map (moved w st.1 st.2.1))
def firstS (n : Nat) : Sq := (1, n, (List.range n).map fun i => (0, i))
def drilled (ws : List Wd) (n : Nat) : Sq := ws.foldl (fun s w => obeyed w s) (firstS n)
/-! ### .. and as formations -/
structure Fm where
  tall : Bool
  c : Nat
  X : List (En Int)
def order (M : Fm) : List (En Int) := if M.tall = true then M.X.flatMap fl else (List.range M.c).flatMap fun r => M.X.flatMap (lane r)
def mrev (X : List (En Int)) : List (En Int) := X.flatMap fun e => [e.reverse]
def stepF (w : Wd) (M : Fm) : Fm := match w with
  | .right => if M.tall = true then ⟨false, M.c, M.X.reverse⟩ else ⟨true, M.c, mrev M.X⟩
  | .left => if M.tall = true then ⟨false, M.c, mrev M.X⟩ else ⟨true, M.c, M.X.reverse⟩
  | .about => ⟨M.tall, M.c, (mrev M.X).reverse⟩
  | .change => if M.tall = true then ⟨true, M.c, M.X.reverse⟩ else ⟨false, M.c, mrev M.X⟩
  | .double => if M.tall = true then ⟨true, (M.c + 1) / 2, M.X.flatMap (sp M.c)⟩ else ⟨false, 2 * M.c, (chunk 2 M.X).map (il M.c)⟩
  | .undouble => if M.tall = true then (if M.X.length % 2 = 0 then ⟨true, 2 * M.c, (chunk 2 M.X).map (il M.c)⟩ else M) else (if M.c % 2 = 0 then ⟨false, M.c / 2, M.X.flatMap (sp M.c)⟩ else M)
  | .line => ⟨false, 1, order M⟩
  | .col2 => ⟨true, 2, (chunk 2 (order M)).map (jn 2)⟩
  | .col3 => ⟨true, 3, (chunk 3 (order M)).map (jn 3)⟩
  | .wleft => M
  | .wright => M
structure Shows (st : Sq) (M : Fm) : Prop where
  ec : ∀ e ∈ M.X, e.length = M.c
  rk : st.1 = if M.tall = true then M.X.length else M.c
  fi : st.2.1 = if M.tall = true then M.c else M.X.length
  iff : ∀ (l x : Nat) (p : Int), has M.X l x p ↔ ∃ i : Nat, p = i ∧ st.2.2[i]? = some (if M.tall = true then (l, x) else (x, l))
theorem mrev_eq (X : List (En Int)) : mrev X = X.map List.reverse := by
  unfold mrev
  induction X with
  | nil => rfl
  | cons e X ih => rw [List.flatMap_cons, ih]; rfl
theorem lexLt_irr (a : Nat × Nat) : lexLt a a = false := by simp [lexLt]
theorem lexLt_asym {a b : Nat × Nat} (h : lexLt a b = true) : lexLt b a = false := by
  unfold lexLt at *
  simp only [Bool.or_eq_true, Bool.and_eq_true, decide_eq_true_eq, Bool.or_eq_false_iff, Bool.and_eq_false_iff, decide_eq_false_iff_not] at *
  omega
theorem sorted_count : ∀ (L : List (Nat × Nat)) (j : Nat) (s : Nat × Nat), L.Pairwise (fun a b => lexLt a b = true) → L[j]? = some s → (L.filter fun t => lexLt t s).length = j
  | [], j, s, _, h => by simp at h
  | a :: L, 0, s, hp, h => by
    have e : a = s := Option.some.inj h
    subst e
    obtain ⟨h1, h2⟩ := List.pairwise_cons.mp hp
    rw [List.filter_eq_nil_iff.mpr]
    · rfl
    · intro b hb
      rcases List.mem_cons.mp hb with rfl | hb
      · rw [lexLt_irr]; decide
      · rw [lexLt_asym (h1 b hb)]; decide
  | a :: L, j + 1, s, hp, h => by
    obtain ⟨h1, h2⟩ := List.pairwise_cons.mp hp
    have h' : L[j]? = some s := h
    rw [List.filter_cons_of_pos (by exact h1 s (List.mem_of_getElem? h')), List.length_cons, sorted_count L j s h2 h']
/-! the order of a line -/
def cellRF (M : Fm) (r f : Nat) : Option Int := if M.tall = true then cell M.X r f else cell M.X f r
def grid (M : Fm) (R F : Nat) : List ((Nat × Nat) × Int) := (List.range R).flatMap fun r => (List.range F).filterMap fun f => (cellRF M r f).map fun p => ((r, f), p)
theorem flatMap_range {α β : Type} (g : α → List β) : ∀ X : List α, X.flatMap g = (List.range X.length).flatMap fun l => match X[l]? with | some e => g e | none => []
  | [] => rfl
  | e :: X => by
    rw [List.length_cons, List.range_succ_eq_map, List.flatMap_cons, List.flatMap_cons, List.flatMap_map, flatMap_range g X]
    rfl
theorem filterMap_range {α β : Type} (g : α → Option β) : ∀ e : List α, e.filterMap g = (List.range e.length).filterMap fun x => (e[x]?).bind g
  | [] => rfl
  | o :: e => by
    rw [List.length_cons, List.range_succ_eq_map, List.filterMap_cons, List.filterMap_cons, List.filterMap_map, filterMap_range g e]
    rfl
theorem lane_fm (r : Nat) : ∀ X : List (En Int), X.flatMap (lane r) = (X.filterMap fun e => (e[r]?).join).map fun p => [some p]
  | [] => rfl
  | e :: X => by
    rw [List.flatMap_cons, List.filterMap_cons, lane_fm r X]
    unfold lane
    cases (e[r]?).join <;> rfl
theorem order_grid {M : Fm} (hc : ∀ e ∈ M.X, e.length = M.c) : order M = (grid M (if M.tall = true then M.X.length else M.c) (if M.tall = true then M.c else M.X.length)).map fun z => [some z.2] := by
  unfold order grid
  rw [List.map_flatMap]
  by_cases ht : M.tall = true
  · simp only [if_pos ht]
    rw [flatMap_range]
    congr 1
    funext l
    cases h : M.X[l]? with
    | none =>
      have : ∀ f, cellRF M l f = none := fun f => by unfold cellRF cell; rw [if_pos ht, h]; rfl
      simp [this]
    | some e =>
      have he := hc e (List.mem_of_getElem? h)
      show (e.filterMap id).map (fun p => [some p]) = _
      rw [filterMap_range, he, List.map_filterMap, List.map_filterMap]
      congr 1
      funext x
      have : cellRF M l x = (e[x]?).join := by unfold cellRF cell; rw [if_pos ht, h]; rfl
      rw [this]
      cases e[x]? with
      | none => rfl
      | some o => cases o <;> rfl
  · simp only [if_neg ht]
    congr 1
    funext r
    rw [lane_fm, filterMap_range, List.map_filterMap, List.map_filterMap]
    congr 1
    funext x
    have : cellRF M r x = ((M.X[x]?).bind fun e => e[r]?).join := by unfold cellRF cell; rw [if_neg ht]
    rw [this]
    cases M.X[x]? with
    | none => rfl
    | some e =>
      show ((e[r]?).join).map _ = (((e[r]?).join).map _).map _
      cases (e[r]?).join <;> rfl
theorem grid_mem {M : Fm} {R F : Nat} {s : Nat × Nat} {p : Int} : (s, p) ∈ grid M R F ↔ s.1 < R ∧ s.2 < F ∧ cellRF M s.1 s.2 = some p := by
  unfold grid
  simp only [List.mem_flatMap, List.mem_range, List.mem_filterMap, Option.map_eq_some_iff, Prod.mk.injEq]
  constructor
  · rintro ⟨r, hr, f, hf, q, hq, rfl, rfl⟩
    exact ⟨hr, hf, hq⟩
  · rintro ⟨h1, h2, h3⟩
    exact ⟨s.1, h1, s.2, h2, p, h3, rfl, rfl⟩
theorem grid_sorted (M : Fm) (F : Nat) : ∀ R : Nat, ((grid M R F).map (·.1)).Pairwise (fun a b => lexLt a b = true)
  | 0 => .nil
  | R + 1 => by
    have e : grid M (R + 1) F = grid M R F ++ (List.range F).filterMap fun f => (cellRF M R f).map fun p => ((R, f), p) := by
      unfold grid
      rw [List.range_succ, List.flatMap_append]
      simp
    rw [e, List.map_append, List.pairwise_append]
    refine ⟨grid_sorted M F R, ?_, fun a ha b hb => ?_⟩
    · rw [List.pairwise_map]
      refine List.Pairwise.filterMap _ (fun a a' h b hb b' hb' => ?_) (List.pairwise_lt_range (n := F))
      obtain ⟨p, _, rfl⟩ := Option.map_eq_some_iff.mp hb
      obtain ⟨p', _, rfl⟩ := Option.map_eq_some_iff.mp hb'
      simp [lexLt, h]
    · obtain ⟨⟨s, p⟩, hs, rfl⟩ := List.mem_map.mp ha
      obtain ⟨⟨t, q⟩, ht, rfl⟩ := List.mem_map.mp hb
      obtain ⟨f, _, ht⟩ := List.mem_filterMap.mp ht
      obtain ⟨p', _, e2⟩ := Option.map_eq_some_iff.mp ht
      cases e2
      have := (grid_mem.mp hs).1
      simp [lexLt, this]
section
variable {st : Sq} {M : Fm}
theorem Shows.inj (S : Shows st M) {i j : Nat} {s : Nat × Nat} (hi : st.2.2[i]? = some s) (hj : st.2.2[j]? = some s) : i = j := by
  have key : ∀ k : Nat, st.2.2[k]? = some s → cell M.X (if M.tall = true then s.1 else s.2) (if M.tall = true then s.2 else s.1) = some (k : Int) := fun k hk => by
    refine has_cell.mp ((S.iff _ _ _).mpr ⟨k, rfl, ?_⟩)
    rw [hk]
    split <;> rfl
  exact Int.ofNat_inj.mp (Option.some.inj ((key i hi).symm.trans (key j hj)))
theorem Shows.nodup (S : Shows st M) : st.2.2.Nodup := by
  refine List.pairwise_iff_getElem.mpr fun i j hi hj hij h => ?_
  have e := List.getElem?_eq_getElem hj
  rw [← h] at e
  have := S.inj (List.getElem?_eq_getElem hi) e
  omega
theorem Shows.cellRF (S : Shows st M) {r f : Nat} {p : Int} : cellRF M r f = some p ↔ ∃ i : Nat, p = i ∧ st.2.2[i]? = some (r, f) := by
  unfold RG.cellRF
  split
  · rename_i h
    have := S.iff r f p
    rw [has_cell, if_pos h] at this
    exact this
  · rename_i h
    have := S.iff f r p
    rw [has_cell, if_neg h] at this
    exact this
theorem Shows.lt (S : Shows st M) {i : Nat} {s : Nat × Nat} (h : st.2.2[i]? = some s) : s.1 < st.1 ∧ s.2 < st.2.1 := by
  have h1 : has M.X (if M.tall = true then s.1 else s.2) (if M.tall = true then s.2 else s.1) (i : Int) := (S.iff _ _ _).mpr ⟨i, rfl, by rw [h]; split <;> rfl⟩
  have h2 := has_lt h1
  have h3 := has_x S.ec h1
  rw [S.rk, S.fi]
  by_cases ht : M.tall = true
  · simp only [if_pos ht] at *
    exact ⟨h2, h3⟩
  · simp only [if_neg ht] at *
    exact ⟨h3, h2⟩
theorem Shows.grid (S : Shows st M) : ((grid M st.1 st.2.1).map (·.1)).Perm st.2.2 := by
  have hs := grid_sorted M st.2.1 st.1
  have hn : ((RG.grid M st.1 st.2.1).map (·.1)).Nodup := hs.imp fun {a b} h e => by subst e; rw [lexLt_irr] at h; cases h
  rw [List.perm_ext_iff_of_nodup hn S.nodup]
  intro s
  rw [List.mem_map]
  constructor
  · rintro ⟨⟨t, p⟩, ht, rfl⟩
    obtain ⟨_, _, h⟩ := grid_mem.mp ht
    obtain ⟨i, _, h⟩ := S.cellRF.mp h
    exact List.mem_of_getElem? h
  · intro h
    obtain ⟨i, hi⟩ := List.getElem?_of_mem h
    obtain ⟨h1, h2⟩ := S.lt hi
    exact ⟨(s, (i : Int)), grid_mem.mpr ⟨h1, h2, S.cellRF.mpr ⟨i, rfl, hi⟩⟩, rfl⟩
theorem Shows.order (S : Shows st M) {l x : Nat} {p : Int} : has (order M) l x p ↔ x = 0 ∧ ∃ (i : Nat) (s : Nat × Nat), p = i ∧ st.2.2[i]? = some s ∧ l = rankAt st.2.2 s := by
  have ho : RG.order M = (RG.grid M st.1 st.2.1).map fun z => [some z.2] := by rw [order_grid S.ec, ← S.rk, ← S.fi]
  rw [ho]
  have hr : ∀ s, rankAt st.2.2 s = (((RG.grid M st.1 st.2.1).map (·.1)).filter fun t => lexLt t s).length := fun s => ((S.grid.filter _).length_eq).symm
  constructor
  · rintro ⟨e, h1, h2⟩
    rw [List.getElem?_map] at h1
    cases hz : (RG.grid M st.1 st.2.1)[l]? with
    | none => rw [hz] at h1; cases h1
    | some z =>
      rw [hz] at h1
      cases h1
      obtain ⟨s, q⟩ := z
      cases x with
      | succ x => cases h2
      | zero =>
        have e2 : q = p := by simpa using h2
        subst e2
        obtain ⟨_, _, h3⟩ := grid_mem.mp (List.mem_of_getElem? hz)
        obtain ⟨i, hi, h4⟩ := S.cellRF.mp h3
        refine ⟨rfl, i, s, hi, h4, ?_⟩
        rw [hr]
        exact (sorted_count _ l s (grid_sorted M st.2.1 st.1) (by rw [List.getElem?_map, hz]; rfl)).symm
  · rintro ⟨rfl, i, s, rfl, h1, h2⟩
    obtain ⟨h3, h4⟩ := S.lt h1
    have hm : (s, (i : Int)) ∈ RG.grid M st.1 st.2.1 := grid_mem.mpr ⟨h3, h4, S.cellRF.mpr ⟨i, rfl, h1⟩⟩
    obtain ⟨j, hj⟩ := List.getElem?_of_mem hm
    have : l = j := by
      rw [h2, hr]
      exact sorted_count _ j s (grid_sorted M st.2.1 st.1) (by rw [List.getElem?_map, hj]; rfl)
    subst this
    exact ⟨[some (i : Int)], by rw [List.getElem?_map, hj]; rfl, rfl⟩
theorem Shows.order_len (S : Shows st M) : (RG.order M).length = st.2.2.length := by
  rw [order_grid S.ec, ← S.rk, ← S.fi, List.length_map, ← S.grid.length_eq, List.length_map]
theorem Shows.rank_lt (S : Shows st M) {i : Nat} {s : Nat × Nat} (h : st.2.2[i]? = some s) : rankAt st.2.2 s < st.2.2.length := by
  have h1 := has_lt (S.order.mpr ⟨rfl, i, s, rfl, h, rfl⟩)
  rw [S.order_len] at h1
  exact h1
end
end RG

set_option Elab.async false
set_option linter.all false
set_option maxRecDepth 100000
set_option maxHeartbeats 1000000
namespace RG
open SQ
theorem chunk_last {α : Type} (k : Nat) (hk : 0 < k) (X : List α) : (chunk k X).length = (X.length + k - 1) / k := chunk_len hk _ X (Nat.le_refl _)
theorem il_len (c : Nat) {α : Type} (es : List (En α)) : (il c es).length = 2 * c := by simp [il]
theorem jn_len (c : Nat) {α : Type} (es : List (En α)) : (jn c es).length = c := by simp [jn]
theorem ec_map {α : Type} (cb : List (En α) → En α) (c : Nat) (h : ∀ es, (cb es).length = c) (Y : List (List (En α))) : ∀ e ∈ Y.map cb, e.length = c := fun e he => by
  obtain ⟨y, _, rfl⟩ := List.mem_map.mp he
  exact h y
theorem ec_sp {α : Type} (c : Nat) (X : List (En α)) : ∀ e ∈ X.flatMap (sp c), e.length = (c + 1) / 2 := fun e he => by
  obtain ⟨y, _, he⟩ := List.mem_flatMap.mp he
  unfold sp at he
  simp only [List.mem_cons, List.not_mem_nil, or_false] at he
  rcases he with rfl | rfl <;> simp
theorem ec_mrev {X : List (En Int)} {c : Nat} (h : ∀ e ∈ X, e.length = c) : ∀ e ∈ mrev X, e.length = c := fun e he => by
  rw [mrev_eq] at he
  obtain ⟨y, hy, rfl⟩ := List.mem_map.mp he
  rw [List.length_reverse]
  exact h y hy
theorem ec_rev {X : List (En Int)} {c : Nat} (h : ∀ e ∈ X, e.length = c) : ∀ e ∈ X.reverse, e.length = c := fun e he => h e (List.mem_reverse.mp he)
theorem ec_order (M : Fm) : ∀ e ∈ order M, e.length = 1 := fun e he => by
  unfold order at he
  split at he
  · obtain ⟨y, _, he⟩ := List.mem_flatMap.mp he
    obtain ⟨p, _, rfl⟩ := List.mem_map.mp he
    rfl
  · obtain ⟨r, _, he⟩ := List.mem_flatMap.mp he
    obtain ⟨y, _, he⟩ := List.mem_flatMap.mp he
    unfold lane at he
    split at he
    · simp at he; subst he; rfl
    · cases he
theorem mrev_len (X : List (En Int)) : (mrev X).length = X.length := by rw [mrev_eq, List.length_map]
/-- a word that moves each one by the squad's own size -/
theorem shows_mv {st : Sq} {M M' : Fm} {mv : Nat × Nat → Nat × Nat} {R' F' : Nat} (S : Shows st M) (ec : ∀ e ∈ M'.X, e.length = M'.c) (rk : R' = if M'.tall = true then M'.X.length else M'.c) (fi : F' = if M'.tall = true then M'.c else M'.X.length)
    (inv : Nat → Nat → Nat × Nat) (ok : Nat → Nat → Prop)
    (h1 : ∀ l x (p : Int), has M'.X l x p ↔ ok l x ∧ has M.X (inv l x).1 (inv l x).2 p)
    (h2 : ∀ l x s, s.1 < st.1 → s.2 < st.2.1 → (mv s = (if M'.tall = true then (l, x) else (x, l)) ↔ ok l x ∧ s = (if M.tall = true then ((inv l x).1, (inv l x).2) else ((inv l x).2, (inv l x).1)))) :
    Shows (R', F', st.2.2.map mv) M' := by
  refine ⟨ec, rk, fi, fun l x p => ?_⟩
  rw [h1, S.iff]
  constructor
  · rintro ⟨ho, i, rfl, hi⟩
    obtain ⟨a, b⟩ := S.lt hi
    exact ⟨i, rfl, by rw [List.getElem?_map, hi, Option.map_some, Option.some.injEq]; exact (h2 l x _ a b).mpr ⟨ho, rfl⟩⟩
  · rintro ⟨i, rfl, hi⟩
    rw [List.getElem?_map] at hi
    cases hs : st.2.2[i]? with
    | none => rw [hs] at hi; cases hi
    | some s =>
      rw [hs] at hi
      obtain ⟨a, b⟩ := S.lt hs
      obtain ⟨ho, rfl⟩ := (h2 l x s a b).mp (Option.some.inj hi)
      exact ⟨ho, i, rfl, hs⟩
theorem map_id' (ps : List (Nat × Nat)) (mv : Nat × Nat → Nat × Nat) (h : ∀ s, mv s = s) : ps.map mv = ps := by
  rw [show mv = id from funext h, List.map_id]
theorem shows_start (n : Nat) : Shows (firstS n) ⟨false, 1, (List.range n).map fun i : Nat => [some (i : Int)]⟩ := by
  refine ⟨fun e he => ?_, rfl, by simp [firstS], fun l x p => ?_⟩
  · obtain ⟨i, _, rfl⟩ := List.mem_map.mp he
    rfl
  · show has ((List.range n).map fun i : Nat => [some (i : Int)]) l x p ↔ ∃ i : Nat, p = i ∧ ((List.range n).map fun i => (0, i))[i]? = some (x, l)
    constructor
    · rintro ⟨e, h1, h2⟩
      rw [List.getElem?_map] at h1
      by_cases hl : l < n
      · rw [List.getElem?_range hl] at h1
        cases h1
        cases x with
        | succ x => cases h2
        | zero =>
          have : (l : Int) = p := by simpa using h2
          exact ⟨l, this.symm, by rw [List.getElem?_map, List.getElem?_range hl]; rfl⟩
      · rw [List.getElem?_eq_none (by simpa using hl)] at h1
        cases h1
    · rintro ⟨i, rfl, h⟩
      rw [List.getElem?_map] at h
      by_cases hi : i < n
      · rw [List.getElem?_range hi] at h
        have h : (0, i) = (x, l) := Option.some.inj h
        obtain ⟨e1, e2⟩ := Prod.mk.inj h
        rw [← e1, ← e2]
        exact ⟨[some (i : Int)], by rw [List.getElem?_map, List.getElem?_range hi]; rfl, rfl⟩
      · rw [List.getElem?_eq_none (by simpa using hi)] at h
        cases h
theorem shows_step {st : Sq} {M : Fm} (w : Wd) (S : Shows st M) : Shows (obeyed w st) (stepF w M) := by
  obtain ⟨t, c, X⟩ := M
  obtain ⟨R, F, ps⟩ := st
  have ec : ∀ e ∈ X, e.length = c := S.ec
  have rk : R = if t = true then X.length else c := S.rk
  have fi : F = if t = true then c else X.length := S.fi
  have col : ∀ k, 0 < k → Shows ((ps.length + k - 1) / k, k, inRanks ps k) ⟨true, k, (chunk k (order ⟨t, c, X⟩)).map (jn k)⟩ := fun k hk => by
    refine ⟨ec_map _ _ (fun es => jn_len _ es) _, ?_, rfl, fun l x p => ?_⟩
    · show _ = ((chunk k _).map _).length
      rw [List.length_map, chunk_last k hk, S.order_len]
    · rw [has_jn hk, S.order]
      constructor
      · rintro ⟨hx, _, i, s, rfl, h1, h2⟩
        refine ⟨i, rfl, ?_⟩
        show (inRanks ps k)[i]? = some (l, x)
        unfold inRanks
        rw [List.getElem?_map, show ps[i]? = some s from h1, Option.map_some]
        have h2 : k * l + x = rankAt ps s := h2
        rw [← h2, Nat.mul_add_div hk, Nat.div_eq_of_lt hx, Nat.mul_add_mod, Nat.mod_eq_of_lt hx, Nat.add_zero]
      · rintro ⟨i, rfl, h⟩
        have h : (inRanks ps k)[i]? = some (l, x) := h
        unfold inRanks at h
        rw [List.getElem?_map] at h
        cases hs : ps[i]? with
        | none => rw [hs] at h; cases h
        | some s =>
          rw [hs, Option.map_some, Option.some.injEq, Prod.mk.injEq] at h
          refine ⟨by rw [← h.2]; exact Nat.mod_lt _ hk, rfl, i, s, rfl, hs, ?_⟩
          show k * l + x = rankAt ps s
          rw [← h.1, ← h.2]
          exact Nat.div_add_mod _ _
  cases w with
  | line =>
    show Shows (1, ps.length, inRanks ps ps.length) ⟨false, 1, order ⟨t, c, X⟩⟩
    refine ⟨ec_order _, rfl, S.order_len.symm, fun l x p => ?_⟩
    rw [S.order]
    constructor
    · rintro ⟨rfl, i, s, rfl, h1, h2⟩
      refine ⟨i, rfl, ?_⟩
      show (inRanks ps ps.length)[i]? = some (0, l)
      have hlt : rankAt ps s < ps.length := S.rank_lt h1
      unfold inRanks
      rw [List.getElem?_map, show ps[i]? = some s from h1, Option.map_some]
      have h2 : l = rankAt ps s := h2
      rw [← h2] at hlt ⊢
      rw [Nat.div_eq_of_lt hlt, Nat.mod_eq_of_lt hlt]
    · rintro ⟨i, rfl, h⟩
      have h : (inRanks ps ps.length)[i]? = some (x, l) := h
      unfold inRanks at h
      rw [List.getElem?_map] at h
      cases hs : ps[i]? with
      | none => rw [hs] at h; cases h
      | some s =>
        have hlt : rankAt ps s < ps.length := S.rank_lt hs
        rw [hs, Option.map_some, Option.some.injEq, Prod.mk.injEq, Nat.div_eq_of_lt hlt, Nat.mod_eq_of_lt hlt] at h
        exact ⟨h.1.symm, i, s, rfl, hs, h.2.symm⟩
  | col2 => exact col 2 (by decide)
  | col3 => exact col 3 (by decide)
  | wleft =>
    show Shows (R, F, ps.map fun s => s) ⟨t, c, X⟩
    rw [map_id' _ _ (fun _ => rfl)]
    exact S
  | wright =>
    show Shows (R, F, ps.map fun s => s) ⟨t, c, X⟩
    rw [map_id' _ _ (fun _ => rfl)]
    exact S
  | right =>
    cases t with
    | true =>
      simp only [if_true] at rk fi
      show Shows (F, R, ps.map fun s => (s.2, R - 1 - s.1)) ⟨false, c, X.reverse⟩
      refine shows_mv S (ec_rev ec) fi (by simpa using rk) (fun l x => (X.length - 1 - l, x)) (fun l x => l < X.length) (fun l x p => has_rev) fun l x s h1 h2 => ?_
      simp only [Bool.false_eq_true, if_false, if_true, Prod.ext_iff] at h1 h2 ⊢
      omega
    | false =>
      simp only [Bool.false_eq_true, if_false] at rk fi
      show Shows (F, R, ps.map fun s => (s.2, R - 1 - s.1)) ⟨true, c, mrev X⟩
      refine shows_mv S (ec_mrev ec) (by simpa [mrev_len] using fi) rk (fun l x => (l, c - 1 - x)) (fun l x => x < c) (fun l x p => by rw [mrev_eq]; exact has_mrev ec) fun l x s h1 h2 => ?_
      simp only [Bool.false_eq_true, if_false, if_true, Prod.ext_iff] at h1 h2 ⊢
      omega
  | left =>
    cases t with
    | true =>
      simp only [if_true] at rk fi
      show Shows (F, R, ps.map fun s => (F - 1 - s.2, s.1)) ⟨false, c, mrev X⟩
      refine shows_mv S (ec_mrev ec) fi (by simpa [mrev_len] using rk) (fun l x => (l, c - 1 - x)) (fun l x => x < c) (fun l x p => by rw [mrev_eq]; exact has_mrev ec) fun l x s h1 h2 => ?_
      simp only [Bool.false_eq_true, if_false, if_true, Prod.ext_iff] at h1 h2 ⊢
      omega
    | false =>
      simp only [Bool.false_eq_true, if_false] at rk fi
      show Shows (F, R, ps.map fun s => (F - 1 - s.2, s.1)) ⟨true, c, X.reverse⟩
      refine shows_mv S (ec_rev ec) (by simpa using fi) rk (fun l x => (X.length - 1 - l, x)) (fun l x => l < X.length) (fun l x p => has_rev) fun l x s h1 h2 => ?_
      simp only [Bool.false_eq_true, if_false, if_true, Prod.ext_iff] at h1 h2 ⊢
      omega
  | about =>
    show Shows (R, F, ps.map fun s => (R - 1 - s.1, F - 1 - s.2)) ⟨t, c, (mrev X).reverse⟩
    refine shows_mv S (ec_rev (ec_mrev ec)) (by simpa [mrev_len] using rk) (by simpa [mrev_len] using fi) (fun l x => (X.length - 1 - l, c - 1 - x)) (fun l x => l < X.length ∧ x < c) (fun l x p => ?_) fun l x s h1 h2 => ?_
    · show has (mrev X).reverse l x p ↔ _
      rw [has_rev, mrev_len, mrev_eq, has_mrev ec]
      exact ⟨fun h => ⟨⟨h.1, h.2.1⟩, h.2.2⟩, fun h => ⟨h.1.1, h.1.2, h.2⟩⟩
    · cases t <;> simp only [Bool.false_eq_true, if_false, if_true, Prod.ext_iff] at rk fi h1 h2 ⊢ <;> omega
  | change =>
    cases t with
    | true =>
      simp only [if_true] at rk fi
      show Shows (R, F, ps.map fun s => (R - 1 - s.1, s.2)) ⟨true, c, X.reverse⟩
      refine shows_mv S (ec_rev ec) (by simpa using rk) fi (fun l x => (X.length - 1 - l, x)) (fun l x => l < X.length) (fun l x p => has_rev) fun l x s h1 h2 => ?_
      simp only [if_true, Prod.ext_iff] at h1 h2 ⊢
      omega
    | false =>
      simp only [Bool.false_eq_true, if_false] at rk fi
      show Shows (R, F, ps.map fun s => (R - 1 - s.1, s.2)) ⟨false, c, mrev X⟩
      refine shows_mv S (ec_mrev ec) rk (by simpa [mrev_len] using fi) (fun l x => (l, c - 1 - x)) (fun l x => x < c) (fun l x p => by rw [mrev_eq]; exact has_mrev ec) fun l x s h1 h2 => ?_
      simp only [Bool.false_eq_true, if_false, Prod.ext_iff] at h1 h2 ⊢
      omega
  | double =>
    cases t with
    | true =>
      simp only [if_true] at rk fi
      show Shows (2 * R, (F + 1) / 2, ps.map fun s => (2 * s.1 + s.2 % 2, s.2 / 2)) ⟨true, (c + 1) / 2, X.flatMap (sp c)⟩
      refine shows_mv S (ec_sp c X) (by simp only [if_true]; rw [sp_len, rk]) (by simp only [if_true]; rw [fi]) (fun l x => (l / 2, 2 * x + l % 2)) (fun l x => True) (fun l x p => by rw [true_and]; exact has_sp ec) fun l x s h1 h2 => ?_
      simp only [if_true, Prod.ext_iff, true_and] at h1 h2 ⊢
      omega
    | false =>
      simp only [Bool.false_eq_true, if_false] at rk fi
      show Shows (2 * R, (F + 1) / 2, ps.map fun s => (2 * s.1 + s.2 % 2, s.2 / 2)) ⟨false, 2 * c, (chunk 2 X).map (il c)⟩
      refine shows_mv S (ec_map _ _ (fun es => il_len c es) _) (by simp only [Bool.false_eq_true, if_false]; rw [rk]) (by simp only [Bool.false_eq_true, if_false]; rw [List.length_map, chunk_last 2 (by decide), fi]; omega) (fun l x => (2 * l + x % 2, x / 2)) (fun l x => True)
        (fun l x p => by rw [true_and]; exact has_il ec) fun l x s h1 h2 => ?_
      simp only [Bool.false_eq_true, if_false, Prod.ext_iff, true_and] at h1 h2 ⊢
      omega
  | undouble =>
    cases t with
    | true =>
      simp only [if_true] at rk fi
      by_cases hp : R % 2 = 0
      · have e1 : obeyed .undouble (R, F, ps) = (R / 2, 2 * F, ps.map fun s => (s.1 / 2, 2 * s.2 + s.1 % 2)) := by
          unfold obeyed resized
          simp only [if_pos hp]
          congr 2
          refine List.map_congr_left fun s _ => ?_
          unfold moved
          simp only [if_pos hp]
        have e2 : stepF .undouble ⟨true, c, X⟩ = ⟨true, 2 * c, (chunk 2 X).map (il c)⟩ := by
          unfold stepF
          simp only [if_true]
          rw [if_pos (by rw [← rk]; exact hp)]
        rw [e1, e2]
        refine shows_mv S (ec_map _ _ (fun es => il_len c es) _) (by simp only [if_true]; rw [List.length_map, chunk_last 2 (by decide), ← rk]; omega) (by simp only [if_true]; rw [fi]) (fun l x => (2 * l + x % 2, x / 2)) (fun l x => True)
          (fun l x p => by rw [true_and]; exact has_il ec) fun l x s h1 h2 => ?_
        simp only [if_true, Prod.ext_iff, true_and] at h1 h2 ⊢
        omega
      · have e1 : obeyed .undouble (R, F, ps) = (R, F, ps) := by
          unfold obeyed resized
          simp only [if_neg hp]
          rw [map_id' _ _ fun s => by unfold moved; simp only [if_neg hp]]
        have e2 : stepF .undouble ⟨true, c, X⟩ = ⟨true, c, X⟩ := by
          unfold stepF
          simp only [if_true]
          rw [if_neg (by rw [← rk]; exact hp)]
        rw [e1, e2]
        exact S
    | false =>
      simp only [Bool.false_eq_true, if_false] at rk fi
      by_cases hp : R % 2 = 0
      · have e1 : obeyed .undouble (R, F, ps) = (R / 2, 2 * F, ps.map fun s => (s.1 / 2, 2 * s.2 + s.1 % 2)) := by
          unfold obeyed resized
          simp only [if_pos hp]
          congr 2
          refine List.map_congr_left fun s _ => ?_
          unfold moved
          simp only [if_pos hp]
        have e2 : stepF .undouble ⟨false, c, X⟩ = ⟨false, c / 2, X.flatMap (sp c)⟩ := by
          unfold stepF
          simp only [Bool.false_eq_true, if_false]
          rw [if_pos (by rw [← rk]; exact hp)]
        rw [e1, e2]
        refine shows_mv S (fun e he => by rw [ec_sp c X e he]; show _ = c / 2; omega) (by simp only [Bool.false_eq_true, if_false]; rw [rk]) (by simp only [Bool.false_eq_true, if_false]; rw [sp_len, fi]) (fun l x => (l / 2, 2 * x + l % 2)) (fun l x => True)
          (fun l x p => by rw [true_and]; exact has_sp ec) fun l x s h1 h2 => ?_
        simp only [Bool.false_eq_true, if_false, Prod.ext_iff, true_and] at h1 h2 ⊢
        omega
      · have e1 : obeyed .undouble (R, F, ps) = (R, F, ps) := by
          unfold obeyed resized
          simp only [if_neg hp]
          rw [map_id' _ _ fun s => by unfold moved; simp only [if_neg hp]]
        have e2 : stepF .undouble ⟨false, c, X⟩ = ⟨false, c, X⟩ := by
          unfold stepF
          simp only [Bool.false_eq_true, if_false]
          rw [if_neg (by rw [← rk]; exact hp)]
        rw [e1, e2]
        exact S
def startF (n : Nat) : Fm := ⟨false, 1, (List.range n).map fun i : Nat => [some (i : Int)]⟩
def fmOf (ws : List Wd) (n : Nat) : Fm := ws.foldl (fun M w => stepF w M) (startF n)
theorem shows_fold : ∀ (ws : List Wd) {st : Sq} {M : Fm}, Shows st M → Shows (ws.foldl (fun s w => obeyed w s) st) (ws.foldl (fun M w => stepF w M) M)
  | [], _, _, S => S
  | w :: ws, _, _, S => shows_fold ws (shows_step w S)
theorem shows (ws : List Wd) (n : Nat) : Shows (drilled ws n) (fmOf ws n) := shows_fold ws (shows_start n)
end RG

set_option Elab.async false
set_option linter.all false
set_option maxRecDepth 100000
set_option maxHeartbeats 1000000
namespace RG
open SQ
/-! ### the phases of a row -/
def asc (n : Nat) : List (En Int) := (List.range n).map fun i : Nat => [some (i : Int)]
def ln (b : Bool) (n : Nat) : List (En Int) := if b = true then asc n else (asc n).reverse
def hs (d : Bool) {α : Type} (e : En α) : List (En α) := if d = true then sp 1 e else (sp 1 e).reverse
theorem hs_nat (d : Bool) : Nat1 (hs d) := fun g e => by
  unfold hs
  cases d with
  | true => exact sp_nat 1 g e
  | false =>
    show (sp 1 (emap g e)).reverse = ((sp 1 e).reverse).map (emap g)
    rw [List.map_reverse]
    congr 1
    exact sp_nat 1 g e
theorem hs_sub (d : Bool) : Sub1 (hs d) := fun e e' p h hp => by
  unfold hs at h
  cases d with
  | true => exact sp_sub 1 e e' p h hp
  | false => exact sp_sub 1 e e' p (List.mem_reverse.mp h) hp
theorem hs_one (d : Bool) {α : Type} (a : α) : hs d [some a] = if d = true then [[some a], [none]] else [[none], [some a]] := by cases d <;> rfl
section
variable (P r : Nat)
/-- persons 0, 1, .. -/
def ascS : List Seg := [.run 0 ((List.range P).map fun s : Nat => [some ⟨0, P, s⟩]), .blk ((List.range r).map fun s : Nat => [some ⟨P, 0, s⟩])]
/-- the last person ahead; t more than r in the first block -/
def descS (t : Nat) : List Seg := [.blk ((List.range (r + t)).map fun j : Nat => [some ⟨P, 0, r - 1 - j⟩]), .run 1 ((List.range P).map fun j : Nat => [some ⟨P, -P, -1 - t - j⟩]), .blk ((List.range (P - t)).map fun j : Nat => [some ⟨0, 0, P - t - 1 - j⟩])]
end
section
variable {P r : Nat}
theorem range_split {α : Type} (g : Nat → α) (P : Nat) : ∀ m : Nat, (List.range (P * m)).map g = (List.range m).flatMap fun q => (List.range P).map fun s => g (P * q + s)
  | 0 => by simp
  | m + 1 => by
    rw [Nat.mul_succ, List.range_add, List.map_append, range_split g P m, List.range_succ, List.flatMap_append]
    simp
theorem asc_ev (m : Nat) : evs m (ascS P r) = asc (P * m + r) := by
  unfold ascS asc
  rw [List.range_add, List.map_append, range_split, evs_cons, evs_cons, evs_nil, List.append_nil]
  congr 1
  · show (List.range (m - 0)).flatMap (fun q : Nat => ((List.range P).map fun s : Nat => [some (⟨0, P, s⟩ : Pn)]).map (evE m q)) = _
    rw [Nat.sub_zero]
    congr 1
    funext q
    rw [List.map_map]
    refine List.map_congr_left fun s _ => ?_
    show [some ((⟨0, P, s⟩ : Pn).at m q)] = _
    unfold Pn.at
    simp
  · show ((List.range r).map fun s : Nat => [some (⟨P, 0, s⟩ : Pn)]).map (evE m 0) = _
    rw [List.map_map, List.map_map]
    refine List.map_congr_left fun s _ => ?_
    show [some ((⟨P, 0, s⟩ : Pn).at m 0)] = [some _]
    unfold Pn.at
    simp
theorem rev_range {α : Type} (g : Nat → α) : ∀ n : Nat, ((List.range n).map g).reverse = (List.range n).map fun j => g (n - 1 - j)
  | 0 => rfl
  | n + 1 => by
    apply List.ext_getElem
    · simp
    · intro i h1 h2
      simp
theorem range3 {α : Type} (g : Nat → α) (a b c : Nat) : (List.range (a + (b + c))).map g = (List.range a).map g ++ ((List.range b).map (fun i => g (a + i)) ++ (List.range c).map fun i => g (a + (b + i))) := by
  rw [List.range_add, List.map_append, List.map_map, List.range_add, List.map_append, List.map_map]
  rfl
theorem desc_ev {m t : Nat} (ht : t ≤ P) (hm : 1 ≤ m) : evs m (descS P r t) = (asc (P * m + r)).reverse := by
  unfold descS asc
  obtain ⟨k, rfl⟩ : ∃ k, m = k + 1 := ⟨m - 1, by omega⟩
  have hn : P * (k + 1) + r = (r + t) + (P * k + (P - t)) := by rw [Nat.mul_succ]; omega
  rw [rev_range, hn, range3, range_split (fun i => [some (((r + t + (P * k + (P - t)) - 1 - (r + t + i) : Nat)) : Int)]) P k, evs_cons, evs_cons, evs_cons, evs_nil, List.append_nil]
  congr 1
  · show ((List.range (r + t)).map fun j : Nat => [some (⟨P, 0, r - 1 - j⟩ : Pn)]).map (evE _ 0) = _
    rw [List.map_map]
    refine List.map_congr_left fun j hj => ?_
    have hj := List.mem_range.mp hj
    show [some ((⟨P, 0, r - 1 - j⟩ : Pn).at _ 0)] = [some _]
    unfold Pn.at
    congr 2
    have : (((P : Int) * ((k + 1 : Nat) : Int)) : Int) = P * k + P := by rw [Int.natCast_add, Int.mul_add]; simp
    simp only [Int.zero_mul, Int.add_zero]
    rw [this, Int.ofNat_sub (by omega), Int.ofNat_sub (by omega)]
    simp only [Int.natCast_add, Int.natCast_mul, Int.ofNat_sub ht]
    omega
  congr 1
  · show (List.range (k + 1 - 1)).flatMap (fun q : Nat => ((List.range P).map fun j : Nat => [some (⟨P, -P, -1 - t - j⟩ : Pn)]).map (evE _ q)) = _
    rw [Nat.add_sub_cancel]
    simp only [List.flatMap_def]
    congr 1
    refine List.map_congr_left fun q hq => ?_
    have hq := List.mem_range.mp hq
    rw [List.map_map]
    refine List.map_congr_left fun j hj => ?_
    have hj := List.mem_range.mp hj
    show [some ((⟨P, -P, -1 - t - j⟩ : Pn).at _ q)] = [some _]
    unfold Pn.at
    congr 2
    have e1 : P * q + P ≤ P * k := by
      have := Nat.mul_le_mul_left P (show q + 1 ≤ k by omega)
      rw [Nat.mul_succ] at this
      exact this
    have : (((P : Int) * ((k + 1 : Nat) : Int)) : Int) = P * k + P := by rw [Int.natCast_add, Int.mul_add]; simp
    simp only [Function.comp]
    rw [this, Int.ofNat_sub (by omega), Int.ofNat_sub (by omega)]
    simp only [Int.natCast_add, Int.natCast_mul, Int.ofNat_sub ht, Int.neg_mul]
    omega
  · show ((List.range (P - t)).map fun j : Nat => [some (⟨0, 0, P - t - 1 - j⟩ : Pn)]).map (evE _ 0) = _
    rw [List.map_map]
    refine List.map_congr_left fun j hj => ?_
    have hj := List.mem_range.mp hj
    show [some ((⟨0, 0, P - t - 1 - j⟩ : Pn).at _ 0)] = [some _]
    unfold Pn.at
    congr 2
    simp only [Function.comp, Int.zero_mul, Int.add_zero, Int.zero_add]
    rw [Int.ofNat_sub (by omega), Int.ofNat_sub (by omega)]
    simp only [Int.natCast_add, Int.natCast_mul, Int.ofNat_sub ht]
    omega
theorem one_mem {g : Nat → Pn} {n : Nat} {e : En Pn} {p : Pn} (he : e ∈ (List.range n).map fun s => [some (g s)]) (hp : some p ∈ e) : ∃ s, s < n ∧ p = g s := by
  obtain ⟨s, hs, rfl⟩ := List.mem_map.mp he
  exact ⟨s, List.mem_range.mp hs, by simpa using hp⟩
theorem asc_bd (hr : r < P) : Bd P r P P 1 (ascS P r) := by
  refine .cons ⟨⟨by omega, P, fun e he p hp => by
    obtain ⟨s, hs, rfl⟩ := one_mem he hp
    rfl⟩, fun e he p hp => ?_⟩ (.cons (fun e he p hp => ?_) .nil)
  · obtain ⟨s, hs, rfl⟩ := one_mem he hp
    refine ⟨.inl ⟨rfl, rfl⟩, ⟨rfl, .inl ⟨rfl, ?_⟩⟩, ⟨rfl, .inr ⟨by simp [Pn.lst], ?_⟩⟩⟩
    · show (s : Int) < _; omega
    · show _ ≤ (s : Int) - P * ((0 : Nat) + 1); simp; omega
  · obtain ⟨s, hs, rfl⟩ := one_mem he hp
    exact ⟨rfl, .inr ⟨rfl, by show _ ≤ (s : Int); omega⟩⟩
theorem desc_bd {t : Nat} (h : r + t ≤ P) : Bd P r P P 1 (descS P r t) := by
  refine .cons (fun e he p hp => ?_) (.cons ⟨⟨by omega, -P, fun e he p hp => by
    obtain ⟨s, hs, rfl⟩ := one_mem (g := fun j : Nat => (⟨P, -P, -1 - t - j⟩ : Pn)) he hp
    rfl⟩, fun e he p hp => ?_⟩ (.cons (fun e he p hp => ?_) .nil))
  · obtain ⟨s, hs, rfl⟩ := one_mem (g := fun j : Nat => (⟨P, 0, r - 1 - j⟩ : Pn)) he hp
    exact ⟨rfl, .inr ⟨rfl, by show _ ≤ (r : Int) - 1 - s; omega⟩⟩
  · obtain ⟨s, hs, rfl⟩ := one_mem (g := fun j : Nat => (⟨P, -P, -1 - t - j⟩ : Pn)) he hp
    refine ⟨.inr ⟨rfl, rfl⟩, ⟨rfl, .inr ⟨rfl, ?_⟩⟩, ⟨rfl, .inl ⟨by simp [Pn.lst]; omega, ?_⟩⟩⟩
    · show _ ≤ (-1 - t - s : Int); omega
    · show (-1 - t - s : Int) - -P * ((1 : Nat) + 1) < _; simp [Int.neg_mul, Int.mul_add]; omega
  · obtain ⟨s, hs, rfl⟩ := one_mem (g := fun j : Nat => (⟨0, 0, P - t - 1 - j⟩ : Pn)) he hp
    exact ⟨rfl, .inl ⟨rfl, by show (P - t - 1 - s : Int) < _; omega⟩⟩
/-! runs whose entries are full -/
def Fu (c D : Nat) (ss : List Seg) : Prop := ∀ k pat, Seg.run k pat ∈ ss → pat ≠ [] ∧ D ∣ pat.length ∧ ∀ e ∈ pat, e.length = c ∧ ∀ o ∈ e, ∃ p, o = some p
theorem Fu.nil {c D : Nat} : Fu c D [] := fun _ _ h => nomatch h
theorem Fu.blk {c D : Nat} {es : List (En Pn)} {ss : List Seg} (h : Fu c D ss) : Fu c D (.blk es :: ss) := fun k pat hm => by
  rcases List.mem_cons.mp hm with z | z
  · cases z
  · exact h k pat z
theorem Fu.run {c D j : Nat} {p : List (En Pn)} {ss : List Seg} (h : Fu c D ss) (h1 : p ≠ []) (h2 : D ∣ p.length) (h3 : ∀ e ∈ p, e.length = c ∧ ∀ o ∈ e, ∃ p, o = some p) : Fu c D (.run j p :: ss) := fun k pat hm => by
  rcases List.mem_cons.mp hm with z | z
  · cases z; exact ⟨h1, h2, h3⟩
  · exact h k pat z
theorem Fu.append {c D : Nat} {ss ts : List Seg} (h : Fu c D ss) (h' : Fu c D ts) : Fu c D (ss ++ ts) := fun k pat hm => (List.mem_append.mp hm).elim (h k pat) (h' k pat)
theorem Fu.rvs {c D : Nat} {ss : List Seg} (h : Fu c D ss) : Fu c D (rvs ss) := fun k pat hm => by
  unfold RG.rvs at hm
  rw [List.mem_reverse] at hm
  obtain ⟨s, hs, e⟩ := List.mem_map.mp hm
  cases s with
  | blk es => cases e
  | run j p =>
    cases e
    obtain ⟨h1, h2, h3⟩ := h _ _ hs
    refine ⟨by simpa using h1, by simpa using h2, fun e he => ?_⟩
    obtain ⟨e0, he0, rfl⟩ := List.mem_map.mp he
    obtain ⟨h4, h5⟩ := h3 e0 (List.mem_reverse.mp he0)
    refine ⟨by simp [emap, h4], fun o ho => ?_⟩
    obtain ⟨o0, ho0, rfl⟩ := List.mem_map.mp ho
    obtain ⟨p0, rfl⟩ := h5 o0 ho0
    exact ⟨_, rfl⟩
theorem flatMap_const_len {α : Type} (f : En α → List (En α)) (w : Nat) : ∀ pat : List (En α), (∀ e ∈ pat, (f e).length = w) → (pat.flatMap f).length = pat.length * w
  | [], _ => by simp
  | e :: pat, h => by
    rw [List.flatMap_cons, List.length_append, flatMap_const_len f w pat (fun e he => h e (List.mem_cons_of_mem _ he)), h e (List.mem_cons_self ..), List.length_cons, Nat.add_mul]
    omega
/-- each full entry becomes w > 0 full ones -/
theorem Fu.fm {c D c' w : Nat} {ss : List Seg} (f : {α : Type} → En α → List (En α)) (hw : 0 < w) (h : Fu c D ss)
    (hf : ∀ e : En Pn, e.length = c → (∀ o ∈ e, ∃ p, o = some p) → (f e).length = w ∧ ∀ e' ∈ f e, e'.length = c' ∧ ∀ o ∈ e', ∃ p, o = some p) : Fu c' D (ss.map (Seg.fm f)) := fun k pat hm => by
  obtain ⟨s, hs, e⟩ := List.mem_map.mp hm
  cases s with
  | blk es => cases e
  | run j p =>
    cases e
    obtain ⟨h1, h2, h3⟩ := h _ _ hs
    have hl := flatMap_const_len (fun e => f e) w p fun e he => (hf e (h3 e he).1 (h3 e he).2).1
    refine ⟨fun z => ?_, ?_, fun e he => ?_⟩
    · rw [z] at hl
      have hp : 0 < p.length := List.length_pos_iff.mpr h1
      have := Nat.mul_pos hp hw
      simp at hl
      omega
    · rw [hl]
      exact Nat.dvd_trans h2 (Nat.dvd_mul_right _ _)
    · obtain ⟨e0, he0, he⟩ := List.mem_flatMap.mp he
      exact (hf e0 (h3 e0 he0).1 (h3 e0 he0).2).2 e he
theorem full_at {α : Type} {e : En α} (h : ∀ o ∈ e, ∃ p, o = some p) {x : Nat} (hx : x < e.length) : ∃ p, (e[x]?).join = some p := by
  obtain ⟨p, hp⟩ := h _ (List.getElem_mem hx)
  exact ⟨p, by rw [List.getElem?_eq_getElem hx, hp]; rfl⟩
theorem lane_full {c x : Nat} (hx : x < c) (e : En Pn) (h1 : e.length = c) (h2 : ∀ o ∈ e, ∃ p, o = some p) : (lane x e).length = 1 ∧ ∀ e' ∈ lane x e, e'.length = 1 ∧ ∀ o ∈ e', ∃ p, o = some p := by
  obtain ⟨p, hp⟩ := full_at h2 (by rw [h1]; exact hx)
  unfold lane
  rw [hp]
  exact ⟨rfl, fun e' he => by simp at he; subst he; exact ⟨rfl, fun o ho => by simp at ho; exact ⟨p, ho⟩⟩⟩
theorem fl_full {c : Nat} (e : En Pn) (h1 : e.length = c) (h2 : ∀ o ∈ e, ∃ p, o = some p) : (fl e).length = c ∧ ∀ e' ∈ fl e, e'.length = 1 ∧ ∀ o ∈ e', ∃ p, o = some p := by
  have : ∀ e : En Pn, (∀ o ∈ e, ∃ p, o = some p) → (e.filterMap id).length = e.length := fun e => by
    induction e with
    | nil => exact fun _ => rfl
    | cons o e ih =>
      intro h
      obtain ⟨p, rfl⟩ := h o (List.mem_cons_self ..)
      rw [List.filterMap_cons]
      show (_ :: _).length = _
      rw [List.length_cons, List.length_cons, ih fun o ho => h o (List.mem_cons_of_mem _ ho)]
  unfold fl
  rw [List.length_map, this e h2, h1]
  refine ⟨rfl, fun e' he => ?_⟩
  obtain ⟨p, _, rfl⟩ := List.mem_map.mp he
  exact ⟨rfl, fun o ho => by simp at ho; exact ⟨p, ho⟩⟩
/-! the order, by segments -/
def orderS (t : Bool) (c : Nat) (ss : List Seg) : List Seg := if t = true then ss.map (Seg.fm fl) else (List.range c).flatMap fun x => ss.map (Seg.fm (lane x))
theorem orderS_ev (t : Bool) (c m : Nat) (ss : List Seg) : evs m (orderS t c ss) = order ⟨t, c, evs m ss⟩ := by
  unfold orderS order
  cases t with
  | true => exact fm_ev fl fl_nat m ss
  | false =>
    show evs m ((List.range c).flatMap fun x => ss.map (Seg.fm (lane x))) = (List.range c).flatMap fun x => (evs m ss).flatMap (lane x)
    induction c with
    | zero => rfl
    | succ c ih =>
      rw [List.range_succ, List.flatMap_append, List.flatMap_append, evs_append, ih]
      congr 1
      simp only [List.flatMap_cons, List.flatMap_nil, List.append_nil]
      exact fm_ev (lane c) (lane_nat c) m ss
theorem orderS_bd {zl zh : Int} {K : Nat} {t : Bool} {c : Nat} {ss : List Seg} (h : Bd P r zl zh K ss) : Bd P r zl zh K (orderS t c ss) := by
  unfold orderS
  cases t with
  | true => exact h.fm fl fl_sub
  | false =>
    intro s hs
    obtain ⟨x, _, hs⟩ := List.mem_flatMap.mp hs
    exact h.fm (lane x) (lane_sub x) s hs
theorem orderS_fu {t : Bool} {c D : Nat} {ss : List Seg} (hc : 0 < c) (h : Fu c D ss) : Fu 1 D (orderS t c ss) := by
  unfold orderS
  cases t with
  | true => exact h.fm fl hc fun e h1 h2 => fl_full e h1 h2
  | false =>
    intro k pat hm
    obtain ⟨x, hx, hm⟩ := List.mem_flatMap.mp hm
    exact h.fm (lane x) (w := 1) (by decide) (fun e h1 h2 => lane_full (List.mem_range.mp hx) e h1 h2) k pat hm
end
end RG

set_option Elab.async false
set_option linter.all false
set_option maxRecDepth 100000
set_option maxHeartbeats 1000000
namespace RG
open SQ
section
variable {P r : Nat}
def PhA (P r : Nat) (Ms : Nat → Fm) : Prop := ∃ t b, ∀ m, 3 ≤ m → Ms m = ⟨t, 1, ln b (P * m + r)⟩
def PhH (P r : Nat) (Ms : Nat → Fm) : Prop := ∃ t b d, ∀ m, 3 ≤ m → Ms m = ⟨t, 1, (ln b (P * m + r)).flatMap (hs d)⟩
def PhB (P r D : Nat) (Ms : Nat → Fm) : Prop := ∃ t c ss, 0 < c ∧ (∀ m, 3 ≤ m → Ms m = ⟨t, c, evs m ss⟩) ∧ Bd P r P P 1 ss ∧ Fu c D ss
/-- no run without a person -/
def NE (ss : List Seg) : Prop := ∀ k pat, Seg.run k pat ∈ ss → pat ≠ [] → ∃ e ∈ pat, ∃ p, some p ∈ e
def Wf (c : Nat) (ss : List Seg) : Prop := ∀ k pat, Seg.run k pat ∈ ss → (∀ e ∈ pat, e.length = c) ∧ ∃ e ∈ pat, ∃ p, some p ∈ e
theorem Wf.ne {c : Nat} {ss : List Seg} (h : Wf c ss) : NE ss := fun k pat hm _ => (h k pat hm).2
theorem Fu.wf {c D : Nat} {ss : List Seg} (hc : 0 < c) (h : Fu c D ss) : Wf c ss := fun k pat hm => by
  obtain ⟨h1, _, h3⟩ := h k pat hm
  refine ⟨fun e he => (h3 e he).1, ?_⟩
  cases pat with
  | nil => exact absurd rfl h1
  | cons e pat =>
    obtain ⟨h4, h5⟩ := h3 e (List.mem_cons_self ..)
    obtain ⟨p, hp⟩ := full_at h5 (x := 0) (by omega)
    exact ⟨e, List.mem_cons_self .., p, join_mem hp⟩
def PhC (P r : Nat) (Ms : Nat → Fm) : Prop := ∃ t c ss, (∀ m, 3 ≤ m → Ms m = ⟨t, c, evs m ss⟩) ∧ Bd P r (2 * P) (2 * P) 2 ss ∧ NE ss
def shapes (ws : List Wd) : Nat := (ws.filter fun w => decide (1 < w.fac)).length
def Ph (P r : Nat) (ws : List Wd) (Ms : Nat → Fm) : Prop :=
  (PhA P r Ms ∧ shapes ws ≤ 2 ∧ pOf ws ∣ P) ∨ (PhH P r Ms ∧ shapes ws ≤ 1 ∧ pOf ws ∣ P) ∨ (∃ D, PhB P r D Ms ∧ shapes ws ≤ 1 ∧ pOf ws ∣ D) ∨ (PhC P r Ms ∧ shapes ws = 0)
theorem PhB.toC {D : Nat} {Ms : Nat → Fm} (h : PhB P r D Ms) : PhC P r Ms := by
  obtain ⟨t, c, ss, hc, h, b, f⟩ := h
  exact ⟨t, c, ss, h, b.le (by omega) (by omega) (by omega), (f.wf hc).ne⟩
/-- a line, by segments -/
theorem ln_seg (hr : r < P) (b : Bool) : ∃ ss : List Seg, (∀ m, 3 ≤ m → evs m ss = ln b (P * m + r)) ∧ Bd P r P P 1 ss ∧ (∀ k pat, Seg.run k pat ∈ ss → pat ≠ [] ∧ pat.length = P) ∧ Wf 1 ss := by
  have one : ∀ g : Nat → Pn, (∀ e ∈ (List.range P).map (fun s => [some (g s)]), e.length = 1) ∧ ∃ e ∈ (List.range P).map (fun s => [some (g s)]), ∃ p, some p ∈ e := fun g =>
    ⟨fun e he => by obtain ⟨s, _, rfl⟩ := List.mem_map.mp he; rfl, [some (g 0)], List.mem_map.mpr ⟨0, List.mem_range.mpr (by omega), rfl⟩, g 0, List.mem_cons_self ..⟩
  cases b with
  | true =>
    refine ⟨ascS P r, fun m _ => asc_ev m, asc_bd hr, fun k pat hm => ?_, fun k pat hm => ?_⟩
    · simp [ascS] at hm
      obtain ⟨_, rfl⟩ := hm
      refine ⟨fun z => ?_, by simp⟩
      have := congrArg List.length z
      simp at this
      omega
    · simp [ascS] at hm
      obtain ⟨_, rfl⟩ := hm
      exact one _
  | false =>
    refine ⟨descS P r 0, fun m hm => desc_ev (by omega) (by omega), desc_bd (by omega), fun k pat hm => ?_, fun k pat hm => ?_⟩
    · simp [descS] at hm
      obtain ⟨_, rfl⟩ := hm
      refine ⟨fun z => ?_, by simp⟩
      have := congrArg List.length z
      simp at this
      omega
    · simp [descS] at hm
      obtain ⟨_, rfl⟩ := hm
      exact one _
theorem ln_single {b : Bool} {n : Nat} {e : En Int} (h : e ∈ ln b n) : ∃ a, e = [some a] := by
  have key : ∀ e ∈ asc n, ∃ a, e = [some a] := fun e he => by
    obtain ⟨i, _, rfl⟩ := List.mem_map.mp he
    exact ⟨_, rfl⟩
  unfold ln at h
  split at h
  · exact key e h
  · exact key e (List.mem_reverse.mp h)
theorem ln_len (b : Bool) (n : Nat) : (ln b n).length = n := by
  unfold ln asc
  split <;> simp
theorem ln_rev (b : Bool) (n : Nat) : (ln b n).reverse = ln (!b) n := by
  cases b
  · show (asc n).reverse.reverse = asc n
    rw [List.reverse_reverse]
  · rfl
theorem flatMap_id {f : En Int → List (En Int)} : ∀ X : List (En Int), (∀ e ∈ X, f e = [e]) → X.flatMap f = X
  | [], _ => rfl
  | e :: X, h => by
    rw [List.flatMap_cons, h e (List.mem_cons_self ..), flatMap_id X fun e he => h e (List.mem_cons_of_mem _ he)]
    rfl
theorem ln_mrev (b : Bool) (n : Nat) : mrev (ln b n) = ln b n := flatMap_id _ fun e he => by
  obtain ⟨a, rfl⟩ := ln_single he
  rfl
theorem ln_order (t b : Bool) (n : Nat) : order ⟨t, 1, ln b n⟩ = ln b n := by
  unfold order
  cases t with
  | true => exact flatMap_id _ fun e he => by obtain ⟨a, rfl⟩ := ln_single he; rfl
  | false =>
    show (List.range 1).flatMap (fun x => (ln b n).flatMap (lane x)) = _
    simp only [List.range_succ, List.range_zero, List.nil_append, List.flatMap_cons, List.flatMap_nil, List.append_nil]
    exact flatMap_id _ fun e he => by obtain ⟨a, rfl⟩ := ln_single he; rfl
/-! a line in k files, the first chunking -/
theorem cb_full {k c : Nat} (cb : {α : Type} → List (En α) → En α) (hcb : ∀ es : List (En Pn), es.length = k → (∀ e ∈ es, e.length = 1 ∧ ∀ o ∈ e, ∃ p, o = some p) → (cb es).length = c ∧ ∀ o ∈ cb es, ∃ p, o = some p) (hk : 0 < k) :
    ∀ (n : Nat) (pat : List (En Pn)), pat.length = k * n → (∀ e ∈ pat, e.length = 1 ∧ ∀ o ∈ e, ∃ p, o = some p) → ((chunk k pat).map cb).length = n ∧ ∀ e ∈ (chunk k pat).map cb, e.length = c ∧ ∀ o ∈ e, ∃ p, o = some p
  | 0, pat, h, _ => by
    have : pat = [] := List.eq_nil_of_length_eq_zero (by simpa using h)
    subst this
    exact ⟨rfl, fun e he => nomatch he⟩
  | n + 1, pat, h, hf => by
    have hl : k ≤ pat.length := by rw [h, Nat.mul_succ]; omega
    have hne : pat ≠ [] := fun z => by subst z; simp at hl; omega
    obtain ⟨h1, h2⟩ := cb_full cb hcb hk n (pat.drop k) (by rw [List.length_drop, h, Nat.mul_succ]; omega) fun e he => hf e (List.mem_of_mem_drop he)
    rw [chunk_eq hk hne]
    refine ⟨by rw [List.map_cons, List.length_cons, h1], fun e he => ?_⟩
    rcases List.mem_cons.mp he with rfl | he
    · exact hcb _ (by rw [List.length_take]; omega) fun e he => hf e (List.mem_of_mem_take he)
    · exact h2 e he
theorem chunk_bdB {k : Nat} (hk : 0 < k) (cb : {α : Type} → List (En α) → En α) (hs : Sub2 cb) {zl zh : Int} {K : Nat} (es : List (En Pn)) (Q : Pn → Prop) (h : ∀ e ∈ es, ∀ p, some p ∈ e → Q p) : ∀ e ∈ (chunk k es).map cb, ∀ p, some p ∈ e → Q p := fun e he p hp => by
  obtain ⟨c, hc, rfl⟩ := List.mem_map.mp he
  obtain ⟨e', h1, h2⟩ := hs c p hp
  exact h e' (chunk_mem hk _ es c e' (Nat.le_refl _) hc h1) p h2
theorem chunk_ln (hr : r < P) {k c D : Nat} (hk : 0 < k) (hkP : P = k * D) (b : Bool) (cb : {α : Type} → List (En α) → En α) (hn : Nat2 cb) (hs : Sub2 cb)
    (hcb : ∀ es : List (En Pn), es.length = k → (∀ e ∈ es, e.length = 1 ∧ ∀ o ∈ e, ∃ p, o = some p) → (cb es).length = c ∧ ∀ o ∈ cb es, ∃ p, o = some p) :
    ∃ ss : List Seg, (∀ m, 3 ≤ m → (chunk k (ln b (P * m + r))).map cb = evs m ss) ∧ Bd P r P P 1 ss ∧ Fu c D ss := by
  have hD : 0 < D := by
    rcases Nat.eq_zero_or_pos D with z | z
    · subst z; simp at hkP; omega
    · exact z
  have fullP : ∀ g : Nat → Pn, Fu c D [.run 0 ((chunk k ((List.range P).map fun s => [some (g s)])).map cb)] := fun g => by
    obtain ⟨h1, h2⟩ := cb_full cb hcb hk D ((List.range P).map fun s => [some (g s)]) (by simp [hkP]) fun e he => by
      obtain ⟨s, _, rfl⟩ := List.mem_map.mp he
      exact ⟨rfl, fun o ho => by simp at ho; exact ⟨_, ho⟩⟩
    exact .run .nil (fun z => by rw [z] at h1; simp at h1; omega) (by rw [h1]; exact Nat.dvd_refl _) h2
  have bdS : ∀ {K : Nat} (s : Seg), s.bd P r P P 1 → (match s with | .blk es => Seg.blk ((chunk k es).map cb) | .run j pat => Seg.run j ((chunk k pat).map cb)).bd P r P P 1 := fun {K} s h => by
    cases s with
    | blk es => exact chunk_bdB hk cb hs (zl := 0) (zh := 0) (K := 0) es _ h
    | run j pat => exact ⟨⟨h.1.1, h.1.2.choose, chunk_bdB hk cb hs (zl := 0) (zh := 0) (K := 0) pat _ h.1.2.choose_spec⟩, chunk_bdB hk cb hs (zl := 0) (zh := 0) (K := 0) pat _ h.2⟩
  cases b with
  | true =>
    have hb := asc_bd hr
    refine ⟨chs k cb [] (ascS P r), fun m hm => ?_, ?_, ?_⟩
    · rw [chs_ev hk cb hn m _ [] fun j pat hmem => ?_, List.map_nil, List.nil_append, asc_ev]
      · rfl
      · simp [ascS] at hmem
        obtain ⟨rfl, rfl⟩ := hmem
        refine ⟨by omega, fun z => ?_, by simp; exact ⟨D, hkP⟩⟩
        have := congrArg List.length z
        simp at this
        omega
    · unfold ascS chs
      rw [if_pos (by simp)]
      refine .cons (fun e he => nomatch he) (.cons (bdS (K := 0) (.run 0 _) (hb _ (by simp [ascS]))) ?_)
      unfold chs chs
      exact .cons (by simpa using bdS (K := 0) (.blk _) (hb _ (List.mem_cons_of_mem _ (List.mem_cons_self ..)))) .nil
    · unfold ascS chs
      rw [if_pos (by simp)]
      refine .blk ?_
      unfold chs chs
      exact Fu.append (ss := [.run 0 _]) (ts := [.blk _]) (fullP _) (.blk .nil)
  | false =>
    obtain ⟨t, ht, hrt⟩ : ∃ t, r + t ≤ P ∧ (r + t) % k = 0 := by
      refine ⟨k * ((r + k - 1) / k) - r, ?_, ?_⟩
      · have h1 : (r + k - 1) / k ≤ D := by
          have : r + k - 1 < k * D + k := by omega
          have : (r + k - 1) / k < D + 1 := (Nat.div_lt_iff_lt_mul hk).mpr (by rw [Nat.add_mul, Nat.mul_comm D k]; omega)
          omega
        have := Nat.mul_le_mul_left k h1
        omega
      · have h1 := Nat.div_add_mod (r + k - 1) k
        have h2 := Nat.mod_lt (r + k - 1) hk
        rw [show r + (k * ((r + k - 1) / k) - r) = k * ((r + k - 1) / k) by omega]
        exact Nat.mul_mod_right _ _
    have hb := desc_bd ht
    refine ⟨chs k cb [] (descS P r t), fun m hm => ?_, ?_, ?_⟩
    · rw [chs_ev hk cb hn m _ [] fun j pat hmem => ?_, List.map_nil, List.nil_append, desc_ev (by omega) (by omega)]
      · rfl
      · simp [descS] at hmem
        obtain ⟨rfl, rfl⟩ := hmem
        refine ⟨by omega, fun z => ?_, by simp; exact ⟨D, hkP⟩⟩
        have := congrArg List.length z
        simp at this
        omega
    · unfold descS chs chs
      rw [if_pos (by simpa using hrt)]
      refine .cons (by simpa using bdS (K := 0) (.blk _) (hb _ (List.mem_cons_self ..))) (.cons (bdS (K := 0) (.run 1 _) (hb _ (by simp [descS]))) ?_)
      unfold chs chs
      exact .cons (by simpa using bdS (K := 0) (.blk _) (hb _ (List.mem_cons_of_mem _ (List.mem_cons_of_mem _ (List.mem_cons_self ..))))) .nil
    · unfold descS chs chs
      rw [if_pos (by simpa using hrt)]
      refine .blk ?_
      unfold chs chs
      obtain ⟨h1, h2, h3⟩ := fullP (fun j : Nat => (⟨P, -P, -1 - t - j⟩ : Pn)) 0 _ (List.mem_singleton.mpr rfl)
      exact .run (.blk .nil) h1 h2 h3
theorem il_full1 (es : List (En Pn)) (hl : es.length = 2) (hf : ∀ e ∈ es, e.length = 1 ∧ ∀ o ∈ e, ∃ p, o = some p) : (il 1 es).length = 2 ∧ ∀ o ∈ il 1 es, ∃ p, o = some p := by
  match es, hl with
  | [a, b], _ =>
    obtain ⟨a1, a2⟩ := hf a (by simp)
    obtain ⟨b1, b2⟩ := hf b (by simp)
    obtain ⟨p, hp⟩ := full_at a2 (x := 0) (by omega)
    obtain ⟨q, hq⟩ := full_at b2 (x := 0) (by omega)
    have e : il 1 [a, b] = [some p, some q] := by
      show [(a[0]?).join, (b[0]?).join] = _
      rw [hp, hq]
    rw [e]
    exact ⟨rfl, fun o ho => by simp at ho; rcases ho with rfl | rfl <;> exact ⟨_, rfl⟩⟩
theorem jn_full {k : Nat} (es : List (En Pn)) (hl : es.length = k) (hf : ∀ e ∈ es, e.length = 1 ∧ ∀ o ∈ e, ∃ p, o = some p) : (jn k es).length = k ∧ ∀ o ∈ jn k es, ∃ p, o = some p := by
  refine ⟨jn_len _ _, fun o ho => ?_⟩
  obtain ⟨x, hx, rfl⟩ := List.mem_map.mp ho
  have hx := List.mem_range.mp hx
  have hx' : x < es.length := by omega
  obtain ⟨h1, h2⟩ := hf _ (List.getElem_mem hx')
  obtain ⟨p, hp⟩ := full_at h2 (x := 0) (by omega)
  refine ⟨p, ?_⟩
  rw [List.getElem?_eq_getElem hx']
  exact hp
/-! parity of the length -/
theorem len_par : ∀ (ss : List Seg), (∀ k pat, Seg.run k pat ∈ ss → 2 ∣ pat.length) → ∀ m m' : Nat, (evs m ss).length % 2 = (evs m' ss).length % 2
  | [], _, _, _ => rfl
  | s :: ss, h, m, m' => by
    have ih := len_par ss (fun k pat hm => h k pat (List.mem_cons_of_mem _ hm)) m m'
    rw [evs_cons, evs_cons, List.length_append, List.length_append]
    cases s with
    | blk es =>
      have e : ∀ m, ((Seg.blk es).ev m).length = es.length := fun m => by simp [Seg.ev]
      rw [e, e]
      omega
    | run k pat =>
      obtain ⟨w, hw⟩ := h k pat (List.mem_cons_self ..)
      have e : ∀ m, ((Seg.run k pat).ev m).length = 2 * ((m - k) * w) := fun m => by
        have : ((Seg.run k pat).ev m).length = (m - k) * pat.length := flatMap_len _ _ (fun q => by simp) _
        rw [this, hw, Nat.mul_left_comm]
      rw [e, e]
      omega
end
end RG

set_option Elab.async false
set_option linter.all false
set_option maxRecDepth 100000
set_option maxHeartbeats 1000000
namespace RG
open SQ
section
variable {P r : Nat}
theorem shapes_cons (w : Wd) (ws : List Wd) : shapes (w :: ws) = (if 1 < w.fac then 1 else 0) + shapes ws := by
  unfold shapes
  rw [List.filter_cons]
  by_cases h : 1 < w.fac
  · simp [h]; omega
  · simp [h]
/-! words that keep the shape -/
inductive Turn : Wd → Prop
  | right : Turn .right
  | left : Turn .left
  | about : Turn .about
  | change : Turn .change
  | wleft : Turn .wleft
  | wright : Turn .wright
/-- a turn: the list or its other way round, each entry or each one turned -/
theorem turn_form {w : Wd} (h : Turn w) (t : Bool) : ∃ (t' a b : Bool), ∀ c X, stepF w ⟨t, c, X⟩ = ⟨t', c, if a = true then (if b = true then (mrev X).reverse else X.reverse) else (if b = true then mrev X else X)⟩ := by
  cases h <;> cases t
  · exact ⟨true, false, true, fun _ _ => rfl⟩
  · exact ⟨false, true, false, fun _ _ => rfl⟩
  · exact ⟨true, true, false, fun _ _ => rfl⟩
  · exact ⟨false, false, true, fun _ _ => rfl⟩
  · exact ⟨false, true, true, fun _ _ => rfl⟩
  · exact ⟨true, true, true, fun _ _ => rfl⟩
  · exact ⟨false, false, true, fun _ _ => rfl⟩
  · exact ⟨true, true, false, fun _ _ => rfl⟩
  · exact ⟨false, false, false, fun _ _ => rfl⟩
  · exact ⟨true, false, false, fun _ _ => rfl⟩
  · exact ⟨false, false, false, fun _ _ => rfl⟩
  · exact ⟨true, false, false, fun _ _ => rfl⟩
def mrevS (ss : List Seg) : List Seg := ss.map (Seg.fm fun (e : En Pn) => [e.reverse])
theorem mrevS_ev (m : Nat) (ss : List Seg) : evs m (mrevS ss) = mrev (evs m ss) := fm_ev (fun {α} (e : En α) => [e.reverse]) mrev_nat m ss
theorem mrevS_bd {zl zh : Int} {K : Nat} {ss : List Seg} (h : Bd P r zl zh K ss) : Bd P r zl zh K (mrevS ss) := h.fm (fun {α} (e : En α) => [e.reverse]) mrev_sub
theorem mrevS_fu {c D : Nat} {ss : List Seg} (h : Fu c D ss) : Fu c D (mrevS ss) := h.fm (fun {α} (e : En α) => [e.reverse]) (w := 1) (by decide) fun e h1 h2 => ⟨rfl, fun e' he => by
  simp at he
  subst he
  exact ⟨by rw [List.length_reverse, h1], fun o ho => h2 o (List.mem_reverse.mp ho)⟩⟩
def turnS (a b : Bool) (ss : List Seg) : List Seg := if a = true then (if b = true then rvs (mrevS ss) else rvs ss) else (if b = true then mrevS ss else ss)
theorem turnS_ev (a b : Bool) (m : Nat) (ss : List Seg) : evs m (turnS a b ss) = if a = true then (if b = true then (mrev (evs m ss)).reverse else (evs m ss).reverse) else (if b = true then mrev (evs m ss) else evs m ss) := by
  cases a <;> cases b
  · rfl
  · exact mrevS_ev m ss
  · exact rvs_ev m ss
  · exact (rvs_ev m (mrevS ss)).trans (congrArg List.reverse (mrevS_ev m ss))
theorem turnS_bd {zl zh : Int} {K : Nat} {a b : Bool} {ss : List Seg} (h : Bd P r zl zh K ss) : Bd P r zl zh K (turnS a b ss) := by
  cases a <;> cases b
  · exact h
  · exact mrevS_bd h
  · exact h.rvs
  · exact (mrevS_bd h).rvs
theorem turnS_fu {c D : Nat} {a b : Bool} {ss : List Seg} (h : Fu c D ss) : Fu c D (turnS a b ss) := by
  cases a <;> cases b
  · exact h
  · exact mrevS_fu h
  · exact h.rvs
  · exact (mrevS_fu h).rvs
theorem NE.rvs {ss : List Seg} (h : NE ss) : NE (rvs ss) := fun k pat hm hp => by
  unfold RG.rvs at hm
  rw [List.mem_reverse] at hm
  obtain ⟨s, hs, e⟩ := List.mem_map.mp hm
  cases s with
  | blk es => cases e
  | run j p =>
    cases e
    obtain ⟨e, he, q, hq⟩ := h _ _ hs (fun z => hp (by rw [z]; rfl))
    exact ⟨_, List.mem_map.mpr ⟨e, List.mem_reverse.mpr he, rfl⟩, _, List.mem_map.mpr ⟨_, hq, rfl⟩⟩
theorem NE.mrevS {ss : List Seg} (h : NE ss) : NE (mrevS ss) := fun k pat hm hp => by
  obtain ⟨s, hs, e⟩ := List.mem_map.mp hm
  cases s with
  | blk es => cases e
  | run j p =>
    cases e
    obtain ⟨e, he, q, hq⟩ := h _ _ hs (fun z => hp (by rw [z]; rfl))
    exact ⟨e.reverse, List.mem_flatMap.mpr ⟨e, he, List.mem_cons_self ..⟩, q, List.mem_reverse.mpr hq⟩
theorem NE.turnS {a b : Bool} {ss : List Seg} (h : NE ss) : NE (turnS a b ss) := by
  unfold RG.turnS
  cases a <;> cases b
  · exact h
  · exact h.mrevS
  · exact h.rvs
  · exact h.mrevS.rvs
theorem PhC.turn {Ms : Nat → Fm} {w : Wd} (hw : Turn w) (h : PhC P r Ms) : PhC P r fun m => stepF w (Ms m) := by
  obtain ⟨t, c, ss, h, b, ne⟩ := h
  obtain ⟨t', x, y, e⟩ := turn_form hw t
  exact ⟨t', c, turnS x y ss, fun m hm => by dsimp only; rw [h m hm, e, turnS_ev], turnS_bd b, ne.turnS⟩
theorem PhB.turn {D : Nat} {Ms : Nat → Fm} {w : Wd} (hw : Turn w) (h : PhB P r D Ms) : PhB P r D fun m => stepF w (Ms m) := by
  obtain ⟨t, c, ss, hc, h, b, f⟩ := h
  obtain ⟨t', x, y, e⟩ := turn_form hw t
  exact ⟨t', c, turnS x y ss, hc, fun m hm => by dsimp only; rw [h m hm, e, turnS_ev], turnS_bd b, turnS_fu f⟩
theorem PhA.turn {Ms : Nat → Fm} {w : Wd} (hw : Turn w) (h : PhA P r Ms) : PhA P r fun m => stepF w (Ms m) := by
  obtain ⟨t, b, h⟩ := h
  obtain ⟨t', x, y, e⟩ := turn_form hw t
  refine ⟨t', if x = true then !b else b, fun m hm => ?_⟩
  dsimp only
  rw [h m hm, e]
  cases x <;> cases y <;> simp [ln_mrev, ln_rev]
theorem hs_single (d : Bool) {X : List (En Int)} (hX : ∀ e ∈ X, ∃ a, e = [some a]) : ∀ e ∈ X.flatMap (hs d), e.reverse = e := fun e he => by
  obtain ⟨e0, h0, he⟩ := List.mem_flatMap.mp he
  obtain ⟨a, rfl⟩ := hX e0 h0
  rw [hs_one] at he
  cases d <;> simp at he <;> rcases he with rfl | rfl <;> rfl
theorem hs_mrev (d : Bool) (b : Bool) (n : Nat) : mrev ((ln b n).flatMap (hs d)) = (ln b n).flatMap (hs d) := flatMap_id _ fun e he => by
  rw [hs_single d (fun e he => ln_single he) e he]
theorem flatMap_rev {α β : Type} (f : α → List β) : ∀ X : List α, (X.flatMap f).reverse = X.reverse.flatMap fun x => (f x).reverse
  | [] => rfl
  | x :: X => by
    rw [List.flatMap_cons, List.reverse_append, flatMap_rev f X, List.reverse_cons, List.flatMap_append]
    simp
theorem hs_rev (d : Bool) (b : Bool) (n : Nat) : ((ln b n).flatMap (hs d)).reverse = (ln (!b) n).flatMap (hs (!d)) := by
  rw [flatMap_rev, ln_rev]
  congr 1
  funext e
  cases d
  · show (sp 1 e).reverse.reverse = sp 1 e
    rw [List.reverse_reverse]
  · rfl
theorem PhH.turn {Ms : Nat → Fm} {w : Wd} (hw : Turn w) (h : PhH P r Ms) : PhH P r fun m => stepF w (Ms m) := by
  obtain ⟨t, b, d, h⟩ := h
  obtain ⟨t', x, y, e⟩ := turn_form hw t
  refine ⟨t', if x = true then !b else b, if x = true then !d else d, fun m hm => ?_⟩
  dsimp only
  rw [h m hm, e]
  cases x <;> cases y <;> simp [hs_mrev, hs_rev]
/-! line -/
theorem hs_order (t b d : Bool) (n : Nat) : order ⟨t, 1, (ln b n).flatMap (hs d)⟩ = ln b n := by
  unfold order
  cases t with
  | true =>
    show ((ln b n).flatMap (hs d)).flatMap fl = _
    rw [List.flatMap_assoc]
    refine flatMap_id _ fun e he => ?_
    obtain ⟨a, rfl⟩ := ln_single he
    cases d <;> rfl
  | false =>
    show (List.range 1).flatMap (fun x => ((ln b n).flatMap (hs d)).flatMap (lane x)) = _
    simp only [List.range_succ, List.range_zero, List.nil_append, List.flatMap_cons, List.flatMap_nil, List.append_nil]
    rw [List.flatMap_assoc]
    refine flatMap_id _ fun e he => ?_
    obtain ⟨a, rfl⟩ := ln_single he
    cases d <;> rfl
theorem PhA.line {Ms : Nat → Fm} (h : PhA P r Ms) : PhA P r fun m => stepF .line (Ms m) := by
  obtain ⟨t, b, h⟩ := h
  refine ⟨false, b, fun m hm => ?_⟩
  dsimp only
  rw [h m hm]
  show (⟨false, 1, order _⟩ : Fm) = _
  rw [ln_order]
theorem PhH.line {Ms : Nat → Fm} (h : PhH P r Ms) : PhA P r fun m => stepF .line (Ms m) := by
  obtain ⟨t, b, d, h⟩ := h
  refine ⟨false, b, fun m hm => ?_⟩
  dsimp only
  rw [h m hm]
  show (⟨false, 1, order _⟩ : Fm) = _
  rw [hs_order]
theorem PhB.line {D : Nat} {Ms : Nat → Fm} (h : PhB P r D Ms) : PhB P r D fun m => stepF .line (Ms m) := by
  obtain ⟨t, c, ss, hc, h, b, f⟩ := h
  refine ⟨false, 1, orderS t c ss, by decide, fun m hm => ?_, orderS_bd b, orderS_fu hc f⟩
  dsimp only
  rw [h m hm]
  show (⟨false, 1, order _⟩ : Fm) = _
  rw [orderS_ev]
theorem NE.of_single {ss : List Seg} {f : {α : Type} → En α → List (En α)} (hf : ∀ e e' : En Pn, e' ∈ f e → ∃ p, e' = [some p]) : NE (ss.map (Seg.fm f)) := fun k pat hm hp => by
  obtain ⟨s, hs, e⟩ := List.mem_map.mp hm
  cases s with
  | blk es => cases e
  | run j p =>
    cases e
    cases hc : p.flatMap f with
    | nil => exact absurd hc hp
    | cons e' r =>
      obtain ⟨e0, he0, he'⟩ := List.mem_flatMap.mp (show e' ∈ p.flatMap f by rw [hc]; exact List.mem_cons_self ..)
      obtain ⟨q, rfl⟩ := hf e0 e' he'
      exact ⟨_, List.mem_cons_self .., q, List.mem_cons_self ..⟩
theorem NE.orderS (t : Bool) (c : Nat) (ss : List Seg) : NE (orderS t c ss) := by
  unfold RG.orderS
  cases t with
  | true =>
    refine NE.of_single fun e e' he => ?_
    obtain ⟨p, _, rfl⟩ := List.mem_map.mp he
    exact ⟨p, rfl⟩
  | false =>
    intro k pat hm hp
    obtain ⟨x, _, hm⟩ := List.mem_flatMap.mp hm
    refine NE.of_single (f := lane x) (fun e e' he => ?_) k pat hm hp
    unfold lane at he
    cases h2 : (e[x]?).join with
    | none => rw [h2] at he; cases he
    | some q =>
      rw [h2] at he
      simp at he
      exact ⟨q, he⟩
theorem PhC.line {Ms : Nat → Fm} (h : PhC P r Ms) : PhC P r fun m => stepF .line (Ms m) := by
  obtain ⟨t, c, ss, h, b, _⟩ := h
  refine ⟨false, 1, orderS t c ss, fun m hm => ?_, orderS_bd b, NE.orderS t c ss⟩
  dsimp only
  rw [h m hm]
  show (⟨false, 1, order _⟩ : Fm) = _
  rw [orderS_ev]
/-! columns, from a line -/
theorem col_line (hr : r < P) {k D : Nat} (hk : 0 < k) (hP : P = k * D) {Ms : Nat → Fm} {b : Bool} (h : ∀ m, 3 ≤ m → order (Ms m) = ln b (P * m + r)) : PhB P r D fun m => ⟨true, k, (chunk k (order (Ms m))).map (jn k)⟩ := by
  obtain ⟨ss, h1, h2, h3⟩ := chunk_ln hr hk hP b (jn k) (jn_nat k) (jn_sub k) (c := k) fun es hl hf => jn_full es hl hf
  exact ⟨true, k, ss, hk, fun m hm => by dsimp only; rw [h m hm, h1 m hm], h2, h3⟩
/-- no person is lost -/
def Kp (k c : Nat) (cb : {α : Type} → List (En α) → En α) : Prop := ∀ es : List (En Pn), es.length ≤ k → (∀ e ∈ es, e.length = c) → ∀ e ∈ es, ∀ p, some p ∈ e → some p ∈ cb es
theorem mem_at {α : Type} {e : En α} {p : α} (h : some p ∈ e) : ∃ x, x < e.length ∧ (e[x]?).join = some p := by
  obtain ⟨x, hx⟩ := List.mem_iff_getElem?.mp h
  exact ⟨x, (List.getElem?_eq_some_iff.mp hx).1, by rw [hx]; rfl⟩
theorem il_kp (c : Nat) : Kp 2 c (il c) := fun es hl hc e he p hp => by
  obtain ⟨y, hy⟩ := List.mem_iff_getElem?.mp he
  have hy2 : y < es.length := (List.getElem?_eq_some_iff.mp hy).1
  obtain ⟨x, hx, q⟩ := mem_at hp
  have hxc := hc e he
  refine List.mem_map.mpr ⟨2 * x + y, List.mem_range.mpr (by omega), ?_⟩
  rw [show (2 * x + y) % 2 = y by omega, show (2 * x + y) / 2 = x by omega, hy]
  exact q
theorem jn_kp (k : Nat) : Kp k 1 (jn k) := fun es hl hc e he p hp => by
  obtain ⟨y, hy⟩ := List.mem_iff_getElem?.mp he
  have hy2 : y < es.length := (List.getElem?_eq_some_iff.mp hy).1
  obtain ⟨x, hx, q⟩ := mem_at hp
  have hxc := hc e he
  have : x = 0 := by omega
  subst this
  refine List.mem_map.mpr ⟨y, List.mem_range.mpr (by omega), ?_⟩
  rw [hy]
  exact q
theorem chunk_mm {α : Type} {k : Nat} (hk : 0 < k) : ∀ (n : Nat) (xs : List α), xs.length ≤ n → (∀ x ∈ xs, ∃ c ∈ chunk k xs, x ∈ c) ∧ ∀ c ∈ chunk k xs, c.length ≤ k ∧ ∀ x ∈ c, x ∈ xs
  | 0, xs, h => by
    have : xs = [] := List.eq_nil_of_length_eq_zero (by omega)
    subst this
    exact ⟨fun x hx => (by cases hx), fun c hc => (by cases hc)⟩
  | n + 1, xs, h => by
    by_cases hx : xs = []
    · subst hx
      exact ⟨fun x hx => (by cases hx), fun c hc => (by cases hc)⟩
    · have h0 : 0 < xs.length := List.length_pos_iff.mpr hx
      obtain ⟨i1, i2⟩ := chunk_mm hk n (xs.drop k) (by rw [List.length_drop]; omega)
      rw [chunk_eq hk hx]
      refine ⟨fun x hxm => ?_, fun c hc => ?_⟩
      · rw [← List.take_append_drop k xs] at hxm
        rcases List.mem_append.mp hxm with z | z
        · exact ⟨_, List.mem_cons_self .., z⟩
        · obtain ⟨c, h1, h2⟩ := i1 x z
          exact ⟨c, List.mem_cons_of_mem _ h1, h2⟩
      · rcases List.mem_cons.mp hc with rfl | z
        · exact ⟨by rw [List.length_take]; omega, fun x h => List.mem_of_mem_take h⟩
        · exact ⟨(i2 c z).1, fun x h => List.mem_of_mem_drop ((i2 c z).2 x h)⟩
theorem chunk_ne {k c : Nat} (hk : 0 < k) (cb : {α : Type} → List (En α) → En α) (hc : Kp k c cb) {pat : List (En Pn)} (h1 : ∀ e ∈ pat, e.length = c) {e : En Pn} {p : Pn} (he : e ∈ pat) (hp : some p ∈ e) : ∃ e ∈ (chunk k pat).map cb, ∃ p, some p ∈ e := by
  obtain ⟨i1, i2⟩ := chunk_mm hk _ pat (Nat.le_refl _)
  obtain ⟨es, h2, h3⟩ := i1 e he
  obtain ⟨h4, h5⟩ := i2 es h2
  exact ⟨cb es, List.mem_map.mpr ⟨es, h2, rfl⟩, p, hc es h4 (fun e' he' => h1 e' (h5 e' he')) e h3 p hp⟩
theorem NE.chs {k c : Nat} (hk : 0 < k) (cb : {α : Type} → List (En α) → En α) (hc : Kp k c cb) : ∀ (ss : List Seg) (acc : List (En Pn)), Wf c ss → NE (chs k cb acc ss)
  | [], acc, _ => fun j pat hm _ => by simp [RG.chs] at hm
  | .blk es :: ss, acc, h => NE.chs hk cb hc ss (acc ++ es) fun j pat hm => h j pat (List.mem_cons_of_mem _ hm)
  | .run j pat :: ss, acc, h => by
    have h' : Wf c ss := fun j pat hm => h j pat (List.mem_cons_of_mem _ hm)
    obtain ⟨h1, e, he, p, hp⟩ := h j pat (List.mem_cons_self ..)
    unfold RG.chs
    split
    · intro j' pat' hm hne
      rcases List.mem_cons.mp hm with z | hm
      · cases z
      · rcases List.mem_cons.mp hm with z | hm
        · cases z
          exact chunk_ne hk cb hc h1 he hp
        · exact NE.chs hk cb hc ss _ h' j' pat' hm hne
    · intro j' pat' hm hne
      rcases List.mem_cons.mp hm with z | hm
      · cases z
      · rcases List.mem_cons.mp hm with z | hm
        · cases z
          have hl : ∀ e ∈ pat.drop (k - acc.length % k) ++ (pat.take (k - acc.length % k)).map (emap Pn.sh), e.length = c := fun e he => by
            rcases List.mem_append.mp he with z | z
            · exact h1 e (List.mem_of_mem_drop z)
            · obtain ⟨e0, h3, rfl⟩ := List.mem_map.mp z
              rw [emap, List.length_map]
              exact h1 e0 (List.mem_of_mem_take h3)
          have hm2 : e ∈ pat.take (k - acc.length % k) ++ pat.drop (k - acc.length % k) := by rw [List.take_append_drop]; exact he
          rcases List.mem_append.mp hm2 with z | z
          · exact chunk_ne hk cb hc hl (List.mem_append.mpr (.inr (List.mem_map.mpr ⟨e, z, rfl⟩))) (p := p.sh) (List.mem_map.mpr ⟨_, hp, rfl⟩)
          · exact chunk_ne hk cb hc hl (List.mem_append.mpr (.inl z)) hp
        · exact NE.chs hk cb hc ss _ h' j' pat' hm hne
theorem sp_ne {c : Nat} {ss : List Seg} (h : Wf c ss) : NE (ss.map (Seg.fm (sp c))) := fun k pat hm _ => by
  obtain ⟨s, hs, e⟩ := List.mem_map.mp hm
  cases s with
  | blk es => cases e
  | run j pt =>
    cases e
    obtain ⟨h1, e, he, p, hp⟩ := h _ _ hs
    obtain ⟨x, hx, q⟩ := mem_at hp
    have hec := h1 e he
    rcases Nat.mod_two_eq_zero_or_one x with z | z
    · refine ⟨(List.range ((c + 1) / 2)).map fun j => (e[2 * j]?).join, List.mem_flatMap.mpr ⟨e, he, List.mem_cons_self ..⟩, p, List.mem_map.mpr ⟨x / 2, List.mem_range.mpr (by omega), ?_⟩⟩
      rw [show 2 * (x / 2) = x by omega]
      exact q
    · refine ⟨(List.range ((c + 1) / 2)).map fun j => (e[2 * j + 1]?).join, List.mem_flatMap.mpr ⟨e, he, List.mem_cons_of_mem _ (List.mem_cons_self ..)⟩, p, List.mem_map.mpr ⟨x / 2, List.mem_range.mpr (by omega), ?_⟩⟩
      rw [show 2 * (x / 2) + 1 = x by omega]
      exact q
theorem chs_C {k D c : Nat} (hk : 0 < k) (hP : 0 < P) (cb : {α : Type} → List (En α) → En α) (hn : Nat2 cb) (hs : Sub2 cb) (hc : Kp k c cb) {ss : List Seg} (hw : Wf c ss) (hb : Bd P r P P 1 ss) (hl : ∀ j pat, Seg.run j pat ∈ ss → pat ≠ [] ∧ k ∣ pat.length) :
    ∃ ts, (∀ m, 3 ≤ m → (chunk k (evs m ss)).map cb = evs m ts) ∧ Bd P r (2 * P) (2 * P) 2 ts ∧ NE ts := by
  refine ⟨chs k cb [] ss, fun m hm => ?_, ?_, NE.chs hk cb hc ss [] hw⟩
  · rw [chs_ev hk cb hn m ss [] fun j pat hmem => ⟨by have := (hb _ hmem).1; omega, hl j pat hmem⟩]
    rfl
  · exact (chs_bd hk (by omega) cb hs ss [] hb fun e he => nomatch he).le (by omega) (by omega) (by omega)
theorem col_B (hP : 0 < P) {k D : Nat} (hk : 0 < k) (hD : k ∣ D) {Ms : Nat → Fm} (h : PhB P r D Ms) : PhC P r fun m => ⟨true, k, (chunk k (order (Ms m))).map (jn k)⟩ := by
  obtain ⟨t, c, ss, hc, h, b, f⟩ := h
  have f1 := orderS_fu (t := t) hc f
  obtain ⟨ts, h1, h2⟩ := chs_C (D := D) hk hP (jn k) (jn_nat k) (jn_sub k) (jn_kp k) (f1.wf (by decide)) (orderS_bd (t := t) (c := c) b) fun j pat hm => ⟨(f1 j pat hm).1, Nat.dvd_trans hD (f1 j pat hm).2.1⟩
  exact ⟨true, k, ts, fun m hm => by dsimp only; rw [h m hm, ← orderS_ev, h1 m hm], h2⟩
/-! double and undouble -/
theorem fmsp_C {c : Nat} {ss : List Seg} (b : Bd P r P P 1 ss) : Bd P r (2 * P) (2 * P) 2 (ss.map (Seg.fm (sp c))) := (b.fm (sp c) (sp_sub c)).le (by omega) (by omega) (by omega)
theorem double_seg (hP : 0 < P) {t : Bool} {c : Nat} {ss : List Seg} {Ms : Nat → Fm} (h : ∀ m, 3 ≤ m → Ms m = ⟨t, c, evs m ss⟩) (hw : Wf c ss) (b : Bd P r P P 1 ss) (hl : ∀ j pat, Seg.run j pat ∈ ss → pat ≠ [] ∧ 2 ∣ pat.length) : PhC P r fun m => stepF .double (Ms m) := by
  cases t with
  | true =>
    refine ⟨true, (c + 1) / 2, _, fun m hm => ?_, fmsp_C (c := c) b, sp_ne hw⟩
    dsimp only
    rw [h m hm, fm_ev (sp c) (sp_nat c)]
    rfl
  | false =>
    obtain ⟨ts, h1, h2⟩ := chs_C (D := 1) (by decide) hP (il c) (il_nat c) (il_sub c) (il_kp c) hw b hl
    refine ⟨false, 2 * c, ts, fun m hm => ?_, h2⟩
    dsimp only
    rw [h m hm, ← h1 m hm]
    rfl
theorem undouble_seg (hP : 0 < P) {t : Bool} {c : Nat} {ss : List Seg} {Ms : Nat → Fm} (h : ∀ m, 3 ≤ m → Ms m = ⟨t, c, evs m ss⟩) (hw : Wf c ss) (b : Bd P r P P 1 ss) (hl : ∀ j pat, Seg.run j pat ∈ ss → pat ≠ [] ∧ 2 ∣ pat.length) : PhC P r fun m => stepF .undouble (Ms m) := by
  cases t with
  | true =>
    by_cases hp : (evs 3 ss).length % 2 = 0
    · obtain ⟨ts, h1, h2⟩ := chs_C (D := 1) (by decide) hP (il c) (il_nat c) (il_sub c) (il_kp c) hw b hl
      refine ⟨true, 2 * c, ts, fun m hm => ?_, h2⟩
      have hpm : (evs m ss).length % 2 = 0 := by rw [len_par ss (fun k pat hm => (hl k pat hm).2) m 3]; exact hp
      dsimp only
      rw [h m hm, ← h1 m hm]
      show (if (evs m ss).length % 2 = 0 then (⟨true, 2 * c, (chunk 2 (evs m ss)).map (il c)⟩ : Fm) else _) = _
      rw [if_pos hpm]
    · refine ⟨true, c, ss, fun m hm => ?_, b.le (by omega) (by omega) (by omega), hw.ne⟩
      have hpm : ¬ (evs m ss).length % 2 = 0 := by rw [len_par ss (fun k pat hm => (hl k pat hm).2) m 3]; exact hp
      dsimp only
      rw [h m hm]
      show (if (evs m ss).length % 2 = 0 then _ else (⟨true, c, evs m ss⟩ : Fm)) = _
      rw [if_neg hpm]
  | false =>
    by_cases hp : c % 2 = 0
    · refine ⟨false, c / 2, _, fun m hm => ?_, fmsp_C (c := c) b, sp_ne hw⟩
      dsimp only
      rw [h m hm, fm_ev (sp c) (sp_nat c)]
      show (if c % 2 = 0 then (⟨false, c / 2, (evs m ss).flatMap (sp c)⟩ : Fm) else _) = _
      rw [if_pos hp]
    · refine ⟨false, c, ss, fun m hm => ?_, b.le (by omega) (by omega) (by omega), hw.ne⟩
      dsimp only
      rw [h m hm]
      show (if c % 2 = 0 then _ else (⟨false, c, evs m ss⟩ : Fm)) = _
      rw [if_neg hp]
theorem H_seg (hr : r < P) {Ms : Nat → Fm} (h : PhH P r Ms) : ∃ t ss, (∀ m, 3 ≤ m → Ms m = ⟨t, 1, evs m ss⟩) ∧ Bd P r P P 1 ss ∧ (∀ j pat, Seg.run j pat ∈ ss → pat ≠ [] ∧ 2 ∣ pat.length) ∧ Wf 1 ss := by
  obtain ⟨t, b, d, h⟩ := h
  obtain ⟨ss, h1, h2, h3, hw⟩ := ln_seg hr b
  refine ⟨t, ss.map (Seg.fm (hs d)), fun m hm => by rw [h m hm, fm_ev (hs d) (hs_nat d), h1 m hm], h2.fm (hs d) (hs_sub d), fun j pat hm => ?_, fun j pat hm => ?_⟩
  rotate_left
  · obtain ⟨s, hs1, e⟩ := List.mem_map.mp hm
    cases s with
    | blk es => cases e
    | run k p =>
      cases e
      obtain ⟨h4, e, he, q, hq⟩ := hw _ _ hs1
      refine ⟨fun e' he' => ?_, ?_⟩
      · obtain ⟨e0, h5, h6⟩ := List.mem_flatMap.mp he'
        have h7 := h4 e0 h5
        unfold hs sp at h6
        cases d <;> simp at h6 <;> rcases h6 with rfl | rfl <;> rfl
      · have he1 := h4 e he
        match e, he1 with
        | [o], _ =>
          have : o = some q := (List.mem_singleton.mp hq).symm
          subst this
          have h8 : [some q] ∈ hs d [some q] := by rw [hs_one]; cases d <;> simp
          exact ⟨[some q], List.mem_flatMap.mpr ⟨_, he, h8⟩, q, List.mem_cons_self ..⟩
  obtain ⟨s, hs1, e⟩ := List.mem_map.mp hm
  cases s with
  | blk es => cases e
  | run k p =>
    cases e
    obtain ⟨h4, h5⟩ := h3 _ _ hs1
    have hl := flatMap_const_len (fun e => hs d e) 2 p fun e _ => by unfold hs; cases d <;> rfl
    have hp : 0 < p.length := List.length_pos_iff.mpr h4
    exact ⟨fun z => by rw [z] at hl; simp at hl; omega, ⟨p.length, by rw [hl, Nat.mul_comm]⟩⟩
theorem ph_step (hr : r < P) {w : Wd} {ws : List Wd} {Ms : Nat → Fm} (h : Ph P r (w :: ws) Ms) : Ph P r ws fun m => stepF w (Ms m) := by
  have hP : 0 < P := by omega
  unfold Ph at h
  rw [shapes_cons, pOf_cons] at h
  have turn : Turn w → w.fac = 1 → Ph P r ws fun m => stepF w (Ms m) := fun ht hf => by
    rw [hf, Nat.one_mul, if_neg (by decide), Nat.zero_add] at h
    rcases h with ⟨h, a, b⟩ | ⟨h, a, b⟩ | ⟨D, h, a, b⟩ | ⟨h, a⟩
    · exact .inl ⟨h.turn ht, a, b⟩
    · exact .inr (.inl ⟨h.turn ht, a, b⟩)
    · exact .inr (.inr (.inl ⟨D, h.turn ht, a, b⟩))
    · exact .inr (.inr (.inr ⟨h.turn ht, a⟩))
  have col : ∀ k, w.fac = k → 1 < k → (∀ M, stepF w M = ⟨true, k, (chunk k (order M)).map (jn k)⟩) → Ph P r ws fun m => stepF w (Ms m) := fun k hf hk he => by
    have hk0 : 0 < k := by omega
    rw [hf, if_pos hk] at h
    simp only [he]
    rcases h with ⟨h, a, D, b⟩ | ⟨h, a, D, b⟩ | ⟨D, h, a, b⟩ | ⟨h, a⟩
    · obtain ⟨t, bb, h⟩ := h
      exact .inr (.inr (.inl ⟨pOf ws * D, col_line hr hk0 (by rw [b, Nat.mul_assoc]) (b := bb) fun m hm => by rw [h m hm, ln_order], by omega, Nat.dvd_mul_right _ _⟩))
    · obtain ⟨t, bb, d, h⟩ := h
      exact .inr (.inr (.inl ⟨pOf ws * D, col_line hr hk0 (by rw [b, Nat.mul_assoc]) (b := bb) fun m hm => by rw [h m hm, hs_order], by omega, Nat.dvd_mul_right _ _⟩))
    · exact .inr (.inr (.inr ⟨col_B hP hk0 (Nat.dvd_trans (Nat.dvd_mul_right _ _) b) h, by omega⟩))
    · omega
  cases w with
  | right => exact turn .right rfl
  | left => exact turn .left rfl
  | about => exact turn .about rfl
  | change => exact turn .change rfl
  | wleft => exact turn .wleft rfl
  | wright => exact turn .wright rfl
  | line =>
    rw [show Wd.line.fac = 1 from rfl, Nat.one_mul, if_neg (by decide), Nat.zero_add] at h
    rcases h with ⟨h, a, b⟩ | ⟨h, a, b⟩ | ⟨D, h, a, b⟩ | ⟨h, a⟩
    · exact .inl ⟨h.line, a, b⟩
    · exact .inl ⟨h.line, by omega, b⟩
    · exact .inr (.inr (.inl ⟨D, h.line, a, b⟩))
    · exact .inr (.inr (.inr ⟨h.line, a⟩))
  | col2 => exact col 2 rfl (by decide) fun M => rfl
  | col3 => exact col 3 rfl (by decide) fun M => rfl
  | double =>
    rw [show Wd.double.fac = 2 from rfl, if_pos (by decide)] at h
    rcases h with ⟨h, a, D, b⟩ | ⟨h, a, b⟩ | ⟨D, h, a, b⟩ | ⟨h, a⟩
    · obtain ⟨t, bb, h⟩ := h
      cases t with
      | true =>
        refine .inr (.inl ⟨⟨true, bb, true, fun m hm => ?_⟩, by omega, by rw [b]; exact ⟨2 * D, by rw [Nat.mul_comm 2 (pOf ws), Nat.mul_assoc]⟩⟩)
        dsimp only
        rw [h m hm]
        have e : (fun e : En Int => hs true e) = fun e : En Int => sp 1 e := funext fun e => by unfold hs; rw [if_pos rfl]
        show (⟨true, (1 + 1) / 2, (ln bb (P * m + r)).flatMap fun e => sp 1 e⟩ : Fm) = ⟨true, 1, (ln bb (P * m + r)).flatMap fun e => hs true e⟩
        rw [e]
      | false =>
        obtain ⟨ss, h1, h2, h3⟩ := chunk_ln hr (k := 2) (c := 2) (by decide) (D := pOf ws * D) (by rw [b, Nat.mul_assoc]) bb (il 1) (il_nat 1) (il_sub 1) il_full1
        refine .inr (.inr (.inl ⟨pOf ws * D, ⟨false, 2, ss, by decide, fun m hm => ?_, h2, h3⟩, by omega, Nat.dvd_mul_right _ _⟩))
        dsimp only
        rw [h m hm, ← h1 m hm]
        rfl
    · obtain ⟨t, ss, h1, h2, h3, hw⟩ := H_seg hr h
      exact .inr (.inr (.inr ⟨double_seg hP h1 hw h2 h3, by omega⟩))
    · obtain ⟨t, c, ss, hc, h1, h2, h3⟩ := h
      exact .inr (.inr (.inr ⟨double_seg hP h1 (h3.wf hc) h2 fun j pat hm => ⟨(h3 j pat hm).1, Nat.dvd_trans (Nat.dvd_trans (Nat.dvd_mul_right _ _) b) (h3 j pat hm).2.1⟩, by omega⟩))
    · omega
  | undouble =>
    rw [show Wd.undouble.fac = 2 from rfl, if_pos (by decide)] at h
    rcases h with ⟨h, a, D, b⟩ | ⟨h, a, b⟩ | ⟨D, h, a, b⟩ | ⟨h, a⟩
    · obtain ⟨t, bb, h⟩ := h
      have hb2 : pOf ws ∣ P := by rw [b]; exact ⟨2 * D, by rw [Nat.mul_comm 2 (pOf ws), Nat.mul_assoc]⟩
      cases t with
      | true =>
        by_cases hp : r % 2 = 0
        · obtain ⟨ss, h1, h2, h3⟩ := chunk_ln hr (k := 2) (c := 2) (by decide) (D := pOf ws * D) (by rw [b, Nat.mul_assoc]) bb (il 1) (il_nat 1) (il_sub 1) il_full1
          refine .inr (.inr (.inl ⟨pOf ws * D, ⟨true, 2, ss, by decide, fun m hm => ?_, h2, h3⟩, by omega, Nat.dvd_mul_right _ _⟩))
          dsimp only
          rw [h m hm, ← h1 m hm]
          show (if (ln bb (P * m + r)).length % 2 = 0 then (⟨true, 2 * 1, (chunk 2 (ln bb (P * m + r))).map (il 1)⟩ : Fm) else _) = _
          rw [if_pos]
          rw [ln_len, show P * m = 2 * (pOf ws * D * m) by rw [b]; simp only [Nat.mul_assoc]]
          omega
        · refine .inl ⟨⟨true, bb, fun m hm => ?_⟩, by omega, hb2⟩
          dsimp only
          rw [h m hm]
          show (if (ln bb (P * m + r)).length % 2 = 0 then _ else (⟨true, 1, ln bb (P * m + r)⟩ : Fm)) = _
          rw [if_neg]
          rw [ln_len, show P * m = 2 * (pOf ws * D * m) by rw [b]; simp only [Nat.mul_assoc]]
          omega
      | false =>
        refine .inl ⟨⟨false, bb, fun m hm => ?_⟩, by omega, hb2⟩
        dsimp only
        rw [h m hm]
        rfl
    · obtain ⟨t, ss, h1, h2, h3, hw⟩ := H_seg hr h
      exact .inr (.inr (.inr ⟨undouble_seg hP h1 hw h2 h3, by omega⟩))
    · obtain ⟨t, c, ss, hc, h1, h2, h3⟩ := h
      exact .inr (.inr (.inr ⟨undouble_seg hP h1 (h3.wf hc) h2 fun j pat hm => ⟨(h3 j pat hm).1, Nat.dvd_trans (Nat.dvd_trans (Nat.dvd_mul_right _ _) b) (h3 j pat hm).2.1⟩, by omega⟩))
    · omega
theorem ph_fold (hr : r < P) : ∀ (ws : List Wd) {Ms : Nat → Fm}, Ph P r ws Ms → Ph P r [] fun m => ws.foldl (fun M w => stepF w M) (Ms m)
  | [], _, h => h
  | w :: ws, _, h => ph_fold hr ws (ph_step hr h)
theorem ph_end (hr : r < P) {Ms : Nat → Fm} (h : Ph P r [] Ms) : PhC P r Ms := by
  rcases h with ⟨h, _⟩ | ⟨h, _⟩ | ⟨D, h, _⟩ | ⟨h, _⟩
  · obtain ⟨t, b, h⟩ := h
    obtain ⟨ss, h1, h2, _, hw⟩ := ln_seg hr b
    exact ⟨t, 1, ss, fun m hm => by rw [h m hm, h1 m hm], h2.le (by omega) (by omega) (by omega), hw.ne⟩
  · obtain ⟨t, ss, h1, h2, _, hw⟩ := H_seg hr h
    exact ⟨t, 1, ss, h1, h2.le (by omega) (by omega) (by omega), hw.ne⟩
  · exact h.toC
  · exact h
/-- THE FORM of a row's formations, n = P * m + r -/
theorem row_form (hr : r < P) {ws : List Wd} (hs : shapes ws ≤ 2) (hd : pOf ws ∣ P) : PhC P r fun m => fmOf ws (P * m + r) :=
  ph_end hr (ph_fold hr ws (.inl ⟨⟨false, true, fun m _ => rfl⟩, hs, hd⟩))
end
end RG

set_option Elab.async false
set_option linter.all false
set_option maxRecDepth 100000
set_option maxHeartbeats 1000000
namespace RG
open SQ
/-! ### families of squads that grow evenly -/
def plc (s : Sq) (i : Nat) : Int × Int := match s.2.2[i]? with
  | some p => ((p.1 : Int), (p.2 : Int))
  | none => (0, 0)
theorem plc_some {s : Sq} {i : Nat} {p : Nat × Nat} (h : s.2.2[i]? = some p) : plc s i = ((p.1 : Int), (p.2 : Int)) := by
  unfold plc
  rw [h]
/-- S m: the squad of L * m + r; from the sixth on it grows evenly -/
structure Rgl (L r : Nat) (S : Nat → Sq) : Prop where
  len : ∀ m, (S m).2.2.length = L * m + r
  size : ∃ a b c d : Int, ∀ m : Nat, 6 ≤ m → ((S m).1 : Int) = a * m + b ∧ ((S m).2.1 : Int) = c * m + d
  low : ∀ i, i < 2 * L → ∃ a b c d : Int, ∀ m : Nat, 6 ≤ m → plc (S m) i = (a * m + b, c * m + d)
  high : ∀ j, j < 2 * L → ∃ a b c d : Int, ∀ m : Nat, 6 ≤ m → plc (S m) (L * m + r - 1 - j) = (a * m + b, c * m + d)
  mid : ∀ i, 2 * L ≤ i → i < 3 * L → ∃ a b g c d h : Int, ∀ m w : Nat, 6 ≤ m → i + L * w + 2 * L < L * m + r → plc (S m) (i + L * w) = (a * m + b + g * w, c * m + d + h * w)
theorem lin2 {a b a' b' : Int} (h6 : a * (6 : Nat) + b = a' * (6 : Nat) + b') (h7 : a * (7 : Nat) + b = a' * (7 : Nat) + b') : a = a' ∧ b = b' := by omega
/-- any person is near an end or in the middle -/
theorem who {L r m i : Nat} (hL : 0 < L) (hm : 6 ≤ m) (hi : i < L * m + r) : i < 2 * L ∨ (∃ j, j < 2 * L ∧ i = L * m + r - 1 - j) ∨ ∃ f w, 2 * L ≤ f ∧ f < 3 * L ∧ i = f + L * w ∧ i + 2 * L < L * m + r := by
  by_cases h1 : i < 2 * L
  · exact .inl h1
  by_cases h2 : L * m + r ≤ i + 2 * L
  · exact .inr (.inl ⟨L * m + r - 1 - i, by omega, by omega⟩)
  · have hd := Nat.div_add_mod (i - 2 * L) L
    have hm := Nat.mod_lt (i - 2 * L) hL
    exact .inr (.inr ⟨2 * L + (i - 2 * L) % L, (i - 2 * L) / L, by omega, by omega, by omega, by omega⟩)
theorem plc_ext {s t : Sq} (hl : s.2.2.length = t.2.2.length) (h : ∀ i, i < s.2.2.length → plc s i = plc t i) : s.2.2 = t.2.2 := by
  refine List.ext_getElem hl fun i h1 h2 => ?_
  have := h i h1
  rw [plc_some (List.getElem?_eq_getElem h1), plc_some (List.getElem?_eq_getElem h2)] at this
  have e := Prod.mk.inj this
  exact Prod.ext (Int.ofNat_inj.mp e.1) (Int.ofNat_inj.mp e.2)
theorem Rgl.plc_eq {L r : Nat} {S T : Nat → Sq} (hL : 0 < L) (hS : Rgl L r S) (hT : Rgl L r T) (h6 : (S 6).2.2 = (T 6).2.2) (h7 : (S 7).2.2 = (T 7).2.2) {m : Nat} (hm : 6 ≤ m) : (S m).2.2 = (T m).2.2 := by
  have e6 : ∀ i, plc (S 6) i = plc (T 6) i := fun i => by unfold plc; rw [h6]
  have e7 : ∀ i, plc (S 7) i = plc (T 7) i := fun i => by unfold plc; rw [h7]
  have hL6 : L * 6 ≤ L * m := Nat.mul_le_mul_left L hm
  refine plc_ext (by rw [hS.len, hT.len]) fun i hi => ?_
  rw [hS.len] at hi
  rcases who hL hm hi with h | ⟨j, hj, rfl⟩ | ⟨f, w, f1, f2, rfl, f3⟩
  · obtain ⟨a, b, c, d, p⟩ := hS.low i h
    obtain ⟨a', b', c', d', q⟩ := hT.low i h
    have x6 := e6 i
    have x7 := e7 i
    rw [p 6 (by omega), q 6 (by omega)] at x6
    rw [p 7 (by omega), q 7 (by omega)] at x7
    obtain ⟨rfl, rfl⟩ := lin2 (Prod.mk.inj x6).1 (Prod.mk.inj x7).1
    obtain ⟨rfl, rfl⟩ := lin2 (Prod.mk.inj x6).2 (Prod.mk.inj x7).2
    rw [p m hm, q m hm]
  · obtain ⟨a, b, c, d, p⟩ := hS.high j hj
    obtain ⟨a', b', c', d', q⟩ := hT.high j hj
    have x6 := e6 (L * 6 + r - 1 - j)
    have x7 := e7 (L * 7 + r - 1 - j)
    rw [p 6 (by omega), q 6 (by omega)] at x6
    rw [p 7 (by omega), q 7 (by omega)] at x7
    obtain ⟨rfl, rfl⟩ := lin2 (Prod.mk.inj x6).1 (Prod.mk.inj x7).1
    obtain ⟨rfl, rfl⟩ := lin2 (Prod.mk.inj x6).2 (Prod.mk.inj x7).2
    rw [p m hm, q m hm]
  · obtain ⟨a, b, g, c, d, h, p⟩ := hS.mid f f1 f2
    obtain ⟨a', b', g', c', d', h', q⟩ := hT.mid f f1 f2
    have x6 := e6 (f + L * 0)
    have x7 := e7 (f + L * 0)
    have y6 := e6 (f + L * 1)
    rw [p 6 0 (by omega) (by omega), q 6 0 (by omega) (by omega)] at x6
    rw [p 7 0 (by omega) (by omega), q 7 0 (by omega) (by omega)] at x7
    rw [p 6 1 (by omega) (by omega), q 6 1 (by omega) (by omega)] at y6
    have x6 := Prod.mk.inj x6
    have x7 := Prod.mk.inj x7
    have y6 := Prod.mk.inj y6
    have q1 : a = a' ∧ b = b' ∧ g = g' := by omega
    have q2 : c = c' ∧ d = d' ∧ h = h' := by omega
    obtain ⟨rfl, rfl, rfl⟩ := q1
    obtain ⟨rfl, rfl, rfl⟩ := q2
    rw [p m w hm f3, q m w hm f3]
theorem Rgl.size_eq {L r : Nat} {S T : Nat → Sq} (hS : Rgl L r S) (hT : Rgl L r T) (h6 : (S 6).1 = (T 6).1 ∧ (S 6).2.1 = (T 6).2.1) (h7 : (S 7).1 = (T 7).1 ∧ (S 7).2.1 = (T 7).2.1) {m : Nat} (hm : 6 ≤ m) : (S m).1 = (T m).1 ∧ (S m).2.1 = (T m).2.1 := by
  obtain ⟨a, b, c, d, p⟩ := hS.size
  obtain ⟨a', b', c', d', q⟩ := hT.size
  obtain ⟨p1, p2⟩ := p 6 (by omega)
  obtain ⟨p3, p4⟩ := p 7 (by omega)
  obtain ⟨q1, q2⟩ := q 6 (by omega)
  obtain ⟨q3, q4⟩ := q 7 (by omega)
  have e1 : a = a' ∧ b = b' := by omega
  have e2 : c = c' ∧ d = d' := by omega
  obtain ⟨p5, p6⟩ := p m hm
  obtain ⟨q5, q6⟩ := q m hm
  rw [e1.1, e1.2] at p5
  rw [e2.1, e2.2] at p6
  omega
theorem Rgl.eq {L r : Nat} {S T : Nat → Sq} (hL : 0 < L) (hS : Rgl L r S) (hT : Rgl L r T) (h6 : S 6 = T 6) (h7 : S 7 = T 7) {m : Nat} (hm : 6 ≤ m) : S m = T m := by
  have h1 := hS.size_eq hT (by rw [h6]; exact ⟨rfl, rfl⟩) (by rw [h7]; exact ⟨rfl, rfl⟩) hm
  have h2 := hS.plc_eq hL hT (by rw [h6]) (by rw [h7]) hm
  exact Prod.ext h1.1 (Prod.ext h1.2 h2)
/-! rows grow evenly -/
theorem obeyed_len (w : Wd) (st : Sq) : (obeyed w st).2.2.length = st.2.2.length := by
  cases w <;> simp [obeyed, inRanks]
theorem drilled_len (ws : List Wd) (n : Nat) : (drilled ws n).2.2.length = n := by
  unfold drilled
  have : ∀ (ws : List Wd) (st : Sq), (ws.foldl (fun s w => obeyed w s) st).2.2.length = st.2.2.length := fun ws => by
    induction ws with
    | nil => exact fun _ => rfl
    | cons w ws ih => intro st; rw [List.foldl_cons, ih, obeyed_len]
  rw [this]
  simp [firstS]
theorem row_rgl {L r : Nat} (hr : r < L) {ws : List Wd} (hs : shapes ws ≤ 2) (hd : pOf ws ∣ L) : Rgl L r fun m => drilled ws (L * m + r) := by
  obtain ⟨t, c, ss, hf, hB, _⟩ := row_form hr hs hd
  have hf' : ∀ m, 3 ≤ m → fmOf ws (L * m + r) = ⟨t, c, evs m ss⟩ := hf
  have hB' : Bd (L : Int) r (2 * (L : Int)) (2 * L) 2 ss := hB
  have hL : (0 : Int) < L := by omega
  have iff : ∀ m, 3 ≤ m → ∀ l x (p : Int), has (evs m ss) l x p ↔ ∃ i : Nat, p = i ∧ (drilled ws (L * m + r)).2.2[i]? = some (if t = true then (l, x) else (x, l)) := fun m hm l x p => by
    have := (shows ws (L * m + r)).iff l x p
    rw [hf' m hm] at this
    exact this
  have get : ∀ m i, i < L * m + r → ∃ p, (drilled ws (L * m + r)).2.2[i]? = some p := fun m i hi => ⟨_, List.getElem?_eq_getElem (by rw [drilled_len]; exact hi)⟩
  have out : ∀ m, 3 ≤ m → ∀ (l x i : Nat), has (evs m ss) l x (i : Int) → plc (drilled ws (L * m + r)) i = if t = true then ((l : Int), (x : Int)) else ((x : Int), (l : Int)) := fun m hm l x i h => by
    obtain ⟨i', e, h⟩ := (iff m hm l x i).mp h
    have : i = i' := Int.ofNat_inj.mp e
    subst this
    rw [plc_some h]
    cases t <;> rfl
  have inn : ∀ m i, 3 ≤ m → i < L * m + r → ∃ l x, has (evs m ss) l x (i : Int) := fun m i hm hi => by
    obtain ⟨p, hp⟩ := get m i hi
    refine ⟨if t = true then p.1 else p.2, if t = true then p.2 else p.1, (iff m hm _ _ _).mpr ⟨i, rfl, ?_⟩⟩
    rw [hp]
    cases t <;> rfl
  refine ⟨fun m => drilled_len _ _, ?_, fun i hi => ?_, fun j hj => ?_, fun i h1 h2 => ?_⟩
  · obtain ⟨A, B, hA⟩ := len_evs 2 ss (ksOf hB)
    have key : ∀ m, 6 ≤ m → (drilled ws (L * m + r)).1 = (if t = true then (evs m ss).length else c) ∧ (drilled ws (L * m + r)).2.1 = (if t = true then c else (evs m ss).length) := fun m hm => by
      have S := shows ws (L * m + r)
      have a := S.rk
      have b := S.fi
      rw [hf' m (by omega)] at a b
      exact ⟨a, b⟩
    cases t with
    | true =>
      refine ⟨A, B, 0, c, fun m hm => ?_⟩
      obtain ⟨a, b⟩ := key m hm
      show ((drilled ws (L * m + r)).1 : Int) = _ ∧ ((drilled ws (L * m + r)).2.1 : Int) = _
      rw [a, b]
      exact ⟨hA m (by omega), by simp⟩
    | false =>
      refine ⟨0, c, A, B, fun m hm => ?_⟩
      obtain ⟨a, b⟩ := key m hm
      show ((drilled ws (L * m + r)).1 : Int) = _ ∧ ((drilled ws (L * m + r)).2.1 : Int) = _
      rw [a, b]
      exact ⟨by simp, hA m (by omega)⟩
  · obtain ⟨l, x, h⟩ := inn 6 i (by omega) (by omega)
    obtain ⟨a, q⟩ := low_end hL (by omega) hB' (Nat.le_refl 6) (by omega) h
    cases t with
    | true =>
      refine ⟨a, l - a * 6, 0, x, fun m hm => ?_⟩
      obtain ⟨l', e, h'⟩ := q m hm
      refine (out m (by omega) l' x i h').trans ?_
      rw [if_pos rfl, e]
      simp only [Int.mul_sub, Prod.mk.injEq]
      omega
    | false =>
      refine ⟨0, x, a, l - a * 6, fun m hm => ?_⟩
      obtain ⟨l', e, h'⟩ := q m hm
      refine (out m (by omega) l' x i h').trans ?_
      rw [if_neg (by decide), e]
      simp only [Int.mul_sub, Prod.mk.injEq]
      omega
  · have cast : ∀ m : Nat, 6 ≤ m → ((L * m + r - 1 - j : Nat) : Int) = (L : Int) * m + r - 1 - j := fun m hm => by
      have : L * 6 ≤ L * m := Nat.mul_le_mul_left L hm
      rw [Int.ofNat_sub (by omega), Int.ofNat_sub (by omega), Int.natCast_add, Int.natCast_mul]
      rfl
    obtain ⟨l, x, h⟩ := inn 6 (L * 6 + r - 1 - j) (by omega) (by omega)
    rw [cast 6 (by omega)] at h
    obtain ⟨a, q⟩ := high_end hL (by omega) hB' (Nat.le_refl 6) (b := j) (by omega) h
    cases t with
    | true =>
      refine ⟨a, l - a * 6, 0, x, fun m hm => ?_⟩
      obtain ⟨l', e, h'⟩ := q m hm
      rw [← cast m hm] at h'
      refine (out m (by omega) l' x _ h').trans ?_
      rw [if_pos rfl, e]
      simp only [Int.mul_sub, Prod.mk.injEq]
      omega
    | false =>
      refine ⟨0, x, a, l - a * 6, fun m hm => ?_⟩
      obtain ⟨l', e, h'⟩ := q m hm
      rw [← cast m hm] at h'
      refine (out m (by omega) l' x _ h').trans ?_
      rw [if_neg (by decide), e]
      simp only [Int.mul_sub, Prod.mk.injEq]
      omega
  · obtain ⟨l, x, h⟩ := inn 6 i (by omega) (by omega)
    obtain ⟨a, g, q⟩ := mid_run hL (by omega) hB' (Nat.le_refl 6) (i := i) (by omega) (by omega) h
    have cast : ∀ w : Nat, ((i + L * w : Nat) : Int) = (i : Int) + L * w := fun w => by rw [Int.natCast_add, Int.natCast_mul]
    cases t with
    | true =>
      refine ⟨a, l - a * 6, g, 0, x, 0, fun m w hm hw => ?_⟩
      have hw' : (i : Int) + L * w < L * m + r - 2 * L := by
        rw [← cast w, ← Int.natCast_mul]
        omega
      obtain ⟨l', e, h'⟩ := q m w hm hw'
      rw [← cast w] at h'
      refine (out m (by omega) l' x _ h').trans ?_
      rw [if_pos rfl, e]
      simp only [Int.mul_sub, Prod.mk.injEq]
      omega
    | false =>
      refine ⟨0, x, 0, a, l - a * 6, g, fun m w hm hw => ?_⟩
      have hw' : (i : Int) + L * w < L * m + r - 2 * L := by
        rw [← cast w, ← Int.natCast_mul]
        omega
      obtain ⟨l', e, h'⟩ := q m w hm hw'
      rw [← cast w] at h'
      refine (out m (by omega) l' x _ h').trans ?_
      rw [if_neg (by decide), e]
      simp only [Int.mul_sub, Prod.mk.injEq]
      omega
/-- two rows that do the same at the sixth and seventh do the same for good -/
theorem agree {L : Nat} (hL : 0 < L) {ws us : List Wd} (h1 : shapes ws ≤ 2) (h2 : shapes us ≤ 2) (d1 : pOf ws ∣ L) (d2 : pOf us ∣ L) (h : ∀ n, n ≤ 8 * L → drilled ws n = drilled us n) (n : Nat) : drilled ws n = drilled us n := by
  by_cases hn : n ≤ 8 * L
  · exact h n hn
  · have hr := Nat.mod_lt n hL
    have e := Nat.div_add_mod n L
    have hm : 6 ≤ n / L := by
      rcases Nat.lt_or_ge (n / L) 6 with z | z
      · have := Nat.mul_le_mul_left L (show n / L ≤ 5 by omega)
        omega
      · exact z
    have := (row_rgl hr h1 d1).eq hL (row_rgl hr h2 d2) (h _ (by omega)) (h _ (by omega)) hm
    simp only [e] at this
    exact this
end RG

set_option Elab.async false
set_option linter.all false
set_option maxRecDepth 100000
set_option maxHeartbeats 1000000
namespace RG
open SQ
/-! ### rows that do the same by their words -/
theorem count_le {α : Type} (p q : α → Bool) : ∀ ps : List α, (∀ x ∈ ps, p x = true → q x = true) → (ps.filter p).length ≤ (ps.filter q).length
  | [], _ => Nat.le_refl _
  | x :: ps, h => by
    have ih := count_le p q ps fun y hy => h y (List.mem_cons_of_mem _ hy)
    have hx := h x (List.mem_cons_self ..)
    rw [List.filter_cons, List.filter_cons]
    cases hp : p x with
    | true => rw [hx hp]; simpa using ih
    | false => cases q x <;> simp <;> omega
theorem count_lt {α : Type} (p q : α → Bool) : ∀ ps : List α, (∀ x ∈ ps, p x = true → q x = true) → ∀ t ∈ ps, p t = false → q t = true → (ps.filter p).length < (ps.filter q).length
  | [], _, t, ht, _, _ => nomatch ht
  | x :: ps, h, t, ht, h1, h2 => by
    have hle := count_le p q ps fun y hy => h y (List.mem_cons_of_mem _ hy)
    have hx := h x (List.mem_cons_self ..)
    rw [List.filter_cons, List.filter_cons]
    rcases List.mem_cons.mp ht with rfl | ht
    · rw [h1, h2]
      simp
      omega
    · have ih := count_lt p q ps (fun y hy => h y (List.mem_cons_of_mem _ hy)) t ht h1 h2
      cases hp : p x with
      | true => rw [hx hp]; simpa using ih
      | false => cases q x <;> simp <;> omega
theorem lexLt_trans {a b c : Nat × Nat} (h : lexLt a b = true) (h' : lexLt b c = true) : lexLt a c = true := by
  unfold lexLt at *
  simp only [Bool.or_eq_true, Bool.and_eq_true, decide_eq_true_eq] at *
  omega
theorem lexLt_tri (a b : Nat × Nat) : lexLt a b = true ∨ a = b ∨ lexLt b a = true := by
  unfold lexLt
  simp only [Bool.or_eq_true, Bool.and_eq_true, decide_eq_true_eq, Prod.ext_iff]
  omega
theorem rank_mono {ps : List (Nat × Nat)} {t s : Nat × Nat} (ht : t ∈ ps) (h : lexLt t s = true) : rankAt ps t < rankAt ps s :=
  count_lt _ _ ps (fun x _ hx => lexLt_trans hx h) t ht (lexLt_irr t) h
theorem rank_iff {ps : List (Nat × Nat)} {t s : Nat × Nat} (ht : t ∈ ps) (hs : s ∈ ps) : lexLt t s = decide (rankAt ps t < rankAt ps s) := by
  rw [Bool.eq_iff_iff, decide_eq_true_eq]
  constructor
  · exact rank_mono ht
  · intro h
    rcases lexLt_tri t s with z | z | z
    · exact z
    · rw [z] at h; omega
    · have := rank_mono hs z; omega
theorem lex_div {w a b : Nat} (hw : 0 < w) : lexLt (a / w, a % w) (b / w, b % w) = decide (a < b) := by
  have ha := Nat.div_add_mod a w
  have hb := Nat.div_add_mod b w
  have ma := Nat.mod_lt a hw
  have mb := Nat.mod_lt b hw
  unfold lexLt
  rw [Bool.eq_iff_iff]
  simp only [Bool.or_eq_true, Bool.and_eq_true, decide_eq_true_eq]
  generalize a / w = x at *
  generalize b / w = y at *
  generalize a % w = r at *
  generalize b % w = s at *
  constructor
  · rintro (h | ⟨h1, h2⟩)
    · have := Nat.mul_le_mul_left w (show x + 1 ≤ y by omega)
      rw [Nat.mul_succ] at this
      omega
    · rw [h1] at ha; omega
  · intro h
    rcases Nat.lt_trichotomy x y with z | z | z
    · exact .inl z
    · refine .inr ⟨z, ?_⟩
      rw [z] at ha
      omega
    · have := Nat.mul_le_mul_left w (show y + 1 ≤ x by omega)
      rw [Nat.mul_succ] at this
      omega
/-- lining up by ranks keeps the order -/
theorem rank_again {ps : List (Nat × Nat)} {w : Nat} (hw : 0 < w) {s : Nat × Nat} (hs : s ∈ ps) : rankAt (inRanks ps w) (rankAt ps s / w, rankAt ps s % w) = rankAt ps s := by
  have e : rankAt (inRanks ps w) (rankAt ps s / w, rankAt ps s % w) = (ps.filter fun t => lexLt (rankAt ps t / w, rankAt ps t % w) (rankAt ps s / w, rankAt ps s % w)).length := by
    unfold inRanks
    rw [rankAt, List.filter_map, List.length_map]
    rfl
  rw [e]
  unfold rankAt
  congr 1
  refine List.filter_congr fun t ht => ?_
  show lexLt (rankAt ps t / w, rankAt ps t % w) (rankAt ps s / w, rankAt ps s % w) = lexLt t s
  rw [lex_div hw, rank_iff ht hs]
theorem ranks_again (ps : List (Nat × Nat)) {w : Nat} (hw : 0 < w) (v : Nat) : inRanks (inRanks ps w) v = inRanks ps v := by
  show (inRanks ps w).map _ = ps.map _
  conv => lhs; rw [show inRanks ps w = ps.map fun s => (rankAt ps s / w, rankAt ps s % w) from rfl]
  rw [List.map_map]
  refine List.map_congr_left fun s hs => ?_
  show (rankAt (inRanks ps w) (rankAt ps s / w, rankAt ps s % w) / v, rankAt (inRanks ps w) (rankAt ps s / w, rankAt ps s % w) % v) = _
  rw [rank_again hw hs]
theorem inRanks_len (ps : List (Nat × Nat)) (w : Nat) : (inRanks ps w).length = ps.length := by simp [inRanks]
/-- a squad in which each one stands within, and which is not empty -/
def Good (st : Sq) : Prop := 0 < st.2.2.length ∧ ∃ M, Shows st M
theorem Good.step {st : Sq} (h : Good st) (w : Wd) : Good (obeyed w st) := ⟨by rw [obeyed_len]; exact h.1, let ⟨M, S⟩ := h.2; ⟨_, shows_step w S⟩⟩
theorem good_drilled (ws : List Wd) {n : Nat} (hn : 0 < n) : Good (drilled ws n) := ⟨by rw [drilled_len]; exact hn, _, shows ws n⟩
def runW (ws : List Wd) (st : Sq) : Sq := ws.foldl (fun s w => obeyed w s) st
/-- as words, they do the same -/
def SameW (ws us : List Wd) : Prop := ∀ st, Good st → runW ws st = runW us st
theorem SameW.symm {ws us : List Wd} (h : SameW ws us) : SameW us ws := fun st g => (h st g).symm
theorem good_run : ∀ (ws : List Wd) {st : Sq}, Good st → Good (runW ws st)
  | [], _, h => h
  | w :: ws, _, h => good_run ws (h.step w)
theorem runW_append (ws us : List Wd) (st : Sq) : runW (ws ++ us) st = runW us (runW ws st) := List.foldl_append
theorem SameW.mid {one two : List Wd} (h : SameW one two) (pre post : List Wd) : SameW (pre ++ one ++ post) (pre ++ two ++ post) := fun st g => by
  rw [runW_append, runW_append, runW_append, runW_append, h _ (good_run pre g)]
theorem SameW.drilled {ws us : List Wd} (h : SameW ws us) {n : Nat} (hn : 0 < n) : RG.drilled ws n = RG.drilled us n := h (firstS n) ⟨by simp [firstS]; exact hn, _, shows_start n⟩
theorem mv_ext {ps : List (Nat × Nat)} {f g : Nat × Nat → Nat × Nat} (h : ∀ s ∈ ps, f s = g s) : ps.map f = ps.map g := List.map_congr_left h
theorem Good.lt {st : Sq} (h : Good st) {s : Nat × Nat} (hs : s ∈ st.2.2) : s.1 < st.1 ∧ s.2 < st.2.1 := by
  obtain ⟨_, M, S⟩ := h
  obtain ⟨i, hi⟩ := List.getElem?_of_mem hs
  exact S.lt hi
/-- three lists, one squad -/
theorem sq_ext {R R' F F' : Nat} {ps qs : List (Nat × Nat)} (h1 : R = R') (h2 : F = F') (h3 : ps = qs) : ((R, F, ps) : Sq) = (R', F', qs) := by rw [h1, h2, h3]
theorem x1 : SameW [.about] [.right, .right] := fun st g => by
  obtain ⟨R, F, ps⟩ := st
  refine sq_ext rfl rfl ?_
  show ps.map _ = (ps.map _).map _
  rw [List.map_map]
  rfl
theorem x2 : SameW [.left] [.right, .about] := fun st g => by
  obtain ⟨R, F, ps⟩ := st
  refine sq_ext rfl rfl ?_
  show ps.map (moved .left R F) = (ps.map (moved .right R F)).map (moved .about F R)
  rw [List.map_map]
  refine mv_ext fun s hs => ?_
  have hlt : s.1 < R ∧ s.2 < F := g.lt hs
  show (F - 1 - s.2, s.1) = (F - 1 - s.2, R - 1 - (R - 1 - s.1))
  rw [Prod.mk.injEq]
  omega
theorem id_ext {ps : List (Nat × Nat)} {f : Nat × Nat → Nat × Nat} (h : ∀ s ∈ ps, f s = s) : ps = ps.map f := by
  conv => lhs; rw [← List.map_id ps]
  exact mv_ext fun s hs => (h s hs).symm
theorem x3 : SameW [] [.left, .right] := fun st g => by
  obtain ⟨R, F, ps⟩ := st
  refine sq_ext rfl rfl ?_
  show ps = (ps.map (moved .left R F)).map (moved .right F R)
  rw [List.map_map]
  refine id_ext fun s hs => ?_
  have hlt : s.1 < R ∧ s.2 < F := g.lt hs
  show (s.1, F - 1 - (F - 1 - s.2)) = s
  exact Prod.ext rfl (by show F - 1 - (F - 1 - s.2) = s.2; omega)
theorem x4 : SameW [] [.about, .about] := fun st g => by
  obtain ⟨R, F, ps⟩ := st
  refine sq_ext rfl rfl ?_
  show ps = (ps.map (moved .about R F)).map (moved .about R F)
  rw [List.map_map]
  refine id_ext fun s hs => ?_
  have hlt : s.1 < R ∧ s.2 < F := g.lt hs
  show (R - 1 - (R - 1 - s.1), F - 1 - (F - 1 - s.2)) = s
  exact Prod.ext (by show R - 1 - (R - 1 - s.1) = s.1; omega) (by show F - 1 - (F - 1 - s.2) = s.2; omega)
theorem x5 : SameW [] [.change, .change] := fun st g => by
  obtain ⟨R, F, ps⟩ := st
  refine sq_ext rfl rfl ?_
  show ps = (ps.map (moved .change R F)).map (moved .change R F)
  rw [List.map_map]
  refine id_ext fun s hs => ?_
  have hlt : s.1 < R ∧ s.2 < F := g.lt hs
  show (R - 1 - (R - 1 - s.1), s.2) = s
  exact Prod.ext (by show R - 1 - (R - 1 - s.1) = s.1; omega) rfl
theorem x6 : SameW [.line] [.line, .line] := fun st g => by
  obtain ⟨R, F, ps⟩ := st
  have h0 : 0 < ps.length := g.1
  show ((1, ps.length, inRanks ps ps.length) : Sq) = (1, (inRanks ps ps.length).length, inRanks (inRanks ps ps.length) (inRanks ps ps.length).length)
  rw [inRanks_len, ranks_again ps h0]
theorem x7 : SameW [] [.wleft, .wright] := fun st g => by
  obtain ⟨R, F, ps⟩ := st
  refine sq_ext rfl rfl ?_
  show ps = (ps.map _).map _
  rw [List.map_map]
  exact id_ext fun s _ => rfl
theorem x8 : SameW [.wleft, .right] [.right, .wleft] := fun st g => by
  obtain ⟨R, F, ps⟩ := st
  refine sq_ext rfl rfl ?_
  show (ps.map _).map _ = (ps.map _).map _
  rw [List.map_map, List.map_map]
  rfl
theorem x9 : SameW [.line] [.col2, .line] := fun st g => by
  obtain ⟨R, F, ps⟩ := st
  show ((1, ps.length, inRanks ps ps.length) : Sq) = (1, (inRanks ps 2).length, inRanks (inRanks ps 2) (inRanks ps 2).length)
  rw [inRanks_len, ranks_again ps (by decide)]
theorem x10 : SameW [.col3] [.line, .col3] := fun st g => by
  obtain ⟨R, F, ps⟩ := st
  have h0 : 0 < ps.length := g.1
  show (((ps.length + 2) / 3, 3, inRanks ps 3) : Sq) = (((inRanks ps ps.length).length + 2) / 3, 3, inRanks (inRanks ps ps.length) 3)
  rw [inRanks_len, ranks_again ps h0]
end RG

set_option Elab.async false
set_option linter.all false
set_option maxRecDepth 100000
set_option maxHeartbeats 4000000
namespace RG
open PySem PySem.Spec PyProof.Rows L2 PD SQ
/-! ### squads as data -/
def spotD (s : Nat × Nat) : D := .tup [.int s.1, .int s.2]
def spotsD (ps : List (Nat × Nat)) : D := .lst (ps.map spotD)
def sqD (st : Sq) : D := .tup [.int st.1, .int st.2.1, spotsD st.2.2]
theorem eqv_int (i j : Int) : PyData.eqv (.int i) (.int j) = decide (i = j) := eq_int i j
theorem eqv_spot (s t : Nat × Nat) : PyData.eqv (spotD s).pd (spotD t).pd = decide (s = t) := by
  show PyData.eqv (.tuple [.int s.1, .int s.2]) (.tuple [.int t.1, .int t.2]) = _
  have : PyData.eqv (.tuple [.int s.1, .int s.2]) (.tuple [.int t.1, .int t.2]) = (PyData.eqv (.int s.1) (.int t.1) && (PyData.eqv (.int s.2) (.int t.2) && true)) := rfl
  rw [this, eqv_int, eqv_int, Bool.and_true, Bool.eq_iff_iff]
  simp only [Bool.and_eq_true, decide_eq_true_eq, Prod.ext_iff, Int.ofNat_inj]
@[simp] theorem eq_spot (s t : Nat × Nat) : D.eq (spotD s) (spotD t) = decide (s = t) := eqv_spot s t
theorem eqv_all (f : Nat × Nat → D) (hf : ∀ s t, PyData.eqv (f s).pd (f t).pd = decide (s = t)) : ∀ ps qs : List (Nat × Nat), PyData.eqv (.list (D.pds (ps.map f))) (.list (D.pds (qs.map f))) = decide (ps = qs)
  | [], [] => rfl
  | [], _ :: _ => rfl
  | _ :: _, [] => rfl
  | p :: ps, q :: qs => by
    have : PyData.eqv (.list (D.pds ((p :: ps).map f))) (.list (D.pds ((q :: qs).map f))) = (PyData.eqv (f p).pd (f q).pd && PyData.eqv (.list (D.pds (ps.map f))) (.list (D.pds (qs.map f)))) := rfl
    rw [this, hf, eqv_all f hf ps qs, Bool.eq_iff_iff]
    simp only [Bool.and_eq_true, decide_eq_true_eq, List.cons.injEq]
theorem eq_spots (ps qs : List (Nat × Nat)) : D.eq (spotsD ps) (spotsD qs) = decide (ps = qs) := eqv_all spotD eqv_spot ps qs
@[simp] theorem eq_sq (s t : Sq) : D.eq (sqD s) (sqD t) = decide (s = t) := by
  have : D.eq (sqD s) (sqD t) = (PyData.eqv (.int s.1) (.int t.1) && (PyData.eqv (.int s.2.1) (.int t.2.1) && (D.eq (spotsD s.2.2) (spotsD t.2.2) && true))) := rfl
  rw [this, eqv_int, eqv_int, eq_spots, Bool.and_true, Bool.eq_iff_iff]
  simp only [Bool.and_eq_true, decide_eq_true_eq, Prod.ext_iff, Int.ofNat_inj]
theorem fl_spot (s : Nat × Nat) (n : Nat) : (spotD s).fl (n + 1) = true := fl_tup' fun x hx => by
  simp at hx
  rcases hx with rfl | rfl <;> exact fl_int _ _
theorem fl_spots (ps : List (Nat × Nat)) (n : Nat) : (spotsD ps).fl (n + 2) = true := fl_lst' fun x hx => by
  obtain ⟨s, _, rfl⟩ := List.mem_map.mp hx
  exact fl_spot s n
theorem fl_sq (s : Sq) (n : Nat) : (sqD s).fl (n + 3) = true := fl_tup' fun x hx => by
  simp at hx
  rcases hx with rfl | rfl | rfl
  · exact fl_int _ _
  · exact fl_int _ _
  · exact fl_spots _ n
/-! ### the sorted list of spots with their persons -/
def encE (e : (Nat × Nat) × Nat) : D := .tup [spotD e.1, .int e.2]
theorem alike_enc (e e' : (Nat × Nat) × Nat) : PySem.W.alike (encE e).pd (encE e').pd = true := rfl
theorem lt_enc (e e' : (Nat × Nat) × Nat) (h : e.1 ≠ e'.1) : PySem.W.dataLt (encE e).pd (encE e').pd = lexLt e.1 e'.1 := by
  have h1 : PySem.W.dataLt (encE e).pd (encE e').pd = PySem.W.dataLt (.tuple [(spotD e.1).pd, .int e.2]) (.tuple [(spotD e'.1).pd, .int e'.2]) := rfl
  have h2 : PyData.eqv (spotD e.1).pd (spotD e'.1).pd = false := by rw [eqv_spot]; exact decide_eq_false h
  rw [h1, PySem.W.dataLt_pair (by rfl) (by rfl), h2]
  simp only [Bool.false_eq_true, if_false]
  have h3 : PySem.W.dataLt (spotD e.1).pd (spotD e'.1).pd = decide ((e.1.1 : Int) < e'.1.1 ∨ ((e.1.1 : Int) = e'.1.1 ∧ (e.1.2 : Int) < e'.1.2)) := PySem.W.dataLt_ii _ _ _ _
  rw [h3]
  unfold lexLt
  rw [Bool.eq_iff_iff]
  simp only [decide_eq_true_eq, Bool.or_eq_true, Bool.and_eq_true]
  omega
def enumE (ps : List (Nat × Nat)) : List ((Nat × Nat) × Nat) := ps.zipIdx
/-- the sorted one -/
theorem sort_spots {ps : List (Nat × Nat)} (hn : ps.Nodup) : ∃ zs : List ((Nat × Nat) × Nat), ((enumE ps).map encE).mergeSort (PySem.W.dataLe false D.pd) = zs.map encE ∧ zs.length = ps.length ∧
    (∀ i, i < ps.length → ∃ at_, zs[at_]? = some (ps[i]!, i) ∧ at_ = rankAt ps ps[i]!) ∧ ∀ (at_ : Nat) s p, zs[at_]? = some (s, p) → ps[p]? = some s ∧ at_ = rankAt ps s := by
  let r : ((Nat × Nat) × Nat) → ((Nat × Nat) × Nat) → Bool := PySem.W.dataLe false fun e => (encE e).pd
  have e1 : ((enumE ps).map encE).mergeSort (PySem.W.dataLe false D.pd) = ((enumE ps).mergeSort r).map encE := (PySem.W.sort_maps encE fun a _ b _ => rfl).symm
  have hp : ((enumE ps).mergeSort r).Perm (enumE ps) := List.mergeSort_perm _ _
  have hs : ((enumE ps).mergeSort r).Pairwise fun a b => r a b = true := PySem.W.sort_pairwise (PySem.W.sortLe_total _ false _) _
  generalize hz : (enumE ps).mergeSort r = zs at e1 hp hs
  have hfst : (enumE ps).map (·.1) = ps := by unfold enumE; simp
  have hpf : (zs.map (·.1)).Perm ps := by have := hp.map (·.1); rw [hfst] at this; exact this
  have hnz : (zs.map (·.1)).Nodup := hpf.nodup_iff.mpr hn
  have hlt : (zs.map (·.1)).Pairwise fun a b => lexLt a b = true := by
    have hne : zs.Pairwise fun a b => a.1 ≠ b.1 := List.pairwise_map.mp hnz
    rw [List.pairwise_map]
    refine List.Pairwise.imp ?_ (hs.and hne)
    rintro a b ⟨h1, h2⟩
    have h3 : (!PySem.W.dataLt (encE b).pd (encE a).pd) = true := h1
    rw [lt_enc b a (Ne.symm h2), Bool.not_eq_true'] at h3
    have : lexLt a.1 b.1 = true := by
      unfold lexLt at h3 ⊢
      simp only [Bool.or_eq_false_iff, Bool.and_eq_false_iff, decide_eq_false_iff_not, Bool.or_eq_true, Bool.and_eq_true, decide_eq_true_eq] at h3 ⊢
      have : ¬ (a.1.1 = b.1.1 ∧ a.1.2 = b.1.2) := fun z => h2 (Prod.ext z.1 z.2)
      omega
    exact this
  have hr : ∀ s, rankAt ps s = ((zs.map (·.1)).filter fun t => lexLt t s).length := fun s => ((hpf.filter _).length_eq).symm
  have back : ∀ (at_ : Nat) s p, zs[at_]? = some (s, p) → ps[p]? = some s ∧ at_ = rankAt ps s := fun at_ s p h => by
    refine ⟨?_, ?_⟩
    · have hm : (s, p) ∈ enumE ps := hp.mem_iff.mp (List.mem_of_getElem? h)
      unfold enumE at hm
      have := List.mem_zipIdx hm
      simp at this
      obtain ⟨h1, h2⟩ := this
      rw [List.getElem?_eq_getElem h1, ← h2]
    · rw [hr]
      exact (sorted_count _ at_ s hlt (by rw [List.getElem?_map, h]; rfl)).symm
  refine ⟨zs, e1, by rw [hp.length_eq]; simp [enumE], fun i hi => ?_, back⟩
  have hm : (ps[i]!, i) ∈ zs := by
    refine hp.mem_iff.mpr ?_
    unfold enumE
    have : (ps.zipIdx)[i]? = some (ps[i], i) := by simp [List.getElem?_zipIdx, hi]
    have h2 := List.mem_of_getElem? this
    rw [getElem!_pos ps i hi]
    exact h2
  obtain ⟨k, hk⟩ := List.getElem?_of_mem hm
  exact ⟨k, hk, (back k _ _ hk).2⟩
theorem enumD_spots : ∀ (k : Nat) (ps : List (Nat × Nat)), enumD k (ps.map spotD) = (ps.zipIdx k).map fun e => .tup [.int (e.2 : Nat), spotD e.1]
  | _, [] => rfl
  | k, p :: ps => by
    rw [List.map_cons, List.zipIdx_cons, List.map_cons, ← enumD_spots (k + 1) ps]
    rfl
theorem shows_nodup (ws : List Wd) (n : Nat) : (drilled ws n).2.2.Nodup := (shows ws n).nodup
/-! ### the program's extrapolation -/
/-- how a row's own period reads a far squad -/
theorem place_far {ws : List Wd} (h1 : shapes ws ≤ 2) {n i : Nat} (hn : 9 * pOf ws ≤ n) (hi : i < n) :
    let P := pOf ws
    let small := 8 * P + n % P
    let times : Int := ((n - small) / P : Nat)
    let g (a b : Int × Int) (t : Int) : Int × Int := (a.1 + (b.1 - a.1) * t, a.2 + (b.2 - a.2) * t)
    plc (drilled ws n) i =
      (if i < 2 * P then g (plc (drilled ws small) i) (plc (drilled ws (small + P)) i) times
      else if n - 2 * P ≤ i then g (plc (drilled ws small) (small - (n - i))) (plc (drilled ws (small + P)) (small + P - (n - i))) times
      else
        let f := 2 * P + (i - 2 * P) % P
        let there := g (plc (drilled ws small) f) (plc (drilled ws (small + P)) f) times
        let more := g (plc (drilled ws small) f) (plc (drilled ws small) (f + P)) ((i - f) / P : Nat)
        (there.1 + more.1 - (plc (drilled ws small) f).1, there.2 + more.2 - (plc (drilled ws small) f).2)) := by
  intro P small times g
  have hP : 0 < P := pOf_pos ws
  have hr := Nat.mod_lt n hP
  have e := Nat.div_add_mod n P
  have R := row_rgl hr h1 (Nat.dvd_refl P)
  generalize hm : n / P = m at e
  have hm9 : 9 ≤ m := by
    rw [← hm]
    exact (Nat.le_div_iff_mul_le hP).mpr (by show 9 * pOf ws ≤ n; exact hn)
  have ht : times = (m : Int) - 8 := by
    show (((n - (8 * P + n % P)) / P : Nat) : Int) = _
    have : n - (8 * P + n % P) = P * (m - 8) := by rw [Nat.mul_sub, Nat.mul_comm 8 P]; omega
    rw [this, Nat.mul_div_cancel_left _ hP, Int.ofNat_sub (by omega)]
    rfl
  have es : P * 8 + n % P = small := by show _ = 8 * P + n % P; omega
  have es1 : P * 9 + n % P = small + P := by show _ = 8 * P + n % P + P; omega
  rw [ht]
  have hsm : 8 * P ≤ small := by show 8 * P ≤ 8 * P + n % P; omega
  have hsm2 : small + P ≤ n := by
    have : P * 9 ≤ P * m := Nat.mul_le_mul_left P hm9
    omega
  by_cases c1 : i < 2 * P
  · rw [if_pos c1]
    obtain ⟨a, b, c, d, q⟩ := R.low i c1
    have qm := q m (by omega)
    have q8 := q 8 (by omega)
    have q9 := q 9 (by omega)
    simp only [e, es, es1] at qm q8 q9
    rw [qm, q8, q9]
    simp only [g, Prod.mk.injEq]
    constructor
    · rw [show (a * ((9 : Nat) : Int) + b - (a * ((8 : Nat) : Int) + b)) = a by omega, Int.mul_sub]; omega
    · rw [show (c * ((9 : Nat) : Int) + d - (c * ((8 : Nat) : Int) + d)) = c by omega, Int.mul_sub]; omega
  · rw [if_neg c1]
    by_cases c2 : n - 2 * P ≤ i
    · rw [if_pos c2]
      obtain ⟨j, hj, ej⟩ : ∃ j, j < 2 * P ∧ i = n - 1 - j := ⟨n - 1 - i, by omega, by omega⟩
      obtain ⟨a, b, c, d, q⟩ := R.high j hj
      have qm := q m (by omega)
      have q8 := q 8 (by omega)
      have q9 := q 9 (by omega)
      simp only [e, es, es1] at qm q8 q9
      rw [show small - (n - i) = small - 1 - j by omega, show small + P - (n - i) = small + P - 1 - j by omega, ej, qm, q8, q9]
      simp only [g, Prod.mk.injEq]
      constructor
      · rw [show (a * ((9 : Nat) : Int) + b - (a * ((8 : Nat) : Int) + b)) = a by omega, Int.mul_sub]; omega
      · rw [show (c * ((9 : Nat) : Int) + d - (c * ((8 : Nat) : Int) + d)) = c by omega, Int.mul_sub]; omega
    · rw [if_neg c2]
      have hf := Nat.mod_lt (i - 2 * P) hP
      have hd := Nat.div_add_mod (i - 2 * P) P
      obtain ⟨a, b, g', c, d, h', q⟩ := R.mid (2 * P + (i - 2 * P) % P) (by omega) (by omega)
      have hw : (i - (2 * P + (i - 2 * P) % P)) / P = (i - 2 * P) / P := by
        rw [show i - (2 * P + (i - 2 * P) % P) = P * ((i - 2 * P) / P) by omega, Nat.mul_div_cancel_left _ hP]
      show plc (drilled ws n) i = ((g (plc (drilled ws small) (2 * P + (i - 2 * P) % P)) (plc (drilled ws (small + P)) (2 * P + (i - 2 * P) % P)) ((m : Int) - 8)).1 + (g (plc (drilled ws small) (2 * P + (i - 2 * P) % P)) (plc (drilled ws small) (2 * P + (i - 2 * P) % P + P)) (((i - (2 * P + (i - 2 * P) % P)) / P : Nat) : Int)).1 - (plc (drilled ws small) (2 * P + (i - 2 * P) % P)).1, (g (plc (drilled ws small) (2 * P + (i - 2 * P) % P)) (plc (drilled ws (small + P)) (2 * P + (i - 2 * P) % P)) ((m : Int) - 8)).2 + (g (plc (drilled ws small) (2 * P + (i - 2 * P) % P)) (plc (drilled ws small) (2 * P + (i - 2 * P) % P + P)) (((i - (2 * P + (i - 2 * P) % P)) / P : Nat) : Int)).2 - (plc (drilled ws small) (2 * P + (i - 2 * P) % P)).2)
      rw [hw]
      generalize (i - 2 * P) / P = w at hd hw
      have ei : 2 * P + (i - 2 * P) % P + P * w = i := by omega
      generalize (i - 2 * P) % P = s at hf hd ei q
      have qm := q m w (by omega) (by omega)
      have q8 := q 8 0 (by omega) (by omega)
      have q9 := q 9 0 (by omega) (by omega)
      have q81 := q 8 1 (by omega) (by omega)
      simp only [e, es, es1, ei, Nat.mul_zero, Nat.add_zero, Nat.mul_one] at qm q8 q9 q81
      rw [qm, q8, q9, q81]
      simp only [g, Prod.mk.injEq, Int.natCast_zero, Int.mul_zero, Int.add_zero, Int.natCast_one, Int.mul_one]
      constructor
      · rw [show (a * ((9 : Nat) : Int) + b - (a * ((8 : Nat) : Int) + b)) = a by omega, show (a * ((8 : Nat) : Int) + b + g' - (a * ((8 : Nat) : Int) + b)) = g' by omega, Int.mul_sub]; omega
      · rw [show (c * ((9 : Nat) : Int) + d - (c * ((8 : Nat) : Int) + d)) = c by omega, show (c * ((8 : Nat) : Int) + d + h' - (c * ((8 : Nat) : Int) + d)) = h' by omega, Int.mul_sub]; omega
end RG

set_option Elab.async false
set_option linter.all false
set_option maxRecDepth 100000
set_option maxHeartbeats 1000000
namespace RG
/-! ### neighbors: persons beside the next one, counted in a formation -/
theorem sub_len {α : Type} [DecidableEq α] : ∀ (l1 l2 : List α), l1.Nodup → (∀ a ∈ l1, a ∈ l2) → l1.length ≤ l2.length
  | [], _, _, _ => Nat.zero_le _
  | a :: l, l2, hn, h => by
    obtain ⟨h1, h2⟩ := List.nodup_cons.mp hn
    have ha := h a (List.mem_cons_self ..)
    have := sub_len l (l2.erase a) h2 fun b hb => by
      have hne : b ≠ a := fun z => h1 (z ▸ hb)
      exact (List.mem_erase_of_ne hne).mpr (h b (List.mem_cons_of_mem _ hb))
    rw [List.length_erase_of_mem ha] at this
    have hpos := List.length_pos_of_mem ha
    simp only [List.length_cons]
    omega
theorem inj_len {α β : Type} [DecidableEq β] {l1 : List α} {l2 : List β} (f : α → β) (hn : l1.Nodup) (hi : ∀ a ∈ l1, ∀ b ∈ l1, f a = f b → a = b) (h : ∀ a ∈ l1, f a ∈ l2) : l1.length ≤ l2.length := by
  have := sub_len (l1.map f) l2 (List.pairwise_map.mpr (hn.imp_of_mem fun {a b} ha hb hab e => hab (hi a ha b hb e))) fun b hb => by
    obtain ⟨a, ha, rfl⟩ := List.mem_map.mp hb
    exact h a ha
  simpa using this
def nbB (a b : Option Int) : Bool := match a, b with
  | some p, some q => decide (p - q = 1 ∨ q - p = 1)
  | _, _ => false
/-- two places beside each other -/
def bsd (s t : Nat × Nat) : Bool := decide (s.1 = t.1) && decide (s.2 = t.2 + 1 ∨ t.2 = s.2 + 1)
/-- how many persons stand beside the next one -/
def besideN (st : Sq) : Nat := ((List.range (st.2.2.length - 1)).filter fun i => match st.2.2[i]?, st.2.2[i + 1]? with
  | some s, some t => bsd s t
  | _, _ => false).length
def cells (X : List (En Int)) (c : Nat) : List (Nat × Nat) := (List.range X.length).flatMap fun l => (List.range c).map fun x => (l, x)
def posL (X : List (En Int)) (c : Nat) (tall : Bool) : List (Nat × Nat) := (cells X c).filter fun s => nbB (cell X s.1 s.2) (if tall = true then cell X s.1 (s.2 + 1) else cell X (s.1 + 1) s.2)
theorem cells_mem {X : List (En Int)} {c l x : Nat} : (l, x) ∈ cells X c ↔ l < X.length ∧ x < c := by
  unfold cells
  simp [List.mem_flatMap]
theorem cells_nodup (X : List (En Int)) (c : Nat) : (cells X c).Nodup := by
  unfold cells
  refine List.pairwise_flatMap.mpr ⟨fun l _ => List.pairwise_map.mpr (List.nodup_range.imp fun {a b} hab e => hab (Prod.mk.inj e).2), ?_⟩
  refine List.nodup_range.imp fun {a b} hab => ?_
  intro s h1 t h2 e
  obtain ⟨_, _, rfl⟩ := List.mem_map.mp h1
  obtain ⟨_, _, rfl⟩ := List.mem_map.mp h2
  exact hab (Prod.mk.inj e).1
/-- the place of a cell -/
def pl (t : Bool) (l x : Nat) : Nat × Nat := if t = true then (l, x) else (x, l)
theorem Shows.cell_some {st : Sq} {M : Fm} (S : Shows st M) {l x : Nat} {p : Int} (h : cell M.X l x = some p) : ∃ i : Nat, p = i ∧ st.2.2[i]? = some (pl M.tall l x) := (S.iff l x p).mp (has_cell.mpr h)
theorem Shows.cell_of {st : Sq} {M : Fm} (S : Shows st M) {i : Nat} {s : Nat × Nat} (h : st.2.2[i]? = some s) : cell M.X (pl M.tall s.1 s.2).1 (pl M.tall s.1 s.2).2 = some (i : Int) := by
  refine has_cell.mp ((S.iff _ _ _).mpr ⟨i, rfl, ?_⟩)
  rw [h]
  unfold pl
  cases M.tall <;> rfl
theorem nbB_some {a b : Option Int} (h : nbB a b = true) : ∃ p q, a = some p ∧ b = some q ∧ (p - q = 1 ∨ q - p = 1) := by
  cases a with
  | none => cases h
  | some p =>
    cases b with
    | none => cases h
    | some q => exact ⟨p, q, rfl, rfl, of_decide_eq_true h⟩
/-- the other cell of a pair -/
def nxt (t : Bool) (s : Nat × Nat) : Nat × Nat := if t = true then (s.1, s.2 + 1) else (s.1 + 1, s.2)
theorem posL_mem {X : List (En Int)} {c : Nat} {t : Bool} {s : Nat × Nat} (h : s ∈ posL X c t) : nbB (cell X s.1 s.2) (cell X (nxt t s).1 (nxt t s).2) = true := by
  have := (List.mem_filter.mp h).2
  unfold nxt
  cases t <;> simpa using this
theorem posL_of {X : List (En Int)} {c : Nat} {t : Bool} {s : Nat × Nat} (h1 : s ∈ cells X c) (h : nbB (cell X s.1 s.2) (cell X (nxt t s).1 (nxt t s).2) = true) : s ∈ posL X c t := by
  refine List.mem_filter.mpr ⟨h1, ?_⟩
  unfold nxt at h
  cases t <;> simpa using h
theorem pl_nxt (t : Bool) (s : Nat × Nat) : pl t (nxt t s).1 (nxt t s).2 = ((pl t s.1 s.2).1, (pl t s.1 s.2).2 + 1) := by
  unfold pl nxt
  cases t <;> rfl
def lowP (X : List (En Int)) (t : Bool) (s : Nat × Nat) : Nat := (min ((cell X s.1 s.2).getD 0) ((cell X (nxt t s).1 (nxt t s).2).getD 0)).toNat
/-- what a pair of cells says -/
theorem pair_cells {st : Sq} {M : Fm} (S : Shows st M) {s : Nat × Nat} (h : nbB (cell M.X s.1 s.2) (cell M.X (nxt M.tall s).1 (nxt M.tall s).2) = true) :
    ∃ i j : Nat, (i + 1 = j ∨ j + 1 = i) ∧ lowP M.X M.tall s = min i j ∧ st.2.2[i]? = some (pl M.tall s.1 s.2) ∧ st.2.2[j]? = some ((pl M.tall s.1 s.2).1, (pl M.tall s.1 s.2).2 + 1) := by
  obtain ⟨p, q, h1, h2, h3⟩ := nbB_some h
  obtain ⟨i, rfl, e1⟩ := S.cell_some h1
  obtain ⟨j, rfl, e2⟩ := S.cell_some h2
  rw [pl_nxt] at e2
  refine ⟨i, j, by omega, ?_, e1, e2⟩
  unfold lowP
  rw [h1, h2]
  simp only [Option.getD_some]
  omega
theorem pl_inj {t : Bool} {a b : Nat × Nat} (h : pl t a.1 a.2 = pl t b.1 b.2) : a = b := by
  unfold pl at h
  cases t <;> simp only [Bool.false_eq_true, if_false, if_true, Prod.mk.injEq] at h <;> exact Prod.ext (by omega) (by omega)
theorem beside_ge {st : Sq} {M : Fm} (S : Shows st M) : (posL M.X M.c M.tall).length ≤ besideN st := by
  unfold besideN
  refine inj_len (lowP M.X M.tall) ((cells_nodup _ _).filter _) (fun a ha b hb e => ?_) fun a ha => ?_
  · obtain ⟨i, j, h1, h2, h3, h4⟩ := pair_cells S (posL_mem ha)
    obtain ⟨i', j', k1, k2, k3, k4⟩ := pair_cells S (posL_mem hb)
    rw [h2, k2] at e
    by_cases hi : i = i'
    · subst hi
      rw [h3] at k3
      exact pl_inj (Option.some.inj k3)
    · have hx : i = j' ∧ j = i' := by omega
      obtain ⟨rfl, rfl⟩ := hx
      rw [h3] at k4
      rw [h4] at k3
      have a1 := congrArg Prod.snd (Option.some.inj k3)
      have a2 := Option.some.inj k4
      have a3 : (pl M.tall a.1 a.2).2 = (pl M.tall b.1 b.2).2 + 1 := by rw [a2]
      have a4 : (pl M.tall a.1 a.2).2 + 1 = (pl M.tall b.1 b.2).2 := a1
      omega
  · obtain ⟨i, j, h1, h2, h3, h4⟩ := pair_cells S (posL_mem ha)
    have l1 := (List.getElem?_eq_some_iff.mp h3).1
    have l2 := (List.getElem?_eq_some_iff.mp h4).1
    rw [List.mem_filter, List.mem_range, h2]
    rcases h1 with h1 | h1
    · subst h1
      rw [show min i (i + 1) = i by omega, h3, h4]
      exact ⟨by omega, by simp [bsd]⟩
    · subst h1
      rw [show min (j + 1) j = j by omega, h3, h4]
      exact ⟨by omega, by simp [bsd]⟩
theorem pl_pl (t : Bool) (s : Nat × Nat) : pl t (pl t s.1 s.2).1 (pl t s.1 s.2).2 = s := by
  unfold pl
  cases t <;> rfl
theorem beside_le {st : Sq} {M : Fm} (S : Shows st M) : besideN st ≤ (posL M.X M.c M.tall).length := by
  unfold besideN
  have key : ∀ k, k ∈ (List.range (st.2.2.length - 1)).filter (fun i => match st.2.2[i]?, st.2.2[i + 1]? with
    | some s, some t => bsd s t
    | _, _ => false) → ∃ w : Nat × Nat, w ∈ posL M.X M.c M.tall ∧ lowP M.X M.tall w = k := by
    intro k hk
    have hb := (List.mem_filter.mp hk).2
    cases hu : st.2.2[k]? with
    | none => rw [hu] at hb; cases hb
    | some u =>
      cases hv : st.2.2[k + 1]? with
      | none => rw [hu, hv] at hb; cases hb
      | some v =>
        rw [hu, hv] at hb
        simp only [bsd, Bool.and_eq_true, decide_eq_true_eq] at hb
        obtain ⟨w, z, i, j, hw, hz, e1, e2, hij⟩ : ∃ (w z : Nat × Nat) (i j : Nat), st.2.2[i]? = some w ∧ st.2.2[j]? = some z ∧ z.1 = w.1 ∧ z.2 = w.2 + 1 ∧ (i = k ∧ j = k + 1 ∨ i = k + 1 ∧ j = k) := by
          rcases hb.2 with h | h
          · exact ⟨v, u, k + 1, k, hv, hu, hb.1, h, .inr ⟨rfl, rfl⟩⟩
          · exact ⟨u, v, k, k + 1, hu, hv, hb.1.symm, h, .inl ⟨rfl, rfl⟩⟩
        have cw := S.cell_of hw
        have cz := S.cell_of hz
        have hn : pl M.tall z.1 z.2 = nxt M.tall (pl M.tall w.1 w.2) := by
          unfold pl nxt
          rw [e1, e2]
          cases M.tall <;> rfl
        rw [hn] at cz
        refine ⟨pl M.tall w.1 w.2, posL_of (cells_mem.mpr ⟨has_lt (has_cell.mpr cw), has_x S.ec (has_cell.mpr cw)⟩) ?_, ?_⟩
        · rw [cw, cz]
          show decide _ = true
          simp only [decide_eq_true_eq]
          omega
        · unfold lowP
          rw [cw, cz]
          simp only [Option.getD_some]
          omega
  have : ∃ f : Nat → Nat × Nat, ∀ k, k ∈ (List.range (st.2.2.length - 1)).filter (fun i => match st.2.2[i]?, st.2.2[i + 1]? with
    | some s, some t => bsd s t
    | _, _ => false) → f k ∈ posL M.X M.c M.tall ∧ lowP M.X M.tall (f k) = k := by
    classical
    exact ⟨fun k => if h : _ then (key k h).choose else (0, 0), fun k hk => by
      simp only [dif_pos hk]
      exact (key k hk).choose_spec⟩
  obtain ⟨f, hf⟩ := this
  refine inj_len f (List.nodup_range.filter _) (fun a ha b hb e => ?_) fun a ha => (hf a ha).1
  rw [← (hf a ha).2, ← (hf b hb).2, e]
theorem beside_cells {st : Sq} {M : Fm} (S : Shows st M) : besideN st = (posL M.X M.c M.tall).length := Nat.le_antisymm (beside_le S) (beside_ge S)
end RG

set_option Elab.async false
set_option linter.all false
set_option maxRecDepth 100000
set_option maxHeartbeats 1000000
namespace RG
/-! ### pairs of cells, segment by segment -/
def adjE (c : Nat) (e : En Int) : Nat := ((List.range c).filter fun x => nbB (e[x]?).join (e[x + 1]?).join).length
def adj2 (c : Nat) (a b : Option (En Int)) : Nat := ((List.range c).filter fun x => nbB (a.bind fun e => e[x]?).join (b.bind fun e => e[x]?).join).length
/-- the pairs of neighbors in a list of entries, z behind it -/
def chn (c : Nat) : List (En Int) → Option (En Int) → Nat
  | [], _ => 0
  | e :: X, z => adj2 c (some e) (X.head?.or z) + chn c X z
theorem chn_append (c : Nat) : ∀ (X Y : List (En Int)) (z : Option (En Int)), chn c (X ++ Y) z = chn c X (Y.head?.or z) + chn c Y z
  | [], Y, z => by simp [chn]
  | e :: X, Y, z => by
    show adj2 c (some e) ((X ++ Y).head?.or z) + chn c (X ++ Y) z = adj2 c (some e) (X.head?.or (Y.head?.or z)) + chn c X (Y.head?.or z) + chn c Y z
    rw [chn_append c X Y z]
    have : (X ++ Y).head?.or z = X.head?.or (Y.head?.or z) := by
      cases X <;> simp
    rw [this]
    omega
theorem len_fm {α β : Type} (p : β → Bool) (g : α → List β) : ∀ l : List α, ((l.flatMap g).filter p).length = (l.map fun a => ((g a).filter p).length).sum
  | [] => rfl
  | a :: l => by
    rw [List.flatMap_cons, List.filter_append, List.length_append, len_fm p g l]
    rfl
theorem len_map {α β : Type} (p : β → Bool) (f : α → β) (l : List α) : ((l.map f).filter p).length = (l.filter fun a => p (f a)).length := by
  rw [List.filter_map, List.length_map]
  rfl
theorem posL_sum (X : List (En Int)) (c : Nat) (t : Bool) : (posL X c t).length = ((List.range X.length).map fun l => ((List.range c).filter fun x => nbB (cell X l x) (if t = true then cell X l (x + 1) else cell X (l + 1) x)).length).sum := by
  unfold posL cells
  rw [len_fm]
  congr 1
  refine List.map_congr_left fun l _ => ?_
  rw [len_map]
theorem sum_get {α : Type} (F : α → Nat) (G : Nat → Nat) : ∀ (X : List α), (∀ l (h : l < X.length), G l = F X[l]) → ((List.range X.length).map G).sum = (X.map F).sum
  | X, h => by
    congr 1
    apply List.ext_getElem
    · simp
    · intro l h1 h2
      simp at h1 h2 ⊢
      exact h l h1
theorem posL_tall (X : List (En Int)) (c : Nat) : (posL X c true).length = (X.map (adjE c)).sum := by
  rw [posL_sum]
  refine sum_get (adjE c) _ X fun l h => ?_
  unfold adjE
  congr 1
  refine List.filter_congr fun x _ => ?_
  simp [cell, h]
theorem chn_sum (c : Nat) : ∀ (X : List (En Int)) (z : Option (En Int)), chn c X z = ((List.range X.length).map fun l => adj2 c X[l]? ((X[l + 1]?).or (if l + 1 = X.length then z else none))).sum
  | [], _ => rfl
  | e :: X, z => by
    rw [List.length_cons, List.range_succ_eq_map, List.map_cons, List.sum_cons, List.map_map]
    show adj2 c (some e) (X.head?.or z) + chn c X z = _
    rw [chn_sum c X z]
    congr 1
    · cases X with
      | nil => simp
      | cons a X => simp
    · congr 1
      refine List.map_congr_left fun l _ => ?_
      simp
theorem posL_wide (X : List (En Int)) (c : Nat) : (posL X c false).length = chn c X none := by
  rw [posL_sum, chn_sum]
  congr 1
  refine List.map_congr_left fun l _ => ?_
  simp [adj2, cell]
end RG

set_option Elab.async false
set_option linter.all false
set_option maxRecDepth 100000
set_option maxHeartbeats 1000000
namespace RG
/-! ### .. and how they grow -/
def Aff (f : Nat → Nat) : Prop := ∃ A B : Int, ∀ m : Nat, 7 ≤ m → (f m : Int) = A * m + B
theorem Aff.const (k : Nat) : Aff fun _ => k := ⟨0, k, fun m _ => by show ((k : Nat) : Int) = _; omega⟩
theorem Aff.add {f g : Nat → Nat} (hf : Aff f) (hg : Aff g) : Aff fun m => f m + g m := by
  obtain ⟨a, b, h⟩ := hf
  obtain ⟨c, d, k⟩ := hg
  refine ⟨a + c, b + d, fun m hm => ?_⟩
  have := h m hm
  have := k m hm
  show ((f m + g m : Nat) : Int) = _
  rw [Int.add_mul]
  omega
theorem Aff.eqv {f g : Nat → Nat} (hf : Aff f) (h : ∀ m, 7 ≤ m → g m = f m) : Aff g := by
  obtain ⟨a, b, k⟩ := hf
  exact ⟨a, b, fun m hm => by rw [h m hm]; exact k m hm⟩
theorem Aff.fix {g : Nat → Nat} (h : ∀ m, 7 ≤ m → g m = g 7) : Aff g := (Aff.const (g 7)).eqv h
/-- k times m - j -/
theorem Aff.times (k j : Nat) (hj : j ≤ 7) : Aff fun m => (m - j) * k := ⟨k, -(k * j : Int), fun m hm => by
  have h : ((m - j : Nat) : Int) = (m : Int) - j := by omega
  show (((m - j) * k : Nat) : Int) = _
  rw [Int.natCast_mul, h, Int.sub_mul, Int.mul_comm (m : Int) k, Int.mul_comm (j : Int) k]
  omega⟩
section
variable {P r : Int}
/-- persons near the ends: beside or not, once for all -/
theorem nb_end (hP : 0 < P) (hr : 0 ≤ r) {a b : Option Pn} (ha : ∀ p, a = some p → okB P r (3 * P) (3 * P) p) (hb : ∀ p, b = some p → okB P r (3 * P) (3 * P) p) {m : Nat} (hm : 7 ≤ m) :
    nbB (a.map fun p => p.at m 0) (b.map fun p => p.at m 0) = nbB (a.map fun p => p.at 7 0) (b.map fun p => p.at 7 0) := by
  cases a with
  | none => rfl
  | some p =>
    cases b with
    | none => rfl
    | some q =>
      have hmul : P * 7 ≤ P * m := Int.mul_le_mul_of_nonneg_left (by omega) (by omega)
      obtain ⟨p1, p2⟩ := ha p rfl
      obtain ⟨q1, q2⟩ := hb q rfl
      show decide (p.at m 0 - q.at m 0 = 1 ∨ q.at m 0 - p.at m 0 = 1) = decide (p.at 7 0 - q.at 7 0 = 1 ∨ q.at 7 0 - p.at 7 0 = 1)
      unfold Pn.at
      apply decide_eq_decide.mpr
      rcases p2 with ⟨p3, p4⟩ | ⟨p3, p4⟩ <;> rcases q2 with ⟨q3, q4⟩ | ⟨q3, q4⟩ <;> rw [p3, q3] <;> simp only [Int.zero_mul, Int.mul_zero] <;> omega
/-- persons of one run -/
theorem nb_run {a b : Option Pn} (h : ∀ p q, a = some p → b = some q → p.al = q.al ∧ p.be = q.be) (d : Int) (m q m' q' : Int) :
    nbB (a.map fun p => p.at m q) (b.map fun p => p.at m (q + d)) = nbB (a.map fun p => p.at m' q') (b.map fun p => p.at m' (q' + d)) := by
  cases a with
  | none => rfl
  | some p =>
    cases b with
    | none => rfl
    | some s =>
      obtain ⟨h1, h2⟩ := h p s rfl rfl
      show decide (p.at m q - s.at m (q + d) = 1 ∨ s.at m (q + d) - p.at m q = 1) = decide (p.at m' q' - s.at m' (q' + d) = 1 ∨ s.at m' (q' + d) - p.at m' q' = 1)
      unfold Pn.at
      apply decide_eq_decide.mpr
      rw [h1, h2, Int.mul_add, Int.mul_add]
      omega
theorem adjE_ev (c : Nat) (m q : Int) (e : En Pn) : adjE c (evE m q e) = ((List.range c).filter fun x => nbB ((e[x]?).join.map fun p => p.at m q) ((e[x + 1]?).join.map fun p => p.at m q)).length := by
  unfold adjE evE
  simp only [emap_at]
theorem okB3 {p : Pn} (hP : 0 < P) (h : okB P r (2 * P) (2 * P) p) : okB P r (3 * P) (3 * P) p := h.le (by omega) (by omega)
theorem be_al (hP : 0 < P) {k : Nat} {p q : Pn} {zl zh : Int} (h1 : okR P r zl zh k p) (h2 : okR P r zl zh k q) (h : p.be = q.be) : p.al = q.al := by
  rcases h1.1 with ⟨a, b⟩ | ⟨a, b⟩ <;> rcases h2.1 with ⟨c, d⟩ | ⟨c, d⟩ <;> omega
theorem sum_const {α : Type} (F G : α → Nat) (l : List α) (h : ∀ a ∈ l, F a = G a) : (l.map F).sum = (l.map G).sum := by
  rw [List.map_congr_left h]
theorem sum_fm {α : Type} (F : α → Nat) (g : Nat → List α) (k : Nat) : ∀ n : Nat, (∀ q, ((g q).map F).sum = k) → (((List.range n).flatMap g).map F).sum = n * k
  | 0, _ => by simp
  | n + 1, h => by
    rw [List.range_succ, List.flatMap_append, List.map_append, List.sum_append, sum_fm F g k n h]
    simp [h n, Nat.succ_mul]
theorem tall_aff (hP : 0 < P) (hr : 0 ≤ r) (c : Nat) : ∀ ss : List Seg, Bd P r (2 * P) (2 * P) 2 ss → Aff fun m => ((evs m ss).map (adjE c)).sum
  | [], _ => (Aff.const 0).eqv fun m _ => rfl
  | s :: ss, h => by
    have h0 := h s (List.mem_cons_self ..)
    have ih := tall_aff hP hr c ss fun t ht => h t (List.mem_cons_of_mem _ ht)
    refine Aff.eqv (f := fun m => ((s.ev m).map (adjE c)).sum + ((evs m ss).map (adjE c)).sum) (Aff.add ?_ ih) fun m _ => by rw [evs_cons, List.map_append, List.sum_append]
    cases s with
    | blk es =>
      refine Aff.fix fun m hm => ?_
      show ((es.map (evE m 0)).map (adjE c)).sum = ((es.map (evE (7 : Nat) 0)).map (adjE c)).sum
      rw [List.map_map, List.map_map]
      refine sum_const _ _ es fun e he => ?_
      show adjE c (evE m 0 e) = adjE c (evE (7 : Nat) 0 e)
      rw [adjE_ev, adjE_ev]
      congr 1
      refine List.filter_congr fun x _ => ?_
      exact nb_end hP hr (fun p hp => okB3 hP (h0 e he p (join_mem hp))) (fun p hp => okB3 hP (h0 e he p (join_mem hp))) hm
    | run k pat =>
      have hk : k ≤ 2 := h0.1.1
      obtain ⟨b, hb⟩ := h0.1.2
      have key : ∀ (m q : Int), ((pat.map (evE m q)).map (adjE c)).sum = ((pat.map (evE 0 0)).map (adjE c)).sum := fun m q => by
        rw [List.map_map, List.map_map]
        refine sum_const _ _ pat fun e he => ?_
        show adjE c (evE m q e) = adjE c (evE 0 0 e)
        rw [adjE_ev, adjE_ev]
        congr 1
        refine List.filter_congr fun x _ => ?_
        have := nb_run (a := (e[x]?).join) (b := (e[x + 1]?).join) (fun p s hp hs => by
          have e1 := hb e he p (join_mem hp)
          have e2 := hb e he s (join_mem hs)
          exact ⟨be_al hP (h0.2 e he p (join_mem hp)) (h0.2 e he s (join_mem hs)) (e1.trans e2.symm), e1.trans e2.symm⟩) 0 m q 0 0
        simpa using this
      refine (Aff.times (((pat.map (evE 0 0)).map (adjE c)).sum) k (by omega)).eqv fun m _ => ?_
      exact sum_fm (adjE c) (fun q : Nat => pat.map (evE m q)) _ (m - k) fun q => key m q
end
end RG

set_option Elab.async false
set_option linter.all false
set_option maxRecDepth 100000
set_option maxHeartbeats 1000000
namespace RG
/-! ### wide formations -/
def hd : List Seg → Option (En Pn)
  | [] => none
  | .blk [] :: ss => hd ss
  | .blk (e :: _) :: _ => some e
  | .run _ [] :: ss => hd ss
  | .run _ (e :: _) :: _ => some (emap Pn.fst e)
section
variable {P r : Int}
theorem evE_fst (m : Int) (e : En Pn) : evE m 0 (emap Pn.fst e) = evE m 0 e := by
  unfold evE
  rw [emap_emap]
  congr 1
  funext p
  exact Pn.fst_at p m 0
theorem head_ev {m : Nat} (hm : 3 ≤ m) : ∀ ss : List Seg, Bd P r (2 * P) (2 * P) 2 ss → (evs m ss).head? = (hd ss).map (evE m 0)
  | [], _ => rfl
  | .blk [] :: ss, h => by
    show (evs m ss).head? = (hd ss).map (evE m 0)
    exact head_ev hm ss fun t ht => h t (List.mem_cons_of_mem _ ht)
  | .blk (e :: es) :: ss, _ => rfl
  | .run k [] :: ss, h => by
    have : (Seg.run k []).ev m = [] := by
      show (List.range (m - k)).flatMap (fun _ => []) = []
      simp
    rw [evs_cons, this]
    exact head_ev hm ss fun t ht => h t (List.mem_cons_of_mem _ ht)
  | .run k (e :: pat) :: ss, h => by
    have hk : k ≤ 2 := (h _ (List.mem_cons_self ..)).1.1
    obtain ⟨n, hn⟩ : ∃ n, m - k = n + 1 := ⟨m - k - 1, by omega⟩
    rw [evs_cons]
    show ((List.range (m - k)).flatMap (fun q : Nat => (e :: pat).map (evE m q)) ++ _).head? = some (evE m 0 (emap Pn.fst e))
    rw [hn, List.range_succ_eq_map, List.flatMap_cons, evE_fst]
    rfl
theorem mem_emap' {g : Pn → Pn} {e : En Pn} {p : Pn} (h : some p ∈ emap g e) : ∃ x, some x ∈ e ∧ g x = p := mem_emap h
theorem hd_ok (hP : 0 < P) : ∀ (ss : List Seg), Bd P r (2 * P) (2 * P) 2 ss → ∀ e, hd ss = some e → ∀ p, some p ∈ e → okB P r (3 * P) (3 * P) p
  | [], _, _, he => by cases he
  | .blk [] :: ss, h, e, he => hd_ok hP ss (fun t ht => h t (List.mem_cons_of_mem _ ht)) e he
  | .blk (a :: es) :: ss, h, e, he => fun p hp => by
    cases he
    exact okB3 hP (h _ (List.mem_cons_self ..) a (List.mem_cons_self ..) p hp)
  | .run k [] :: ss, h, e, he => hd_ok hP ss (fun t ht => h t (List.mem_cons_of_mem _ ht)) e he
  | .run k (a :: pat) :: ss, h, e, he => fun p hp => by
    cases he
    obtain ⟨x, hx, rfl⟩ := mem_emap hp
    exact ((h _ (List.mem_cons_self ..)).2 a (List.mem_cons_self ..) x hx).2.1.le (by omega) (by omega)
theorem adj2_ev (c : Nat) (m q q' : Int) (a b : Option (En Pn)) : adj2 c (a.map (evE m q)) (b.map (evE m q')) = ((List.range c).filter fun x => nbB (((a.bind fun e => e[x]?).join).map fun p => p.at m q) (((b.bind fun e => e[x]?).join).map fun p => p.at m q')).length := by
  unfold adj2
  congr 1
  refine List.filter_congr fun x _ => ?_
  have key : ∀ (o : Option (En Pn)) (k : Int), ((o.map (evE m k)).bind fun e => e[x]?).join = ((o.bind fun e => e[x]?).join).map fun p => p.at m k := fun o k => by
    cases o with
    | none => rfl
    | some e => exact emap_at _ e x
  rw [key a q, key b q']
theorem bind_mem {o : Option (En Pn)} {x : Nat} {p : Pn} (h : (o.bind fun e => e[x]?).join = some p) : ∃ e, o = some e ∧ some p ∈ e := by
  cases o with
  | none => cases h
  | some e => exact ⟨e, rfl, join_mem h⟩
theorem adj2_end (hP : 0 < P) (hr : 0 ≤ r) (c : Nat) {a b : Option (En Pn)} (ha : ∀ e, a = some e → ∀ p, some p ∈ e → okB P r (3 * P) (3 * P) p) (hb : ∀ e, b = some e → ∀ p, some p ∈ e → okB P r (3 * P) (3 * P) p) {m : Nat} (hm : 7 ≤ m) :
    adj2 c (a.map (evE m 0)) (b.map (evE m 0)) = adj2 c (a.map (evE (7 : Nat) 0)) (b.map (evE (7 : Nat) 0)) := by
  rw [adj2_ev, adj2_ev]
  congr 1
  refine List.filter_congr fun x _ => ?_
  exact nb_end hP hr (fun p hp => let ⟨e, h1, h2⟩ := bind_mem hp; ha e h1 p h2) (fun p hp => let ⟨e, h1, h2⟩ := bind_mem hp; hb e h1 p h2) hm
theorem chn_blk (hP : 0 < P) (hr : 0 ≤ r) (c : Nat) {z : Option (En Pn)} (hz : ∀ e, z = some e → ∀ p, some p ∈ e → okB P r (3 * P) (3 * P) p) {m : Nat} (hm : 7 ≤ m) : ∀ es : List (En Pn), (∀ e ∈ es, ∀ p, some p ∈ e → okB P r (3 * P) (3 * P) p) →
    chn c (es.map (evE m 0)) (z.map (evE m 0)) = chn c (es.map (evE (7 : Nat) 0)) (z.map (evE (7 : Nat) 0))
  | [], _ => rfl
  | e :: es, h => by
    have hx : ∀ k : Nat, ((es.map (evE k 0)).head?.or (z.map (evE k 0))) = (es.head?.or z).map (evE k 0) := fun k => by
      cases es <;> simp
    show adj2 c ((some e).map (evE m 0)) ((es.map (evE m 0)).head?.or (z.map (evE m 0))) + chn c (es.map (evE m 0)) (z.map (evE m 0)) = adj2 c ((some e).map (evE (7 : Nat) 0)) ((es.map (evE (7 : Nat) 0)).head?.or (z.map (evE (7 : Nat) 0))) + chn c (es.map (evE (7 : Nat) 0)) (z.map (evE (7 : Nat) 0))
    rw [chn_blk hP hr c hz hm es fun e' he' => h e' (List.mem_cons_of_mem _ he'), hx m, hx 7]
    rw [adj2_end hP hr c (a := some e) (fun e' he' => by cases he'; exact h e (List.mem_cons_self ..)) (b := es.head?.or z) (fun e' he' => by
      cases es with
      | nil => exact hz e' (by simpa using he')
      | cons a es =>
        cases he'
        exact h e' (by simp)) hm]
/-- one way: all persons of pat are alike -/
def Way (pat : List (En Pn)) : Prop := ∀ e ∈ pat, ∀ f ∈ pat, ∀ p q, some p ∈ e → some q ∈ f → p.al = q.al ∧ p.be = q.be
theorem adj2_run (c : Nat) {a b : En Pn} (h : ∀ p q, some p ∈ a → some q ∈ b → p.al = q.al ∧ p.be = q.be) (d m q m' q' : Int) : adj2 c (some (evE m q a)) (some (evE m (q + d) b)) = adj2 c (some (evE m' q' a)) (some (evE m' (q' + d) b)) := by
  have := adj2_ev c m q (q + d) (some a) (some b)
  have k := adj2_ev c m' q' (q' + d) (some a) (some b)
  refine this.trans (Eq.trans ?_ k.symm)
  congr 1
  refine List.filter_congr fun x _ => ?_
  exact nb_run (fun p s hp hs => by
    obtain ⟨e, e1, e2⟩ := bind_mem hp
    obtain ⟨f, f1, f2⟩ := bind_mem hs
    cases e1
    cases f1
    exact h p s e2 f2) d m q m' q'
/-- within one turn of a run -/
theorem chn_pat (c : Nat) (m q m' q' : Int) (l : En Pn) : ∀ init : List (En Pn), Way (init ++ [l]) → chn c (init.map (evE m q)) (some (evE m q l)) = chn c (init.map (evE m' q')) (some (evE m' q' l))
  | [], _ => rfl
  | e :: es, h => by
    have hx : ∀ (u v : Int), ((es.map (evE u v)).head?.or (some (evE u v l))) = some (evE u v ((es ++ [l]).head (by simp))) := fun u v => by
      cases es <;> simp
    show adj2 c (some (evE m q e)) ((es.map (evE m q)).head?.or (some (evE m q l))) + chn c (es.map (evE m q)) (some (evE m q l)) = adj2 c (some (evE m' q' e)) ((es.map (evE m' q')).head?.or (some (evE m' q' l))) + chn c (es.map (evE m' q')) (some (evE m' q' l))
    rw [chn_pat c m q m' q' l es fun a ha b hb => h a (List.mem_cons_of_mem _ ha) b (List.mem_cons_of_mem _ hb), hx m q, hx m' q']
    have := adj2_run c (a := e) (b := (es ++ [l]).head (by simp)) (fun p s hp hs => h e (List.mem_cons_self ..) _ (List.mem_cons_of_mem _ (List.head_mem _)) p s hp hs) 0 m q m' q'
    rw [Int.add_zero, Int.add_zero] at this
    rw [this]
end
end RG

set_option Elab.async false
set_option linter.all false
set_option maxRecDepth 100000
set_option maxHeartbeats 1000000
namespace RG
/-! ### the neighbors of a row grow evenly -/
section
variable {P r : Int}
theorem chn_one (c : Nat) (x : En Int) (z : Option (En Int)) : chn c [x] z = adj2 c (some x) z := rfl
theorem chn_turns (c : Nat) (m : Int) (init : List (En Pn)) (l a : En Pn) (hw : Way (init ++ [l])) (ha : (init ++ [l]).head? = some a) : ∀ n : Nat,
    chn c ((List.range n).flatMap fun q : Nat => (init ++ [l]).map (evE m q)) (some (evE m n a)) = n * (chn c (init.map (evE 0 0)) (some (evE 0 0 l)) + adj2 c (some (evE 0 0 l)) (some (evE 0 (0 + 1) a)))
  | 0 => by simp [chn]
  | n + 1 => by
    have hm : a ∈ init ++ [l] := List.mem_of_head? ha
    rw [List.range_succ, List.flatMap_append, chn_append]
    have h1 : ((([n].flatMap fun q : Nat => (init ++ [l]).map (evE m q))).head?.or (some (evE m (n + 1 : Nat) a))) = some (evE m n a) := by
      simp only [List.flatMap_cons, List.flatMap_nil, List.append_nil, List.head?_map, ha]
      rfl
    rw [h1, chn_turns c m init l a hw ha n]
    simp only [List.flatMap_cons, List.flatMap_nil, List.append_nil, List.map_append, List.map_cons, List.map_nil]
    rw [chn_append, chn_one]
    show _ + (chn c (init.map (evE m n)) (some (evE m n l)) + adj2 c (some (evE m n l)) (some (evE m ((n + 1 : Nat) : Int) a))) = _
    rw [chn_pat c m n 0 0 l init hw, show ((n + 1 : Nat) : Int) = (n : Int) + 1 from rfl, adj2_run c (a := l) (b := a) (fun p s hp hs => hw l (by simp) a hm p s hp hs) 1 m n 0 0, Nat.succ_mul]
theorem chn_runs (c : Nat) (m : Int) (init : List (En Pn)) (l a : En Pn) (hw : Way (init ++ [l])) (ha : (init ++ [l]).head? = some a) (z : Option (En Int)) (n : Nat) :
    chn c ((List.range (n + 1)).flatMap fun q : Nat => (init ++ [l]).map (evE m q)) z = n * (chn c (init.map (evE 0 0)) (some (evE 0 0 l)) + adj2 c (some (evE 0 0 l)) (some (evE 0 (0 + 1) a))) + (chn c (init.map (evE 0 0)) (some (evE 0 0 l)) + adj2 c (some (evE m n l)) z) := by
  rw [List.range_succ, List.flatMap_append, chn_append]
  have h1 : ((([n].flatMap fun q : Nat => (init ++ [l]).map (evE m q))).head?.or z) = some (evE m n a) := by
    simp only [List.flatMap_cons, List.flatMap_nil, List.append_nil, List.head?_map, ha]
    rfl
  rw [h1, chn_turns c m init l a hw ha n]
  simp only [List.flatMap_cons, List.flatMap_nil, List.append_nil, List.map_append, List.map_cons, List.map_nil]
  rw [chn_append, chn_one]
  show _ + (chn c (init.map (evE m n)) (some (evE m n l)) + adj2 c (some (evE m n l)) z) = _
  rw [chn_pat c m n 0 0 l init hw]
theorem evE_lst (k : Nat) (m : Int) (e : En Pn) : evE m 0 (emap (Pn.lst k) e) = evE m (m - k - 1) e := by
  unfold evE
  rw [emap_emap]
  congr 1
  funext p
  exact Pn.lst_at k p m 0
theorem wide_aff (hP : 0 < P) (hr : 0 ≤ r) (c : Nat) : ∀ ss : List Seg, Bd P r (2 * P) (2 * P) 2 ss → Aff fun m => chn c (evs m ss) none
  | [], _ => (Aff.const 0).eqv fun m _ => rfl
  | s :: ss, h => by
    have h0 := h s (List.mem_cons_self ..)
    have h' : Bd P r (2 * P) (2 * P) 2 ss := fun t ht => h t (List.mem_cons_of_mem _ ht)
    have ih := wide_aff hP hr c ss h'
    have hz := hd_ok hP ss h'
    refine Aff.eqv (f := fun m => chn c (s.ev m) ((hd ss).map (evE m 0)) + chn c (evs m ss) none) (Aff.add ?_ ih) fun m hm => by rw [evs_cons, chn_append, head_ev (by omega) ss h', Option.or_none]
    cases s with
    | blk es => exact Aff.fix fun m hm => chn_blk hP hr c hz hm es fun e he p hp => okB3 hP (h0 e he p hp)
    | run k pat =>
      have hk : k ≤ 2 := h0.1.1
      obtain ⟨b, hb⟩ := h0.1.2
      rcases List.eq_nil_or_concat pat with rfl | ⟨init, l, rfl⟩
      · refine (Aff.const 0).eqv fun m hm => ?_
        have : (Seg.run k []).ev m = [] := by
          show (List.range (m - k)).flatMap (fun _ => []) = []
          simp
        show chn c ((Seg.run k []).ev m) _ = 0
        rw [this]
        rfl
      · rw [List.concat_eq_append] at h0 hb
        have hw : Way (init ++ [l]) := fun e he f hf p q hp hq => by
          have e1 := hb e he p hp
          have e2 := hb f hf q hq
          exact ⟨be_al hP (h0.2 e he p hp) (h0.2 f hf q hq) (e1.trans e2.symm), e1.trans e2.symm⟩
        obtain ⟨a, ha⟩ : ∃ a, (init ++ [l]).head? = some a := ⟨_, List.head?_eq_some_head (by simp)⟩
        generalize hI : chn c (init.map (evE 0 0)) (some (evE 0 0 l)) = I
        generalize hJ : adj2 c (some (evE 0 0 l)) (some (evE 0 (0 + 1) a)) = J
        refine Aff.eqv (f := fun m => (m - (k + 1)) * (I + J) + (I + adj2 c ((some (emap (Pn.lst k) l)).map (evE m 0)) ((hd ss).map (evE m 0)))) (Aff.add (Aff.times _ _ (by omega)) (Aff.add (Aff.const I) (Aff.fix fun m hm => ?_))) fun m hm => ?_
        · refine adj2_end hP hr c (fun e he p hp => ?_) hz hm
          cases he
          obtain ⟨x, hx, rfl⟩ := mem_emap hp
          exact (h0.2 l (by simp) x hx).2.2.le (by omega) (by omega)
        · obtain ⟨n, hn⟩ : ∃ n, m - k = n + 1 := ⟨m - k - 1, by omega⟩
          show chn c ((List.range (m - k)).flatMap fun q : Nat => (init.concat l).map (evE m q)) _ = _
          have hn' : m - (k + 1) = n := by omega
          have hnm : ((m : Int) - k - 1) = n := by omega
          simp only [List.concat_eq_append]
          rw [hn, hn', chn_runs c m init l a hw ha, hI, hJ]
          show _ = n * (I + J) + (I + adj2 c (some (evE m 0 (emap (Pn.lst k) l))) _)
          rw [evE_lst, hnm]
end
open SQ
theorem row_beside {L r : Nat} (hr : r < L) {ws : List Wd} (hs : shapes ws ≤ 2) (hd : pOf ws ∣ L) : ∃ A B : Int, ∀ m : Nat, 7 ≤ m → (besideN (drilled ws (L * m + r)) : Int) = A * m + B := by
  obtain ⟨t, c, ss, hf, hB, _⟩ := row_form hr hs hd
  have hf' : ∀ m, 3 ≤ m → fmOf ws (L * m + r) = ⟨t, c, evs m ss⟩ := hf
  have hB' : Bd (L : Int) r (2 * (L : Int)) (2 * L) 2 ss := hB
  have hL : (0 : Int) < L := by omega
  have key : Aff fun m => besideN (drilled ws (L * m + r)) := by
    cases t with
    | true =>
      refine (tall_aff hL (by omega) c ss hB').eqv fun m hm => ?_
      show besideN (drilled ws (L * m + r)) = _
      rw [beside_cells (shows ws (L * m + r)), hf' m (by omega)]
      exact posL_tall _ _
    | false =>
      refine (wide_aff hL (by omega) c ss hB').eqv fun m hm => ?_
      show besideN (drilled ws (L * m + r)) = _
      rw [beside_cells (shows ws (L * m + r)), hf' m (by omega)]
      exact posL_wide _ _
  exact key
theorem besideN_le (st : Sq) : besideN st ≤ st.2.2.length := by
  unfold besideN
  refine Nat.le_trans (List.length_filter_le _ _) ?_
  rw [List.length_range]
  omega
/-- .. by at most one for each person more -/
theorem row_beside_le {L r : Nat} (hr : r < L) {ws : List Wd} (hs : shapes ws ≤ 2) (hd : pOf ws ∣ L) : ∃ A B : Int, 0 ≤ A ∧ A ≤ L ∧ -(7 * A) ≤ B ∧ 7 * A + B ≤ 7 * L + r ∧ ∀ m : Nat, 7 ≤ m → (besideN (drilled ws (L * m + r)) : Int) = A * m + B := by
  obtain ⟨A, B, h⟩ := row_beside hr hs hd
  have hi : ∀ m : Nat, 7 ≤ m → 0 ≤ A * m + B ∧ A * m + B ≤ (L : Int) * m + r := fun m hm => by
    have h1 := h m hm
    have h2 := besideN_le (drilled ws (L * m + r))
    rw [drilled_len] at h2
    have h3 : ((L * m + r : Nat) : Int) = (L : Int) * m + r := by rw [Int.natCast_add, Int.natCast_mul]
    omega
  have h7 := hi 7 (by omega)
  refine ⟨A, B, ?_, ?_, by omega, by omega, h⟩
  · rcases (show A < 0 ∨ 0 ≤ A by omega) with z | z
    · exfalso
      have := (hi (7 + B.toNat + 1) (by omega)).1
      have hx : A * ((7 + B.toNat + 1 : Nat) : Int) ≤ (-1) * ((7 + B.toNat + 1 : Nat) : Int) := Int.mul_le_mul_of_nonneg_right (by omega) (by omega)
      omega
    · exact z
  · rcases (show (L : Int) < A ∨ A ≤ (L : Int) by omega) with z | z
    · exfalso
      have := (hi (7 + (r - B).toNat + 1) (by omega)).2
      have hx : ((L : Int) + 1) * ((7 + (r - B).toNat + 1 : Nat) : Int) ≤ A * ((7 + (r - B).toNat + 1 : Nat) : Int) := Int.mul_le_mul_of_nonneg_right (by omega) (by omega)
      rw [Int.add_mul] at hx
      omega
    · exact z
end RG

set_option Elab.async false
set_option linter.all false
set_option maxRecDepth 100000
set_option maxHeartbeats 1000000
namespace RG.Q1
open SQ
/-! ### what one squad tells of the next one: slopes are read off -/
/-- where piece u begins -/
def base (ss : List Seg) (m u : Nat) : Nat := (evs m (ss.take u)).length
def pl : Seg → Nat
  | .blk _ => 0
  | .run _ pat => pat.length
def sl (ss : List Seg) (u : Nat) : Nat := ((ss.take u).map pl).sum
theorem has_ix {ss : List Seg} {m l x : Nat} {p : Int} : has (evs m ss) l x p ↔ ∃ u s l', ss[u]? = some s ∧ l = base ss m u + l' ∧ has (s.ev m) l' x p := by
  rw [has_evs]
  constructor
  · rintro ⟨pre, s, post, l', rfl, rfl, h⟩
    exact ⟨pre.length, s, l', by simp, by simp [base], h⟩
  · rintro ⟨u, s, l', hu, rfl, h⟩
    obtain ⟨hl, e⟩ := List.getElem?_eq_some_iff.mp hu
    refine ⟨ss.take u, s, ss.drop (u + 1), l', ?_, rfl, h⟩
    rw [← e, List.getElem_cons_drop, List.take_append_drop]
theorem base_succ {ss : List Seg} {u : Nat} {s : Seg} (m : Nat) (h : ss[u]? = some s) : base ss m (u + 1) = base ss m u + (s.ev m).length := by
  unfold base
  rw [List.take_succ, h]
  simp
theorem base_mono {ss : List Seg} (m : Nat) {u v : Nat} (h : u ≤ v) : base ss m u ≤ base ss m v := by
  unfold base
  have e : ss.take u = (ss.take v).take u := by rw [List.take_take, Nat.min_eq_left h]
  have := evs_append m ((ss.take v).take u) ((ss.take v).drop u)
  rw [List.take_append_drop] at this
  rw [this, e, List.length_append]
  omega
theorem sl_succ {ss : List Seg} {u : Nat} {s : Seg} (h : ss[u]? = some s) : sl ss (u + 1) = sl ss u + pl s := by
  unfold sl
  rw [List.take_succ, h]
  simp
theorem len_step {m : Nat} (hm : 2 ≤ m) : ∀ {ss : List Seg}, (∀ k pat, Seg.run k pat ∈ ss → k ≤ 2) → (evs (m + 1) ss).length = (evs m ss).length + (ss.map pl).sum
  | [], _ => rfl
  | s :: ss, h => by
    have ih := len_step hm (ss := ss) fun k pat hk => h k pat (List.mem_cons_of_mem _ hk)
    rw [evs_cons, evs_cons, List.length_append, List.length_append, ih, List.map_cons, List.sum_cons]
    cases s with
    | blk es => simp [Seg.ev, pl]; omega
    | run k pat =>
      have hk := h k pat (List.mem_cons_self ..)
      have e : ∀ m, ((Seg.run k pat).ev m).length = (m - k) * pat.length := fun m => flatMap_len _ _ (fun q => by simp) _
      rw [e, e, show m + 1 - k = (m - k) + 1 by omega, Nat.add_mul, pl]
      omega
theorem base_step {ss : List Seg} {m : Nat} (hm : 2 ≤ m) (h : ∀ k pat, Seg.run k pat ∈ ss → k ≤ 2) (u : Nat) : base ss (m + 1) u = base ss m u + sl ss u :=
  len_step hm fun k pat hk => h k pat (List.mem_of_mem_take hk)
/-- position p lies in piece u -/
def In (ss : List Seg) (m u : Nat) (p : Int) : Prop := (base ss m u : Int) ≤ p ∧ p < base ss m (u + 1)
theorem In.lt {ss : List Seg} {m u v : Nat} {p q : Int} (h : In ss m u p) (h' : In ss m v q) (hv : u < v) : p < q := by
  have := base_mono (ss := ss) m (show u + 1 ≤ v from hv)
  have := h.2
  have := h'.1
  omega
theorem In.eq {ss : List Seg} {m u v : Nat} {p : Int} (h : In ss m u p) (h' : In ss m v p) : u = v := by
  rcases Nat.lt_trichotomy u v with z | z | z
  · have := h.lt h' z; omega
  · exact z
  · have := h'.lt h z; omega
section
variable {P r : Nat} {ss : List Seg}
/-- a place in the pattern of run u, and who stand there -/
structure Slot (P r : Nat) (ss : List Seg) (u k w : Nat) (d : Bool) (t x : Nat) (G : Int) : Prop where
  at_ : ∃ pat, ss[u]? = some (.run k pat) ∧ pat.length = w ∧ ∃ e ∈ pat, ∃ p, some p ∈ e ∧ p.be = if d = true then (P : Int) else -P
  uni : ∃ pat, ss[u]? = some (.run k pat) ∧ ∃ b : Int, ∀ e ∈ pat, ∀ p, some p ∈ e → p.be = b
  tw : t < w
  k2 : k ≤ 2
  lo : G < 3 * P
  hi : (P : Int) * (k + 1) + r - 3 * P ≤ G
  all : ∀ m q : Nat, q < m - k → has (evs m ss) (base ss m u + ((if d = true then q else m - k - 1 - q) * w + t)) x (P * q + G)
theorem has_mem {α : Type} {X : List (En α)} {l x : Nat} {p : α} (h : has X l x p) : ∃ e ∈ X, some p ∈ e := by
  obtain ⟨e, h1, h2⟩ := h
  exact ⟨e, List.mem_of_getElem? h1, List.mem_of_getElem? h2⟩
theorem slot_of (hP : 0 < P) (hB : Bd P r (2 * (P : Int)) (2 * P) 2 ss) {u k : Nat} {pat : List (En Pn)} (hu : ss[u]? = some (.run k pat)) {t x : Nat} {a : Pn} (h : has pat t x a) :
    ∃ d G, Slot P r ss u k pat.length d t x G ∧ ∀ m q : Nat, q < m - k → a.at m q = P * ((if d = true then q else m - k - 1 - q : Nat) : Int) + G := by
  obtain ⟨e, he, ha⟩ := has_mem h
  obtain ⟨⟨k2, b, hb⟩, hr⟩ := hB _ (List.mem_of_getElem? hu)
  obtain ⟨o1, o2, o3⟩ := hr e he a ha
  have ht : t < pat.length := has_lt h
  have f1 : a.fst.al = a.al := rfl
  have f2 : a.fst.ga = a.ga := rfl
  have f3 : (a.lst k).al = a.al + a.be := rfl
  have f4 : (a.lst k).ga = a.ga - a.be * (k + 1) := rfl
  have o2 := o2.2
  have o3 := o3.2
  rw [f1, f2] at o2
  rw [f3, f4] at o3
  have ek : (P : Int) * (k + 1) = P * k + P := by rw [Int.mul_add, Int.mul_one]
  have hk2 : (P : Int) * k ≤ P * 2 := Int.mul_le_mul_of_nonneg_left (by omega) (by omega)
  have hk0 : 0 ≤ (P : Int) * k := Int.mul_nonneg (by omega) (by omega)
  rcases o1 with ⟨q1, q2⟩ | ⟨q1, q2⟩
  · rw [q1] at o2
    rw [q1, q2] at o3
    have e1 : ∀ m q : Nat, a.at m q = P * (q : Int) + a.ga := fun m q => by simp [Pn.at, q1, q2]
    refine ⟨true, a.ga, ⟨⟨pat, hu, rfl, e, he, a, ha, by rw [q2]; rfl⟩, ⟨pat, hu, b, hb⟩, ht, k2, by omega, by omega, fun m q hq => has_ix.mpr ⟨u, _, _, hu, rfl, has_run.mpr ⟨q, t, a, hq, by simp, h, e1 m q⟩⟩⟩, fun m q _ => e1 m q⟩
  · rw [q1] at o2
    rw [q1, q2, Int.neg_mul] at o3
    have e1 : ∀ m q : Nat, q < m - k → a.at m q = P * ((m - k - 1 - q : Nat) : Int) + (a.ga + P * (k + 1)) := fun m q hq => by
      have : ((m - k - 1 - q : Nat) : Int) = m - k - 1 - q := by omega
      rw [this]
      simp only [Pn.at, q1, q2, Int.mul_sub, Int.mul_add, Int.neg_mul, Int.mul_one]
      omega
    refine ⟨false, a.ga + P * (k + 1), ⟨⟨pat, hu, rfl, e, he, a, ha, by rw [q2]; rfl⟩, ⟨pat, hu, b, hb⟩, ht, k2, by omega, by omega, fun m q hq => has_ix.mpr ⟨u, _, _, hu, rfl, has_run.mpr ⟨m - k - 1 - q, t, a, by omega, by simp, h, ?_⟩⟩⟩, fun m q hq => by rw [e1 m q hq]; rfl⟩
    rw [e1 m _ (by omega), show m - k - 1 - (m - k - 1 - q) = q by omega]
/-- where each one stands on the long side -/
structure Pic (P r : Nat) (ss : List Seg) (m : Nat) (f : Nat → Int) : Prop where
  ev : ∀ i, i < P * m + r → ∃ l x : Nat, f i = l ∧ has (evs m ss) l x (i : Int)
  un : ∀ (l x : Nat) (p : Int), has (evs m ss) l x p → ∃ i : Nat, p = i ∧ i < P * m + r ∧ f i = l
theorem Slot.in_ {u k w t x : Nat} {d : Bool} {G : Int} (S : Slot P r ss u k w d t x G) {m q : Nat} (hq : q < m - k) : In ss m u ((base ss m u + ((if d = true then q else m - k - 1 - q) * w + t) : Nat) : Int) := by
  obtain ⟨pat, h1, h2, _⟩ := S.at_
  have e : ((Seg.run k pat).ev m).length = (m - k) * w := by rw [← h2]; exact flatMap_len _ _ (fun q => by simp) _
  refine ⟨by omega, ?_⟩
  rw [base_succ m h1, e]
  have ht := S.tw
  have : ∀ z : Nat, z < m - k → z * w + t < (m - k) * w := fun z hz => by
    have := Nat.mul_le_mul_right w (show z + 1 ≤ m - k from hz)
    rw [Nat.add_mul] at this
    omega
  have := this (if d = true then q else m - k - 1 - q) (by split <;> omega)
  omega
theorem Slot.f {u k w t x : Nat} {d : Bool} {G : Int} (S : Slot P r ss u k w d t x G) {m : Nat} {f : Nat → Int} (F : Pic P r ss m f) {q : Nat} (hq : q < m - k) : ∃ i : Nat, (i : Int) = P * q + G ∧ i < P * m + r ∧ f i = ((base ss m u + ((if d = true then q else m - k - 1 - q) * w + t) : Nat) : Int) := by
  obtain ⟨i, h1, h2, h3⟩ := F.un _ _ _ (S.all m q hq)
  exact ⟨i, h1.symm, h2, h3⟩
theorem Slot.nn {u k w t x : Nat} {d : Bool} {G : Int} (S : Slot P r ss u k w d t x G) {m : Nat} {f : Nat → Int} (F : Pic P r ss m f) (hm : 3 ≤ m) : 0 ≤ G := by
  have := S.k2
  obtain ⟨i, h1, _⟩ := S.f F (q := 0) (by omega)
  simp at h1
  omega
/-- one who is in the middle stands in a run -/
theorem mid_slot (hP : 0 < P) (hB : Bd P r (2 * (P : Int)) (2 * P) 2 ss) {m : Nat} {f : Nat → Int} (F : Pic P r ss m f) {i : Nat} (h1 : 2 * P ≤ i) (h2 : i + 2 * P < P * m + r) :
    ∃ u k w d t x G, Slot P r ss u k w d t x G ∧ ∃ q : Nat, q < m - k ∧ (i : Int) = P * q + G := by
  obtain ⟨l, x, _, h⟩ := F.ev i (by omega)
  obtain ⟨u, s, l', hu, rfl, h⟩ := has_ix.mp h
  have hs := hB s (List.mem_of_getElem? hu)
  have ec : ((P * m : Nat) : Int) = (P : Int) * m := Int.natCast_mul _ _
  cases s with
  | blk es =>
    exfalso
    obtain ⟨a, h2, h3⟩ := has_map.mp h
    have ho : okB P r (2 * P) (2 * P) a := by
      obtain ⟨e, e1, e2⟩ := has_mem h2
      exact hs e e1 a e2
    unfold Pn.at at h3
    rcases ho.2 with ⟨q, w⟩ | ⟨q, w⟩
    · rw [q] at h3; simp only [Int.zero_mul, Int.mul_zero] at h3; omega
    · rw [q] at h3; simp only [Int.mul_zero] at h3; omega
  | run k pat =>
    obtain ⟨q, t, a, hq, rfl, h4, h3⟩ := has_run.mp h
    obtain ⟨d, G, S, e⟩ := slot_of hP hB hu h4
    refine ⟨u, k, _, d, t, x, G, S, (if d = true then q else m - k - 1 - q), ?_, by rw [← h3, e m q hq]⟩
    split <;> omega
/-- the slot of a class holds all of the class that are in the middle -/
theorem Slot.q {u k w t x : Nat} {d : Bool} {G : Int} (S : Slot P r ss u k w d t x G) {m q : Nat} (hP : 0 < P) (hm : 7 ≤ m) {i c : Nat} (hi : (i : Int) = P * q + G) (hc : c % P = i % P) (h1 : 2 * P ≤ c) (h2 : c < 5 * P) :
    ∃ q' : Nat, q' < m - k ∧ (c : Int) = P * q' + G := by
  have hk := S.k2
  have lo := S.lo
  have hi' := S.hi
  have d1 := Nat.div_add_mod c P
  have d2 := Nat.div_add_mod i P
  have hcm := Nat.mod_lt c hP
  have e1 : (c : Int) = P * ((c / P : Nat) : Int) + (i % P : Nat) := by rw [← Int.natCast_mul]; omega
  have e2 : (i : Int) = P * ((i / P : Nat) : Int) + (i % P : Nat) := by rw [← Int.natCast_mul]; omega
  have e3 : (c : Int) = P * (((c / P : Nat) : Int) - ((i / P : Nat) : Int) + q) + G := by
    rw [Int.mul_add, Int.mul_sub]; omega
  generalize ((c / P : Nat) : Int) - ((i / P : Nat) : Int) + q = z at e3
  have hz0 : 0 ≤ z := by
    rcases Int.lt_or_le z 0 with y | y
    · have : (P : Int) * z ≤ P * (-1) := Int.mul_le_mul_of_nonneg_left (by omega) (by omega)
      omega
    · exact y
  have hz1 : z < m - k := by
    rcases Int.lt_or_le z (m - k) with y | y
    · exact y
    · have h5 : (P : Int) * (m - k) ≤ P * z := Int.mul_le_mul_of_nonneg_left (by omega) (by omega)
      have h6 : (P : Int) * 7 ≤ P * m := Int.mul_le_mul_of_nonneg_left (by omega) (by omega)
      rw [Int.mul_sub] at h5
      rw [Int.mul_add, Int.mul_one] at hi'
      omega
  exact ⟨z.toNat, by omega, by rw [Int.toNat_of_nonneg hz0]; exact e3⟩

theorem Slot.same (hP : 0 < P) {u k k' w w' t t' x x' : Nat} {d d' : Bool} {G G' : Int} (S : Slot P r ss u k w d t x G) (S' : Slot P r ss u k' w' d' t' x' G') : k = k' ∧ w = w' ∧ d = d' := by
  obtain ⟨pat, h1, h2, e, he, p, hp, h3⟩ := S.at_
  obtain ⟨pat', h1', h2', e', he', p', hp', h3'⟩ := S'.at_
  obtain ⟨pat2, g1, b, g2⟩ := S.uni
  rw [h1] at h1' g1
  cases h1'
  cases g1
  refine ⟨rfl, by omega, ?_⟩
  have e1 := g2 e he p hp
  have e2 := g2 e' he' p' hp'
  rw [h3] at e1
  rw [h3'] at e2
  cases d <;> cases d' <;> simp at e1 e2 ⊢ <;> omega
/-- where the slot's person of turn q stands -/
def ps (ss : List Seg) (m u k w : Nat) (d : Bool) (t q : Nat) : Int := ((base ss m u + ((if d = true then q else m - k - 1 - q) * w + t) : Nat) : Int)
theorem Slot.fi {u k w t x : Nat} {d : Bool} {G : Int} (S : Slot P r ss u k w d t x G) {m : Nat} {f : Nat → Int} (F : Pic P r ss m f) {q i : Nat} (hq : q < m - k) (hi : (i : Int) = P * q + G) : i < P * m + r ∧ f i = ps ss m u k w d t q := by
  obtain ⟨j, h1, h2, h3⟩ := S.f F hq
  have : i = j := by omega
  subst this
  exact ⟨h2, h3⟩
/-- the run of a class -/
def Cl (P r : Nat) (ss : List Seg) (m : Nat) (f : Nat → Int) (s u w : Nat) (d : Bool) : Prop := ∃ k t x G, Slot P r ss u k w d t x G ∧ ∃ q : Nat, q + 2 < m - k ∧ ((2 * P + s : Nat) : Int) = P * q + G ∧
  f (2 * P + s) = ps ss m u k w d t q ∧ f (3 * P + s) = ps ss m u k w d t (q + 1) ∧ f (4 * P + s) = ps ss m u k w d t (q + 2)
theorem cls (hP : 0 < P) (hB : Bd P r (2 * (P : Int)) (2 * P) 2 ss) {m : Nat} {f : Nat → Int} (F : Pic P r ss m f) (hm : 7 ≤ m) {s : Nat} (hs : s < P) : ∃ u w d, Cl P r ss m f s u w d := by
  have h7 := Nat.mul_le_mul_left P hm
  obtain ⟨u, k, w, d, t, x, G, S, q, hq, e⟩ := mid_slot hP hB F (i := 2 * P + s) (by omega) (by omega)
  have md : ∀ z : Nat, (z * P + s) % P = s := fun z => by rw [Nat.add_comm, Nat.mul_comm, Nat.add_mul_mod_self_left, Nat.mod_eq_of_lt hs]
  have nx : ∀ z y : Nat, z = 2 + y → z < 5 → q + y < m - k ∧ ((z * P + s : Nat) : Int) = P * ((q + y : Nat) : Int) + G := fun z y hz h5 => by
    have hz5 : z * P ≤ 4 * P := Nat.mul_le_mul_right P (by omega)
    have hz2 : 2 * P ≤ z * P := Nat.mul_le_mul_right P (by omega)
    obtain ⟨q', h1, h2⟩ := S.q hP hm (c := z * P + s) e (by rw [md, md]) (by omega) (by omega)
    have e5 : ((z * P + s : Nat) : Int) = ((2 * P + s : Nat) : Int) + P * y := by
      subst hz
      rw [Nat.add_mul]
      simp only [Int.natCast_add, Int.natCast_mul]
      rw [Int.mul_comm (y : Int)]
      omega
    have e3 : (P : Int) * q' = P * ((q + y : Nat) : Int) := by
      rw [Int.natCast_add, Int.mul_add]
      omega
    have e4 := Int.eq_of_mul_eq_mul_left (by omega) e3
    have : q' = q + y := by omega
    subst this
    exact ⟨h1, h2⟩
  obtain ⟨a1, a2⟩ := nx 3 1 rfl (by decide)
  obtain ⟨b1, b2⟩ := nx 4 2 rfl (by decide)
  exact ⟨u, w, d, k, t, x, G, S, q, b1, e, (S.fi F hq e).2, (S.fi F a1 a2).2, (S.fi F b1 b2).2⟩
section
variable {m : Nat} {f : Nat → Int} {s s' u u' w w' : Nat} {d d' : Bool}
theorem Cl.in2 (C : Cl P r ss m f s u w d) : In ss m u (f (2 * P + s)) := by
  obtain ⟨k, t, x, G, S, q, hq, e, e2, e3, e4⟩ := C
  rw [e2]; exact S.in_ (by omega)
theorem Cl.in3 (C : Cl P r ss m f s u w d) : In ss m u (f (3 * P + s)) := by
  obtain ⟨k, t, x, G, S, q, hq, e, e2, e3, e4⟩ := C
  rw [e3]; exact S.in_ (by omega)
theorem Cl.in4 (C : Cl P r ss m f s u w d) : In ss m u (f (4 * P + s)) := by
  obtain ⟨k, t, x, G, S, q, hq, e, e2, e3, e4⟩ := C
  rw [e4]; exact S.in_ (by omega)
def gg (f : Nat → Int) (P s : Nat) : Int := f (3 * P + s) - f (2 * P + s)
def sim (f : Nat → Int) (P n s s' : Nat) : Prop := ∃ j, j < n ∧ j % P = s' ∧ ((f (2 * P + s) ≤ f j ∧ f j < f (3 * P + s)) ∨ (f (3 * P + s) < f j ∧ f j ≤ f (2 * P + s)))
theorem Cl.g (C : Cl P r ss m f s u w d) : 0 < w ∧ gg f P s = if d = true then (w : Int) else -w := by
  obtain ⟨k, t, x, G, S, q, hq, e, e2, e3, e4⟩ := C
  have ht := S.tw
  refine ⟨by omega, ?_⟩
  unfold gg
  rw [e2, e3]
  unfold ps
  cases d with
  | true =>
    simp only [if_pos, Nat.add_mul, Nat.one_mul]
    omega
  | false =>
    simp only [Bool.false_eq_true, if_false]
    rw [show m - k - 1 - q = (m - k - 1 - (q + 1)) + 1 by omega, Nat.add_mul]
    omega
theorem Cl.pl (C : Cl P r ss m f s u w d) : ∃ k pat, ss[u]? = some (.run k pat) ∧ pat.length = w := by
  obtain ⟨k, t, x, G, S, _⟩ := C
  obtain ⟨pat, h1, h2, _⟩ := S.at_
  exact ⟨k, pat, h1, h2⟩
theorem mod_of {j z y G : Int} {c : Nat} (hs : s' < P) (hj : j = P * z + G) (hc : ((2 * P + s' : Nat) : Int) = P * y + G) (e : j = c) : c % P = s' := by
  have h1 : (c : Int) = s' + P * (2 + z - y) := by
    rw [Int.mul_sub, Int.mul_add]
    omega
  have h2 : ((c % P : Nat) : Int) = s' := by
    rw [Int.natCast_emod, h1, Int.add_mul_emod_self_left, Int.emod_eq_of_lt (by omega) (by omega)]
  omega
theorem Pic.ix (F : Pic P r ss m f) {i : Nat} (hi : i < P * m + r) : ∃ u sg l' x, ss[u]? = some sg ∧ f i = ((base ss m u + l' : Nat) : Int) ∧ has (sg.ev m) l' x (i : Int) ∧ In ss m u (f i) := by
  obtain ⟨l, x, e, h⟩ := F.ev i hi
  obtain ⟨u, sg, l', hu, rfl, h2⟩ := has_ix.mp h
  refine ⟨u, sg, l', x, hu, e, h2, ?_⟩
  have := has_lt h2
  rw [e]
  refine ⟨by omega, ?_⟩
  rw [base_succ m hu]
  omega
theorem Cl.sim (hP : 0 < P) (hB : Bd P r (2 * (P : Int)) (2 * P) 2 ss) (hm : 7 ≤ m) (F : Pic P r ss m f) (hs : s' < P) (C : Cl P r ss m f s u w d) (C' : Cl P r ss m f s' u' w' d') : RG.Q1.sim f P (P * m + r) s s' ↔ u = u' := by
  constructor
  · rintro ⟨j, hj, hjs, hb⟩
    have i2 := C.in2
    have i3 := C.in3
    obtain ⟨v, sg, l', x, hv, e, h, iv⟩ := F.ix hj
    have hvu : v = u := by
      refine iv.eq (p := f j) ⟨?_, ?_⟩
      · have := i2.1; have := i3.1; omega
      · have := i2.2; have := i3.2; omega
    subst hvu
    obtain ⟨k, pat, hu, _⟩ := C.pl
    rw [hv] at hu
    cases hu
    obtain ⟨q, t, a, hq, _, h4, h5⟩ := has_run.mp h
    obtain ⟨d2, G, S, e2⟩ := slot_of hP hB hv h4
    have ej : (j : Int) = P * ((if d2 = true then q else m - k - 1 - q : Nat) : Int) + G := by rw [← h5, e2 m q hq]
    have hs2 : (2 * P + s') % P = s' := by rw [Nat.add_comm, Nat.mul_comm, Nat.add_mul_mod_self_left, Nat.mod_eq_of_lt hs]
    obtain ⟨q3, h6, h7⟩ := S.q hP hm (c := 2 * P + s') ej (by rw [hs2, hjs]) (by omega) (by omega)
    have := (S.fi F h6 h7).2
    have i5 := S.in_ h6
    have i6 := C'.in2
    rw [this] at i6
    exact i5.eq i6
  · intro hu
    subst hu
    obtain ⟨k, t, x, G, S, q, hq, e, e2, e3, _⟩ := C
    obtain ⟨k', t', x', G', S', q', hq', e', e2', e3', _⟩ := C'
    obtain ⟨rfl, rfl, rfl⟩ := S.same hP S'
    have ht := S.tw
    have ht' := S'.tw
    have mk : ∀ q1 : Nat, q1 < m - k → ((ps ss m u k w d t q ≤ ps ss m u k w d t' q1 ∧ ps ss m u k w d t' q1 < ps ss m u k w d t (q + 1)) ∨ (ps ss m u k w d t (q + 1) < ps ss m u k w d t' q1 ∧ ps ss m u k w d t' q1 ≤ ps ss m u k w d t q)) → RG.Q1.sim f P (P * m + r) s s' := fun q1 h1 hb => by
      obtain ⟨j, j1, j2, j3⟩ := S'.f F h1
      refine ⟨j, j2, mod_of hs (j := j) j1 e' rfl, ?_⟩
      rw [e2, e3, show f j = ps ss m u k w d t' q1 from j3]
      exact hb
    unfold ps at mk
    cases d with
    | true =>
      simp only [if_pos] at mk
      by_cases c : t ≤ t'
      · exact mk q (by omega) (.inl (by rw [Nat.add_mul]; omega))
      · exact mk (q + 1) (by omega) (.inl (by rw [Nat.add_mul]; omega))
    | false =>
      simp only [Bool.false_eq_true, if_false] at mk
      have ez : m - k - 1 - q = (m - k - 1 - (q + 1)) + 1 := by omega
      by_cases c : t' ≤ t
      · exact mk q (by omega) (.inr (by rw [ez, Nat.add_mul]; omega))
      · exact mk (q + 1) (by omega) (.inr (by rw [ez, Nat.add_mul]; omega))
end

/-! what the slopes are -/
theorem In.iff {m u v : Nat} {p q : Int} (h : In ss m u p) (h' : In ss m v q) (hne : u ≠ v) : p < q ↔ u < v := by
  constructor
  · intro z
    rcases Nat.lt_trichotomy u v with y | y | y
    · exact y
    · exact absurd y hne
    · have := h'.lt h y; omega
  · exact fun z => h.lt h' z
section
variable {m : Nat} {f f' : Nat → Int}
theorem ksB (hB : Bd P r (2 * (P : Int)) (2 * P) 2 ss) : ∀ k pat, Seg.run k pat ∈ ss → k ≤ 2 := fun k pat hm => (hB _ hm).1.1
theorem ps_step (hB : Bd P r (2 * (P : Int)) (2 * P) 2 ss) (hm : 7 ≤ m) {u k w t q : Nat} {d : Bool} (hk : k ≤ 2) (hq : q < m - k) : ps ss (m + 1) u k w d t q = ps ss m u k w d t q + sl ss u + if d = true then 0 else (w : Int) := by
  unfold ps
  rw [base_step (by omega) (ksB hB)]
  cases d with
  | true => simp only [if_pos]; omega
  | false =>
    simp only [Bool.false_eq_true, if_false]
    rw [show m + 1 - k - 1 - q = (m - k - 1 - q) + 1 by omega, Nat.add_mul]
    omega
theorem sl_if {u k : Nat} {pat : List (En Pn)} (hu : ss[u]? = some (.run k pat)) (d : Bool) : ((sl ss (if d = true then u else u + 1) : Nat) : Int) = sl ss u + if d = true then 0 else (pat.length : Int) := by
  cases d with
  | true => simp
  | false => simp [sl_succ hu, pl]
theorem low_U (hP : 0 < P) (hB : Bd P r (2 * (P : Int)) (2 * P) 2 ss) (hm : 7 ≤ m) (F : Pic P r ss m f) (F' : Pic P r ss (m + 1) f') {i : Nat} (hi : i < 2 * P) :
    ∃ U, U ≤ ss.length ∧ f' i = f i + sl ss U ∧ ∀ s u w d, Cl P r ss m f s u w d → (f (4 * P + s) < f i ↔ u < U) := by
  have h7 := Nat.mul_le_mul_left P hm
  have ec : ((P * m : Nat) : Int) = (P : Int) * m := Int.natCast_mul _ _
  obtain ⟨u, sg, l', x, hu, e, h, iu⟩ := F.ix (i := i) (by omega)
  have hul : u < ss.length := (List.getElem?_eq_some_iff.mp hu).1
  cases sg with
  | blk es =>
    refine ⟨u, by omega, ?_, fun s v w d C => C.in4.iff iu fun z => ?_⟩
    · obtain ⟨a, h2, h3⟩ := has_map.mp h
      have ho : okB P r (2 * P) (2 * P) a := by
        obtain ⟨e, e1, e2⟩ := has_mem h2
        exact hB _ (List.mem_of_getElem? hu) e e1 a e2
      have hn : has (evs (m + 1) ss) (base ss (m + 1) u + l') x (i : Int) := by
        refine has_ix.mpr ⟨u, _, l', hu, rfl, has_map.mpr ⟨a, h2, ?_⟩⟩
        unfold Pn.at at h3 ⊢
        rcases ho.2 with ⟨q, _⟩ | ⟨q, w⟩
        · rw [q] at h3 ⊢; simp only [Int.zero_mul, Int.mul_zero] at h3 ⊢; exact h3
        · rw [q] at h3; simp only [Int.mul_zero] at h3; omega
      obtain ⟨j, j1, _, j3⟩ := F'.un _ _ _ hn
      have : i = j := by omega
      subst this
      rw [j3, e, base_step (by omega) (ksB hB)]
      omega
    · subst z
      obtain ⟨k, pat, h1, _⟩ := C.pl
      rw [hu] at h1
      cases h1
  | run k pat =>
    obtain ⟨q0, t, a, hq0, _, h4, h5⟩ := has_run.mp h
    obtain ⟨d, G, S, e2⟩ := slot_of hP hB hu h4
    obtain ⟨q, hqe⟩ : ∃ q, q = (if d = true then q0 else m - k - 1 - q0) := ⟨_, rfl⟩
    have hq : q < m - k := by rw [hqe]; split <;> omega
    have ei : (i : Int) = P * q + G := by rw [← h5, e2 m q0 hq0, hqe]
    have hk := S.k2
    have fi := (S.fi F hq ei).2
    have fi' := (S.fi F' (show q < m + 1 - k by omega) ei).2
    have nn := S.nn F (by omega)
    have q1 : q ≤ 1 := by
      rcases Nat.lt_or_ge 1 q with z | z
      · have : (P : Int) * 2 ≤ P * q := Int.mul_le_mul_of_nonneg_left (by omega) (by omega)
        omega
      · exact z
    refine ⟨if d = true then u else u + 1, by split <;> omega, ?_, fun s v w d' C => ?_⟩
    · rw [fi', fi, ps_step hB hm hk hq, sl_if hu]
      omega
    · by_cases hv : v = u
      · subst hv
        obtain ⟨k', t', x', G', S', y, hy, ey, e2', e3', e4'⟩ := C
        obtain ⟨rfl, rfl, rfl⟩ := S.same hP S'
        have lo := S'.lo
        have y0 : 0 ≤ (P : Int) * y := Int.mul_nonneg (by omega) (by omega)
        have ht := S.tw
        have ht' := S'.tw
        have hmul : ∀ a b : Nat, a < b → a * pat.length + pat.length ≤ b * pat.length := fun a b hab => by
          have := Nat.mul_le_mul_right pat.length (show a + 1 ≤ b from hab)
          rw [Nat.add_mul] at this
          omega
        rw [e4', fi]
        unfold ps
        cases d with
        | true =>
          simp only [if_pos]
          have := hmul q (y + 2) (by omega)
          omega
        | false =>
          simp only [Bool.false_eq_true, if_false]
          have := hmul (m - k - 1 - (y + 2)) (m - k - 1 - q) (by omega)
          omega
      · rw [C.in4.iff iu hv]
        split <;> omega
theorem mid_U (hP : 0 < P) (hB : Bd P r (2 * (P : Int)) (2 * P) 2 ss) (hm : 7 ≤ m) (F : Pic P r ss m f) (F' : Pic P r ss (m + 1) f') {s0 u0 w0 : Nat} {d0 : Bool} (hs0 : s0 < P) (C0 : Cl P r ss m f s0 u0 w0 d0) :
    ∃ U, U ≤ ss.length ∧ f' (2 * P + s0) = f (2 * P + s0) + sl ss U ∧ ∀ s u w d, s < P → Cl P r ss m f s u w d → (((RG.Q1.sim f P (P * m + r) s s0 ∧ gg f P s < 0) ∨ (¬ RG.Q1.sim f P (P * m + r) s s0 ∧ f (4 * P + s) < f (2 * P + s0))) ↔ u < U) := by
  have C0' := C0
  obtain ⟨k, t, x, G, S, q, hq, e, e2, e3, e4⟩ := C0
  have hk := S.k2
  obtain ⟨pat, hu, hw, _⟩ := S.at_
  have hul : u0 < ss.length := (List.getElem?_eq_some_iff.mp hu).1
  refine ⟨if d0 = true then u0 else u0 + 1, by split <;> omega, ?_, fun s v w d hs C => ?_⟩
  · have fi' := (S.fi F' (show q < m + 1 - k by omega) e).2
    rw [fi', e2, ps_step hB hm hk (by omega), sl_if hu, hw]
    omega
  · have hsim := Cl.sim hP hB hm F hs0 C C0'
    by_cases hv : v = u0
    · subst hv
      obtain ⟨g0, g1⟩ := C.g
      obtain ⟨k', t', x', G', S', _⟩ := C
      obtain ⟨rfl, rfl, rfl⟩ := S.same hP S'
      have : RG.Q1.sim f P (P * m + r) s s0 := hsim.mpr rfl
      rw [g1]
      cases d0 with
      | true => simp [this]
      | false => simp [this]; omega
    · have : ¬ RG.Q1.sim f P (P * m + r) s s0 := fun z => hv (hsim.mp z)
      have h1 := C.in4.iff C0'.in2 hv
      simp only [this, false_and, not_false_eq_true, true_and, false_or, h1]
      split <;> omega
end

/-! sums over the runs are sums over the first class of each run -/
def sumN : Nat → (Nat → Nat) → Nat
  | 0, _ => 0
  | n + 1, g => sumN n g + g n
theorem sumN_congr {g h : Nat → Nat} : ∀ {n : Nat}, (∀ s, s < n → g s = h s) → sumN n g = sumN n h
  | 0, _ => rfl
  | n + 1, e => by
    show sumN n g + g n = sumN n h + h n
    rw [sumN_congr fun s hs => e s (by omega), e n (by omega)]
theorem sumN_add (g h : Nat → Nat) : ∀ n : Nat, sumN n (fun s => g s + h s) = sumN n g + sumN n h
  | 0 => rfl
  | n + 1 => by
    show sumN n (fun s => g s + h s) + (g n + h n) = sumN n g + g n + (sumN n h + h n)
    rw [sumN_add g h n]
    omega
theorem sumN_zero {g : Nat → Nat} : ∀ {n : Nat}, (∀ s, s < n → g s = 0) → sumN n g = 0
  | 0, _ => rfl
  | n + 1, e => by
    show sumN n g + g n = 0
    rw [sumN_zero fun s hs => e s (by omega), e n (by omega)]
theorem sumN_one {g : Nat → Nat} {s0 : Nat} : ∀ {n : Nat}, s0 < n → (∀ s, s < n → s ≠ s0 → g s = 0) → sumN n g = g s0
  | n + 1, hs, e => by
    show sumN n g + g n = g s0
    by_cases h : s0 = n
    · subst h
      rw [sumN_zero fun s hs => e s (by omega) (by omega), Nat.zero_add]
    · rw [sumN_one (s0 := s0) (by omega) fun s hs => e s (by omega), e n (by omega) (by omega)]
      rfl
section
open Classical
theorem sum_runs {N P : Nat} {pv ρ : Nat → Nat} (hex : ∀ v, v < N → pv v ≠ 0 → ∃ s, s < P ∧ ρ s = v) : ∀ U, U ≤ N → sumN U pv = sumN P fun s => if (∀ s', s' < s → ρ s' ≠ ρ s) ∧ ρ s < U then pv (ρ s) else 0
  | 0, _ => (sumN_zero fun s _ => by simp).symm
  | U + 1, h => by
    show sumN U pv + pv U = _
    rw [sum_runs hex U (by omega)]
    have e : ∀ s, (if (∀ s', s' < s → ρ s' ≠ ρ s) ∧ ρ s < U + 1 then pv (ρ s) else 0) = (if (∀ s', s' < s → ρ s' ≠ ρ s) ∧ ρ s < U then pv (ρ s) else 0) + (if (∀ s', s' < s → ρ s' ≠ ρ s) ∧ ρ s = U then pv (ρ s) else 0) := fun s => by
      by_cases h1 : ∀ s', s' < s → ρ s' ≠ ρ s
      · by_cases h2 : ρ s < U
        · rw [if_pos ⟨h1, by omega⟩, if_pos ⟨h1, h2⟩, if_neg (fun z => by omega)]
          rfl
        · by_cases h3 : ρ s = U
          · rw [if_pos ⟨h1, by omega⟩, if_neg (fun z => h2 z.2), if_pos ⟨h1, h3⟩, Nat.zero_add]
          · rw [if_neg (fun z => by omega), if_neg (fun z => h2 z.2), if_neg (fun z => h3 z.2)]
      · rw [if_neg (fun z => h1 z.1), if_neg (fun z => h1 z.1), if_neg (fun z => h1 z.1)]
    rw [sumN_congr fun s _ => e s, sumN_add]
    congr 1
    by_cases hz : pv U = 0
    · rw [hz]
      refine (sumN_zero fun s _ => ?_).symm
      split
      · rename_i z
        rw [z.2, hz]
      · rfl
    · obtain ⟨s1, hs1, e1⟩ := hex U (by omega) hz
      have least : ∀ n, (∃ s, s < n ∧ s < P ∧ ρ s = U) → ∃ s, s < P ∧ ρ s = U ∧ ∀ s', s' < s → ρ s' ≠ U := fun n => by
        induction n with
        | zero => rintro ⟨s, h, _⟩; omega
        | succ n ih =>
          intro hx
          by_cases hn : ∃ s, s < n ∧ s < P ∧ ρ s = U
          · exact ih hn
          · obtain ⟨s, h1, h2, h3⟩ := hx
            exact ⟨s, h2, h3, fun s' h4 h5 => hn ⟨s', by omega, by omega, h5⟩⟩
      obtain ⟨s0, h1, h2, h3⟩ := least (s1 + 1) ⟨s1, by omega, hs1, e1⟩
      rw [sumN_one h1 fun s hs hne => if_neg fun z => ?_, if_pos ⟨fun s' hs' => by rw [h2]; exact h3 s' hs', h2⟩, h2]
      rcases Nat.lt_trichotomy s s0 with y | y | y
      · exact h3 s y z.2
      · exact hne y
      · exact z.1 s0 y (by rw [h2, z.2])
/-- the sum over all runs for which B holds, read off the squad -/
noncomputable def FF (f : Nat → Int) (P n : Nat) (B : Nat → Prop) : Nat := sumN P fun s => if (∀ s', s' < s → ¬ RG.Q1.sim f P n s' s) ∧ B s then (gg f P s).natAbs else 0
theorem FF_short {f : Nat → Int} {P n : Nat} {B : Nat → Prop} (h : ∀ s, s < P → gg f P s = 0) : FF f P n B = 0 := sumN_zero fun s hs => by
  split
  · rw [h s hs]; rfl
  · rfl
def pls (ss : List Seg) (v : Nat) : Nat := (ss[v]?.map pl).getD 0
theorem pls_at {ss : List Seg} {v : Nat} {s : Seg} (h : ss[v]? = some s) : pls ss v = pl s := by unfold pls; rw [h]; rfl
theorem sl_sum (ss : List Seg) : ∀ U, U ≤ ss.length → sl ss U = sumN U (pls ss)
  | 0, _ => by simp [sl, sumN]
  | U + 1, h => by
    have e : ss[U]? = some ss[U] := List.getElem?_eq_getElem (by omega)
    rw [sl_succ e, sl_sum ss U (by omega)]
    show _ = sumN U _ + pls ss U
    rw [pls_at e]
variable {m : Nat} {f : Nat → Int}
theorem FF_eq (hP : 0 < P) (hB : Bd P r (2 * (P : Int)) (2 * P) 2 ss) (hN : NE ss) (hm : 7 ≤ m) (F : Pic P r ss m f) {U : Nat} (hU : U ≤ ss.length) {B : Nat → Prop} (h : ∀ s u w d, s < P → Cl P r ss m f s u w d → (B s ↔ u < U)) : sl ss U = FF f P (P * m + r) B := by
  have hc : ∀ s, ∃ u, s < P → ∃ w d, Cl P r ss m f s u w d := fun s => by
    by_cases hs : s < P
    · obtain ⟨u, w, d, C⟩ := cls hP hB F hm hs
      exact ⟨u, fun _ => ⟨w, d, C⟩⟩
    · exact ⟨0, fun z => absurd z hs⟩
  obtain ⟨ρ, hρ⟩ := Classical.axiomOfChoice hc
  rw [sl_sum ss U hU, sum_runs (N := ss.length) (P := P) (ρ := ρ) (fun v hv hz => ?_) U hU]
  · refine sumN_congr fun s hs => ?_
    obtain ⟨w, d, C⟩ := hρ s hs
    have e1 : (∀ s', s' < s → ρ s' ≠ ρ s) ↔ ∀ s', s' < s → ¬ RG.Q1.sim f P (P * m + r) s' s := by
      refine forall_congr' fun s' => forall_congr' fun hs' => not_congr ?_
      obtain ⟨w', d', C'⟩ := hρ s' (by omega)
      exact (Cl.sim hP hB hm F hs C' C).symm
    have e2 := h s _ w d hs C
    have e3 := and_congr e1 e2.symm
    obtain ⟨k, pat, h1, h2⟩ := C.pl
    obtain ⟨_, g1⟩ := C.g
    have e4 : pls ss (ρ s) = (gg f P s).natAbs := by
      rw [pls_at h1, g1]
      show pat.length = _
      rw [h2]
      cases d <;> simp
    rw [e4]
    by_cases c : (∀ s', s' < s → ¬ RG.Q1.sim f P (P * m + r) s' s) ∧ B s
    · rw [if_pos c, if_pos (e3.mpr c)]
    · rw [if_neg c, if_neg (fun z => c (e3.mp z))]
  · have e : ss[v]? = some ss[v] := List.getElem?_eq_getElem hv
    rw [pls_at e] at hz
    cases hs : ss[v] with
    | blk es => rw [hs] at hz; exact absurd rfl hz
    | run k pat =>
      rw [hs] at hz e
      have hne : pat ≠ [] := fun z => hz (by rw [z]; rfl)
      obtain ⟨en, he, p, hp⟩ := hN k pat (List.mem_of_getElem? e) hne
      obtain ⟨t, ht⟩ := List.mem_iff_getElem?.mp he
      obtain ⟨x, hx⟩ := List.mem_iff_getElem?.mp hp
      obtain ⟨d, G, S, _⟩ := slot_of hP hB e (t := t) (x := x) (a := p) ⟨en, ht, hx⟩
      have hk := S.k2
      obtain ⟨j, j1, _, _⟩ := S.f F (q := 0) (by omega)
      have hjm := Nat.mod_lt j hP
      have hs2 : (2 * P + j % P) % P = j % P := by rw [Nat.add_comm, Nat.mul_comm, Nat.add_mul_mod_self_left, Nat.mod_eq_of_lt hjm]
      obtain ⟨q, h6, h7⟩ := S.q hP hm (c := 2 * P + j % P) j1 hs2 (by omega) (by omega)
      refine ⟨j % P, hjm, ?_⟩
      obtain ⟨w, d', C⟩ := hρ (j % P) hjm
      have i1 := C.in2
      rw [(S.fi F h6 h7).2] at i1
      exact i1.eq (S.in_ h6)
end
end

section
variable {P r : Nat} {ss : List Seg}
/-! the other way of numbering -/
def mir (P r : Nat) (p : Pn) : Pn := ⟨P - p.al, -p.be, r - 1 - p.ga⟩
def Seg.mir (P r : Nat) : Seg → Seg
  | .blk es => .blk (es.map (emap (RG.Q1.mir P r)))
  | .run k pat => .run k (pat.map (emap (RG.Q1.mir P r)))
def mirS (P r : Nat) (ss : List Seg) : List Seg := ss.map (Seg.mir P r)
theorem mir_at (p : Pn) (m q : Int) : (mir P r p).at m q = P * m + r - 1 - p.at m q := by
  unfold mir Pn.at
  simp only [Int.sub_mul, Int.neg_mul]
  omega
theorem evE_mir (m q : Int) (es : List (En Pn)) : (es.map (emap (mir P r))).map (evE m q) = (es.map (evE m q)).map (emap fun p => P * m + r - 1 - p) := by
  rw [List.map_map, List.map_map]
  refine List.map_congr_left fun e _ => ?_
  show evE m q (emap _ e) = emap _ (evE m q e)
  unfold evE
  rw [emap_emap, emap_emap]
  congr 1
  funext p
  exact mir_at p m q
theorem evs_mir (m : Nat) : ∀ ss : List Seg, evs m (mirS P r ss) = (evs m ss).map (emap fun p => (P : Int) * m + r - 1 - p)
  | [] => rfl
  | s :: ss => by
    have ih := evs_mir m ss
    unfold mirS at ih ⊢
    rw [List.map_cons, evs_cons, evs_cons, List.map_append, ih]
    congr 1
    cases s with
    | blk es => exact evE_mir m 0 es
    | run k pat =>
      show (List.range (m - k)).flatMap (fun q : Nat => (pat.map (emap (mir P r))).map (evE m q)) = ((List.range (m - k)).flatMap fun q : Nat => pat.map (evE m q)).map _
      rw [List.map_flatMap]
      congr 1
      funext q
      exact evE_mir m q pat
theorem has_emap {α β : Type} {g : α → β} {X : List (En α)} {l x : Nat} {p : β} : has (X.map (emap g)) l x p ↔ ∃ a, has X l x a ∧ g a = p := by
  constructor
  · rintro ⟨e, h1, h2⟩
    rw [List.getElem?_map] at h1
    cases h3 : X[l]? with
    | none => rw [h3] at h1; cases h1
    | some e0 =>
      rw [h3] at h1
      cases h1
      unfold emap at h2
      rw [List.getElem?_map] at h2
      cases h4 : e0[x]? with
      | none => rw [h4] at h2; cases h2
      | some o =>
        rw [h4] at h2
        cases o with
        | none => cases h2
        | some a => cases h2; exact ⟨a, ⟨e0, h3, h4⟩, rfl⟩
  · rintro ⟨a, ⟨e, h1, h2⟩, rfl⟩
    exact ⟨emap g e, by rw [List.getElem?_map, h1]; rfl, by unfold emap; rw [List.getElem?_map, h2]; rfl⟩
theorem okB_mir {z : Int} {p : Pn} (h : okB P r z z p) : okB P r z z (mir P r p) := by
  unfold okB mir at *
  simp only
  omega
theorem okR_mir {z : Int} {k : Nat} {p : Pn} (h : okR P r z z k p) : okR P r z z k (mir P r p) := by
  obtain ⟨h0, h1, h2⟩ := h
  refine ⟨?_, ?_, ?_⟩
  · unfold mir
    simp only
    omega
  · have e : (mir P r p).fst = mir P r p.fst := by
      unfold mir Pn.fst
      simp
    rw [e]
    exact okB_mir h1
  · have e : (mir P r p).lst k = mir P r (p.lst k) := by
      unfold mir Pn.lst
      simp only [Pn.mk.injEq, Int.neg_mul]
      omega
    rw [e]
    exact okB_mir h2
theorem bd_mir (hB : Bd P r (2 * (P : Int)) (2 * P) 2 ss) : Bd P r (2 * (P : Int)) (2 * P) 2 (mirS P r ss) := fun s hs => by
  obtain ⟨s, hs1, rfl⟩ := List.mem_map.mp hs
  have q := hB s hs1
  cases s with
  | blk es =>
    intro e he p hp
    obtain ⟨e0, he0, rfl⟩ := List.mem_map.mp he
    obtain ⟨p0, hp0, rfl⟩ := mem_emap hp
    exact okB_mir (q e0 he0 p0 hp0)
  | run k pat =>
    obtain ⟨⟨k2, b, hb⟩, hr⟩ := q
    refine ⟨⟨k2, -b, fun e he p hp => ?_⟩, fun e he p hp => ?_⟩
    · obtain ⟨e0, he0, rfl⟩ := List.mem_map.mp he
      obtain ⟨p0, hp0, rfl⟩ := mem_emap hp
      show -p0.be = -b
      rw [hb e0 he0 p0 hp0]
    · obtain ⟨e0, he0, rfl⟩ := List.mem_map.mp he
      obtain ⟨p0, hp0, rfl⟩ := mem_emap hp
      exact okR_mir (hr e0 he0 p0 hp0)
theorem ne_mir (hN : NE ss) : NE (mirS P r ss) := fun k pat hm hp => by
  obtain ⟨s, hs, e⟩ := List.mem_map.mp hm
  cases s with
  | blk es => cases e
  | run j p =>
    cases e
    obtain ⟨e, he, q, hq⟩ := hN _ _ hs (fun z => hp (by rw [z]; rfl))
    exact ⟨_, List.mem_map.mpr ⟨e, he, rfl⟩, _, List.mem_map.mpr ⟨_, hq, rfl⟩⟩
/-- where each one stands, both sides -/
structure Pic2 (P r : Nat) (ss : List Seg) (m : Nat) (f h : Nat → Int) : Prop where
  ev : ∀ i, i < P * m + r → ∃ l x : Nat, f i = l ∧ h i = x ∧ has (evs m ss) l x (i : Int)
  un : ∀ (l x : Nat) (p : Int), has (evs m ss) l x p → ∃ i : Nat, p = i ∧ i < P * m + r ∧ f i = l ∧ h i = x
theorem Pic2.pic {m : Nat} {f h : Nat → Int} (F : Pic2 P r ss m f h) : Pic P r ss m f where
  ev := fun i hi => by
    obtain ⟨l, x, e, _, q⟩ := F.ev i hi
    exact ⟨l, x, e, q⟩
  un := fun l x p q => by
    obtain ⟨i, e, hi, e2, _⟩ := F.un l x p q
    exact ⟨i, e, hi, e2⟩
theorem Pic2.mir {m : Nat} {f h : Nat → Int} (F : Pic2 P r ss m f h) : Pic2 P r (mirS P r ss) m (fun i => f (P * m + r - 1 - i)) (fun i => h (P * m + r - 1 - i)) where
  ev := fun i hi => by
    obtain ⟨l, x, e, e2, q⟩ := F.ev (P * m + r - 1 - i) (by omega)
    refine ⟨l, x, e, e2, ?_⟩
    rw [evs_mir]
    refine has_emap.mpr ⟨_, q, ?_⟩
    have : ((P * m : Nat) : Int) = (P : Int) * m := Int.natCast_mul _ _
    omega
  un := fun l x p q => by
    rw [evs_mir] at q
    obtain ⟨a, q, e⟩ := has_emap.mp q
    obtain ⟨j, e1, hj, e2, e3⟩ := F.un l x a q
    have : ((P * m : Nat) : Int) = (P : Int) * m := Int.natCast_mul _ _
    refine ⟨P * m + r - 1 - j, by omega, by omega, ?_, ?_⟩
    · show f (P * m + r - 1 - (P * m + r - 1 - j)) = l
      rw [show P * m + r - 1 - (P * m + r - 1 - j) = j by omega, e2]
    · show h (P * m + r - 1 - (P * m + r - 1 - j)) = x
      rw [show P * m + r - 1 - (P * m + r - 1 - j) = j by omega, e3]
/-- what the next squad is, by what this one shows -/
structure Up (P n : Nat) (f f' : Nat → Int) : Prop where
  low : ∀ i, i < 2 * P → f' i = f i + FF f P n fun s => f (4 * P + s) < f i
  mid : ∀ s0, s0 < P → f' (2 * P + s0) = f (2 * P + s0) + FF f P n fun s => (sim f P n s s0 ∧ gg f P s < 0) ∨ (¬ sim f P n s s0 ∧ f (4 * P + s) < f (2 * P + s0))
section
variable {m : Nat} {f f' h h' : Nat → Int}
theorem up_long (hP : 0 < P) (hB : Bd P r (2 * (P : Int)) (2 * P) 2 ss) (hN : NE ss) (hm : 7 ≤ m) (F : Pic2 P r ss m f h) (F' : Pic2 P r ss (m + 1) f' h') : Up P (P * m + r) f f' where
  low := fun i hi => by
    obtain ⟨U, h1, h2, h3⟩ := low_U hP hB hm F.pic F'.pic hi
    rw [h2, FF_eq hP hB hN hm F.pic h1 fun s u w d _ C => h3 s u w d C]
  mid := fun s0 hs => by
    obtain ⟨u, w, d, C⟩ := cls hP hB F.pic hm hs
    obtain ⟨U, h1, h2, h3⟩ := mid_U hP hB hm F.pic F'.pic hs C
    rw [h2, FF_eq hP hB hN hm F.pic h1 h3]
theorem up_short (hP : 0 < P) (hB : Bd P r (2 * (P : Int)) (2 * P) 2 ss) (hm : 7 ≤ m) (F : Pic2 P r ss m f h) (F' : Pic2 P r ss (m + 1) f' h') : Up P (P * m + r) h h' := by
  have hP' : (0 : Int) < P := by omega
  have h7 := Nat.mul_le_mul_left P hm
  have ec : ∀ m : Nat, ((P * m : Nat) : Int) = (P : Int) * m := fun m => Int.natCast_mul _ _
  have mid : ∀ s, s < P → h (3 * P + s) = h (2 * P + s) ∧ h' (2 * P + s) = h (2 * P + s) := fun s hs => by
    obtain ⟨l, x, e1, e2, q⟩ := F.ev (2 * P + s) (by omega)
    obtain ⟨a, g, q⟩ := mid_run hP' (by omega) hB (show 6 ≤ m by omega) (i := ((2 * P + s : Nat) : Int)) (by omega) (by omega) q
    obtain ⟨l1, _, q1⟩ := q m 1 (Nat.le_refl _) (by rw [← ec m]; simp; omega)
    obtain ⟨l2, _, q2⟩ := q (m + 1) 0 (by omega) (by have := ec m; simp [Int.mul_add]; omega)
    obtain ⟨i1, j1, _, _, j2⟩ := F.un _ _ _ q1
    obtain ⟨i2, j3, _, _, j4⟩ := F'.un _ _ _ q2
    have : i1 = 3 * P + s := by simp at j1; omega
    subst this
    have : i2 = 2 * P + s := by simp at j3; omega
    subst this
    omega
  have g0 : ∀ s, s < P → gg h P s = 0 := fun s hs => by
    unfold gg
    rw [(mid s hs).1]
    omega
  refine ⟨fun i hi => ?_, fun s0 hs => ?_⟩
  · rw [FF_short g0]
    obtain ⟨l, x, e1, e2, q⟩ := F.ev i (by omega)
    obtain ⟨a, q⟩ := low_end hP' (by omega) hB (show 6 ≤ m by omega) (i := (i : Int)) (by omega) q
    obtain ⟨l1, _, q1⟩ := q (m + 1) (by omega)
    obtain ⟨i1, j1, _, _, j2⟩ := F'.un _ _ _ q1
    have : i = i1 := by omega
    subst this
    omega
  · rw [FF_short g0, (mid s0 hs).2]
    simp
theorem up_len (hP : 0 < P) (hB : Bd P r (2 * (P : Int)) (2 * P) 2 ss) (hN : NE ss) (hm : 7 ≤ m) (F : Pic2 P r ss m f h) : ((evs (m + 1) ss).length : Int) = (evs m ss).length + FF f P (P * m + r) fun _ => True := by
  rw [← FF_eq hP hB hN hm F.pic (Nat.le_refl _) fun s u w d _ C => ⟨fun _ => by
    obtain ⟨k, pat, hu, _⟩ := C.pl
    exact (List.getElem?_eq_some_iff.mp hu).1, fun _ => trivial⟩]
  have := base_step (ss := ss) (m := m) (by omega) (ksB hB) ss.length
  unfold base at this
  rw [List.take_length] at this
  omega
theorem len_short (hP : 0 < P) (hB : Bd P r (2 * (P : Int)) (2 * P) 2 ss) (hm : 7 ≤ m) (F : Pic2 P r ss m f h) : FF h P (P * m + r) (fun _ => True) = 0 := FF_short fun s hs => by
  have hP' : (0 : Int) < P := by omega
  have h7 := Nat.mul_le_mul_left P hm
  have ec : ∀ m : Nat, ((P * m : Nat) : Int) = (P : Int) * m := fun m => Int.natCast_mul _ _
  obtain ⟨l, x, e1, e2, q⟩ := F.ev (2 * P + s) (by omega)
  obtain ⟨a, g, q⟩ := mid_run hP' (by omega) hB (show 6 ≤ m by omega) (i := ((2 * P + s : Nat) : Int)) (by omega) (by omega) q
  obtain ⟨l1, _, q1⟩ := q m 1 (Nat.le_refl _) (by rw [← ec m]; simp; omega)
  obtain ⟨i1, j1, _, _, j2⟩ := F.un _ _ _ q1
  have : i1 = 3 * P + s := by simp at j1; omega
  subst this
  unfold gg
  omega
end
end

/-! rows -/
def c1 (s : Sq) (i : Nat) : Int := (plc s i).1
def c2 (s : Sq) (i : Nat) : Int := (plc s i).2
def flp (n : Nat) (f : Nat → Int) (i : Nat) : Int := f (n - 1 - i)
theorem row_up {L r : Nat} (hr : r < L) {ws : List Wd} (hs : shapes ws ≤ 2) (hd : pOf ws ∣ L) {m : Nat} (hm : 7 ≤ m) :
    (Up L (L * m + r) (c1 (drilled ws (L * m + r))) (c1 (drilled ws (L * (m + 1) + r))) ∧ Up L (L * m + r) (c2 (drilled ws (L * m + r))) (c2 (drilled ws (L * (m + 1) + r)))) ∧
    (Up L (L * m + r) (flp (L * m + r) (c1 (drilled ws (L * m + r)))) (flp (L * (m + 1) + r) (c1 (drilled ws (L * (m + 1) + r)))) ∧ Up L (L * m + r) (flp (L * m + r) (c2 (drilled ws (L * m + r)))) (flp (L * (m + 1) + r) (c2 (drilled ws (L * (m + 1) + r))))) ∧
    ((drilled ws (L * (m + 1) + r)).1 : Int) = (drilled ws (L * m + r)).1 + FF (c1 (drilled ws (L * m + r))) L (L * m + r) (fun _ => True) ∧
    ((drilled ws (L * (m + 1) + r)).2.1 : Int) = (drilled ws (L * m + r)).2.1 + FF (c2 (drilled ws (L * m + r))) L (L * m + r) (fun _ => True) := by
  have hL : 0 < L := by omega
  obtain ⟨t, c, ss, hf, hB, hN⟩ := row_form hr hs hd
  have hf' : ∀ m, 3 ≤ m → fmOf ws (L * m + r) = ⟨t, c, evs m ss⟩ := hf
  have pic : ∀ m, 3 ≤ m → (t = true → Pic2 L r ss m (c1 (drilled ws (L * m + r))) (c2 (drilled ws (L * m + r)))) ∧ (t = false → Pic2 L r ss m (c2 (drilled ws (L * m + r))) (c1 (drilled ws (L * m + r)))) := fun m hm => by
    have iff := (shows ws (L * m + r)).iff
    rw [hf' m hm] at iff
    have hlen := drilled_len ws (L * m + r)
    constructor
    · intro ht
      subst ht
      refine ⟨fun i hi => ?_, fun l x p q => ?_⟩
      · have hg : (drilled ws (L * m + r)).2.2[i]? = some ((drilled ws (L * m + r)).2.2[i]'(by omega)) := List.getElem?_eq_getElem _
        refine ⟨_, _, by unfold c1; rw [plc_some hg]; rfl, by unfold c2; rw [plc_some hg]; rfl, (iff _ _ _).mpr ⟨i, rfl, hg⟩⟩
      · obtain ⟨i, e, q⟩ := (iff l x p).mp q
        refine ⟨i, e, ?_, by unfold c1; rw [plc_some q]; rfl, by unfold c2; rw [plc_some q]; rfl⟩
        have := (List.getElem?_eq_some_iff.mp q).1
        omega
    · intro ht
      subst ht
      refine ⟨fun i hi => ?_, fun l x p q => ?_⟩
      · have hg : (drilled ws (L * m + r)).2.2[i]? = some ((drilled ws (L * m + r)).2.2[i]'(by omega)) := List.getElem?_eq_getElem _
        refine ⟨_, _, by unfold c2; rw [plc_some hg]; rfl, by unfold c1; rw [plc_some hg]; rfl, (iff _ _ _).mpr ⟨i, rfl, hg⟩⟩
      · obtain ⟨i, e, q⟩ := (iff l x p).mp q
        refine ⟨i, e, ?_, by unfold c2; rw [plc_some q]; rfl, by unfold c1; rw [plc_some q]; rfl⟩
        have := (List.getElem?_eq_some_iff.mp q).1
        omega
  have hB' := bd_mir hB
  have hN' := ne_mir (P := L) (r := r) hN
  have rk : ∀ m, 3 ≤ m → (drilled ws (L * m + r)).1 = (if t = true then (evs m ss).length else c) ∧ (drilled ws (L * m + r)).2.1 = (if t = true then c else (evs m ss).length) := fun m hm => by
    have S := shows ws (L * m + r)
    have a := S.rk
    have b := S.fi
    rw [hf' m hm] at a b
    exact ⟨a, b⟩
  obtain ⟨r1, r2⟩ := rk m (by omega)
  obtain ⟨r3, r4⟩ := rk (m + 1) (by omega)
  cases t with
  | true =>
    have F := (pic m (by omega)).1 rfl
    have F' := (pic (m + 1) (by omega)).1 rfl
    refine ⟨⟨up_long hL hB hN hm F F', up_short hL hB hm F F'⟩, ⟨up_long hL hB' hN' hm F.mir F'.mir, up_short hL hB' hm F.mir F'.mir⟩, ?_, ?_⟩
    · rw [r1, r3]
      exact up_len hL hB hN hm F
    · rw [r2, r4, len_short hL hB hm F]
      simp
  | false =>
    have F := (pic m (by omega)).2 rfl
    have F' := (pic (m + 1) (by omega)).2 rfl
    refine ⟨⟨up_short hL hB hm F F', up_long hL hB hN hm F F'⟩, ⟨up_short hL hB' hm F.mir F'.mir, up_long hL hB' hN' hm F.mir F'.mir⟩, ?_, ?_⟩
    · rw [r1, r3, len_short hL hB hm F]
      simp
    · rw [r2, r4]
      exact up_len hL hB hN hm F
theorem Up.eqL {L n : Nat} {f f' g g' : Nat → Int} (h : Up L n f f') (h' : Up L n g g') (e : f = g) : ∀ i, i < 3 * L → f' i = g' i := fun i hi => by
  subst e
  by_cases h2 : i < 2 * L
  · rw [h.low i h2, h'.low i h2]
  · have := h.mid (i - 2 * L) (by omega)
    have q := h'.mid (i - 2 * L) (by omega)
    rw [show 2 * L + (i - 2 * L) = i by omega] at this q
    rw [this, q]
/-- who do the same once, from the seventh period on, do the same in the next one -/
theorem step_up {L r : Nat} (hr : r < L) {ws us : List Wd} (h1 : shapes ws ≤ 2) (h2 : shapes us ≤ 2) (d1 : pOf ws ∣ L) (d2 : pOf us ∣ L) {m : Nat} (hm : 7 ≤ m) (e : drilled ws (L * m + r) = drilled us (L * m + r)) :
    drilled ws (L * (m + 1) + r) = drilled us (L * (m + 1) + r) := by
  have hL : 0 < L := by omega
  have h7 := Nat.mul_le_mul_left L hm
  obtain ⟨⟨a1, a2⟩, ⟨b1, b2⟩, s1, s2⟩ := row_up hr h1 d1 hm
  obtain ⟨⟨a3, a4⟩, ⟨b3, b4⟩, s3, s4⟩ := row_up hr h2 d2 hm
  rw [← e] at a3 a4 b3 b4 s3 s4
  have hR := row_rgl hr h1 d1
  have hS := row_rgl hr h2 d2
  have l1 := a1.eqL a3 rfl
  have l2 := a2.eqL a4 rfl
  have k1 := b1.eqL b3 rfl
  have k2 := b2.eqL b4 rfl
  have pl : ∀ i, i < L * (m + 1) + r → plc (drilled ws (L * (m + 1) + r)) i = plc (drilled us (L * (m + 1) + r)) i := fun i hi => by
    rcases who hL (show 6 ≤ m + 1 by omega) hi with h | ⟨j, hj, rfl⟩ | ⟨f, w, f1, f2, rfl, f3⟩
    · exact Prod.ext (l1 i (by omega)) (l2 i (by omega))
    · exact Prod.ext (k1 j (by omega)) (k2 j (by omega))
    · obtain ⟨a, b, g, c, d, h, p⟩ := hR.mid f f1 f2
      obtain ⟨a', b', g', c', d', h', q⟩ := hS.mid f f1 f2
      have x0 := p m 0 (by omega) (by omega)
      have x1 := p m 1 (by omega) (by omega)
      have y0 := q m 0 (by omega) (by omega)
      have y1 := q m 1 (by omega) (by omega)
      have z0 := p (m + 1) 0 (by omega) (by rw [Nat.mul_add]; omega)
      have v0 := q (m + 1) 0 (by omega) (by rw [Nat.mul_add]; omega)
      have zw := p (m + 1) w (by omega) f3
      have vw := q (m + 1) w (by omega) f3
      rw [e] at x0 x1
      simp only [Nat.mul_zero, Nat.add_zero, Nat.mul_one, Int.natCast_zero, Int.natCast_one, Int.mul_zero, Int.mul_one, Int.add_zero] at x0 x1 y0 y1 z0 v0
      rw [x0] at y0
      rw [x1] at y1
      have z1 : plc (drilled ws (L * (m + 1) + r)) f = plc (drilled us (L * (m + 1) + r)) f := Prod.ext (l1 f (by omega)) (l2 f (by omega))
      rw [z0, v0] at z1
      have y0 := Prod.mk.inj y0
      have y1 := Prod.mk.inj y1
      have z1 := Prod.mk.inj z1
      have e1 : g = g' := by omega
      have e2 : h = h' := by omega
      rw [zw, vw, e1, e2, z1.1, z1.2]
  refine Prod.ext ?_ (Prod.ext ?_ (plc_ext (by rw [drilled_len, drilled_len]) fun i hi => pl i (by rw [drilled_len] at hi; exact hi)))
  · omega
  · omega
theorem lin3 {a b a' b' : Int} {M : Nat} (h6 : a * M + b = a' * M + b') (h7 : a * (M + 1 : Nat) + b = a' * (M + 1 : Nat) + b') : a = a' ∧ b = b' := by
  rw [Int.natCast_add, Int.mul_add, Int.mul_add, Int.natCast_one, Int.mul_one, Int.mul_one] at h7
  have e : a = a' := by
    generalize a * (M : Int) = x at *
    generalize a' * (M : Int) = y at *
    omega
  subst e
  exact ⟨rfl, by omega⟩
theorem lin4 {a b a' b' g g' : Int} {M : Nat} (h6 : a * M + b = a' * M + b') (h7 : a * (M + 1 : Nat) + b = a' * (M + 1 : Nat) + b') (h8 : a * M + b + g = a' * M + b' + g') : a = a' ∧ b = b' ∧ g = g' := by
  obtain ⟨rfl, rfl⟩ := lin3 h6 h7
  exact ⟨rfl, rfl, by omega⟩
/-- families equal at two squads that follow each other are equal for good -/
theorem rgl_eq2 {L r : Nat} {S T : Nat → Sq} (hL : 0 < L) (hS : Rgl L r S) (hT : Rgl L r T) {M : Nat} (hM : 7 ≤ M) (h6 : S M = T M) (h7 : S (M + 1) = T (M + 1)) {m : Nat} (hm : 6 ≤ m) : S m = T m := by
  have hLM : L * 7 ≤ L * M := Nat.mul_le_mul_left L hM
  have hLM1 : L * (M + 1) = L * M + L := by rw [Nat.mul_add, Nat.mul_one]
  refine Prod.ext ?_ (Prod.ext ?_ (plc_ext (by rw [hS.len, hT.len]) fun i hi => ?_))
  · obtain ⟨a, b, c, d, p⟩ := hS.size
    obtain ⟨a', b', c', d', q⟩ := hT.size
    have x1 := (p M (by omega)).1
    have x2 := (p (M + 1) (by omega)).1
    have x3 := (p m hm).1
    have y1 := (q M (by omega)).1
    have y2 := (q (M + 1) (by omega)).1
    have y3 := (q m hm).1
    rw [h6] at x1
    rw [h7] at x2
    have : a = a' ∧ b = b' := lin3 (x1.symm.trans y1) (x2.symm.trans y2)
    rw [this.1, this.2] at x3
    omega
  · obtain ⟨a, b, c, d, p⟩ := hS.size
    obtain ⟨a', b', c', d', q⟩ := hT.size
    have x1 := (p M (by omega)).2
    have x2 := (p (M + 1) (by omega)).2
    have x3 := (p m hm).2
    have y1 := (q M (by omega)).2
    have y2 := (q (M + 1) (by omega)).2
    have y3 := (q m hm).2
    rw [h6] at x1
    rw [h7] at x2
    have : c = c' ∧ d = d' := lin3 (x1.symm.trans y1) (x2.symm.trans y2)
    rw [this.1, this.2] at x3
    omega
  · rw [hS.len] at hi
    rcases who hL hm hi with h | ⟨j, hj, rfl⟩ | ⟨f, w, f1, f2, rfl, f3⟩
    · obtain ⟨a, b, c, d, p⟩ := hS.low i h
      obtain ⟨a', b', c', d', q⟩ := hT.low i h
      have x6 := p M (by omega)
      have x7 := p (M + 1) (by omega)
      have y6 := q M (by omega)
      have y7 := q (M + 1) (by omega)
      rw [h6, y6] at x6
      rw [h7, y7] at x7
      have x6 := Prod.mk.inj x6
      have x7 := Prod.mk.inj x7
      obtain ⟨x1, x2⟩ := x6
      obtain ⟨x3, x4⟩ := x7
      rw [p m hm, q m hm]
      have e1 : a = a' ∧ b = b' := lin3 x1.symm x3.symm
      have e2 : c = c' ∧ d = d' := lin3 x2.symm x4.symm
      rw [e1.1, e1.2, e2.1, e2.2]
    · obtain ⟨a, b, c, d, p⟩ := hS.high j hj
      obtain ⟨a', b', c', d', q⟩ := hT.high j hj
      have x6 := p M (by omega)
      have x7 := p (M + 1) (by omega)
      have y6 := q M (by omega)
      have y7 := q (M + 1) (by omega)
      rw [h6, y6] at x6
      rw [h7, y7] at x7
      have x6 := Prod.mk.inj x6
      have x7 := Prod.mk.inj x7
      obtain ⟨x1, x2⟩ := x6
      obtain ⟨x3, x4⟩ := x7
      rw [p m hm, q m hm]
      have e1 : a = a' ∧ b = b' := lin3 x1.symm x3.symm
      have e2 : c = c' ∧ d = d' := lin3 x2.symm x4.symm
      rw [e1.1, e1.2, e2.1, e2.2]
    · obtain ⟨a, b, g, c, d, h, p⟩ := hS.mid f f1 f2
      obtain ⟨a', b', g', c', d', h', q⟩ := hT.mid f f1 f2
      have x6 := p M 0 (by omega) (by omega)
      have x7 := p (M + 1) 0 (by omega) (by omega)
      have x8 := p M 1 (by omega) (by omega)
      have y6 := q M 0 (by omega) (by omega)
      have y7 := q (M + 1) 0 (by omega) (by omega)
      have y8 := q M 1 (by omega) (by omega)
      rw [h6, y6] at x6
      rw [h7, y7] at x7
      rw [h6, y8] at x8
      have x6 := Prod.mk.inj x6
      have x7 := Prod.mk.inj x7
      have x8 := Prod.mk.inj x8
      simp only [Int.natCast_zero, Int.natCast_one, Int.mul_zero, Int.mul_one, Int.add_zero] at x6 x7 x8
      obtain ⟨x1, x2⟩ := x6
      obtain ⟨x3, x4⟩ := x7
      obtain ⟨x5, x9⟩ := x8
      rw [p m w hm f3, q m w hm f3]
      have e1 : a = a' ∧ b = b' ∧ g = g' := lin4 x1.symm x3.symm x5.symm
      have e2 : c = c' ∧ d = d' ∧ h = h' := lin4 x2.symm x4.symm x9.symm
      rw [e1.1, e1.2.1, e1.2.2, e2.1, e2.2.1, e2.2.2]
/-- who do the same once, from the seventh period on, do the same for good -/
theorem once {L r : Nat} (hr : r < L) {ws us : List Wd} (h1 : shapes ws ≤ 2) (h2 : shapes us ≤ 2) (d1 : pOf ws ∣ L) (d2 : pOf us ∣ L) {M m : Nat} (hM : 7 ≤ M) (hm : 6 ≤ m) (e : drilled ws (L * M + r) = drilled us (L * M + r)) :
    drilled ws (L * m + r) = drilled us (L * m + r) :=
  rgl_eq2 (by omega) (row_rgl hr h1 d1) (row_rgl hr h2 d2) hM e (step_up hr h1 h2 d1 d2 hM e) hm
end RG.Q1

set_option Elab.async false
set_option linter.all false
set_option maxRecDepth 100000
set_option maxHeartbeats 4000000
namespace SQ
open PySem PySem.Spec PyProof.Rows L2 PD
/-! #### _law_source -/
def F__law_source : DF
  | [a, b], Q, _ => ∃ (ns : List Int) (k : Nat), a = .lst (ns.map D.int) ∧ b = .int k ∧ k < 1000 ∧ Q .src
  | _, _, _ => False
theorem src_seed (c : Int) (k : Nat) (hk : k < 1000) (x y : Int) (hx : x = c % 2147483489 + 1) (hy : y = 48271 + 2 * (k : Int)) : Sm x ∧ Sm y := ⟨.of (by omega) (by omega), .of (by omega) (by omega)⟩
theorem eight_at (k : Nat) (p : Int → Prop) (xs : List Int) (hl : xs.length = 8) (h : ∀ x ∈ xs, p x) : ∃ v, atI (xs.map D.int) ((k : Int) % 8) = some (.int v) ∧ p v := by
  have hk : k % 8 < xs.length := by omega
  refine ⟨xs[k % 8], ?_, h _ (List.getElem_mem hk)⟩
  rw [show ((k : Int) % 8) = ((k % 8 : Nat) : Int) by omega]
  exact atI_nat (by rw [List.getElem?_map, List.getElem?_eq_getElem hk]; rfl)
theorem F_src {ns : List Int} {k : Nat} {Q : D → Prop} {E : Ex} (hk : k < 1000) (h : Q .src) : F__law_source [.lst (ns.map D.int), .int (k : Int)] Q E := ⟨ns, k, rfl, rfl, hk, h⟩
/-! #### is_word -/
@[simp] def F_is_word : DF
  | [d], Q, _ => d.noTy = true ∧ Q (.bl (isWordD d))
  | _, _, _ => False
/-! #### is_row -/
@[simp] def F_is_row : DF
  | [d], Q, _ => okV d = true ∧ Q (.bl (isRowD d))
  | _, _, _ => False
/-! #### require_row -/
@[simp] def F_require_row : DF
  | [d], Q, _ => okV d = true ∧ isRowD d = true ∧ Q .non
  | _, _, _ => False
/-! #### turns_of -/
def F_turns_of : DF
  | [d], Q, _ => ∃ ws, d = rowD ws ∧ ws.length ≤ 1000 ∧ Q (.int (tOf ws))
  | _, _, _ => False
theorem look_trn (w : Wd) : kget k_TURNS w.nm (.int 0) = .int w.trn := by cases w <;> rfl
theorem sum_cast : ∀ ws : List Wd, (ws.map fun w => (w.trn : Int)).sum = ((ws.map Wd.trn).sum : Nat)
  | [] => rfl
  | w :: ws => by simp [sum_cast ws]
/-! #### first_state -/
def F_first_state : DF
  | [a], Q, _ => ∃ n : Nat, a = .int n ∧ n < 1000000 ∧ Q (RG.sqD (RG.firstS n))
  | _, _, _ => False
/-! #### resized -/
def szD (s : Nat × Nat) : D := .tup [.int s.1, .int s.2]
def F_resized : DF
  | [a, b, c], Q, _ => ∃ (w : Wd) (R F : Nat), a = wD w ∧ b = .int R ∧ c = .int F ∧ R < 100000000000000 ∧ F < 100000000000000 ∧ Q (szD (RG.resized w R F))
  | _, _, _ => False
/-! #### in_ranks -/
-- RG.
open RG in
def F_in_ranks : DF
  | [a, b], Q, _ => ∃ (ps : List (Nat × Nat)) (w : Nat), a = spotsD ps ∧ b = .int w ∧ 0 < w ∧ w < 1000000000000 ∧ ps.length < 1000000 ∧ ps.Nodup ∧ Q (spotsD (inRanks ps w))
  | _, _, _ => False
/-- what the sorted list says, said of any reading of its items -/
theorem ranks_done {ps : List (Nat × Nat)} {w : Nat} {zs : List ((Nat × Nat) × Nat)} (hl : zs.length = ps.length) (h1 : ∀ i, i < ps.length → ∃ at_, zs[at_]? = some (ps[i]!, i) ∧ at_ = RG.rankAt ps ps[i]!) (h2 : ∀ (at_ : Nat) s p, zs[at_]? = some (s, p) → ps[p]? = some s ∧ at_ = RG.rankAt ps s)
    {fs : List D} (hf : fs.length = ps.length) (h : ∀ j p s, zs[j]? = some (s, p) → j < zs.length → fs[p]? = some (RG.spotD (j / w, j % w))) : fs = (RG.inRanks ps w).map RG.spotD := by
  apply List.ext_getElem?
  intro i
  by_cases hi : i < ps.length
  · obtain ⟨k, hk, ek⟩ := h1 i hi
    rw [h k i _ hk (List.getElem?_eq_some_iff.mp hk).1]
    unfold RG.inRanks
    rw [List.map_map, List.getElem?_map, List.getElem?_eq_getElem hi, ek, getElem!_pos ps i hi]
    rfl
  · rw [List.getElem?_eq_none (by omega), List.getElem?_eq_none (by unfold RG.inRanks; simp; omega)]
def swapD : D → D
  | .tup [i, s] => D.tup [s, i]
  | _ => .non
@[simp] theorem swapD_1 (i s : D) : swapD (.tup [i, s]) = .tup [s, i] := rfl
theorem enum_swap (ps : List (Nat × Nat)) : (enumD 0 (ps.map RG.spotD)).map swapD = (RG.enumE ps).map RG.encE := by
  rw [RG.enumD_spots, List.map_map]
  rfl
theorem sortable_enc (es : List ((Nat × Nat) × Nat)) : (es.map RG.encE).all (D.fl 12) = true ∧ PySem.W.AllAlike ((es.map RG.encE).map D.pd) ∧ PySem.W.Sortable ((es.map RG.encE).map D.pd) := by
  refine ⟨List.all_eq_true.mpr fun x hx => ?_, ?_, ?_⟩
  · obtain ⟨e, _, rfl⟩ := List.mem_map.mp hx
    refine fl_tup' fun y hy => ?_
    simp at hy
    rcases hy with rfl | rfl
    · exact RG.fl_spot _ 10
    · exact fl_int _ _
  · rw [List.map_map]
    exact PySem.W.AllAlike.of (enc := fun e => (RG.encE e).pd) fun b b' => RG.alike_enc b b'
  · rw [List.map_map]
    exact PySem.W.Sortable.tuples (enc := fun e => (RG.encE e).pd) fun b => ⟨_, _, rfl⟩
theorem nodup_p {ps : List (Nat × Nat)} {zs : List ((Nat × Nat) × Nat)} (hl : zs.length = ps.length) (h2 : ∀ (at_ : Nat) s p, zs[at_]? = some (s, p) → ps[p]? = some s ∧ at_ = RG.rankAt ps s) {i j : Nat} {s t : Nat × Nat} {p : Nat} (hi : zs[i]? = some (s, p)) (hj : zs[j]? = some (t, p)) : i = j := by
  obtain ⟨a, b⟩ := h2 i s p hi
  obtain ⟨c, d⟩ := h2 j t p hj
  have : s = t := by rw [a] at c; exact Option.some.inj c
  rw [b, d, this]
/-! #### moved -/
def F_moved : DF
  | [a, b, c, d], Q, _ => ∃ (w : Wd) (R F : Nat) (s : Nat × Nat), a = wD w ∧ b = .int R ∧ c = .int F ∧ d = RG.spotD s ∧ s.1 < R ∧ s.2 < F ∧ R < 100000000000000 ∧ F < 100000000000000 ∧ Q (RG.spotD (RG.moved w R F s))
  | _, _, _ => False
/-! #### obeyed -/
/-- a squad that a row leads to -/
def Okq (st : RG.Sq) : Prop := st.2.2.Nodup ∧ st.2.2.length < 1000000 ∧ 0 < st.2.2.length ∧ st.1 < 100000000000000 ∧ st.2.1 < 100000000000000 ∧ ∀ s ∈ st.2.2, s.1 < st.1 ∧ s.2 < st.2.1
def F_obeyed : DF
  | [a, b], Q, _ => ∃ (w : Wd) (st : RG.Sq), a = wD w ∧ b = RG.sqD st ∧ Okq st ∧ Q (RG.sqD (RG.obeyed w st))
  | _, _, _ => False
/-! #### drilled -/
def F_drilled : DF
  | [a, b], Q, _ => ∃ (ws : List Wd) (n : Nat), a = rowD ws ∧ b = .int n ∧ 0 < n ∧ n < 1000000 ∧ ws.length ≤ 16 ∧ Q (RG.sqD (RG.drilled ws n))
  | _, _, _ => False
theorem drilled_snoc (ws : List Wd) (w : Wd) (n : Nat) : RG.drilled (ws ++ [w]) n = RG.obeyed w (RG.drilled ws n) := by
  unfold RG.drilled
  rw [List.foldl_append]
  rfl
theorem obeyed_bound (w : Wd) (st : RG.Sq) {M : Nat} (h1 : st.1 ≤ M) (h2 : st.2.1 ≤ M) (h3 : st.2.2.length ≤ M) (h4 : 2 ≤ M) : (RG.obeyed w st).1 ≤ 2 * M ∧ (RG.obeyed w st).2.1 ≤ 2 * M := by
  cases w <;> simp only [RG.obeyed, RG.resized] <;> first | omega | (split <;> simp only [] <;> omega)
theorem fold_bound : ∀ (ws : List Wd) (st : RG.Sq) (M : Nat), st.1 ≤ M → st.2.1 ≤ M → st.2.2.length ≤ M → 2 ≤ M → (ws.foldl (fun s w => RG.obeyed w s) st).1 ≤ 2 ^ ws.length * M ∧ (ws.foldl (fun s w => RG.obeyed w s) st).2.1 ≤ 2 ^ ws.length * M
  | [], st, M, h1, h2, _, _ => by simpa using ⟨h1, h2⟩
  | w :: ws, st, M, h1, h2, h3, h4 => by
    obtain ⟨a, b⟩ := obeyed_bound w st h1 h2 h3 h4
    have := fold_bound ws (RG.obeyed w st) (2 * M) a b (by rw [RG.obeyed_len]; omega) (by omega)
    rw [List.length_cons, Nat.pow_succ, Nat.mul_assoc]
    exact this
theorem drilled_bound (ws : List Wd) {n : Nat} (hn : 0 < n) : (RG.drilled ws n).1 ≤ 2 ^ ws.length * (2 * n) ∧ (RG.drilled ws n).2.1 ≤ 2 ^ ws.length * (2 * n) :=
  fold_bound ws (RG.firstS n) (2 * n) (by show 1 ≤ _; omega) (by show n ≤ _; omega) (by simp [RG.firstS]; omega) (by omega)
theorem drilled_ok {ws : List Wd} {n : Nat} (h0 : 0 < n) (hn : n < 1000000) (hw : ws.length ≤ 16) : Okq (RG.drilled ws n) := by
  have hb := drilled_bound ws h0
  have hp : 2 ^ ws.length ≤ 2 ^ 16 := Nat.pow_le_pow_right (by decide) hw
  have hm : 2 ^ ws.length * (2 * n) ≤ 2 ^ 16 * (2 * 1000000) := Nat.mul_le_mul hp (by omega)
  refine ⟨RG.shows_nodup ws n, by rw [RG.drilled_len]; exact hn, by rw [RG.drilled_len]; exact h0, by omega, by omega, fun s hs => ?_⟩
  obtain ⟨i, hi⟩ := List.getElem?_of_mem hs
  exact (RG.shows ws n).lt hi
/-! #### are_same -/
def same (ws us : List Wd) (n : Nat) : Prop := tOf ws = tOf us ∧ RG.drilled ws n = RG.drilled us n
instance (ws us : List Wd) (n : Nat) : Decidable (same ws us n) := by unfold same; exact inferInstance
def F_are_same : DF
  | [a, b, c], Q, _ => ∃ (ws us : List Wd) (n : Nat), a = rowD ws ∧ b = rowD us ∧ c = .int n ∧ ws.length ≤ 16 ∧ us.length ≤ 16 ∧ 0 < n ∧ n < 1000000 ∧ Q (.bl (decide (same ws us n)))
  | _, _, _ => False
/-! #### period_of -/
def F_period_of : DF
  | [d], Q, _ => ∃ ws, d = rowD ws ∧ ws.length ≤ 8 ∧ Q (.int (pOf ws))
  | _, _, _ => False
theorem look_fac (w : Wd) : kget k_FACTORS w.nm (.int 1) = .int w.fac := by cases w <;> rfl
theorem fac_le (w : Wd) : 1 ≤ w.fac ∧ w.fac ≤ 3 := by cases w <;> decide
theorem pOf_take (ws : List Wd) (i : Nat) (w : Wd) (h : ws[i]? = some w) : pOf (ws.take (i + 1)) = pOf (ws.take i) * w.fac := by
  unfold pOf
  rw [List.take_add_one, h, List.map_append, List.foldl_append]
  rfl
theorem pOf_le : ∀ (ws : List Wd) (i : Nat), pOf (ws.take i) ≤ 3 ^ i ∧ 1 ≤ pOf (ws.take i)
  | ws, 0 => ⟨Nat.le_refl _, Nat.le_refl _⟩
  | ws, i + 1 => by
    obtain ⟨h1, h2⟩ := pOf_le ws i
    cases e : ws[i]? with
    | none =>
      have : ws.take (i + 1) = ws.take i := by rw [List.take_add_one, e]; simp
      rw [this]
      exact ⟨Nat.le_trans h1 (Nat.pow_le_pow_right (by decide) (by omega)), h2⟩
    | some w =>
      rw [pOf_take ws i w e, Nat.pow_succ]
      exact ⟨Nat.mul_le_mul h1 (fac_le w).2, Nat.mul_le_mul h2 (fac_le w).1⟩
/-! #### common_period -/
def lcmP (ws us : List Wd) : Nat := Nat.lcm (pOf ws) (pOf us)
def F_common_period : DF
  | [a, b], Q, _ => ∃ ws us, a = rowD ws ∧ b = rowD us ∧ Row ws ∧ Row us ∧ Q (.int (lcmP ws us))
  | _, _, _ => False
theorem pOf_sh : ∀ ws : List Wd, pOf ws ≤ 3 ^ RG.shapes ws
  | [] => by decide
  | w :: ws => by
    have ih := pOf_sh ws
    rw [pOf_cons, RG.shapes_cons, Nat.pow_add]
    have hw : w.fac ≤ 3 ^ (if 1 < w.fac then 1 else 0) := by cases w <;> decide
    exact Nat.mul_le_mul hw ih
theorem pOf_9 {ws : List Wd} (h : Row ws) : 1 ≤ pOf ws ∧ pOf ws ≤ 9 := by
  have h1 := pOf_sh ws
  have h2 : 3 ^ RG.shapes ws ≤ 3 ^ 2 := Nat.pow_le_pow_right (by decide) h.2
  have := pOf_pos ws
  omega
theorem lcm_81 {ws us : List Wd} (h : Row ws) (h' : Row us) : 1 ≤ lcmP ws us ∧ lcmP ws us ≤ 81 := by
  have a := pOf_9 h
  have b := pOf_9 h'
  have h1 : lcmP ws us ≤ pOf ws * pOf us := Nat.le_of_dvd (Nat.mul_pos (by omega) (by omega)) (Nat.lcm_dvd (Nat.dvd_mul_right _ _) (Nat.dvd_mul_left _ _))
  have h2 : pOf ws * pOf us ≤ 9 * 9 := Nat.mul_le_mul a.2 b.2
  have h3 : 0 < lcmP ws us := Nat.lcm_pos (by omega) (by omega)
  omega
/-- a step of the search for the least common multiple -/
theorem lcm_step {a b f : Nat} (ha : 0 < a) (hb : 0 < b) (hd : a ∣ f) (hl : f ≤ Nat.lcm a b) (hn : f % b ≠ 0) : f + a ≤ Nat.lcm a b := by
  have h1 : a ∣ Nat.lcm a b := Nat.dvd_lcm_left a b
  have hne : f ≠ Nat.lcm a b := fun z => hn (by rw [z]; exact Nat.mod_eq_zero_of_dvd (Nat.dvd_lcm_right a b))
  obtain ⟨x, hx⟩ := hd
  obtain ⟨y, hy⟩ := h1
  have : x < y := by
    rcases Nat.lt_or_ge x y with z | z
    · exact z
    · have := Nat.mul_le_mul_left a z
      omega
  have := Nat.mul_le_mul_left a this
  rw [Nat.mul_succ] at this
  omega
theorem lcm_end {a b f : Nat} (h0 : 0 < f) (hd : a ∣ f) (hl : f ≤ Nat.lcm a b) (hn : f % b = 0) : f = Nat.lcm a b :=
  Nat.le_antisymm hl (Nat.le_of_dvd h0 (Nat.lcm_dvd hd (Nat.dvd_of_mod_eq_zero hn)))
/-! #### parting_of -/
def optD : Option Nat → D
  | none => .non
  | some n => .int n
/-- the first of 1 .. k with p -/
def firstN (p : Nat → Bool) : Nat → Option Nat
  | 0 => none
  | k + 1 => match firstN p k with
    | some n => some n
    | none => if p (k + 1) = true then some (k + 1) else none
theorem firstN_some {p : Nat → Bool} : ∀ {k n : Nat}, firstN p k = some n → 1 ≤ n ∧ n ≤ k ∧ p n = true ∧ ∀ j, 1 ≤ j → j < n → p j = false
  | 0, n, h => by cases h
  | k + 1, n, h => by
    unfold firstN at h
    cases e : firstN p k with
    | some m =>
      rw [e] at h
      cases h
      obtain ⟨a, b, c, d⟩ := firstN_some e
      exact ⟨a, by omega, c, d⟩
    | none =>
      rw [e] at h
      simp only at h
      split at h
      · cases h
        refine ⟨by omega, Nat.le_refl _, by assumption, fun j h1 h2 => ?_⟩
        exact firstN_none e j h1 (by omega)
      · cases h
where firstN_none {p : Nat → Bool} : ∀ {k : Nat}, firstN p k = none → ∀ j, 1 ≤ j → j ≤ k → p j = false
  | 0, _, j, h1, h2 => by omega
  | k + 1, h, j, h1, h2 => by
    unfold firstN at h
    cases e : firstN p k with
    | some m => rw [e] at h; cases h
    | none =>
      rw [e] at h
      simp only at h
      split at h
      · cases h
      · rename_i hp
        by_cases hj : j ≤ k
        · exact firstN_none e j h1 hj
        · have : j = k + 1 := by omega
          subst this
          simpa using hp
theorem firstN_none {p : Nat → Bool} {k : Nat} (h : firstN p k = none) (j : Nat) (h1 : 1 ≤ j) (h2 : j ≤ k) : p j = false := firstN_some.firstN_none h j h1 h2
theorem firstN_eq {p : Nat → Bool} {k n : Nat} (h1 : 1 ≤ n) (h2 : n ≤ k) (hp : p n = true) (h : ∀ j, 1 ≤ j → j < n → p j = false) : firstN p k = some n := by
  cases e : firstN p k with
  | none => rw [firstN_none e n h1 h2] at hp; cases hp
  | some m =>
    obtain ⟨a, b, c, d⟩ := firstN_some e
    rcases Nat.lt_trichotomy m n with z | z | z
    · rw [h m a z] at c; cases c
    · rw [z]
    · rw [d n h1 z] at hp; cases hp
theorem firstN_no {p : Nat → Bool} {k : Nat} (h : ∀ j, 1 ≤ j → j ≤ k → p j = false) : firstN p k = none := by
  cases e : firstN p k with
  | none => rfl
  | some m =>
    obtain ⟨a, b, c, d⟩ := firstN_some e
    rw [h m a b] at c; cases c
theorem firstN_dec (p : Nat → Bool) (i : Nat) : decide (firstN p (i + 1) = none) = (decide (firstN p i = none) && !p (i + 1)) := by
  show decide ((match firstN p i with | some n => some n | none => if p (i + 1) = true then some (i + 1) else none) = none) = _
  cases firstN p i with
  | some n => rfl
  | none => cases p (i + 1) <;> rfl
def parting (ws us : List Wd) : Option Nat := firstN (fun n => !decide (same ws us n)) (8 * lcmP ws us)
def F_parting_of : DF
  | [a, b], Q, _ => ∃ ws us, a = rowD ws ∧ b = rowD us ∧ Row ws ∧ Row us ∧ Q (optD (parting ws us))
  | _, _, _ => False
/-! #### parting_squad -/
def F_parting_squad : DF
  | [a, b], Q, _ => ∃ ws us, a = rowD ws ∧ b = rowD us ∧ Row ws ∧ Row us ∧ Q (optD (parting ws us))
  | _, _, _ => False
/-! #### _law_pick -/
def F__law_pick : DF
  | [a, b], Q, _ => ∃ l : Int, a = .src ∧ b = .int l ∧ 0 < l ∧ l < 1000000000000000000000000000 ∧ ∀ v, 0 ≤ v → v < l → Q (.int v)
  | _, _, _ => False
theorem pickN {Q : D → Prop} {E : Ex} (l : Nat) (h1 : 0 < l) (h2 : l < 1000000000000000000000000000) (h : ∀ v : Nat, v < l → Q (.int v)) : F__law_pick [.src, .int (l : Int)] Q E := ⟨l, rfl, rfl, by omega, by omega, fun v v0 v1 => by
  obtain ⟨k, rfl⟩ := Int.eq_ofNat_of_zero_le v0
  exact h k (by omega)⟩
/-! #### _law_chosen -/
def F__law_chosen : DF
  | [a, b], Q, _ => ∃ xs, a = .src ∧ (b = .lst xs ∨ b = .tup xs) ∧ xs ≠ [] ∧ xs.length < 1000000 ∧ ∀ x ∈ xs, Q x
  | _, _, _ => False
/-! #### _law_all_words -/
@[simp] def F__law_all_words : DF
  | [], Q, _ => Q (.lst (allW.map wD))
  | _, _, _ => False
/-! #### _law_factor -/
def F__law_factor : DF
  | [d], Q, _ => ∃ w, d = wD w ∧ Q (.int w.fac)
  | _, _, _ => False
/-! #### _law_is_good_row -/
@[simp] def F__law_is_good_row : DF
  | [d], Q, _ => okV d = true ∧ Q (.bl (isRowD d))
  | _, _, _ => False
/-! #### _law_row -/
def F__law_row : DF
  | [a, b], Q, _ => ∃ n : Int, a = .src ∧ b = .int n ∧ 0 ≤ n ∧ n < 1000000 ∧ ∀ ws, Row ws → ws.length ≤ n → Q (rowD ws)
  | _, _, _ => False
theorem row_nil : Row [] := ⟨Nat.zero_le _, Nat.zero_le _⟩
theorem rowD_snoc (ws : List Wd) (w : Wd) : D.tup (ws.map wD ++ [wD w]) = rowD (ws ++ [w]) := by simp [rowD]
theorem wD_inj {a b : Wd} (h : wD a = wD b) : a = b := by
  cases a <;> cases b <;> first | rfl | (exfalso; revert h; simp [wD, Wd.nm]; done) | (exfalso; injection h with h; revert h; decide +kernel)
theorem rowD_inj {ws us : List Wd} (h : rowD ws = rowD us) : ws = us := by
  injection h with h
  exact (List.map_inj_right (fun _ _ => wD_inj)).mp h
theorem row_of {ws : List Wd} (h : isRowD (rowD ws) = true) : Row ws := by
  obtain ⟨us, e, hR⟩ := isRowD_ex h
  rw [rowD_inj e]
  exact hR
theorem fAdd_row (ws : List Wd) (w : Wd) (Q : D → Prop) : fAdd (rowD ws) (.tup [wD w]) Q = (ws.length + 1 ≤ sizeLine ∧ Q (rowD (ws ++ [w]))) := by
  simp only [rowD, fAdd_3, List.length_map, List.length_singleton, List.map_append, List.map_cons, List.map_nil]
/-! #### _law_turns -/
def F__law_turns : DF
  | [d], Q, _ => ∃ ws, d = rowD ws ∧ ws.length ≤ 1000 ∧ Q (.int (tOf ws))
  | _, _, _ => False
def trnTo (ws : List Wd) : Nat := (ws.map Wd.trn).sum
theorem trnTo_take (ws : List Wd) (i : Nat) (w : Wd) (h : ws[i]? = some w) : trnTo (ws.take (i + 1)) = trnTo (ws.take i) + w.trn := by
  unfold trnTo
  rw [List.take_add_one, h, List.map_append, List.sum_append]
  simp
/-! #### _law_step -/
def F__law_step : DF
  | [a, b, c, d, e], Q, _ => ∃ (w : Wd) (R F : Nat) (s : Nat × Nat), a = wD w ∧ b = .int R ∧ c = .int F ∧ d = .int s.1 ∧ e = .int s.2 ∧ s.1 < R ∧ s.2 < F ∧ R < 100000000000000 ∧ F < 100000000000000 ∧ Q (RG.spotD (RG.moved w R F s))
  | _, _, _ => False
/-! #### _law_ranked -/
def F__law_ranked : DF
  | [a, b], Q, _ => ∃ (ps : List (Nat × Nat)) (w : Nat), a = RG.spotsD ps ∧ b = .int w ∧ 0 < w ∧ w < 1000000000000 ∧ ps.length < 1000000 ∧ ps.Nodup ∧ Q (RG.spotsD (RG.inRanks ps w))
  | _, _, _ => False
theorem rank_loop {ps : List (Nat × Nat)} {w : Nat} {zs : List ((Nat × Nat) × Nat)} (hlz : zs.length = ps.length) (h2 : ∀ (at_ : Nat) s p, zs[at_]? = some (s, p) → ps[p]? = some s ∧ at_ = RG.rankAt ps s) {i p : Nat} {s : Nat × Nat} (hzi : zs[i]? = some (s, p)) {fs : List D} (hpf : p < fs.length)
    (hI : ∀ (j p : Nat) (s : Nat × Nat), zs[j]? = some (s, p) → j < i → fs[p]? = some (RG.spotD (j / w, j % w))) : ∀ (j q : Nat) (s : Nat × Nat), zs[j]? = some (s, q) → j < i + 1 → (fs.set p (RG.spotD (i / w, i % w)))[q]? = some (RG.spotD (j / w, j % w)) := fun j q t hj hji => by
  by_cases hjp : q = p
  · subst hjp
    have : i = j := nodup_p hlz h2 hzi hj
    subst this
    rw [List.getElem?_set_self hpf]
  · rw [List.getElem?_set_ne (Ne.symm hjp)]
    refine hI j q t hj ?_
    rcases Nat.lt_or_ge j i with z | z
    · exact z
    · have : j = i := by omega
      subst this
      rw [hzi] at hj
      cases hj
      exact absurd rfl hjp
/-! #### _law_obey -/
def F__law_obey : DF
  | [a, b], Q, _ => ∃ (w : Wd) (st : RG.Sq), a = wD w ∧ b = RG.sqD st ∧ Okq st ∧ Q (RG.sqD (RG.obeyed w st))
  | _, _, _ => False
/-! #### _law_drilled -/
def F__law_drilled : DF
  | [a, b], Q, _ => ∃ (ws : List Wd) (n : Nat), a = rowD ws ∧ b = .int n ∧ 0 < n ∧ n < 1000000 ∧ ws.length ≤ 16 ∧ Q (RG.sqD (RG.drilled ws n))
  | _, _, _ => False
/-! #### _law_lcm -/
def F__law_lcm : DF
  | [a, b], Q, _ => ∃ x y : Nat, a = .int x ∧ b = .int y ∧ 0 < x ∧ 0 < y ∧ Q (.int (Nat.lcm x y))
  | _, _, _ => False
/-! #### _law_period -/
def F__law_period : DF
  | [d], Q, _ => ∃ ws, d = rowD ws ∧ ws.length ≤ 8 ∧ Q (.int (pOf ws))
  | _, _, _ => False
/-! #### _law_level -/
def F__law_level : DF
  | [a, b], Q, _ => ∃ ws us, a = rowD ws ∧ b = rowD us ∧ Row ws ∧ Row us ∧ Q (.int (lcmP ws us))
  | _, _, _ => False
/-! #### _law_first_apart -/
def F__law_first_apart : DF
  | [a, b], Q, _ => ∃ ws us, a = rowD ws ∧ b = rowD us ∧ Row ws ∧ Row us ∧ Q (optD (parting ws us))
  | _, _, _ => False
/-! #### is_integer -/
def isIntD (d : D) (lo hi : Int) : Bool := match d with
  | .int i => decide (lo ≤ i) && decide (i ≤ hi)
  | _ => false
def F_is_integer : DF
  | [d, a, b], Q, _ => ∃ lo hi : Int, a = .int lo ∧ b = .int hi ∧ d.noTy = true ∧ Q (.bl (isIntD d lo hi))
  | _, _, _ => False
/-! #### require_number -/
def F_require_number : DF
  | [d, a, b], Q, _ => ∃ v lo hi : Int, d = .int v ∧ a = .int lo ∧ b = .int hi ∧ lo ≤ v ∧ v ≤ hi ∧ Q .non
  | _, _, _ => False
/-! #### is_small -/
def F_is_small : DF
  | [a, b], Q, _ => ∃ (ws : List Wd) (n : Nat), a = rowD ws ∧ b = .int n ∧ ws.length ≤ 8 ∧ Q (.bl (decide (n < 9 * pOf ws)))
  | _, _, _ => False
theorem pOf_8 {ws : List Wd} (h : ws.length ≤ 8) : 1 ≤ pOf ws ∧ pOf ws ≤ 6561 := by
  have := pOf_le ws ws.length
  rw [List.take_length] at this
  have h2 : 3 ^ ws.length ≤ 3 ^ 8 := Nat.pow_le_pow_right (by decide) h
  omega
/-! #### small_number -/
def F_small_number : DF
  | [a, b], Q, _ => ∃ (ws : List Wd) (n : Nat), a = rowD ws ∧ b = .int n ∧ ws.length ≤ 8 ∧ 9 * pOf ws ≤ n ∧ Q (.tup [.int ((8 * pOf ws + n % pOf ws : Nat) : Int), .int (((n - (8 * pOf ws + n % pOf ws)) / pOf ws : Nat) : Int)])
  | _, _, _ => False
/-! #### grown -/
def spI (p : Int × Int) : D := .tup [.int p.1, .int p.2]
def grow (a b : Int × Int) (t : Int) : Int × Int := (a.1 + (b.1 - a.1) * t, a.2 + (b.2 - a.2) * t)
def F_grown : DF
  | [a, b, c], Q, _ => (∃ (p q : Int × Int) (t : Int), a = spI p ∧ b = spI q ∧ c = .int t ∧ (-100000000000000000 < p.1 ∧ p.1 < 100000000000000000 ∧ -100000000000000000 < p.2 ∧ p.2 < 100000000000000000 ∧ -100000000000000000 < q.1 ∧ q.1 < 100000000000000000 ∧ -100000000000000000 < q.2 ∧ q.2 < 100000000000000000 ∧ 0 ≤ t ∧ t < 100000000000000000) ∧ Q (spI (grow p q t))) ∨ ∃ (x y t : Int), a = .tup [.int x] ∧ b = .tup [.int y] ∧ c = .int t ∧ (-100000000000000000 < x ∧ x < 100000000000000000 ∧ -100000000000000000 < y ∧ y < 100000000000000000 ∧ 0 ≤ t ∧ t < 100000000000000000) ∧ Q (.tup [.int (x + (y - x) * t)])
  | _, _, _ => False
/-! #### place_of -/
def F_place_of : DF
  | [a, b, c], Q, _ => ∃ (ws : List Wd) (n i : Nat), a = rowD ws ∧ b = .int n ∧ c = .int i ∧ Row ws ∧ 0 < n ∧ n ≤ 1000000000000 ∧ i < n ∧ Q (spI (RG.plc (RG.drilled ws n) i))
  | _, _, _ => False
theorem row_shapes {ws : List Wd} (h : Row ws) : RG.shapes ws ≤ 2 := h.2
theorem atI_spots {ps : List (Nat × Nat)} {st : RG.Sq} (he : st.2.2 = ps) {i : Nat} (hi : i < ps.length) : atI (ps.map RG.spotD) (i : Int) = some (spI (RG.plc st i)) := by
  refine atI_nat ?_
  subst he
  rw [List.getElem?_map, List.getElem?_eq_getElem hi, RG.plc_some (List.getElem?_eq_getElem hi)]
  rfl
theorem plc_bound {ws : List Wd} {n : Nat} (h0 : 0 < n) (hw : ws.length ≤ 16) (hn : n < 1000000) (i : Nat) : 0 ≤ (RG.plc (RG.drilled ws n) i).1 ∧ (RG.plc (RG.drilled ws n) i).1 < 100000000000000 ∧ 0 ≤ (RG.plc (RG.drilled ws n) i).2 ∧ (RG.plc (RG.drilled ws n) i).2 < 100000000000000 := by
  unfold RG.plc
  cases h : (RG.drilled ws n).2.2[i]? with
  | none => simp
  | some s =>
    obtain ⟨_, _, _, h1, h2, h3⟩ := drilled_ok h0 hn hw
    obtain ⟨a, b⟩ := h3 s (List.mem_of_getElem? h)
    simp only []
    omega
theorem pf1 {ws : List Wd} (h1 : RG.shapes ws ≤ 2) {n i : Nat} (hn : 9 * pOf ws ≤ n) (hi : i < n) (c : i < 2 * pOf ws) :
    RG.plc (RG.drilled ws n) i = grow (RG.plc (RG.drilled ws (8 * pOf ws + n % pOf ws)) i) (RG.plc (RG.drilled ws (8 * pOf ws + n % pOf ws + pOf ws)) i) (((n - (8 * pOf ws + n % pOf ws)) / pOf ws : Nat) : Int) :=
  (RG.place_far h1 hn hi).trans (if_pos c)
theorem pf2 {ws : List Wd} (h1 : RG.shapes ws ≤ 2) {n i : Nat} (hn : 9 * pOf ws ≤ n) (hi : i < n) (c : ¬ i < 2 * pOf ws) (c2 : n - 2 * pOf ws ≤ i) :
    RG.plc (RG.drilled ws n) i = grow (RG.plc (RG.drilled ws (8 * pOf ws + n % pOf ws)) (8 * pOf ws + n % pOf ws - (n - i))) (RG.plc (RG.drilled ws (8 * pOf ws + n % pOf ws + pOf ws)) (8 * pOf ws + n % pOf ws + pOf ws - (n - i))) (((n - (8 * pOf ws + n % pOf ws)) / pOf ws : Nat) : Int) :=
  (RG.place_far h1 hn hi).trans ((if_neg c).trans (if_pos c2))
theorem pf3 {ws : List Wd} (h1 : RG.shapes ws ≤ 2) {n i : Nat} (hn : 9 * pOf ws ≤ n) (hi : i < n) (c : ¬ i < 2 * pOf ws) (c2 : ¬ n - 2 * pOf ws ≤ i) (f small : Nat) (ef : f = 2 * pOf ws + (i - 2 * pOf ws) % pOf ws) (es : small = 8 * pOf ws + n % pOf ws) :
    RG.plc (RG.drilled ws n) i = ((grow (RG.plc (RG.drilled ws small) f) (RG.plc (RG.drilled ws (small + pOf ws)) f) (((n - small) / pOf ws : Nat) : Int)).1 + (grow (RG.plc (RG.drilled ws small) f) (RG.plc (RG.drilled ws small) (f + pOf ws)) (((i - f) / pOf ws : Nat) : Int)).1 - (RG.plc (RG.drilled ws small) f).1,
      (grow (RG.plc (RG.drilled ws small) f) (RG.plc (RG.drilled ws (small + pOf ws)) f) (((n - small) / pOf ws : Nat) : Int)).2 + (grow (RG.plc (RG.drilled ws small) f) (RG.plc (RG.drilled ws small) (f + pOf ws)) (((i - f) / pOf ws : Nat) : Int)).2 - (RG.plc (RG.drilled ws small) f).2) := by
  subst ef es
  exact (RG.place_far h1 hn hi).trans ((if_neg c).trans (if_neg c2))
/-! #### parting_person -/
theorem eq_spI (p q : Int × Int) : D.eq (spI p) (spI q) = decide (p = q) := by
  have : D.eq (spI p) (spI q) = (PyData.eqv (.int p.1) (.int q.1) && (PyData.eqv (.int p.2) (.int q.2) && true)) := rfl
  rw [this, RG.eqv_int, RG.eqv_int, Bool.and_true, Bool.eq_iff_iff]
  simp only [Bool.and_eq_true, decide_eq_true_eq, Prod.ext_iff]
theorem fl_spI (p : Int × Int) : (spI p).fl 12 = true := fl_tup' fun x hx => by
  simp at hx
  rcases hx with rfl | rfl <;> exact fl_int _ _
def apart (ws us : List Wd) (n i : Nat) : Bool := decide (RG.plc (RG.drilled ws n) i ≠ RG.plc (RG.drilled us n) i)
/-- the first person who stands elsewhere, plus one -/
def fp (ws us : List Wd) (n : Nat) : Option Nat := firstN (fun k => apart ws us n (k - 1)) n
def optP : Option Nat → D
  | none => .non
  | some k => .int ((k - 1 : Nat) : Int)
/-- who stand alike at both ends of the front stand alike up to the rear -/
theorem mid_agree {ws us : List Wd} (h1 : Row ws) (h2 : Row us) {n : Nat} (hn : 8 * lcmP ws us < n) (h : ∀ i, i < 4 * lcmP ws us → apart ws us n i = false) {i : Nat} (hi : i + 2 * lcmP ws us < n) : apart ws us n i = false := by
  have hL := lcm_81 h1 h2
  generalize eL : lcmP ws us = L at *
  have hL0 : 0 < L := by omega
  have hr := Nat.mod_lt n hL0
  have e := Nat.div_add_mod n L
  have hm : 6 ≤ n / L := (Nat.le_div_iff_mul_le hL0).mpr (by omega)
  have d1 : pOf ws ∣ L := by rw [← eL]; exact Nat.dvd_lcm_left _ _
  have d2 : pOf us ∣ L := by rw [← eL]; exact Nat.dvd_lcm_right _ _
  have R := RG.row_rgl hr (row_shapes h1) d1
  have S := RG.row_rgl hr (row_shapes h2) d2
  by_cases c : i < 4 * L
  · exact h i c
  · have hf := Nat.mod_lt (i - 2 * L) hL0
    have hd := Nat.div_add_mod (i - 2 * L) L
    generalize (i - 2 * L) / L = w at hd
    generalize (i - 2 * L) % L = s at hf hd
    have ei : 2 * L + s + L * w = i := by omega
    obtain ⟨a, b, g, c1, d, h', q⟩ := R.mid (2 * L + s) (by omega) (by omega)
    obtain ⟨a', b', g', c1', d', h'', q'⟩ := S.mid (2 * L + s) (by omega) (by omega)
    have u0 := h (2 * L + s) (by omega)
    have u1 := h (2 * L + s + L) (by omega)
    have p0 := q (n / L) 0 hm (by omega)
    have p1 := q (n / L) 1 hm (by omega)
    have pw := q (n / L) w hm (by omega)
    have r0 := q' (n / L) 0 hm (by omega)
    have r1 := q' (n / L) 1 hm (by omega)
    have rw_ := q' (n / L) w hm (by omega)
    simp only [e, Nat.mul_zero, Nat.add_zero, Nat.mul_one, ei] at p0 p1 pw r0 r1 rw_
    unfold apart at u0 u1 ⊢
    rw [p0, r0] at u0
    rw [p1, r1] at u1
    rw [pw, rw_]
    simp only [decide_eq_false_iff_not, ne_eq, Decidable.not_not, Prod.mk.injEq] at u0 u1 ⊢
    have e1 : g = g' := by have := u0.1; have := u1.1; simp only [Int.natCast_zero, Int.natCast_one, Int.mul_zero, Int.mul_one] at *; omega
    have e2 : h' = h'' := by have := u0.2; have := u1.2; simp only [Int.natCast_zero, Int.natCast_one, Int.mul_zero, Int.mul_one] at *; omega
    subst e1 e2
    have := u0.1
    have := u0.2
    simp only [Int.natCast_zero, Int.mul_zero] at *
    omega
def F_parting_person : DF
  | [a, b, c], Q, _ => ∃ (ws us : List Wd) (n : Nat), a = rowD ws ∧ b = rowD us ∧ c = .int n ∧ Row ws ∧ Row us ∧ 0 < n ∧ n ≤ 1000000000000 ∧ Q (optP (fp ws us n))
  | _, _, _ => False
/-! #### _law_near -/
def F__law_near : DF
  | [a, b], Q, _ => ∃ ws, a = .src ∧ b = rowD ws ∧ Row ws ∧ ∀ us, Row us → Q (rowD us)
  | _, _, _ => False
theorem fl_row (ws : List Wd) : (rowD ws).fl 12 = true := okV_row ws
theorem eq_rowN (ws : List Wd) : D.eq (rowD ws) (.tup []) = ws.isEmpty := by cases ws <;> rfl
theorem row_sub {ws us : List Wd} (h : Row ws) (hl : us.length ≤ ws.length) (hs : (us.filter fun w => decide (1 < w.fac)).length ≤ (ws.filter fun w => decide (1 < w.fac)).length) : Row us := ⟨Nat.le_trans hl h.1, Nat.le_trans hs h.2⟩
theorem cutD_map (ws : List Wd) (lo hi : Option Int) : PD.cutD (ws.map wD) lo hi = (PD.cutD ws lo hi).map wD := by
  unfold PD.cutD
  rw [List.length_map, List.map_take, List.map_drop]
theorem cut_to (ws : List Wd) (k : Nat) : PD.cutD ws none (some (k : Int)) = ws.take k := by
  unfold PD.cutD
  rw [HT.sIx_none, HT.sIx_nat, List.drop_zero, Nat.sub_zero]
  by_cases h : k ≤ ws.length
  · rw [Nat.min_eq_left h]
  · rw [Nat.min_eq_right (show ws.length ≤ k by omega), List.take_of_length_le (Nat.le_refl _), List.take_of_length_le (show ws.length ≤ k by omega)]
theorem cut_from (ws : List Wd) (k : Nat) : PD.cutD ws (some (k : Int)) none = ws.drop k := by
  unfold PD.cutD
  rw [HT.sIx_none, HT.sIx_nat]
  by_cases h : k ≤ ws.length
  · rw [Nat.min_eq_left h, List.take_of_length_le (by rw [List.length_drop]; omega)]
  · rw [Nat.min_eq_right (show ws.length ≤ k by omega), List.drop_eq_nil_of_le (Nat.le_refl _), List.drop_eq_nil_of_le (show ws.length ≤ k by omega), List.take_nil]
theorem cut_two (ws : List Wd) (a c : Nat) : PD.cutD ws (some (a : Int)) (some (c : Int)) = (ws.take c).drop a := by
  unfold PD.cutD
  rw [HT.sIx_nat, HT.sIx_nat, List.drop_take]
  by_cases h : a ≤ ws.length
  · rw [Nat.min_eq_left h]
    by_cases h2 : c ≤ ws.length
    · rw [Nat.min_eq_left h2]
    · rw [Nat.min_eq_right (show ws.length ≤ c by omega), List.take_of_length_le (by rw [List.length_drop]; omega), List.take_of_length_le (by rw [List.length_drop]; omega)]
  · rw [Nat.min_eq_right (show ws.length ≤ a by omega), List.drop_eq_nil_of_le (Nat.le_refl _), List.drop_eq_nil_of_le (show ws.length ≤ a by omega), List.take_nil, List.take_nil]
theorem row_rem {ws : List Wd} (h : Row ws) (a : Nat) : Row (ws.take a ++ ws.drop (a + 1)) := by
  have hs : (ws.take a ++ ws.drop (a + 1)).Sublist ws := by
    have h1 : (ws.drop (a + 1)).Sublist (ws.drop a) := by rw [← List.drop_drop]; exact List.drop_sublist _ _
    have h2 := (List.Sublist.refl (ws.take a)).append h1
    rw [List.take_append_drop] at h2
    exact h2
  exact row_sub h hs.length_le (hs.filter _).length_le
theorem row_turn {ws : List Wd} (h : Row ws) (a : Nat) : Row (ws.take a ++ ((ws.take (a + 2)).drop a).reverse ++ ws.drop (a + 2)) := by
  have hp : (ws.take a ++ ((ws.take (a + 2)).drop a).reverse ++ ws.drop (a + 2)).Perm ws := by
    have e : ws.take a ++ (ws.take (a + 2)).drop a ++ ws.drop (a + 2) = ws := by
      have h1 : ws.take a = (ws.take (a + 2)).take a := by rw [List.take_take, Nat.min_eq_left (by omega)]
      rw [h1, List.take_append_drop, List.take_append_drop]
    have h2 : (ws.take a ++ ((ws.take (a + 2)).drop a).reverse ++ ws.drop (a + 2)).Perm (ws.take a ++ (ws.take (a + 2)).drop a ++ ws.drop (a + 2)) :=
      ((List.Perm.refl _).append (List.reverse_perm _)).append (List.Perm.refl _)
    rw [e] at h2
    exact h2
  exact row_sub h (Nat.le_of_eq hp.length_eq) (Nat.le_of_eq (hp.filter _).length_eq)
theorem fAdd_rows (ws us : List Wd) (Q : D → Prop) : fAdd (rowD ws) (rowD us) Q = (ws.length + us.length ≤ sizeLine ∧ Q (rowD (ws ++ us))) := by
  simp only [rowD, fAdd_3, List.length_map, List.map_append]
theorem fSl_row (ws : List Wd) (lo hi : Option Int) (Q : D → Prop) : fSl (rowD ws) lo hi Q = Q (rowD (PD.cutD ws lo hi)) := by
  show Q (.tup (PD.cutD (ws.map wD) lo hi)) = _
  rw [cutD_map]
  rfl
theorem fLen_row (ws : List Wd) (Q : D → Prop) : fLen [rowD ws] Q = Q (.int ws.length) := by
  show Q (.int (((ws.map wD).length : Nat) : Int)) = _
  rw [List.length_map]
theorem fRevT_row (ws : List Wd) (Q : D → Prop) : fRevT (rowD ws) Q = Q (rowD ws.reverse) := by
  show Q (.tup (ws.map wD).reverse) = _
  rw [← List.map_reverse]
  rfl
/-! #### _law_is_bool -/
def F__law_is_bool : DF
  | [.bl a, .bl b], Q, _ => Q (.bl (a == b))
  | _, _, _ => False
@[simp] theorem F__law_is_bool_1 (a b : Bool) (Q : D → Prop) (E : Ex) : F__law_is_bool [.bl a, .bl b] Q E = Q (.bl (a == b)) := rfl
/-! #### are_alike -/
def F_are_alike : DF
  | [a, b], Q, _ => ∃ ws us, a = rowD ws ∧ b = rowD us ∧ Row ws ∧ Row us ∧ Q (.bl (decide (parting ws us = none)))
  | _, _, _ => False
theorem optD_non (o : Option Nat) : (optD o).isNon = decide (o = none) := by cases o <;> rfl
/-! #### alike -/
def F_alike : DF
  | [a, b], Q, _ => ∃ ws us, a = rowD ws ∧ b = rowD us ∧ Row ws ∧ Row us ∧ Q (.bl (decide (parting ws us = none)))
  | _, _, _ => False
/-! #### _law_first_person -/
def F__law_first_person : DF
  | [a, b, c], Q, _ => ∃ (ws us : List Wd) (n : Nat), a = rowD ws ∧ b = rowD us ∧ c = .int n ∧ Row ws ∧ Row us ∧ 0 < n ∧ n < 1000000 ∧ Q (optP (fp ws us n))
  | _, _, _ => False
/-! #### _more1 -/
-- lemmas for several laws
theorem same_comm (ws us : List Wd) (n : Nat) : same ws us n ↔ same us ws n := ⟨fun h => ⟨h.1.symm, h.2.symm⟩, fun h => ⟨h.1.symm, h.2.symm⟩⟩
theorem parting_comm (ws us : List Wd) : parting ws us = parting us ws := by
  unfold parting lcmP
  rw [Nat.lcm_comm]
  congr 1
  funext n
  rw [decide_eq_decide.mpr (same_comm ws us n)]
theorem parting_self (ws : List Wd) : parting ws ws = none := firstN_no fun j _ _ => by simp [same]
theorem eq_bl (a b : Bool) : D.eq (.bl a) (.bl b) = (a == b) := by cases a <;> cases b <;> rfl
theorem eq_opt (o : Option Nat) : D.eq (optD o) (optD o) = true := by
  cases o with
  | none => rfl
  | some n => simp [optD]
theorem fl_opt (o : Option Nat) (n : Nat) : (optD o).fl n = true := by
  cases o with
  | none => exact fl_non n
  | some k => exact fl_int n _
theorem eq_optP (o : Option Nat) : D.eq (optP o) (optP o) = true := by
  cases o with
  | none => rfl
  | some n => simp [optP]
theorem fl_optP (o : Option Nat) (n : Nat) : (optP o).fl n = true := by
  cases o with
  | none => exact fl_non n
  | some k => exact fl_int n _
/-! #### _law_exchanges -/
-- RG.
def exch : List (List Wd × List Wd) := [([.about], [.right, .right]), ([.left], [.right, .about]), ([], [.left, .right]), ([], [.about, .about]), ([], [.change, .change]), ([.line], [.line, .line]), ([], [.wleft, .wright]), ([.wleft, .right], [.right, .wleft]), ([.line], [.col2, .line]), ([.col3], [.line, .col3])]
def pairD (p : List Wd × List Wd) : D := .tup [rowD p.1, rowD p.2]
def F__law_exchanges : DF
  | [], Q, _ => Q (.lst (exch.map pairD))
  | _, _, _ => False
theorem exch_same : ∀ p ∈ exch, RG.SameW p.1 p.2 ∧ (p.1.map Wd.trn).sum % 4 = (p.2.map Wd.trn).sum % 4 ∧ p.1.length ≤ 2 ∧ p.2.length ≤ 2 ∧ Row p.1 ∧ Row p.2 := by
  intro p hp
  unfold exch at hp
  simp only [List.mem_cons, List.not_mem_nil, or_false] at hp
  rcases hp with rfl | rfl | rfl | rfl | rfl | rfl | rfl | rfl | rfl | rfl
  · exact ⟨RG.x1, by decide, by decide, by decide, ⟨by decide, by decide⟩, ⟨by decide, by decide⟩⟩
  · exact ⟨RG.x2, by decide, by decide, by decide, ⟨by decide, by decide⟩, ⟨by decide, by decide⟩⟩
  · exact ⟨RG.x3, by decide, by decide, by decide, ⟨by decide, by decide⟩, ⟨by decide, by decide⟩⟩
  · exact ⟨RG.x4, by decide, by decide, by decide, ⟨by decide, by decide⟩, ⟨by decide, by decide⟩⟩
  · exact ⟨RG.x5, by decide, by decide, by decide, ⟨by decide, by decide⟩, ⟨by decide, by decide⟩⟩
  · exact ⟨RG.x6, by decide, by decide, by decide, ⟨by decide, by decide⟩, ⟨by decide, by decide⟩⟩
  · exact ⟨RG.x7, by decide, by decide, by decide, ⟨by decide, by decide⟩, ⟨by decide, by decide⟩⟩
  · exact ⟨RG.x8, by decide, by decide, by decide, ⟨by decide, by decide⟩, ⟨by decide, by decide⟩⟩
  · exact ⟨RG.x9, by decide, by decide, by decide, ⟨by decide, by decide⟩, ⟨by decide, by decide⟩⟩
  · exact ⟨RG.x10, by decide, by decide, by decide, ⟨by decide, by decide⟩, ⟨by decide, by decide⟩⟩
/-! #### _law_exchanged -/
/-- rows that do the same, facing included -/
def Same2 (ws us : List Wd) : Prop := RG.SameW ws us ∧ tOf ws = tOf us
def F__law_exchanged : DF
  | [a, b], Q, _ => ∃ ws, a = .src ∧ b = rowD ws ∧ Row ws ∧ ∀ us, Row us → Same2 ws us → Q (rowD us)
  | _, _, _ => False
theorem Same2.refl (ws : List Wd) : Same2 ws ws := ⟨fun _ _ => rfl, rfl⟩
theorem Same2.trans {a b c : List Wd} (h : Same2 a b) (h' : Same2 b c) : Same2 a c := ⟨fun st g => (h.1 st g).trans (h'.1 st g), h.2.trans h'.2⟩
theorem same2_mid {one two pre post : List Wd} (h : RG.SameW one two) (ht : (one.map Wd.trn).sum % 4 = (two.map Wd.trn).sum % 4) : Same2 (pre ++ one ++ post) (pre ++ two ++ post) := by
  refine ⟨h.mid pre post, ?_⟩
  unfold tOf
  simp only [List.map_append, List.sum_append]
  omega
theorem eqv_words : ∀ ws us : List Wd, PyData.eqv (.tuple (D.pds (ws.map wD))) (.tuple (D.pds (us.map wD))) = decide (ws = us)
  | [], [] => rfl
  | [], _ :: _ => rfl
  | _ :: _, [] => rfl
  | w :: ws, u :: us => by
    have : PyData.eqv (.tuple (D.pds ((w :: ws).map wD))) (.tuple (D.pds ((u :: us).map wD))) = (PyData.eqv (wD w).pd (wD u).pd && PyData.eqv (.tuple (D.pds (ws.map wD))) (.tuple (D.pds (us.map wD)))) := rfl
    rw [this, show PyData.eqv (wD w).pd (wD u).pd = decide (w = u) from eqw w u, eqv_words ws us, Bool.eq_iff_iff]
    simp only [Bool.and_eq_true, decide_eq_true_eq, List.cons.injEq]
theorem eq_row (ws us : List Wd) : D.eq (rowD ws) (rowD us) = decide (ws = us) := eqv_words ws us
/-! #### same_for -/
def red (ws us : List Wd) (n : Nat) : Nat := if 8 * lcmP ws us < n then 7 * lcmP ws us + 1 + (n - 1) % lcmP ws us else n
def F_same_for : DF
  | [a, b, c], Q, _ => ∃ (ws us : List Wd) (n : Nat), a = rowD ws ∧ b = rowD us ∧ c = .int n ∧ Row ws ∧ Row us ∧ 0 < n ∧ n ≤ 1000000000000 ∧ Q (.bl (decide (same ws us (red ws us n))))
  | _, _, _ => False
/-! #### do_same -/
def F_do_same : DF
  | [a, b, c], Q, _ => ∃ (ws us : List Wd) (n : Nat), a = rowD ws ∧ b = rowD us ∧ c = .int n ∧ Row ws ∧ Row us ∧ 0 < n ∧ n ≤ 1000000000000 ∧ Q (.bl (decide (same ws us (red ws us n))))
  | _, _, _ => False
/-! #### require_person -/
def F_require_person : DF
  | [a, b], Q, _ => ∃ n v : Int, a = .int n ∧ b = .int v ∧ 0 ≤ v ∧ v < n ∧ Q .non
  | _, _, _ => False
/-! #### place -/
def F_place : DF
  | [a, b, c], Q, _ => ∃ (ws : List Wd) (n i : Nat), a = rowD ws ∧ b = .int n ∧ c = .int i ∧ Row ws ∧ 0 < n ∧ n ≤ 1000000000000 ∧ i < n ∧ Q (spI (RG.plc (RG.drilled ws n) i))
  | _, _, _ => False
/-! #### size_of -/
def F_size_of : DF
  | [a, b], Q, _ => ∃ (ws : List Wd) (n : Nat), a = rowD ws ∧ b = .int n ∧ Row ws ∧ 0 < n ∧ n ≤ 1000000000000 ∧ Q (szD ((RG.drilled ws n).1, (RG.drilled ws n).2.1))
  | _, _, _ => False
def szI (st : RG.Sq) : Int × Int := (st.1, st.2.1)
theorem size_far {ws : List Wd} (h1 : RG.shapes ws ≤ 2) {n : Nat} (hn : 9 * pOf ws ≤ n) :
    szI (RG.drilled ws n) = grow (szI (RG.drilled ws (8 * pOf ws + n % pOf ws))) (szI (RG.drilled ws (8 * pOf ws + n % pOf ws + pOf ws))) (((n - (8 * pOf ws + n % pOf ws)) / pOf ws : Nat) : Int) := by
  have hP : 0 < pOf ws := pOf_pos ws
  have hr := Nat.mod_lt n hP
  have e := Nat.div_add_mod n (pOf ws)
  have R := RG.row_rgl hr h1 (Nat.dvd_refl (pOf ws))
  generalize hm : n / pOf ws = m at e
  have hm9 : 9 ≤ m := by
    rw [← hm]
    exact (Nat.le_div_iff_mul_le hP).mpr hn
  have ht : (((n - (8 * pOf ws + n % pOf ws)) / pOf ws : Nat) : Int) = (m : Int) - 8 := by
    have : n - (8 * pOf ws + n % pOf ws) = pOf ws * (m - 8) := by rw [Nat.mul_sub, Nat.mul_comm 8 (pOf ws)]; omega
    rw [this, Nat.mul_div_cancel_left _ hP, Int.ofNat_sub (by omega)]
    rfl
  rw [ht]
  obtain ⟨a, b, c, d, q⟩ := R.size
  have qm := q m (by omega)
  have q8 := q 8 (by omega)
  have q9 := q 9 (by omega)
  rw [show pOf ws * 8 + n % pOf ws = 8 * pOf ws + n % pOf ws by omega] at q8
  rw [show pOf ws * 9 + n % pOf ws = 8 * pOf ws + n % pOf ws + pOf ws by omega] at q9
  rw [e] at qm
  unfold szI grow
  simp only [Prod.mk.injEq]
  rw [qm.1, qm.2, q8.1, q8.2, q9.1, q9.2]
  constructor
  · rw [show (a * ((9 : Nat) : Int) + b - (a * ((8 : Nat) : Int) + b)) = a by omega, Int.mul_sub]; omega
  · rw [show (c * ((9 : Nat) : Int) + d - (c * ((8 : Nat) : Int) + d)) = c by omega, Int.mul_sub]; omega
/-! #### size -/
def F_size : DF
  | [a, b], Q, _ => ∃ (ws : List Wd) (n : Nat), a = rowD ws ∧ b = .int n ∧ Row ws ∧ 0 < n ∧ n ≤ 1000000000000 ∧ Q (szD ((RG.drilled ws n).1, (RG.drilled ws n).2.1))
  | _, _, _ => False
theorem eq_szD (p q : Nat × Nat) : D.eq (szD p) (szD q) = decide (p = q) := RG.eq_spot p q
/-! #### period -/
def F_period : DF
  | [d], Q, _ => ∃ ws, d = rowD ws ∧ Row ws ∧ Q (.int (pOf ws))
  | _, _, _ => False
/-! #### _law_any_value -/
def FR__law_any_value : Nat → DF
  | 0, _, _, _ => False
  | n + 1, [a, b], Q, _ => ∃ k : Nat, a = .src ∧ b = .int k ∧ k ≤ n ∧ n ≤ 8 ∧ ∀ d : D, d.fl (n + 2) = true → Q d
  | _ + 1, _, _, _ => False
abbrev F__law_any_value : DF := FR__law_any_value 4
/-! #### _law_variant -/
def F__law_variant : DF
  | [a, b], Q, _ => ∃ xs, a = .src ∧ b = .tup xs ∧ xs.length ≤ 1000 ∧ (∀ x ∈ xs, x.fl 8 = true) ∧ ∀ d : D, d.fl 12 = true → Q d
  | _, _, _ => False
/-! #### facing -/
def wayD (k : Nat) : D := [D.str "north", .str "east", .str "south", .str "west"].getD k .non
theorem way_at {k : Nat} (h : k < 4) : atI [D.str "north", .str "east", .str "south", .str "west"] (k : Int) = some (wayD k) := by
  match k, h with
  | 0, _ => rfl
  | 1, _ => rfl
  | 2, _ => rfl
  | 3, _ => rfl
  | k + 4, h => omega
theorem fl_way {k : Nat} (h : k < 4) : (wayD k).fl 12 = true := by
  match k, h with
  | 0, _ => decide +kernel
  | 1, _ => decide +kernel
  | 2, _ => decide +kernel
  | 3, _ => decide +kernel
  | k + 4, h => omega
theorem eq_way {x y : Nat} (h1 : x < 4) (h2 : y < 4) : D.eq (wayD x) (wayD y) = decide (x = y) := by
  match x, y, h1, h2 with
  | 0, 0, _, _ | 0, 1, _, _ | 0, 2, _, _ | 0, 3, _, _ | 1, 0, _, _ | 1, 1, _, _ | 1, 2, _, _ | 1, 3, _, _ | 2, 0, _, _ | 2, 1, _, _ | 2, 2, _, _ | 2, 3, _, _ | 3, 0, _, _ | 3, 1, _, _ | 3, 2, _, _ | 3, 3, _, _ => decide +kernel
  | x + 4, _, h, _ => omega
  | _, y + 4, _, h => omega
def F_facing : DF
  | [d], Q, _ => ∃ ws, d = rowD ws ∧ Row ws ∧ Q (wayD (tOf ws))
  | _, _, _ => False
/-! #### _law_way -/
def F__law_way : DF
  | [d], Q, _ => ∃ ws, d = rowD ws ∧ ws.length ≤ 1000 ∧ Q (wayD (tOf ws))
  | _, _, _ => False
/-! #### require_both -/
@[simp] def F_require_both : DF
  | [a, b], Q, _ => okV a = true ∧ isRowD a = true ∧ okV b = true ∧ isRowD b = true ∧ Q .non
  | _, _, _ => False
/-! #### numbers_for -/
def F_numbers_for : DF
  | [a, b], Q, _ => ∃ ws us, a = rowD ws ∧ b = rowD us ∧ Row ws ∧ Row us ∧ Q (.lst (rangeL 1 (8 * lcmP ws us)))
  | _, _, _ => False
/-! #### same_places -/
theorem all_firstN (p : Nat → Bool) (k : Nat) : ((List.range k).map fun i => p (i + 1)).all id = decide (firstN (fun n => !p n) k = none) := by
  rw [Bool.eq_iff_iff, List.all_eq_true, decide_eq_true_eq]
  constructor
  · intro h
    refine firstN_no fun j h1 h2 => ?_
    have := h (p (j - 1 + 1)) (List.mem_map.mpr ⟨j - 1, List.mem_range.mpr (by omega), rfl⟩)
    rw [show j - 1 + 1 = j by omega] at this
    have q : p j = true := this
    rw [q]; rfl
  · intro h x hx
    obtain ⟨i, hi, rfl⟩ := List.mem_map.mp hx
    have := firstN_none h (i + 1) (by omega) (by have := List.mem_range.mp hi; omega)
    simpa using this
def eqAt (ws us : List Wd) (n : Nat) : Bool := decide (RG.drilled ws n = RG.drilled us n)
/-- the first squad whose places or sizes are not the same -/
def partP (ws us : List Wd) : Option Nat := firstN (fun n => !eqAt ws us n) (8 * lcmP ws us)
def F_same_places : DF
  | [a, b], Q, _ => ∃ ws us, a = rowD ws ∧ b = rowD us ∧ Row ws ∧ Row us ∧ Q (.bl (decide (partP ws us = none)))
  | _, _, _ => False
theorem partP_comm (ws us : List Wd) : partP ws us = partP us ws := by
  unfold partP lcmP
  rw [Nat.lcm_comm]
  congr 1
  funext n
  unfold eqAt
  rw [decide_eq_decide.mpr (Iff.intro Eq.symm Eq.symm)]
theorem agreeP {L : Nat} (hL : 0 < L) {ws us : List Wd} (h1 : RG.shapes ws ≤ 2) (h2 : RG.shapes us ≤ 2) (d1 : pOf ws ∣ L) (d2 : pOf us ∣ L) (h : ∀ n, 0 < n → n ≤ 8 * L → RG.drilled ws n = RG.drilled us n) {n : Nat} (h0 : 0 < n) : RG.drilled ws n = RG.drilled us n := by
  by_cases hn : n ≤ 8 * L
  · exact h n h0 hn
  · have hr := Nat.mod_lt n hL
    have e := Nat.div_add_mod n L
    have hm : 6 ≤ n / L := by
      rcases Nat.lt_or_ge (n / L) 6 with z | z
      · have := Nat.mul_le_mul_left L (show n / L ≤ 5 by omega)
        omega
      · exact z
    have := (RG.row_rgl hr h1 d1).eq hL (RG.row_rgl hr h2 d2) (h _ (by omega) (by omega)) (h _ (by omega) (by omega)) hm
    simp only [e] at this
    exact this
theorem partP_all {ws us : List Wd} (h1 : Row ws) (h2 : Row us) (h : partP ws us = none) {n : Nat} (hn : 0 < n) : RG.drilled ws n = RG.drilled us n := by
  have hL := lcm_81 h1 h2
  exact agreeP (L := lcmP ws us) (by omega) h1.2 h2.2 (Nat.dvd_lcm_left _ _) (Nat.dvd_lcm_right _ _) (fun n h0 hn => by simpa [eqAt] using firstN_none h n (by omega) hn) hn
theorem parting_partP (ws us : List Wd) : decide (parting ws us = none) = (decide (partP ws us = none) && decide (tOf ws = tOf us)) := by
  rw [Bool.eq_iff_iff]
  simp only [decide_eq_true_eq, Bool.and_eq_true]
  constructor
  · intro h
    have key : ∀ j, 1 ≤ j → j ≤ 8 * lcmP ws us → same ws us j := fun j h1 h2 => by simpa using firstN_none h j h1 h2
    refine ⟨firstN_no fun j h1 h2 => by simp [eqAt, (key j h1 h2).2], (key 1 (Nat.le_refl _) ?_).1⟩
    have : 0 < lcmP ws us := Nat.lcm_pos (pOf_pos _) (pOf_pos _)
    omega
  · rintro ⟨h, ht⟩
    refine firstN_no fun j h1 h2 => ?_
    have := firstN_none h j h1 h2
    simp [eqAt] at this
    simp [same, ht, this]
/-! #### _law_short_row -/
def F__law_short_row : DF
  | [a, b], Q, _ => ∃ n : Int, a = .src ∧ b = .int n ∧ 0 ≤ n ∧ n < 1000000 ∧ ∀ ws, Row ws → ws.length ≤ n → pOf ws ≤ 6 → Q (rowD ws)
  | _, _, _ => False
theorem row_take {ws : List Wd} (h : Row ws) (a : Nat) : Row (ws.take a) := row_sub h (by rw [List.length_take]; omega) ((List.take_sublist _ _).filter _).length_le
theorem row_drop {ws : List Wd} (h : Row ws) (a : Nat) : Row (ws.drop a) := row_sub h (by rw [List.length_drop]; omega) ((List.drop_sublist _ _).filter _).length_le
theorem cut_last {α : Type} (ws : List α) : PD.cutD ws none (some (-1)) = ws.dropLast := by
  unfold PD.cutD
  rw [HT.sIx_none, List.drop_zero, Nat.sub_zero, List.dropLast_eq_take]
  congr 1
  unfold HT.sIx
  simp
  omega
theorem cut_from1 (ws : List Wd) : PD.cutD ws (some 1) none = ws.drop 1 := cut_from ws 1
/-! #### _law_far -/
def F__law_far : DF
  | [a], Q, _ => a = .src ∧ ∀ n : Nat, 0 < n → n ≤ 1000000000000 → Q (.int n)
  | _, _, _ => False
/-! #### lead_alike -/
def F_lead_alike : DF
  | [a, b], Q, _ => ∃ ws us : List Wd, a = rowD ws ∧ b = rowD us ∧ ws.length ≤ 16 ∧ Row us ∧ Q (.bl (isRowD (rowD ws) && decide (parting ws us = none)))
  | _, _, _ => False
theorem parting_quick {ws us : List Wd} {k : Nat} (hk : 0 < k) (h : parting ws us = none) (h1 : Row ws) (h2 : Row us) : same ws us k := by
  have key : ∀ j, 1 ≤ j → j ≤ 8 * lcmP ws us → same ws us j := fun j h1 h2 => by simpa using firstN_none h j h1 h2
  have hL := lcm_81 h1 h2
  refine ⟨(key 1 (Nat.le_refl _) (by omega)).1, agreeP (L := lcmP ws us) (by omega) h1.2 h2.2 (Nat.dvd_lcm_left _ _) (Nat.dvd_lcm_right _ _) (fun n h0 hn => (key n h0 hn).2) hk⟩
/-! #### last_words -/
/-- the words of a predicate, ascending -/
def wordsBy (p : Wd → Bool) : D := .lst ((allW.filter p).map wD)
def leads (ws us : List Wd) : Bool := isRowD (rowD ws) && decide (parting ws us = none)
def F_last_words : DF
  | [a, b], Q, _ => ∃ ws us : List Wd, a = rowD ws ∧ b = rowD us ∧ Row ws ∧ Row us ∧ Q (wordsBy fun w => leads (ws ++ [w]) us)
  | _, _, _ => False
theorem filter_words (p : Wd → Bool) (q : D → Bool) (h : ∀ w, q (wD w) = p w) : (allW.map wD).filter q = (allW.filter p).map wD := by
  rw [List.filter_map]
  congr 1
  refine List.filter_congr fun w _ => h w
theorem ex_wpred (p : Wd → Bool) : ∃ q : D → Bool, ∀ w, q (wD w) = p w := ⟨fun d => allW.any fun w => D.eq d (wD w) && p w, fun w => by
  rw [Bool.eq_iff_iff, List.any_eq_true]
  constructor
  · rintro ⟨u, _, h⟩
    rw [eqw, Bool.and_eq_true, decide_eq_true_eq] at h
    rw [h.1]; exact h.2
  · intro h
    exact ⟨w, wd_in w, by rw [eqw]; simpa using h⟩⟩
/-! #### first_words -/
def F_first_words : DF
  | [a, b], Q, _ => ∃ ws us : List Wd, a = rowD ws ∧ b = rowD us ∧ Row ws ∧ Row us ∧ Q (wordsBy fun w => leads (w :: ws) us)
  | _, _, _ => False
theorem fAdd_cons (ws : List Wd) (w : Wd) (Q : D → Prop) : fAdd (.tup [wD w]) (rowD ws) Q = (1 + ws.length ≤ sizeLine ∧ Q (rowD (w :: ws))) := by
  simp only [rowD, fAdd_3, List.length_map, List.length_singleton, List.map_cons, List.singleton_append]
/-! #### _law_alike -/
def F__law_alike : DF
  | [a, b], Q, _ => ∃ ws us, a = rowD ws ∧ b = rowD us ∧ Row ws ∧ Row us ∧ Q (.bl (decide (parting ws us = none)))
  | _, _, _ => False
/-! #### rows_with -/
theorem ex_wfun (g : Wd → D) : ∃ f : D → D, ∀ w, f (wD w) = g w := ⟨fun d => match allW.find? fun w => D.eq d (wD w) with | some w => g w | none => .non, fun w => by
  have : allW.find? (fun u => D.eq (wD w) (wD u)) = some w := by
    rw [show (fun u => D.eq (wD w) (wD u)) = fun u => decide (w = u) from funext fun u => eqw w u]
    cases w <;> decide
  show (match allW.find? fun u => D.eq (wD w) (wD u) with | some w => g w | none => .non) = g w
  rw [this]⟩
def rowsAll : Nat → List (List Wd)
  | 0 => [[]]
  | m + 1 => (rowsAll m).flatMap fun r => allW.map fun w => r ++ [w]
def isRowB (ws : List Wd) : Bool := isRowD (rowD ws)
def rowsW (m : Nat) : List (List Wd) := (rowsAll m).filter isRowB
theorem rowsAll_len : ∀ m, (rowsAll m).length = 11 ^ m
  | 0 => rfl
  | m + 1 => by
    show ((rowsAll m).flatMap fun r => allW.map fun w => r ++ [w]).length = _
    rw [List.length_flatMap, List.map_congr_left (g := fun _ => 11) (fun r _ => by rw [List.length_map]; rfl), List.map_const', List.sum_replicate_nat, rowsAll_len m, Nat.pow_succ]
theorem rowsAll_mem : ∀ m, ∀ r ∈ rowsAll m, r.length = m
  | 0, r, h => by
    have : r = [] := by simpa [rowsAll] using h
    rw [this]; rfl
  | m + 1, r, h => by
    obtain ⟨s, hs, hr⟩ := List.mem_flatMap.mp h
    obtain ⟨w, _, rfl⟩ := List.mem_map.mp hr
    rw [List.length_append, rowsAll_mem m s hs]; rfl
theorem ex_rpred (p : List Wd → Bool) : ∃ q : D → Bool, ∀ r, q (rowD r) = p r := ⟨fun d => match d with | .tup xs => p (xs.map fun x => (allW.find? fun w => D.eq x (wD w)).getD .about) | _ => false, fun r => by
  show p ((r.map wD).map fun x => (allW.find? fun w => D.eq x (wD w)).getD .about) = p r
  congr 1
  rw [List.map_map]
  conv => rhs; rw [← List.map_id r]
  refine List.map_congr_left fun w _ => ?_
  show (allW.find? fun u => D.eq (wD w) (wD u)).getD .about = w
  rw [show (fun u => D.eq (wD w) (wD u)) = fun u => decide (w = u) from funext fun u => eqw w u]
  cases w <;> decide⟩
theorem filter_rows (p : List Wd → Bool) (q : D → Bool) (h : ∀ w, q (rowD w) = p w) (l : List (List Wd)) : (l.map rowD).filter q = (l.filter p).map rowD := by
  rw [List.filter_map]
  congr 1
  refine List.filter_congr fun w _ => h w
def F_rows_with : DF
  | [a], Q, _ => ∃ m : Nat, a = .int m ∧ m ≤ 3 ∧ Q (.lst ((rowsW m).map rowD))
  | _, _, _ => False
/-! #### bridge -/
def optR : Option (List Wd) → D
  | none => .non
  | some r => rowD r
def catR (n : Nat) : List (List Wd) := (List.range n).flatMap rowsW
theorem find_hit {p : List Wd → Bool} {m n j : Nat} {r : List Wd} (hm : m < n) (h1 : ∀ k, k < m → ∀ x ∈ rowsW k, p x = false) (hj : (rowsW m)[j]? = some r) (h2 : ∀ x ∈ (rowsW m).take j, p x = false) (hr : p r = true) : (catR n).find? p = some r := by
  have e : List.range n = List.range m ++ m :: (List.range (n - m - 1)).map fun i => m + 1 + i := by
    obtain ⟨k, rfl⟩ : ∃ k, n = m + (1 + k) := ⟨n - m - 1, by omega⟩
    rw [List.range_add, show m + (1 + k) - m - 1 = k by omega, Nat.add_comm 1 k, List.range_succ_eq_map, List.map_cons, List.map_map]
    congr 1
    congr 1
    refine List.map_congr_left fun i _ => ?_
    show m + (i + 1) = m + 1 + i
    omega
  have e2 : rowsW m = (rowsW m).take j ++ r :: (rowsW m).drop (j + 1) := by
    have h := List.getElem?_eq_some_iff.mp hj
    obtain ⟨hlt, hrr⟩ := h
    conv => lhs; rw [← List.take_append_drop j (rowsW m)]
    rw [List.drop_eq_getElem_cons hlt, hrr]
  unfold catR
  rw [e, List.flatMap_append, List.flatMap_cons, List.find?_append, List.find?_eq_none.mpr (fun x hx => ?_), e2, List.append_assoc, List.find?_append, List.find?_eq_none.mpr (fun x hx => ?_), List.cons_append, List.find?_cons_of_pos hr]
  · rfl
  · rw [h2 x hx]; decide
  · obtain ⟨k, hk, hx⟩ := List.mem_flatMap.mp hx
    rw [h1 k (List.mem_range.mp hk) x hx]; decide
theorem find_miss {p : List Wd → Bool} {n : Nat} (h1 : ∀ k, k < n → ∀ x ∈ rowsW k, p x = false) : (catR n).find? p = none := by
  unfold catR
  refine List.find?_eq_none.mpr fun x hx => ?_
  obtain ⟨k, hk, hx⟩ := List.mem_flatMap.mp hx
  rw [h1 k (List.mem_range.mp hk) x hx]; decide
theorem rowsW_row {m : Nat} {r : List Wd} (h : r ∈ rowsW m) : Row r ∧ r.length = m := ⟨row_of (List.mem_filter.mp h).2, rowsAll_mem m r (List.mem_filter.mp h).1⟩
theorem fl_optR (o : Option (List Wd)) : (optR o).fl 12 = true := by
  cases o with
  | none => rfl
  | some r => exact fl_row r
theorem eq_optR (o : Option (List Wd)) : D.eq (optR o) (optR o) = true := PySem.SeqAt.eqv_refl _ (D.fl_ok 12 _ (fl_optR o)).1
theorem catR_row {n : Nat} {r : List Wd} (h : r ∈ catR n) : Row r ∧ r.length < n := by
  obtain ⟨k, hk, hx⟩ := List.mem_flatMap.mp h
  have := rowsW_row hx
  exact ⟨this.1, by rw [this.2]; exact List.mem_range.mp hk⟩
def bridgeR (ws us : List Wd) : Option (List Wd) := (catR 3).find? fun r => leads (ws ++ r) us
theorem bridge_some {ws us r : List Wd} (h : bridgeR ws us = some r) : Row (ws ++ r) ∧ parting (ws ++ r) us = none ∧ Row r ∧ r.length ≤ 2 := by
  have h1 := List.find?_some h
  simp only [leads, Bool.and_eq_true, decide_eq_true_eq] at h1
  have h2 := catR_row (List.mem_of_find?_eq_some h)
  exact ⟨row_of h1.1, h1.2, h2.1, by omega⟩
def F_bridge : DF
  | [a, b], Q, _ => ∃ ws us : List Wd, a = rowD ws ∧ b = rowD us ∧ Row ws ∧ Row us ∧ Q (optR (bridgeR ws us))
  | _, _, _ => False
/-! #### _law_do_same -/
def F__law_do_same : DF
  | [a, b, c], Q, _ => ∃ (ws us : List Wd) (n : Nat), a = rowD ws ∧ b = rowD us ∧ c = .int n ∧ ws.length ≤ 16 ∧ us.length ≤ 16 ∧ 0 < n ∧ n < 1000000 ∧ Q (.bl (decide (same ws us n)))
  | _, _, _ => False
/-! #### _law_leads -/
def F__law_leads : DF
  | [a, b], Q, _ => ∃ ws us : List Wd, a = rowD ws ∧ b = rowD us ∧ ws.length ≤ 16 ∧ Row us ∧ Q (.bl (leads ws us))
  | _, _, _ => False
/-! #### _law_bridge -/
def F__law_bridge : DF
  | [a, b], Q, _ => ∃ ws us : List Wd, a = rowD ws ∧ b = rowD us ∧ Row ws ∧ Row us ∧ Q (optR (bridgeR ws us))
  | _, _, _ => False
theorem row_right {ws us : List Wd} (h : Row (ws ++ us)) : Row us := row_sub h (by simp) (by simp [List.filter_append])
/-- the rows that lead there are rows -/
theorem lead_miss {ws us : List Wd} {m j : Nat} (h : ∀ x ∈ (rowsAll m).take j, leads (ws ++ x) us = false) {x : List Wd} (hx : x ∈ ((rowsAll m).take j).filter isRowB) : leads (ws ++ x) us = false := h x (List.mem_filter.mp hx).1
theorem lead_row {ws x us : List Wd} (h : leads (ws ++ x) us = true) : isRowB x = true := by
  unfold leads at h
  rw [Bool.and_eq_true] at h
  exact isRowD_row (row_right (row_of h.1))
theorem filter_at {α : Type} (p : α → Bool) : ∀ (l : List α) (j : Nat) (r : α), l[j]? = some r → p r = true → (l.filter p)[((l.take j).filter p).length]? = some r ∧ (l.filter p).take ((l.take j).filter p).length = (l.take j).filter p
  | [], j, r, h, _ => by simp at h
  | x :: l, 0, r, h, hp => by
    have e : x = r := by simpa using h
    subst e
    simp [hp]
  | x :: l, j + 1, r, h, hp => by
    obtain ⟨a, b⟩ := filter_at p l j r (by simpa using h) hp
    rw [List.take_succ_cons]
    by_cases hx : p x = true
    · rw [List.filter_cons_of_pos hx, List.filter_cons_of_pos hx, List.length_cons, List.getElem?_cons_succ, List.take_succ_cons, b]
      exact ⟨a, rfl⟩
    · rw [List.filter_cons_of_neg hx, List.filter_cons_of_neg hx]
      exact ⟨a, b⟩
theorem words_sorted (p : Wd → Bool) : ((allW.filter p).map wD).mergeSort (PySem.W.dataLe false D.pd) = (allW.filter p).map wD := by
  refine List.mergeSort_of_pairwise ?_
  have h : (allW.map wD).Pairwise fun a b => PySem.W.dataLe false D.pd a b = true := by decide +kernel
  exact h.sublist ((List.filter_sublist).map wD)
theorem words_ok (p : Wd → Bool) : ((allW.filter p).map wD).all (D.fl 12) = true ∧ PySem.W.AllAlike (((allW.filter p).map wD).map D.pd) ∧ PySem.W.Sortable (((allW.filter p).map wD).map D.pd) := by
  refine ⟨List.all_eq_true.mpr fun x hx => ?_, ?_, ?_⟩
  · obtain ⟨w, _, rfl⟩ := List.mem_map.mp hx
    exact fl_w w 12
  · rw [List.map_map]
    exact PySem.W.AllAlike.of (enc := fun w => (wD w).pd) fun b b' => rfl
  · rw [List.map_map]
    exact PySem.W.Sortable.others (enc := fun w => (wD w).pd) fun b => ⟨(fun z => nomatch z), (fun xs z => nomatch z)⟩
/-! #### require_sum -/
def F_require_sum : DF
  | [a, b], Q, _ => ∃ ws us : List Wd, a = rowD ws ∧ b = rowD us ∧ Row ws ∧ Row us ∧ Row (ws ++ us) ∧ Q .non
  | _, _, _ => False
/-! #### undoes -/
def F_undoes : DF
  | [a, b], Q, _ => ∃ ws us : List Wd, a = rowD ws ∧ b = rowD us ∧ Row ws ∧ Row us ∧ Row (ws ++ us) ∧ Q (.bl (decide (parting (ws ++ us) [] = none)))
  | _, _, _ => False
/-! #### commute -/
def F_commute : DF
  | [a, b], Q, _ => ∃ ws us : List Wd, a = rowD ws ∧ b = rowD us ∧ Row ws ∧ Row us ∧ Row (ws ++ us) ∧ Q (.bl (decide (parting (ws ++ us) (us ++ ws) = none)))
  | _, _, _ => False
theorem row_swap {ws us : List Wd} (h : Row (ws ++ us)) : Row (us ++ ws) := row_sub h (by simp [Nat.add_comm]) (by simp [List.filter_append, Nat.add_comm])
/-! #### shortest -/
def shortR (ws : List Wd) : Option (List Wd) := (catR 4).find? fun r => decide (parting ws r = none)
def F_shortest : DF
  | [a], Q, _ => ∃ ws : List Wd, a = rowD ws ∧ Row ws ∧ Q (optR (shortR ws))
  | _, _, _ => False
/-! #### needless -/
def neB (ws : List Wd) (i : Nat) : Bool := decide (parting (ws.take i ++ ws.drop (i + 1)) ws = none)
def neL (ws : List Wd) : List Nat := (List.range ws.length).filter (neB ws)
theorem row_less {ws : List Wd} (h : Row ws) (i : Nat) : Row (ws.take i ++ ws.drop (i + 1)) := by
  rw [← List.eraseIdx_eq_take_drop_succ]
  have := List.eraseIdx_sublist ws i
  exact row_sub h this.length_le (this.filter _).length_le
def F_needless : DF
  | [a], Q, _ => ∃ ws : List Wd, a = rowD ws ∧ Row ws ∧ Q (.lst ((neL ws).map fun (x : Nat) => D.int x))
  | _, _, _ => False
/-! #### _more2 -/
-- rows of turns; the search for the first row
theorem tup_row (ws : List Wd) : D.tup (ws.map wD) = rowD ws := rfl
def turnWs : List Wd := [.left, .right, .about, .change, .wleft, .wright]
def inv : Wd → Wd
  | .left => .right | .right => .left | .wleft => .wright | .wright => .wleft | w => w
theorem y1 : RG.SameW [] [.right, .left] := fun st g => by
  obtain ⟨R, F, ps⟩ := st
  refine RG.sq_ext rfl rfl ?_
  show ps = (ps.map (RG.moved .right R F)).map (RG.moved .left F R)
  rw [List.map_map]
  refine RG.id_ext fun s hs => ?_
  have hlt : s.1 < R ∧ s.2 < F := g.lt hs
  show (R - 1 - (R - 1 - s.1), s.2) = s
  exact Prod.ext (by show R - 1 - (R - 1 - s.1) = s.1; omega) rfl
theorem y2 : RG.SameW [] [.wright, .wleft] := fun st g => by
  obtain ⟨R, F, ps⟩ := st
  refine RG.sq_ext rfl rfl ?_
  show ps = (ps.map _).map _
  rw [List.map_map]
  exact RG.id_ext fun s _ => rfl
theorem y3 : RG.SameW [.wleft] [] := fun st g => by
  obtain ⟨R, F, ps⟩ := st
  refine RG.sq_ext rfl rfl ?_
  exact (RG.id_ext fun s _ => rfl).symm
theorem inv_same {w : Wd} (h : w ∈ turnWs) : RG.SameW [] [w, inv w] ∧ ([w, inv w].map Wd.trn).sum % 4 = 0 := by
  simp only [turnWs, List.mem_cons, List.not_mem_nil, or_false] at h
  rcases h with rfl | rfl | rfl | rfl | rfl | rfl
  · exact ⟨RG.x3, by decide⟩
  · exact ⟨y1, by decide⟩
  · exact ⟨RG.x4, by decide⟩
  · exact ⟨RG.x5, by decide⟩
  · exact ⟨RG.x7, by decide⟩
  · exact ⟨y2, by decide⟩
theorem Same2.symm {a b : List Wd} (h : Same2 a b) : Same2 b a := ⟨h.1.symm, h.2.symm⟩
theorem inv_same2 {w : Wd} (h : w ∈ turnWs) (pre post : List Wd) : Same2 (pre ++ [w, inv w] ++ post) (pre ++ post) := by
  have := same2_mid (pre := pre) (post := post) (inv_same h).1 (by rw [(inv_same h).2]; rfl)
  rw [List.append_nil] at this
  exact this.symm
def backOf (ws : List Wd) : List Wd := ws.reverse.map inv
theorem back_same : ∀ ws : List Wd, (∀ w ∈ ws, w ∈ turnWs) → Same2 (ws ++ backOf ws) []
  | [], _ => Same2.refl []
  | w :: ws, h => by
    have ih := back_same ws fun x hx => h x (List.mem_cons_of_mem _ hx)
    have hw := h w (List.mem_cons_self ..)
    have ht := ih.2
    unfold tOf at ht
    have a := same2_mid (pre := [w]) (post := [inv w]) ih.1 ht
    have b := inv_same2 hw [] []
    have e : w :: ws ++ backOf (w :: ws) = [w] ++ (ws ++ backOf ws) ++ [inv w] := by
      unfold backOf
      simp
    rw [e]
    exact a.trans b
theorem same2_parting {ws us : List Wd} (h : Same2 ws us) : parting ws us = none := firstN_no fun j h1 h2 => by simp [same, h.2, h.1.drilled (n := j) (by omega)]
theorem turn_fac {w : Wd} (h : w ∈ turnWs) : w.fac = 1 := by
  simp only [turnWs, List.mem_cons, List.not_mem_nil, or_false] at h
  rcases h with rfl | rfl | rfl | rfl | rfl | rfl <;> rfl
theorem turns_shape {ws : List Wd} (h : ∀ w ∈ ws, w ∈ turnWs) : (ws.filter fun w => decide (1 < w.fac)) = [] := List.filter_eq_nil_iff.mpr fun w hw => by rw [turn_fac (h w hw)]; decide
theorem row_more {ws us : List Wd} (h : Row ws) (hu : ∀ w ∈ us, w ∈ turnWs) (hl : ws.length + us.length ≤ 8) : Row (ws ++ us) := ⟨by rw [List.length_append]; exact hl, by rw [List.filter_append, turns_shape hu, List.append_nil]; exact h.2⟩
theorem row_turns {us : List Wd} (hu : ∀ w ∈ us, w ∈ turnWs) (hl : us.length ≤ 8) : Row us := by
  have := row_more row_nil hu (by simpa using hl)
  simpa using this
theorem find_first {p : List Wd → Bool} : ∀ {l : List (List Wd)} {r x : List Wd}, l.Pairwise (fun a b => a.length ≤ b.length) → l.find? p = some r → x ∈ l → p x = true → r.length ≤ x.length
  | [], _, _, _, h, _, _ => by cases h
  | a :: l, r, x, hs, h, hx, hp => by
    obtain ⟨h1, h2⟩ := List.pairwise_cons.mp hs
    by_cases ha : p a = true
    · rw [List.find?_cons_of_pos ha] at h
      cases h
      rcases List.mem_cons.mp hx with rfl | z
      · exact Nat.le_refl _
      · exact h1 x z
    · rw [List.find?_cons_of_neg ha] at h
      rcases List.mem_cons.mp hx with rfl | z
      · exact absurd hp ha
      · exact find_first h2 h z hp
theorem find_congr {α : Type} {p q : α → Bool} : ∀ {l : List α}, (∀ x ∈ l, p x = q x) → l.find? p = l.find? q
  | [], _ => rfl
  | a :: l, h => by
    rw [List.find?_cons, List.find?_cons, h a (List.mem_cons_self ..), find_congr fun x hx => h x (List.mem_cons_of_mem _ hx)]
theorem cat3_sorted : (catR 3).Pairwise fun a b => a.length ≤ b.length := by decide +kernel
theorem rowsAll_all : ∀ ws : List Wd, ws ∈ rowsAll ws.length := by
  have key : ∀ (n : Nat) (ws : List Wd), ws.length = n → ws ∈ rowsAll n := by
    intro n
    induction n with
    | zero => intro ws h; rw [List.eq_nil_of_length_eq_zero h]; simp [rowsAll]
    | succ n ih =>
      intro ws h
      have hne : ws ≠ [] := fun z => by rw [z] at h; cases h
      refine List.mem_flatMap.mpr ⟨ws.dropLast, ih _ (by rw [List.length_dropLast]; omega), List.mem_map.mpr ⟨ws.getLast hne, wd_in _, List.dropLast_concat_getLast hne⟩⟩
  exact fun ws => key _ ws rfl
theorem cat_mem {n : Nat} {ws : List Wd} (h : Row ws) (hl : ws.length < n) : ws ∈ catR n := List.mem_flatMap.mpr ⟨ws.length, List.mem_range.mpr hl, List.mem_filter.mpr ⟨rowsAll_all ws, isRowD_row h⟩⟩
/-- where a row leads there, the bridge is found and no longer -/
theorem bridge_is {ws us x : List Wd} (hx : Row x) (hl : x.length < 3) (hr : Row (ws ++ x)) (h : parting (ws ++ x) us = none) : ∃ r, bridgeR ws us = some r ∧ r.length ≤ x.length := by
  have hp : leads (ws ++ x) us = true := by
    unfold leads
    rw [isRowD_row hr, h]
    rfl
  have hm := cat_mem (n := 3) hx hl
  cases hb : bridgeR ws us with
  | none =>
    have := List.find?_eq_none.mp hb x hm
    exact absurd hp this
  | some r => exact ⟨r, rfl, find_first cat3_sorted hb hm hp⟩
theorem short_bridge {ws r : List Wd} (h : shortR ws = some r) (hl : r.length < 3) : bridgeR [] ws = some r := by
  have e : catR 4 = catR 3 ++ rowsW 3 := by
    unfold catR
    rw [List.range_succ, List.flatMap_append]
    simp
  unfold shortR at h
  rw [e, List.find?_append] at h
  have h3 : (catR 3).find? (fun r => decide (parting ws r = none)) = some r := by
    cases hc : (catR 3).find? (fun r => decide (parting ws r = none)) with
    | some s => rw [hc] at h; exact h
    | none =>
      rw [hc, Option.none_or] at h
      have := (rowsW_row (List.mem_of_find?_eq_some h)).2
      omega
  unfold bridgeR
  rw [← h3]
  refine find_congr fun x hx => ?_
  unfold leads
  rw [List.nil_append, isRowD_row (catR_row hx).1, parting_comm]
  rfl
theorem lc_turns (own i j : Nat) {ts : List Wd} {Γ : List Sl} {Q : D → Prop} {n : Nat} (hts : ∀ w ∈ ts, w ∈ turnWs) (hne : ts ≠ []) (hz : ts.length < 1000) (hn : n < 1000) (hi : own ≠ i) (hj : own ≠ j) (h1 : (wipeG Γ [own])[j]? = some (.dat (.lst (ts.map wD)))) (h3 : (wipeG Γ [own])[i]? = some (.dat .src))
    (h : ∀ ws : List Wd, (∀ w ∈ ws, w ∈ turnWs) → ws.length = n → Q (.lst (ws.map wD))) : lcD [own] (gN own) wYes (wCall 2 F__law_chosen (wCons (wVar i) (wCons (wVar j) wNil))) Γ Q (rangeL 0 n) := by
  refine ⟨by rw [rangeL_len]; omega, fun i acc => ∃ ws : List Wd, acc = ws.map wD ∧ (∀ w ∈ ws, w ∈ turnWs) ∧ ws.length = i, ⟨[], rfl, by simp, rfl⟩, fun i acc d hd ha => ?_, fun acc ha => ?_⟩
  · obtain ⟨ws, rfl, hw, hl⟩ := ha
    simp [List.getElem?_set_ne hi, List.getElem?_set_ne hj, h1, h3]
    refine ⟨ts.map wD, rfl, .inl rfl, by simpa using hne, by rw [List.length_map]; omega, fun x hx => ?_⟩
    obtain ⟨w, hw2, rfl⟩ := List.mem_map.mp hx
    refine ⟨ws ++ [w], by simp, fun x hx => ?_, by simp [hl]⟩
    rcases List.mem_append.mp hx with z | z
    · exact hw x z
    · have : x = w := by simpa using z
      rw [this]; exact hts w hw2
  · obtain ⟨ws, rfl, hw, hl⟩ := ha
    exact h ws hw (by rw [hl, rangeL_len])
/-! #### _more3 -/
-- choosing a function on data by what it does on encodings
instance : Inhabited D := ⟨.non⟩
open Classical in
theorem ex_fun {α β : Type} [Inhabited β] (enc : α → D) (hi : ∀ a b, enc a = enc b → a = b) (g : α → β) : ∃ f : D → β, ∀ a, f (enc a) = g a := by
  refine ⟨fun d => if h : ∃ a, enc a = d then g h.choose else default, fun a => ?_⟩
  have h : ∃ b, enc b = enc a := ⟨a, rfl⟩
  simp only [dif_pos h]
  rw [hi _ _ h.choose_spec]
theorem filter_enc {α : Type} (enc : α → D) (p : α → Bool) (q : D → Bool) (h : ∀ a, q (enc a) = p a) (l : List α) : (l.map enc).filter q = (l.filter p).map enc := by
  rw [List.filter_map]
  congr 1
  exact List.filter_congr fun a _ => h a
theorem map_enc {α : Type} (enc : α → D) (g : α → D) (f : D → D) (h : ∀ a, f (enc a) = g a) (l : List α) : (l.map enc).map f = l.map g := by
  rw [List.map_map]
  exact List.map_congr_left fun a _ => h a
theorem get_enc {α : Type} {enc : α → D} {l : List α} {i : Nat} {d : D} (h : (l.map enc)[i]? = some d) : ∃ a, l[i]? = some a ∧ d = enc a := by
  rw [List.getElem?_map] at h
  cases e : l[i]? with
  | none => rw [e] at h; cases h
  | some a => rw [e] at h; cases h; exact ⟨a, rfl, rfl⟩
theorem cut_toA {α : Type} (ws : List α) (k : Nat) : PD.cutD ws none (some (k : Int)) = ws.take k := by
  unfold PD.cutD
  rw [HT.sIx_none, HT.sIx_nat, List.drop_zero, Nat.sub_zero]
  by_cases h : k ≤ ws.length
  · rw [Nat.min_eq_left h]
  · rw [Nat.min_eq_right (show ws.length ≤ k by omega), List.take_of_length_le (Nat.le_refl _), List.take_of_length_le (show ws.length ≤ k by omega)]
theorem bls_enc {α : Type} (g : α → Bool) (l : List α) : D.bls (l.map fun a => D.bl (g a)) = some (l.map g) := by
  rw [show (fun a => D.bl (g a)) = D.bl ∘ g from rfl, ← List.map_map]
  exact D.bls_map _
theorem pairD_inj (p q : List Wd × List Wd) (h : pairD p = pairD q) : p = q := by
  have h1 := (List.cons.inj (D.tup.inj h)).1
  have h2 := (List.cons.inj (List.cons.inj (D.tup.inj h)).2).1
  exact Prod.ext (rowD_inj h1) (rowD_inj h2)
/-! rows of rows -/
def rowsD (rs : List (List Wd)) : D := .tup (rs.map rowD)
def Rows (rs : List (List Wd)) : Prop := 1 ≤ rs.length ∧ rs.length ≤ 5 ∧ ∀ r ∈ rs, Row r
def pairsAt (rs : List (List Wd)) (i : Nat) : List (List Wd × List Wd) := (rs.take i).map fun o => (rs.getD i [], o)
def allPairs (rs : List (List Wd)) : List (List Wd × List Wd) := (List.range rs.length).flatMap (pairsAt rs)
def unl (p : List Wd × List Wd) : Bool := !decide (parting p.1 p.2 = none)
def unlike (rs : List (List Wd)) : List (List Wd × List Wd) := (allPairs rs).filter unl
def badAt (rs : List (List Wd)) (n : Nat) : Bool := (unlike rs).any fun p => decide (same p.1 p.2 n)
def lcmAll (rs : List (List Wd)) : Nat := rs.foldl (fun s r => Nat.lcm s (pOf r)) 1
def telling (rs : List (List Wd)) : Option Nat := firstN (fun n => !badAt rs n) (9 * lcmAll rs)
theorem pairs_mem {rs : List (List Wd)} {p : List Wd × List Wd} : p ∈ allPairs rs ↔ ∃ i j, j < i ∧ i < rs.length ∧ p = (rs.getD i [], rs.getD j []) := by
  unfold allPairs pairsAt
  simp only [List.mem_flatMap, List.mem_range, List.mem_map]
  constructor
  · rintro ⟨i, hi, o, ho, rfl⟩
    obtain ⟨j, hj, e⟩ := List.getElem_of_mem ho
    rw [List.length_take] at hj
    refine ⟨i, j, by omega, hi, ?_⟩
    rw [List.getElem_take] at e
    rw [← e]
    simp [List.getD_eq_getElem?_getD, List.getElem?_eq_getElem (show j < rs.length by omega)]
  · rintro ⟨i, j, hj, hi, rfl⟩
    refine ⟨i, hi, rs.getD j [], ?_, rfl⟩
    rw [List.getD_eq_getElem?_getD, List.getElem?_eq_getElem (by omega)]
    exact List.mem_take_iff_getElem.mpr ⟨j, by omega, rfl⟩
theorem getD_row {rs : List (List Wd)} (h : ∀ r ∈ rs, Row r) {i : Nat} (hi : i < rs.length) : Row (rs.getD i []) := by
  rw [List.getD_eq_getElem?_getD, List.getElem?_eq_getElem hi]
  exact h _ (List.getElem_mem hi)
theorem pairs_row {rs : List (List Wd)} (h : ∀ r ∈ rs, Row r) {p : List Wd × List Wd} (hp : p ∈ allPairs rs) : Row p.1 ∧ Row p.2 := by
  obtain ⟨i, j, hj, hi, rfl⟩ := pairs_mem.mp hp
  exact ⟨getD_row h hi, getD_row h (by omega)⟩
theorem pairs_len {rs : List (List Wd)} (h : rs.length ≤ 5) : (allPairs rs).length ≤ 25 := by
  unfold allPairs
  rw [List.length_flatMap]
  have h1 : ∀ x ∈ (List.range rs.length).map (fun i => (pairsAt rs i).length), x ≤ 5 := fun x hx => by
    obtain ⟨i, _, rfl⟩ := List.mem_map.mp hx
    unfold pairsAt
    rw [List.length_map, List.length_take]
    omega
  have key : ∀ l : List Nat, (∀ x ∈ l, x ≤ 5) → l.sum ≤ 5 * l.length := by
    intro l
    induction l with
    | nil => intro _; simp
    | cons x l ih =>
      intro h
      have a := h x (List.mem_cons_self ..)
      have b := ih fun y hy => h y (List.mem_cons_of_mem _ hy)
      rw [List.sum_cons, List.length_cons]
      omega
  have := key _ h1
  rw [List.length_map, List.length_range] at this
  omega
theorem same_symm (ws us : List Wd) (n : Nat) : decide (same ws us n) = decide (same us ws n) := decide_eq_decide.mpr (same_comm ws us n)
theorem bad_rev1 {rs : List (List Wd)} {n : Nat} (h : badAt rs.reverse n = true) : badAt rs n = true := by
  unfold badAt at *
  rw [List.any_eq_true] at *
  obtain ⟨p, hp, hs⟩ := h
  obtain ⟨h1, h2⟩ := List.mem_filter.mp hp
  obtain ⟨i, j, hj, hi, rfl⟩ := pairs_mem.mp h1
  rw [List.length_reverse] at hi
  have e : ∀ k, k < rs.length → rs.reverse.getD k [] = rs.getD (rs.length - 1 - k) [] := fun k hk => by
    rw [List.getD_eq_getElem?_getD, List.getD_eq_getElem?_getD, List.getElem?_reverse hk]
  rw [e i hi, e j (by omega)] at *
  refine ⟨(rs.getD (rs.length - 1 - j) [], rs.getD (rs.length - 1 - i) []), List.mem_filter.mpr ⟨pairs_mem.mpr ⟨_, _, by omega, by omega, rfl⟩, ?_⟩, ?_⟩
  · unfold unl at h2 ⊢
    simp only at h2 ⊢
    rw [parting_comm]
    exact h2
  · simp only at hs ⊢
    rw [same_symm]
    exact hs
theorem bad_rev (rs : List (List Wd)) (n : Nat) : badAt rs.reverse n = badAt rs n := by
  rw [Bool.eq_iff_iff]
  exact ⟨bad_rev1, fun h => bad_rev1 (by rw [List.reverse_reverse]; exact h)⟩
theorem lcm_fold : ∀ (rs : List (List Wd)) (s m : Nat), rs.foldl (fun s r => Nat.lcm s (pOf r)) s ∣ m ↔ s ∣ m ∧ ∀ r ∈ rs, pOf r ∣ m
  | [], s, m => by simp
  | r :: rs, s, m => by
    rw [List.foldl_cons, lcm_fold rs, Nat.lcm_dvd_iff]
    simp [and_assoc]
theorem lcmAll_rev (rs : List (List Wd)) : lcmAll rs.reverse = lcmAll rs := by
  refine Nat.dvd_antisymm ?_ ?_
  · refine (lcm_fold _ _ _).mpr ⟨Nat.one_dvd _, fun r hr => ?_⟩
    exact ((lcm_fold rs 1 _).mp (Nat.dvd_refl _)).2 r (List.mem_reverse.mp hr)
  · refine (lcm_fold _ _ _).mpr ⟨Nat.one_dvd _, fun r hr => ?_⟩
    exact ((lcm_fold rs.reverse 1 _).mp (Nat.dvd_refl _)).2 r (List.mem_reverse.mpr hr)
theorem telling_rev (rs : List (List Wd)) : telling rs.reverse = telling rs := by
  unfold telling
  rw [lcmAll_rev]
  congr 1
  funext n
  rw [bad_rev]
theorem lcmAll_bd : ∀ (rs : List (List Wd)) (s : Nat), 0 < s → (∀ r ∈ rs, Row r) → 0 < rs.foldl (fun s r => Nat.lcm s (pOf r)) s ∧ rs.foldl (fun s r => Nat.lcm s (pOf r)) s ≤ s * 9 ^ rs.length
  | [], s, h0, _ => by simp [h0]
  | r :: rs, s, h0, h => by
    have hr := pOf_9 (h r (List.mem_cons_self ..))
    have h1 : 0 < Nat.lcm s (pOf r) := Nat.lcm_pos h0 (by omega)
    have h2 : Nat.lcm s (pOf r) ≤ s * pOf r := Nat.le_of_dvd (Nat.mul_pos h0 (by omega)) (Nat.lcm_dvd (Nat.dvd_mul_right _ _) (Nat.dvd_mul_left _ _))
    have h3 : s * pOf r ≤ s * 9 := Nat.mul_le_mul_left s hr.2
    obtain ⟨a, b⟩ := lcmAll_bd rs _ h1 fun x hx => h x (List.mem_cons_of_mem _ hx)
    refine ⟨a, Nat.le_trans b ?_⟩
    rw [List.length_cons, Nat.pow_succ, Nat.mul_comm (9 ^ rs.length) 9, ← Nat.mul_assoc]
    exact Nat.mul_le_mul_right _ (by omega)
theorem lcmAll_le {rs : List (List Wd)} (h : ∀ r ∈ rs, Row r) (hl : rs.length ≤ 5) : 0 < lcmAll rs ∧ lcmAll rs ≤ 59049 := by
  obtain ⟨a, b⟩ := lcmAll_bd rs 1 (by decide) h
  have : 9 ^ rs.length ≤ 9 ^ 5 := Nat.pow_le_pow_right (by decide) hl
  exact ⟨a, by unfold lcmAll; omega⟩
theorem lcm_take (rs : List (List Wd)) (i : Nat) (r : List Wd) (h : rs[i]? = some r) : lcmAll (rs.take (i + 1)) = Nat.lcm (lcmAll (rs.take i)) (pOf r) := by
  unfold lcmAll
  rw [List.take_add_one, h, List.foldl_append]
  rfl
theorem telling_pair (a b : List Wd) : telling [a, b] = some ((parting a b).getD 1) := by
  have hl : lcmAll [a, b] = lcmP a b := by
    show Nat.lcm (Nat.lcm 1 (pOf a)) (pOf b) = Nat.lcm (pOf a) (pOf b)
    rw [Nat.lcm_one_left]
  have hL : 0 < lcmP a b := Nat.lcm_pos (pOf_pos _) (pOf_pos _)
  have hp : allPairs [a, b] = [(b, a)] := rfl
  unfold telling
  rw [hl]
  cases h : parting a b with
  | none =>
    have hu : unlike [a, b] = [] := by
      unfold unlike
      rw [hp, List.filter_cons_of_neg]
      · rfl
      · unfold unl
        simp only
        rw [parting_comm, h]
        decide
    show firstN _ _ = some 1
    exact firstN_eq (Nat.le_refl _) (by omega) (by unfold badAt; rw [hu]; rfl) fun j h1 h2 => by omega
  | some t =>
    obtain ⟨t1, t2, t3, t4⟩ := firstN_some (show firstN _ _ = some t from h)
    have hu : unlike [a, b] = [(b, a)] := by
      unfold unlike
      rw [hp, List.filter_cons_of_pos]
      · rfl
      · unfold unl
        simp only
        rw [parting_comm, h]
        rfl
    have hb : ∀ n, badAt [a, b] n = decide (same a b n) := fun n => by
      unfold badAt
      rw [hu, same_symm]
      simp
    refine firstN_eq t1 (show t ≤ _ by omega) ?_ fun j h1 h2 => ?_
    · rw [hb]; exact t3
    · rw [hb]; exact t4 j h1 h2
/-! #### common_multiple -/
def F_common_multiple : DF
  | [a, b], Q, _ => ∃ x y : Nat, a = .int x ∧ b = .int y ∧ 0 < x ∧ 0 < y ∧ Sm x ∧ Sm y ∧ Q (.int (Nat.lcm x y))
  | _, _, _ => False
theorem Sm.le {x y : Nat} (h : Sm (y : Int)) (hl : x ≤ y) : Sm (x : Int) := by
  unfold Sm at *
  rw [Int.natAbs_natCast] at *
  exact Nat.lt_of_le_of_lt hl h
/-! #### require_rows -/
def F_require_rows : DF
  | [a], Q, _ => ∃ rs, a = rowsD rs ∧ Rows rs ∧ Q .non
  | _, _, _ => False
/-! #### unlike_pairs -/
def F_unlike_pairs : DF
  | [a], Q, _ => ∃ rs, a = rowsD rs ∧ Rows rs ∧ Q (.lst ((unlike rs).map pairD))
  | _, _, _ => False
/-! #### telling_squad -/
def F_telling_squad : DF
  | [a], Q, _ => ∃ rs, a = rowsD rs ∧ Rows rs ∧ Q (optD (telling rs))
  | _, _, _ => False
theorem unlike_row {rs : List (List Wd)} (h : ∀ r ∈ rs, Row r) {p : List Wd × List Wd} (hp : p ∈ unlike rs) : Row p.1 ∧ Row p.2 := pairs_row h (List.mem_filter.mp hp).1
theorem unlike_len {rs : List (List Wd)} (h : rs.length ≤ 5) : (unlike rs).length ≤ 25 := Nat.le_trans (List.length_filter_le _ _) (pairs_len h)
/-! #### _law_rows_like -/
def F__law_rows_like : DF
  | [a], Q, _ => a = .src ∧ ∀ rs, Rows rs → Q (rowsD rs)
  | _, _, _ => False
mutual
theorem noL_fl0 : ∀ ws : List Wd, D.noLs (ws.map wD) = true
  | [] => rfl
  | w :: ws => by
    show (D.noL (wD w) && D.noLs (ws.map wD)) = true
    rw [noL_fl0 ws]
    rfl
end
theorem noL_row (ws : List Wd) : (rowD ws).noL = true := noL_fl0 ws
/-! #### _law_squad -/
def F__law_squad : DF
  | [a], Q, _ => ∃ rs, a = rowsD rs ∧ Rows rs ∧ Q (optD (telling rs))
  | _, _, _ => False
def unlikeTo (rs : List (List Wd)) (i : Nat) : List (List Wd × List Wd) := (List.range i).flatMap fun k => (pairsAt rs k).filter unl
theorem unlikeTo_all (rs : List (List Wd)) : unlikeTo rs rs.length = unlike rs := by
  unfold unlikeTo unlike allPairs
  rw [List.filter_flatMap]
theorem unlikeTo_len {rs : List (List Wd)} (h : rs.length ≤ 5) {i : Nat} (hi : i ≤ rs.length) : (unlikeTo rs i).length ≤ 25 := by
  refine Nat.le_trans (List.Sublist.length_le ?_) (unlike_len h)
  rw [← unlikeTo_all]
  have : List.range rs.length = List.range i ++ (List.range (rs.length - i)).map (i + ·) := by rw [← List.range_add]; congr 1; omega
  unfold unlikeTo
  rw [this, List.flatMap_append]
  exact List.sublist_append_left _ _
/-! #### _law_back -/
def F__law_back : DF
  | [a], Q, _ => ∃ ws : List Wd, a = rowD ws ∧ ws.length ≤ 100 ∧ (∀ w ∈ ws, w ∈ turnWs) ∧ Q (rowD (backOf ws))
  | _, _, _ => False
def backKV : List (Str × Str) := [("left", "right"), ("right", "left"), ("wheel left", "wheel right"), ("wheel right", "wheel left")]
theorem back_look {w : Wd} (h : w ∈ turnWs) : look2 backKV w.nm (wD w) = wD (inv w) := by
  simp only [turnWs, List.mem_cons, List.not_mem_nil, or_false] at h
  rcases h with rfl | rfl | rfl | rfl | rfl | rfl <;> rfl
theorem inv_inv (w : Wd) : inv (inv w) = w := by cases w <;> rfl
theorem inv_turn {w : Wd} (h : w ∈ turnWs) : inv w ∈ turnWs := by
  simp only [turnWs, List.mem_cons, List.not_mem_nil, or_false] at h ⊢
  rcases h with rfl | rfl | rfl | rfl | rfl | rfl <;> simp [inv]
theorem back_turns {ws : List Wd} (h : ∀ w ∈ ws, w ∈ turnWs) : ∀ w ∈ backOf ws, w ∈ turnWs := fun w hw => by
  obtain ⟨u, hu, rfl⟩ := List.mem_map.mp hw
  exact inv_turn (h u (List.mem_reverse.mp hu))
theorem back_back (ws : List Wd) : backOf (backOf ws) = ws := by
  unfold backOf
  rw [← List.map_reverse, List.reverse_reverse, List.map_map]
  conv => rhs; rw [← List.map_id ws]
  exact List.map_congr_left fun w _ => inv_inv w
/-! #### _law_mirror_words -/
def F__law_mirror_words : DF
  | [a], Q, _ => ∃ ws : List Wd, a = rowD ws ∧ ws.length ≤ 100 ∧ Q (rowD (ws.map inv))
  | _, _, _ => False
def mirKV : List (Str × Str) := [("left", "right"), ("right", "left"), ("wheel left", "wheel right"), ("wheel right", "wheel left")]
theorem mir_look (w : Wd) : look2 mirKV w.nm (wD w) = wD (inv w) := by cases w <;> rfl
theorem inv_fac (w : Wd) : (inv w).fac = w.fac := by cases w <;> rfl
theorem row_mir {ws : List Wd} (h : Row ws) : Row (ws.map inv) := by
  refine ⟨by rw [List.length_map]; exact h.1, ?_⟩
  rw [List.filter_map, List.length_map, show ((fun w => decide (1 < w.fac)) ∘ inv) = fun w => decide (1 < Wd.fac w) from funext fun w => by simp [inv_fac]]
  exact h.2
/-! #### have_mirror -/
def mirS (st : RG.Sq) : RG.Sq := (st.1, st.2.1, st.2.2.reverse.map fun s => (s.1, st.2.1 - 1 - s.2))
def mirAt (ws us : List Wd) (n : Nat) : Bool := decide (RG.drilled us n = mirS (RG.drilled ws n))
def F_have_mirror : DF
  | [a, b, c], Q, _ => ∃ (ws us : List Wd) (n : Nat), a = rowD ws ∧ b = rowD us ∧ c = .int n ∧ ws.length ≤ 16 ∧ us.length ≤ 16 ∧ 0 < n ∧ n < 1000000 ∧ Q (.bl (mirAt ws us n))
  | _, _, _ => False
theorem spot_inj (a b : Nat × Nat) (h : RG.spotD a = RG.spotD b) : a = b := by
  have h1 := D.int.inj (List.cons.inj (D.tup.inj h)).1
  have h2 := D.int.inj (List.cons.inj (List.cons.inj (D.tup.inj h)).2).1
  exact Prod.ext (Int.ofNat_inj.mp h1) (Int.ofNat_inj.mp h2)
theorem spot_lt (ws : List Wd) (n : Nat) {s : Nat × Nat} (h : s ∈ (RG.drilled ws n).2.2) : s.1 < (RG.drilled ws n).1 ∧ s.2 < (RG.drilled ws n).2.1 := by
  obtain ⟨i, hi⟩ := List.getElem?_of_mem h
  exact (RG.shows ws n).lt hi
/-! #### parting_mirror -/
def partM (ws us : List Wd) : Option Nat := firstN (fun n => !mirAt ws us n) (8 * lcmP ws us)
def F_parting_mirror : DF
  | [a, b], Q, _ => ∃ ws us, a = rowD ws ∧ b = rowD us ∧ Row ws ∧ Row us ∧ Q (optD (partM ws us))
  | _, _, _ => False
theorem mir_mir {st : RG.Sq} (h : ∀ s ∈ st.2.2, s.2 < st.2.1) : mirS (mirS st) = st := by
  obtain ⟨R, F, ps⟩ := st
  unfold mirS
  simp only [← List.map_reverse, List.reverse_reverse, List.map_map]
  congr 2
  conv => rhs; rw [← List.map_id ps]
  refine List.map_congr_left fun s hs => ?_
  have : s.2 < F := h s hs
  exact Prod.ext rfl (by show F - 1 - (F - 1 - s.2) = s.2; omega)
theorem mirAt_comm (ws us : List Wd) (n : Nat) : mirAt ws us n = mirAt us ws n := by
  unfold mirAt
  refine decide_eq_decide.mpr ⟨fun h => ?_, fun h => ?_⟩
  · rw [h, mir_mir fun s hs => (spot_lt ws n hs).2]
  · rw [h, mir_mir fun s hs => (spot_lt us n hs).2]
theorem partM_comm (ws us : List Wd) : partM ws us = partM us ws := by
  unfold partM lcmP
  rw [Nat.lcm_comm]
  congr 1
  funext n
  rw [mirAt_comm]
/-! rows of turns and their mirrored ones -/
theorem mir_first (n : Nat) : mirS (RG.firstS n) = RG.firstS n := by
  unfold mirS RG.firstS
  simp only
  congr 2
  refine List.ext_getElem (by simp) fun i h1 h2 => ?_
  simp at h1 h2
  simp [List.getElem_reverse]
  omega
theorem mir_step {w : Wd} (hw : w ∈ turnWs) {st : RG.Sq} (h : ∀ s ∈ st.2.2, s.1 < st.1 ∧ s.2 < st.2.1) : RG.obeyed (inv w) (mirS st) = mirS (RG.obeyed w st) := by
  obtain ⟨R, F, ps⟩ := st
  simp only [turnWs, List.mem_cons, List.not_mem_nil, or_false] at hw
  rcases hw with rfl | rfl | rfl | rfl | rfl | rfl
  all_goals
    refine RG.sq_ext rfl rfl ?_
    simp only [mirS, RG.obeyed, inv, List.map_reverse, List.map_map]
    refine congrArg List.reverse (List.map_congr_left fun s hs => ?_)
    have ⟨h1, h2⟩ := h s hs
    simp only at h1 h2
    simp only [Function.comp, RG.moved, RG.resized, Prod.mk.injEq]
    try omega
theorem mir_turns : ∀ (ws : List Wd), (∀ w ∈ ws, w ∈ turnWs) → ∀ n, 0 < n → RG.drilled (ws.map inv) n = mirS (RG.drilled ws n) := by
  have key : ∀ (ws : List Wd), (∀ w ∈ ws, w ∈ turnWs) → ∀ st : RG.Sq, RG.Good st → RG.runW (ws.map inv) (mirS st) = mirS (RG.runW ws st) := by
    intro ws
    induction ws with
    | nil => intro _ st _; rfl
    | cons w ws ih =>
      intro h st g
      show RG.runW (ws.map inv) (RG.obeyed (inv w) (mirS st)) = mirS (RG.runW ws (RG.obeyed w st))
      rw [mir_step (h w (List.mem_cons_self ..)) fun s hs => g.lt hs]
      exact ih (fun x hx => h x (List.mem_cons_of_mem _ hx)) _ (g.step w)
  intro ws h n hn
  have := key ws h (RG.firstS n) ⟨by simp [RG.firstS]; exact hn, _, RG.shows_start n⟩
  rw [mir_first] at this
  exact this
theorem mir_none {ws : List Wd} (h : ∀ w ∈ ws, w ∈ turnWs) : partM ws (ws.map inv) = none := firstN_no fun j h1 h2 => by
  simp [mirAt, mir_turns ws h j (by omega)]
/-! #### is_mirrored -/
def F_is_mirrored : DF
  | [a, b], Q, _ => ∃ ws us, a = rowD ws ∧ b = rowD us ∧ Row ws ∧ Row us ∧ Q (.bl (decide (partM ws us = none)))
  | _, _, _ => False
/-! #### _law_is_mirror -/
def F__law_is_mirror : DF
  | [a, b, c], Q, _ => ∃ (ws us : List Wd) (n : Nat), a = rowD ws ∧ b = rowD us ∧ c = .int n ∧ ws.length ≤ 16 ∧ us.length ≤ 16 ∧ 0 < n ∧ n < 1000000 ∧ Q (.bl (mirAt ws us n))
  | _, _, _ => False
/-! #### _roundsM -/
def filesR (ws : List Wd) (n : Nat) : List Nat := (RG.drilled (ws ++ [.line]) n).2.2.map (·.2)
def itr (fs : List Nat) (i : Nat) : Nat → Nat
  | 0 => i
  | c + 1 => fs.getD (itr fs i c) 0
def PermN (fs : List Nat) (n : Nat) : Prop := fs.length = n ∧ fs.Nodup ∧ ∀ x ∈ fs, x < n
def t0R (ws : List Wd) : Nat := [1, 4, 2, 4].getD (tOf ws) 1
def OkR (ws : List Wd) (n m : Nat) : Prop := t0R ws ∣ m ∧ ∀ i, i < n → itr (filesR ws n) i m = i
def IsR (ws : List Wd) (n R : Nat) : Prop := 0 < R ∧ Sm (R : Int) ∧ ∀ m, R ∣ m ↔ OkR ws n m
theorem line_two (ws : List Wd) (n : Nat) : (RG.drilled (ws ++ [.line]) n).1 = 1 ∧ (RG.drilled (ws ++ [.line]) n).2.1 = n := by
  rw [drilled_snoc]
  simp [RG.obeyed, RG.drilled_len]
theorem filesR_perm (ws : List Wd) (n : Nat) : PermN (filesR ws n) n := by
  have hD := line_two ws n
  have hs := RG.shows (ws ++ [.line]) n
  have hz : ∀ s ∈ (RG.drilled (ws ++ [.line]) n).2.2, s.1 = 0 ∧ s.2 < n := fun s hm => by
    obtain ⟨i, hi⟩ := List.getElem?_of_mem hm
    have := hs.lt hi
    rw [hD.1, hD.2] at this
    omega
  refine ⟨by simp [filesR, RG.drilled_len], ?_, fun x hx => ?_⟩
  · have hn := RG.shows_nodup (ws ++ [.line]) n
    unfold filesR
    refine List.pairwise_map.mpr (hn.imp_of_mem fun {a b} ha hb hab h => hab (Prod.ext ?_ h))
    rw [(hz a ha).1, (hz b hb).1]
  · obtain ⟨s, hm, rfl⟩ := List.mem_map.mp hx
    exact (hz s hm).2
namespace PermN
variable {fs : List Nat} {n : Nat} (P : PermN fs n)
include P
theorem getD_eq {i : Nat} (hi : i < n) : fs[i]? = some (fs.getD i 0) := by
  rw [List.getD_eq_getElem?_getD, List.getElem?_eq_getElem (by rw [P.1]; exact hi)]
  rfl
theorem lt {i : Nat} (hi : i < n) : fs.getD i 0 < n := P.2.2 _ (List.mem_of_getElem? (P.getD_eq hi))
theorem inj {i j : Nat} (hi : i < n) (hj : j < n) (h : fs.getD i 0 = fs.getD j 0) : i = j := by
  have e1 := P.getD_eq hi
  have e2 := P.getD_eq hj
  rw [h, ← e2] at e1
  exact (List.getElem?_inj (by rw [P.1]; exact hi) P.2.1).mp e1
theorem itr_lt {i : Nat} (hi : i < n) : ∀ c, itr fs i c < n
  | 0 => hi
  | c + 1 => P.lt (itr_lt hi c)
theorem itr_inj {i j : Nat} (hi : i < n) (hj : j < n) : ∀ c, itr fs i c = itr fs j c → i = j
  | 0, h => h
  | c + 1, h => itr_inj hi hj c (P.inj (P.itr_lt hi c) (P.itr_lt hj c) h)
end PermN
theorem itr_add (fs : List Nat) (i a : Nat) : ∀ b, itr fs i (a + b) = itr fs (itr fs i a) b
  | 0 => rfl
  | b + 1 => by
    show fs.getD (itr fs i (a + b)) 0 = fs.getD (itr fs (itr fs i a) b) 0
    rw [itr_add fs i a b]
theorem itr_mul {fs : List Nat} {i p : Nat} (h : itr fs i p = i) : ∀ k, itr fs i (p * k) = i
  | 0 => rfl
  | k + 1 => by
    rw [Nat.mul_succ, itr_add, itr_mul h k, h]
theorem itr_mod {fs : List Nat} {i p : Nat} (h : itr fs i p = i) (t : Nat) : itr fs i (t % p) = itr fs i t := by
  conv => rhs; rw [← Nat.div_add_mod t p, itr_add, itr_mul h]
/-- p is the first way back -/
def PerR (fs : List Nat) (i p : Nat) : Prop := 0 < p ∧ itr fs i p = i ∧ ∀ c, 0 < c → c < p → itr fs i c ≠ i
theorem PerR.dvd {fs : List Nat} {i p : Nat} (h : PerR fs i p) (m : Nat) : p ∣ m ↔ itr fs i m = i := by
  constructor
  · rintro ⟨k, rfl⟩
    exact itr_mul h.2.1 k
  · intro hm
    rw [← itr_mod h.2.1 m] at hm
    by_cases h0 : m % p = 0
    · exact Nat.dvd_of_mod_eq_zero h0
    · exact absurd hm (h.2.2 _ (by omega) (Nat.mod_lt _ h.1))
theorem nodup_le : ∀ (n : Nat) (l : List Nat), l.Nodup → (∀ x ∈ l, x < n) → l.length ≤ n
  | 0, l, _, h => by
    cases l with
    | nil => simp
    | cons a l => exact absurd (h a (by simp)) (by omega)
  | n + 1, l, hn, h => by
    have := nodup_le n (l.erase n) (hn.erase n) fun x hx => by
      have h1 := (hn.mem_erase_iff).mp hx
      have := h x h1.2
      have := h1.1
      omega
    rw [List.length_erase] at this
    split at this <;> omega
theorem pigeon {f : Nat → Nat} {n : Nat} (h : ∀ c, c ≤ n → f c < n) : ∃ a b, a < b ∧ b ≤ n ∧ f a = f b := by
  apply Classical.byContradiction
  intro hno
  have hnd : ((List.range (n + 1)).map f).Nodup := by
    refine List.pairwise_map.mpr (List.nodup_range.imp_of_mem fun {a b} ha hb hab h => ?_)
    rw [List.mem_range] at ha hb
    rcases Nat.lt_or_gt_of_ne hab with hl | hl
    · exact hno ⟨a, b, hl, by omega, h⟩
    · exact hno ⟨b, a, hl, by omega, h.symm⟩
  have := nodup_le n _ hnd fun x hx => by
    obtain ⟨c, hc, rfl⟩ := List.mem_map.mp hx
    rw [List.mem_range] at hc
    exact h c (by omega)
  simp at this
  omega
theorem per_some {fs : List Nat} {n i : Nat} (P : PermN fs n) (hi : i < n) : ∃ p, PerR fs i p ∧ p ≤ n := by
  obtain ⟨a, b, h1, h2, h3⟩ := pigeon (f := itr fs i) (n := n) fun c _ => P.itr_lt hi c
  have hb : itr fs i (b - a) = i := by
    have e : itr fs i b = itr fs (itr fs i (b - a)) a := by rw [← itr_add]; congr 1; omega
    exact (P.itr_inj hi (P.itr_lt hi _) a (h3.trans e)).symm
  obtain ⟨p, hp1, hp2, hp3⟩ : ∃ p, (0 < p ∧ itr fs i p = i) ∧ p ≤ b - a ∧ ∀ c, c < p → ¬ (0 < c ∧ itr fs i c = i) := by
    have : ∀ k, (∃ c, c ≤ k ∧ 0 < c ∧ itr fs i c = i) → ∃ p, (0 < p ∧ itr fs i p = i) ∧ p ≤ k ∧ ∀ c, c < p → ¬ (0 < c ∧ itr fs i c = i) := by
      intro k
      induction k with
      | zero => rintro ⟨c, h1, h2, _⟩; omega
      | succ k ih =>
        rintro ⟨c, h1, h2, h3⟩
        by_cases hh : ∃ c, c ≤ k ∧ 0 < c ∧ itr fs i c = i
        · obtain ⟨p, q1, q2, q3⟩ := ih hh
          exact ⟨p, q1, by omega, q3⟩
        · refine ⟨k + 1, ?_, by omega, fun d hd ⟨d1, d2⟩ => hh ⟨d, by omega, d1, d2⟩⟩
          have : c = k + 1 := by
            by_cases hc : c ≤ k
            · exact absurd ⟨c, hc, h2, h3⟩ hh
            · omega
          subst this
          exact ⟨h2, h3⟩
    exact this (b - a) ⟨b - a, Nat.le_refl _, by omega, hb⟩
  exact ⟨p, ⟨hp1.1, hp1.2, fun c c0 c1 he => hp3 c c1 ⟨c0, he⟩⟩, by omega⟩
theorem mul_kpp (k p : Nat) : k * p * p = k * (p * p) ∧ p * k * p = k * (p * p) := by
  refine ⟨Nat.mul_assoc .., ?_⟩
  rw [Nat.mul_comm p k, Nat.mul_assoc]
theorem cube_le : ∀ p : Nat, 0 < p → p ^ 3 ≤ 3 ^ p
  | 1, _ => by decide
  | 2, _ => by decide
  | 3, _ => by decide
  | p + 4, _ => by
    have h := cube_le (p + 3) (by omega)
    have e : (p + 4) ^ 3 ≤ 3 * (p + 3) ^ 3 := by
      have e1 : (p + 4) ^ 3 = p * p * p + 12 * (p * p) + 48 * p + 64 := by
        simp only [Nat.pow_succ, Nat.pow_zero, Nat.one_mul, Nat.mul_add, Nat.add_mul]
        have a3 := mul_kpp 3 p
        have a4 := mul_kpp 4 p
        omega
      have e2 : 3 * (p + 3) ^ 3 = 3 * (p * p * p) + 27 * (p * p) + 81 * p + 81 := by
        simp only [Nat.pow_succ, Nat.pow_zero, Nat.one_mul, Nat.mul_add, Nat.add_mul]
        have a3 := mul_kpp 3 p
        have a4 := mul_kpp 4 p
        omega
      rw [e1, e2]
      omega
    calc (p + 4) ^ 3 ≤ 3 * (p + 3) ^ 3 := e
      _ ≤ 3 * 3 ^ (p + 3) := Nat.mul_le_mul_left 3 h
      _ = 3 ^ (p + 4) := by rw [show p + 4 = (p + 3) + 1 by omega, Nat.pow_succ 3 (p+3), Nat.mul_comm]
theorem whI {c : WB} {b : WS} {N : List Sl → Prop} {R : D → Prop} {E : Ex} {Γ : List Sl} (I : Nat → List Sl → Prop) (J : List Sl → Prop) (h0 : ∃ m, I m Γ) (hN : ∀ Γ', J Γ' → N Γ')
    (hs : ∀ N' : List Sl → Prop, (∀ Γ', J Γ' → N' Γ') → ∀ m Γ', I m Γ' → c Γ' (fun t => if t = true then b (fun Γ2 => ∃ m', m' < m ∧ I m' Γ2) R E Γ' else N' Γ') E) : whD c b N R E Γ := ⟨I, h0, hs N hN⟩
theorem eqv_nats : ∀ xs ys : List Nat, PyData.eqv (.list (D.pds (xs.map fun (x : Nat) => D.int x))) (.list (D.pds (ys.map fun (x : Nat) => D.int x))) = decide (xs = ys)
  | [], [] => rfl
  | [], _ :: _ => rfl
  | _ :: _, [] => rfl
  | p :: ps, q :: qs => by
    have : PyData.eqv (.list (D.pds ((p :: ps).map fun (x : Nat) => D.int x))) (.list (D.pds ((q :: qs).map fun (x : Nat) => D.int x))) = (PyData.eqv (.int p) (.int q) && PyData.eqv (.list (D.pds (ps.map fun (x : Nat) => D.int x))) (.list (D.pds (qs.map fun (x : Nat) => D.int x)))) := rfl
    rw [this, RG.eqv_int, eqv_nats ps qs, Bool.eq_iff_iff]
    simp only [Bool.and_eq_true, decide_eq_true_eq, List.cons.injEq, Int.ofNat_inj]
theorem eq_nats (xs ys : List Nat) : D.eq (.lst (xs.map fun (x : Nat) => D.int x)) (.lst (ys.map fun (x : Nat) => D.int x)) = decide (xs = ys) := eqv_nats xs ys
theorem fl_nats (xs : List Nat) (n : Nat) : (D.lst (xs.map fun (x : Nat) => D.int x)).fl (n + 1) = true := fl_lst' fun x hx => by
  obtain ⟨y, _, rfl⟩ := List.mem_map.mp hx
  exact fl_int _ _
theorem t0_dvd (ws : List Wd) (m : Nat) : t0R ws ∣ m ↔ tOf ws * m % 4 = 0 := by
  have := tOf_lt ws
  unfold t0R
  generalize tOf ws = T at *
  match T, this with
  | 0, _ => simp
  | 1, _ => show 4 ∣ m ↔ _; omega
  | 2, _ => show 2 ∣ m ↔ _; omega
  | 3, _ => show 4 ∣ m ↔ _; omega
theorem map_itr_id (fs : List Nat) (n m : Nat) : (List.range n).map (fun j => itr fs j m) = List.range n ↔ ∀ i, i < n → itr fs i m = i := by
  constructor
  · intro h i hi
    have e : ((List.range n).map fun j => itr fs j m)[i]? = (List.range n)[i]? := by rw [h]
    rw [List.getElem?_map, List.getElem?_range hi] at e
    exact Option.some.inj e
  · intro h
    conv => rhs; rw [← List.map_id (List.range n)]
    exact List.map_congr_left fun i hi => h i (List.mem_range.mp hi)
/-! #### files_behind -/
def F_files_behind : DF
  | [a, b], Q, _ => ∃ (ws : List Wd) (n : Nat), a = rowD ws ∧ b = .int n ∧ 0 < n ∧ n < 1000000 ∧ ws.length ≤ 15 ∧ Q (.lst ((filesR ws n).map fun (x : Nat) => D.int x))
  | _, _, _ => False
def fileD : D → D
  | .tup [_, b] => b
  | _ => .non
@[simp] theorem fileD_1 (a b : D) : fileD (.tup [a, b]) = b := rfl
theorem files_enc (ws : List Wd) (n : Nat) : (((RG.drilled (ws ++ [.line]) n).2.2.map RG.spotD).map fileD) = (filesR ws n).map fun (x : Nat) => D.int x := by
  unfold filesR
  rw [List.map_map, List.map_map]
  rfl
/-! #### cycle_of -/
def F_cycle_of : DF
  | [a, b], Q, _ => ∃ (fs : List Nat) (n i p : Nat), a = .lst (fs.map fun (x : Nat) => D.int x) ∧ b = .int i ∧ PermN fs n ∧ n < 1000000 ∧ i < n ∧ PerR fs i p ∧ p ≤ n ∧ Q (.lst ((List.range p).map fun c => D.int (itr fs i c)))
  | _, _, _ => False
theorem atI_file {fs : List Nat} {n i : Nat} (P : PermN fs n) (hi : i < n) : atI (fs.map fun (x : Nat) => D.int x) (i : Int) = some (.int (fs.getD i 0 : Nat)) := by
  refine atI_nat ?_
  rw [List.getElem?_map, P.getD_eq hi]
  rfl
/-! #### rounds -/
def F_rounds : DF
  | [a, b], Q, _ => ∃ (ws : List Wd) (n : Nat), a = rowD ws ∧ b = .int n ∧ Row ws ∧ 0 < n ∧ n ≤ 500 ∧ ∀ R, IsR ws n R → Q (.int (R : Nat))
  | _, _, _ => False
/-- a list of marks that is closed under one step -/
structure Knw (fs : List Nat) (n t0 : Nat) (f : Nat) (K : List Bool) : Prop where
  len : K.length = n
  pos : 0 < f
  clo : ∀ i, i < n → K[i]? = some true → K[fs.getD i 0]? = some true
  dvd : ∀ m, f ∣ m ↔ t0 ∣ m ∧ ∀ i, i < n → K[i]? = some true → itr fs i m = i
  cube : f ^ 3 ≤ 64 * 3 ^ K.count true
set_option exponentiation.threshold 2000 in
theorem Knw.sm {fs : List Nat} {n t0 f : Nat} {K : List Bool} (k : Knw fs n t0 f K) (hn : n ≤ 500) : Sm (f : Int) := by
  unfold Sm
  rw [Int.natAbs_natCast]
  have h1 : K.count true ≤ 500 := Nat.le_trans List.count_le_length (by rw [k.len]; exact hn)
  have h2 : f ^ 3 ≤ 64 * 3 ^ 500 := Nat.le_trans k.cube (Nat.mul_le_mul_left _ (Nat.pow_le_pow_right (by decide) h1))
  apply Classical.byContradiction
  intro hno
  have h3 : (2 ^ 300) ^ 3 ≤ f ^ 3 := Nat.pow_le_pow_left (Nat.not_lt.mp hno) 3
  have h4 : 64 * 3 ^ 500 < (2 ^ 300) ^ 3 := by decide +kernel
  exact absurd (Nat.lt_of_lt_of_le h4 h3) (Nat.not_lt.mpr h2)
theorem Knw.start (fs : List Nat) (n : Nat) {t0 : Nat} (h : t0 = 1 ∨ t0 = 2 ∨ t0 = 4) : Knw fs n t0 t0 (List.replicate n false) := by
  have hf : ∀ i : Nat, (List.replicate n false)[i]? = some true → False := fun i h => by
    rw [List.getElem?_replicate] at h
    split at h <;> simp at h
  refine ⟨by simp, by omega, fun i _ h => (hf i h).elim, fun m => ⟨fun h => ⟨h, fun i _ hi => (hf i hi).elim⟩, fun h => h.1⟩, ?_⟩
  rw [List.count_replicate]
  rcases h with rfl | rfl | rfl <;> simp
theorem Knw.done {ws : List Wd} {n f : Nat} {K : List Bool} (k : Knw (filesR ws n) n (t0R ws) f K) (hn : n ≤ 500) (h : ∀ i, i < n → K[i]? = some true) : IsR ws n f :=
  ⟨k.pos, k.sm hn, fun m => (k.dvd m).trans ⟨fun ⟨a, b⟩ => ⟨a, fun i hi => b i hi (h i hi)⟩, fun ⟨a, b⟩ => ⟨a, fun i hi _ => b i hi⟩⟩⟩
/-- the marks behind j files of the way of x -/
structure Mrk (fs : List Nat) (n x : Nat) (K : List Bool) (j : Nat) (K' : List Bool) : Prop where
  len : K'.length = n
  on : ∀ y, y < n → (K'[y]? = some true ↔ K[y]? = some true ∨ ∃ c, c < j ∧ itr fs x c = y)
  cnt : K'.count true = K.count true + j
theorem Mrk.zero {fs : List Nat} {n x : Nat} {K : List Bool} (h : K.length = n) : Mrk fs n x K 0 K := ⟨h, fun y _ => ⟨.inl, fun h => h.elim id fun ⟨c, h, _⟩ => absurd h (by omega)⟩, rfl⟩
theorem Knw.way {fs : List Nat} {n t0 f : Nat} {K : List Bool} (k : Knw fs n t0 f K) (P : PermN fs n) {x : Nat} (hx : x < n) : ∀ c, K[x]? = some true → K[itr fs x c]? = some true
  | 0, h => h
  | c + 1, h => k.clo _ (P.itr_lt hx c) (k.way P hx c h)
theorem Mrk.succ {fs : List Nat} {n t0 f x p j : Nat} {K K' : List Bool} (k : Knw fs n t0 f K) (P : PermN fs n) (hx : x < n) (hp : PerR fs x p) (hK : ¬ K[x]? = some true) (m : Mrk fs n x K j K') (hj : j < p) :
    Mrk fs n x K (j + 1) (K'.set (itr fs x j) true) := by
  have hl := P.itr_lt hx j
  have hno : ¬ K'[itr fs x j]? = some true := fun hh => by
    rcases (m.on _ hl).mp hh with h1 | ⟨c, hc, ec⟩
    · have := k.way P hl (p - j) h1
      rw [← itr_add, show j + (p - j) = p by omega, hp.2.1] at this
      exact hK this
    · have e : itr fs x j = itr fs (itr fs x (j - c)) c := by rw [← itr_add]; congr 1; omega
      rw [e] at ec
      exact hp.2.2 (j - c) (by omega) (by omega) (P.itr_inj hx (P.itr_lt hx _) c ec).symm
  refine ⟨by rw [List.length_set]; exact m.len, fun y hy => ?_, ?_⟩
  · rw [List.getElem?_set]
    by_cases e : itr fs x j = y
    · rw [if_pos e, if_pos (by rw [m.len]; exact hl)]
      exact ⟨fun _ => .inr ⟨j, by omega, e⟩, fun _ => rfl⟩
    · rw [if_neg e]
      refine (m.on y hy).trans (or_congr_right ⟨fun ⟨c, a, b⟩ => ⟨c, by omega, b⟩, fun ⟨c, a, b⟩ => ⟨c, ?_, b⟩⟩)
      rcases Nat.lt_or_eq_of_le (Nat.le_of_lt_succ a) with h | h
      · exact h
      · subst h
        exact absurd b e
  · have hl' : itr fs x j < K'.length := by rw [m.len]; exact hl
    rw [List.count_set hl', m.cnt]
    have : K'[itr fs x j] = false := by
      rw [List.getElem?_eq_getElem hl'] at hno
      cases h : K'[itr fs x j] with
      | false => rfl
      | true => rw [h] at hno; exact absurd rfl hno
    rw [this]
    simp
    omega
theorem Mrk.last {fs : List Nat} {n t0 f x p : Nat} {K K' : List Bool} (k : Knw fs n t0 f K) (P : PermN fs n) (hx : x < n) (hp : PerR fs x p) (m : Mrk fs n x K p K') : Knw fs n t0 (Nat.lcm f p) K' := by
  refine ⟨m.len, Nat.lcm_pos k.pos hp.1, fun i hi hk => ?_, fun d => ?_, ?_⟩
  · rcases (m.on i hi).mp hk with h | ⟨c, hc, rfl⟩
    · exact (m.on _ (P.lt hi)).mpr (.inl (k.clo i hi h))
    · refine (m.on _ (P.lt hi)).mpr (.inr ?_)
      by_cases hl : c + 1 < p
      · exact ⟨c + 1, hl, rfl⟩
      · refine ⟨0, hp.1, ?_⟩
        show x = itr fs x (c + 1)
        rw [show c + 1 = p by omega, hp.2.1]
  · rw [Nat.lcm_dvd_iff, k.dvd, hp.dvd]
    constructor
    · rintro ⟨⟨h1, h2⟩, h3⟩
      refine ⟨h1, fun i hi hk => ?_⟩
      rcases (m.on i hi).mp hk with h | ⟨c, hc, rfl⟩
      · exact h2 i hi h
      · rw [← itr_add, Nat.add_comm, itr_add, h3]
    · rintro ⟨h1, h2⟩
      exact ⟨⟨h1, fun i hi hk => h2 i hi ((m.on i hi).mpr (.inl hk))⟩, h2 x hx ((m.on x hx).mpr (.inr ⟨0, hp.1, rfl⟩))⟩
  · have h1 : Nat.lcm f p ≤ f * p := Nat.le_of_dvd (Nat.mul_pos k.pos hp.1) (Nat.lcm_dvd (Nat.dvd_mul_right ..) (Nat.dvd_mul_left ..))
    have h2 := Nat.pow_le_pow_left h1 3
    rw [Nat.mul_pow] at h2
    have h3 := Nat.mul_le_mul k.cube (cube_le p hp.1)
    rw [m.cnt, Nat.pow_add, ← Nat.mul_assoc]
    exact Nat.le_trans h2 h3
/-! #### file_after -/
def F_file_after : DF
  | [a, b, c, d], Q, _ => ∃ (ws : List Wd) (n i t : Nat), a = rowD ws ∧ b = .int n ∧ c = .int i ∧ d = .int t ∧ Row ws ∧ 0 < n ∧ n ≤ 500 ∧ i < n ∧ t ≤ 10 ^ 18 ∧ Q (.int (itr (filesR ws n) i t))
  | _, _, _ => False
/-! #### _law_files -/
def F__law_files : DF
  | [a, b], Q, _ => ∃ (ws : List Wd) (n : Nat), a = rowD ws ∧ b = .int n ∧ 0 < n ∧ n < 1000000 ∧ ws.length ≤ 15 ∧ Q (.lst ((filesR ws n).map fun (x : Nat) => D.int x))
  | _, _, _ => False
/-! #### _law_corners -/
def nmD (c : Nat) : D := [D.str "front left", .str "front right", .str "rear left", .str "rear right"].getD c .non
def cspot (d w : Nat) (c : Nat) : Int × Int := [((0 : Int), (w : Int) - 1), (0, 0), ((d : Int) - 1, (w : Int) - 1), ((d : Int) - 1, 0)].getD c (0, 0)
def cornersD (d w : Nat) : D := .lst ((List.range 4).map fun c => D.tup [nmD c, spI (cspot d w c)])
def F__law_corners : DF
  | [a, b], Q, _ => ∃ d w : Nat, a = .int d ∧ b = .int w ∧ Q (cornersD d w)
  | _, _, _ => False
/-! #### corner_places -/
def F_corner_places : DF
  | [a, b], Q, _ => ∃ d w : Nat, a = .int d ∧ b = .int w ∧ Q (.lst ((List.range 4).map fun c => spI (cspot d w c)))
  | _, _, _ => False
/-! #### corners_in -/
def whoD (b : Bool) : D := if b then .str "last" else .str "first"
def cwD (x : Nat × Bool) : D := .tup [nmD x.1, whoD x.2]
def all8 : List (Nat × Bool) := [(0, false), (0, true), (1, false), (1, true), (2, false), (2, true), (3, false), (3, true)]
def holdC (ws : List Wd) (n : Nat) (x : Nat × Bool) : Bool := decide (RG.plc (RG.drilled ws n) (if x.2 then n - 1 else 0) = cspot (RG.drilled ws n).1 (RG.drilled ws n).2.1 x.1)
def inC (ws : List Wd) (n : Nat) : List (Nat × Bool) := all8.filter (holdC ws n)
def F_corners_in : DF
  | [a, b], Q, _ => ∃ (ws : List Wd) (n : Nat), a = rowD ws ∧ b = .int n ∧ 0 < n ∧ n < 1000000 ∧ ws.length ≤ 16 ∧ Q (.lst ((inC ws n).map cwD))
  | _, _, _ => False
theorem atI_first {st : RG.Sq} (h : 0 < st.2.2.length) : atI (st.2.2.map RG.spotD) 0 = some (spI (RG.plc st 0)) := atI_spots rfl h
theorem atI_last {st : RG.Sq} (h : 0 < st.2.2.length) : atI (st.2.2.map RG.spotD) (-1) = some (spI (RG.plc st (st.2.2.length - 1))) := by
  have h1 : st.2.2.length - 1 < st.2.2.length := by omega
  have e := atI_spots (st := st) rfl h1
  unfold atI at e ⊢
  rw [List.length_map] at e ⊢
  have e1 : ixN st.2.2.length (-1) = some (st.2.2.length - 1) := by
    unfold ixN
    rw [if_neg (by decide), if_pos (by omega)]
    congr 1
    omega
  have e2 : ixN st.2.2.length ((st.2.2.length - 1 : Nat) : Int) = some (st.2.2.length - 1) := by
    unfold ixN
    rw [if_pos (by omega), if_pos (by omega)]
    simp
  rw [e1]
  rw [e2] at e
  exact e
theorem take8 {i : Nat} (h : i < 4) : all8.take (2 * (i + 1)) = all8.take (2 * i) ++ [(i, false), (i, true)] := by
  match i, h with
  | 0, _ => rfl
  | 1, _ => rfl
  | 2, _ => rfl
  | 3, _ => rfl
  | i + 4, h => omega
def whpD (b : Bool) : D := .tup [whoD b, .int (if b then -1 else 0)]
theorem whpD_inj (a b : Bool) (h : whpD a = whpD b) : a = b := by
  cases a <;> cases b <;> first | rfl | (exact absurd h (by simp [whpD]))
/-! #### _law_in -/
def F__law_in : DF
  | [a, b], Q, _ => ∃ (ws : List Wd) (n : Nat), a = rowD ws ∧ b = .int n ∧ 0 < n ∧ n < 1000000 ∧ ws.length ≤ 16 ∧ Q (.lst ((inC ws n).map cwD))
  | _, _, _ => False
/-! #### corners_always -/
theorem cw_eq : ∀ x ∈ all8, ∀ y ∈ all8, D.eq (cwD x) (cwD y) = decide (x = y) := by decide +kernel
theorem cw_fl : ∀ x ∈ all8, (cwD x).fl 10 = true := by decide +kernel
theorem cw_fl12 : ∀ x ∈ all8, (cwD x).fl 11 = true := by decide +kernel
theorem cw_inj (x y : {x // x ∈ all8}) (h : cwD x.1 = cwD y.1) : x = y := by
  have e := cw_eq x.1 x.2 y.1 y.2
  rw [h, cw_eq y.1 y.2 y.1 y.2] at e
  simp at e
  exact Subtype.ext e
theorem inl_cw {x : Nat × Bool} (hx : x ∈ all8) {l : List (Nat × Bool)} (hl : ∀ y ∈ l, y ∈ all8) : (cwD x).inl (l.map cwD) = decide (x ∈ l) := by
  unfold D.inl
  rw [List.any_map, Bool.eq_iff_iff, List.any_eq_true, decide_eq_true_eq]
  constructor
  · rintro ⟨y, hy, e⟩
    have e2 : D.eq (cwD y) (cwD x) = true := e
    rw [cw_eq y (hl y hy) x hx] at e2
    rw [← of_decide_eq_true e2]
    exact hy
  · intro h
    refine ⟨x, h, ?_⟩
    show D.eq (cwD x) (cwD x) = true
    rw [cw_eq x hx x hx]
    simp
def alwT (ws : List Wd) (k : Nat) : List (Nat × Bool) := all8.filter fun x => (List.range' 1 k).all fun n => holdC ws n x
def alwC (ws : List Wd) : List (Nat × Bool) := alwT ws (10 * pOf ws - 1)
theorem alwT_one (ws : List Wd) : alwT ws 1 = inC ws 1 := by
  unfold alwT inC
  exact List.filter_congr fun x _ => by simp [List.range']
theorem alwT_sub (ws : List Wd) (k : Nat) : ∀ y ∈ alwT ws k, y ∈ all8 := fun y hy => (List.mem_filter.mp hy).1
theorem inC_sub (ws : List Wd) (k : Nat) : ∀ y ∈ inC ws k, y ∈ all8 := fun y hy => (List.mem_filter.mp hy).1
theorem alwT_succ (ws : List Wd) (k : Nat) : alwT ws (k + 1) = (alwT ws k).filter fun x => decide (x ∈ inC ws (k + 1)) := by
  unfold alwT
  rw [List.filter_filter]
  refine List.filter_congr fun x hx => ?_
  rw [List.range'_concat, List.all_append, Bool.and_comm]
  congr 1
  simp [inC, hx, Nat.add_comm]
theorem lin89 {a b a' b' m : Int} (h8 : a * 8 + b = a' * 8 + b') (h9 : a * 9 + b = a' * 9 + b') : a * m + b = a' * m + b' := by
  have e1 : a = a' := by omega
  have e2 : b = b' := by omega
  rw [e1, e2]
/-- what holds up to ten periods holds for good -/
theorem alw_far {ws : List Wd} (hR : Row ws) {x : Nat × Bool} (hx : x ∈ alwC ws) {n : Nat} (h0 : 0 < n) : holdC ws n x = true := by
  have hp := pOf_8 hR.1
  have hall := List.all_eq_true.mp (List.mem_filter.mp hx).2
  have small : ∀ k, 0 < k → k < 10 * pOf ws → holdC ws k x = true := fun k h1 h2 => hall k (by rw [List.mem_range'_1]; omega)
  by_cases hn : n < 10 * pOf ws
  · exact small n h0 hn
  · have hP : 0 < pOf ws := by omega
    have hr := Nat.mod_lt n hP
    have e := Nat.div_add_mod n (pOf ws)
    have R := RG.row_rgl hr (row_shapes hR) (Nat.dvd_refl (pOf ws))
    generalize hm : n / pOf ws = m at e
    generalize n % pOf ws = r at *
    have hm9 : 9 ≤ m := by
      rw [← hm]
      exact (Nat.le_div_iff_mul_le hP).mpr (by omega)
    have s8 := small (pOf ws * 8 + r) (by omega) (by omega)
    have s9 := small (pOf ws * 9 + r) (by omega) (by omega)
    unfold holdC at s8 s9 ⊢
    rw [decide_eq_true_eq] at s8 s9 ⊢
    obtain ⟨a, b, c, d, q⟩ := R.size
    have q8 := q 8 (by omega)
    have q9 := q 9 (by omega)
    have qm := q m (by omega)
    obtain ⟨a2, b2, c2, d2, p8, p9, pm⟩ : ∃ a2 b2 c2 d2 : Int, RG.plc (RG.drilled ws (pOf ws * 8 + r)) (if x.2 = true then pOf ws * 8 + r - 1 else 0) = (a2 * 8 + b2, c2 * 8 + d2) ∧ RG.plc (RG.drilled ws (pOf ws * 9 + r)) (if x.2 = true then pOf ws * 9 + r - 1 else 0) = (a2 * 9 + b2, c2 * 9 + d2) ∧ RG.plc (RG.drilled ws (pOf ws * m + r)) (if x.2 = true then pOf ws * m + r - 1 else 0) = (a2 * m + b2, c2 * m + d2) := by
      cases hx2 : x.2
      · obtain ⟨a2, b2, c2, d2, p⟩ := R.low 0 (by omega)
        exact ⟨a2, b2, c2, d2, p 8 (by omega), p 9 (by omega), p m (by omega)⟩
      · obtain ⟨a2, b2, c2, d2, p⟩ := R.high 0 (by omega)
        exact ⟨a2, b2, c2, d2, p 8 (by omega), p 9 (by omega), p m (by omega)⟩
    rw [p8] at s8
    rw [p9] at s9
    rw [← e, pm]
    have hc : x.1 < 4 := by
      have h8 := alwT_sub ws _ x hx
      simp only [all8, List.mem_cons, List.mem_nil_iff, or_false] at h8
      rcases h8 with rfl | rfl | rfl | rfl | rfl | rfl | rfl | rfl <;> decide
    obtain ⟨q81, q82⟩ := q8
    obtain ⟨q91, q92⟩ := q9
    obtain ⟨qm1, qm2⟩ := qm
    generalize x.1 = k at *
    have key : ∀ k, k < 4 → ∃ u v u' v' : Int, cspot (RG.drilled ws (pOf ws * 8 + r)).1 (RG.drilled ws (pOf ws * 8 + r)).2.1 k = (u * 8 + v, u' * 8 + v') ∧ cspot (RG.drilled ws (pOf ws * 9 + r)).1 (RG.drilled ws (pOf ws * 9 + r)).2.1 k = (u * 9 + v, u' * 9 + v') ∧ cspot (RG.drilled ws (pOf ws * m + r)).1 (RG.drilled ws (pOf ws * m + r)).2.1 k = (u * m + v, u' * m + v') := fun k hk => by
      match k, hk with
      | 0, _ => exact ⟨0, 0, c, d - 1, Prod.ext (by show (0 : Int) = _; omega) (by show _ - (1 : Int) = _; omega), Prod.ext (by show (0 : Int) = _; omega) (by show _ - (1 : Int) = _; omega), Prod.ext (by show (0 : Int) = _; omega) (by show _ - (1 : Int) = _; omega)⟩
      | 1, _ => exact ⟨0, 0, 0, 0, Prod.ext (by show (0 : Int) = _; omega) (by show (0 : Int) = _; omega), Prod.ext (by show (0 : Int) = _; omega) (by show (0 : Int) = _; omega), Prod.ext (by show (0 : Int) = _; omega) (by show (0 : Int) = _; omega)⟩
      | 2, _ => exact ⟨a, b - 1, c, d - 1, Prod.ext (by show _ - (1 : Int) = _; omega) (by show _ - (1 : Int) = _; omega), Prod.ext (by show _ - (1 : Int) = _; omega) (by show _ - (1 : Int) = _; omega), Prod.ext (by show _ - (1 : Int) = _; omega) (by show _ - (1 : Int) = _; omega)⟩
      | 3, _ => exact ⟨a, b - 1, 0, 0, Prod.ext (by show _ - (1 : Int) = _; omega) (by show (0 : Int) = _; omega), Prod.ext (by show _ - (1 : Int) = _; omega) (by show (0 : Int) = _; omega), Prod.ext (by show _ - (1 : Int) = _; omega) (by show (0 : Int) = _; omega)⟩
      | k + 4, h => omega
    obtain ⟨u, v, u', v', k8, k9, km⟩ := key k hc
    rw [k8] at s8
    rw [k9] at s9
    rw [km]
    simp only [Prod.mk.injEq] at s8 s9 ⊢
    exact ⟨lin89 s8.1 s9.1, lin89 s8.2 s9.2⟩
def F_corners_always : DF
  | [a], Q, _ => ∃ (ws : List Wd), a = rowD ws ∧ Row ws ∧ Q (.lst ((alwC ws).map cwD))
  | _, _, _ => False
/-! #### classes -/
def alR (a b : List Wd) : Bool := decide (parting a b = none)
def hitC (rs : List (List Wd)) (cs : List (List Nat)) (i : Nat) : List Nat := (List.range cs.length).filter fun k => alR (rs.getD ((cs.getD k []).headD 0) []) (rs.getD i [])
def stepC (rs : List (List Wd)) (cs : List (List Nat)) (i : Nat) : List (List Nat) := match hitC rs cs i with
  | [] => cs ++ [[i]]
  | k :: _ => cs.set k (cs.getD k [] ++ [i])
def classTo (rs : List (List Wd)) (n : Nat) : List (List Nat) := (List.range n).foldl (stepC rs) []
def classR (rs : List (List Wd)) : List (List Nat) := classTo rs rs.length
def clD (c : List Nat) : D := .tup (c.map fun (x : Nat) => D.int x)
def F_classes : DFL
  | [d], Q, _ => ∃ rs, d = rowsD rs ∧ Rows rs ∧ Q ((classR rs).map clD)
  | _, _, _ => False
theorem classTo_succ (rs : List (List Wd)) (n : Nat) : classTo rs (n + 1) = stepC rs (classTo rs n) n := by
  unfold classTo
  rw [List.range_succ, List.foldl_append]
  rfl
/-- every class has its rows below n; there are at most n of them -/
theorem classTo_ok (rs : List (List Wd)) : ∀ n, (classTo rs n).length ≤ n ∧ ∀ c ∈ classTo rs n, c ≠ [] ∧ c.length ≤ n ∧ ∀ x ∈ c, x < n
  | 0 => ⟨Nat.le_refl _, fun c h => nomatch h⟩
  | n + 1 => by
    obtain ⟨h1, h2⟩ := classTo_ok rs n
    rw [classTo_succ]
    unfold stepC
    split
    · refine ⟨by simp; omega, fun c hc => ?_⟩
      rw [List.mem_append] at hc
      rcases hc with hc | hc
      · obtain ⟨a, b, d⟩ := h2 c hc
        exact ⟨a, by omega, fun x hx => Nat.lt_succ_of_lt (d x hx)⟩
      · rw [List.mem_singleton] at hc
        subst hc
        exact ⟨by simp, by simp, fun x hx => by rw [List.mem_singleton] at hx; omega⟩
    · rename_i k _ hk
      have hm : k ∈ hitC rs (classTo rs n) n := by rw [hk]; exact List.mem_cons_self ..
      have hkl : k < (classTo rs n).length := List.mem_range.mp (List.mem_filter.mp hm).1
      refine ⟨by rw [List.length_set]; omega, fun c hc => ?_⟩
      rcases List.mem_or_eq_of_mem_set hc with hc | rfl
      · obtain ⟨a, b, d⟩ := h2 c hc
        exact ⟨a, by omega, fun x hx => Nat.lt_succ_of_lt (d x hx)⟩
      · have hg : (classTo rs n).getD k [] ∈ classTo rs n := by
          rw [List.getD_eq_getElem?_getD, List.getElem?_eq_getElem hkl]
          exact List.getElem_mem hkl
        obtain ⟨a, b, d⟩ := h2 _ hg
        refine ⟨by simp, by rw [List.length_append, List.length_singleton]; omega, fun x hx => ?_⟩
        rw [List.mem_append] at hx
        rcases hx with hx | hx
        · exact Nat.lt_succ_of_lt (d x hx)
        · rw [List.mem_singleton] at hx; omega
def iclD (cs : List (List Nat)) (k : Nat) : D := .tup [.int k, clD (cs.getD k [])]
theorem iclD_inj (cs : List (List Nat)) (a b : Nat) (h : iclD cs a = iclD cs b) : a = b := by
  unfold iclD at h
  simp only [D.tup.injEq, List.cons.injEq, D.int.injEq] at h
  omega
theorem enum_cl (cs : List (List Nat)) : enumD 0 (cs.map clD) = (List.range cs.length).map (iclD cs) := by
  apply List.ext_getElem?
  intro k
  rw [enumD_get, List.getElem?_map, List.getElem?_map]
  by_cases hk : k < cs.length
  · rw [List.getElem?_range hk, List.getElem?_eq_getElem hk]
    simp [iclD, hk]
  · rw [List.getElem?_eq_none (by omega), List.getElem?_eq_none (by simp; omega)]
    rfl
theorem noLs_nats : ∀ l : List Nat, D.noLs (l.map fun (x : Nat) => D.int x) = true
  | [] => rfl
  | _ :: l => noLs_nats l
/-! #### _kx -/
/-- the classes of errors, as values -/
structure Kx where
  InvalidWord : Value
  InvalidRow : Value
  InvalidNumber : Value
  InvalidPerson : Value
  InvalidPlace : Value
  InvalidIndex : Value
  InvalidGoal : Value
  InvalidSeen : Value
  InvalidText : Value
  TooMany : Value
  NothingToUndo : Value
  DrillError : Value
  ValueError : Value
  sub : Value → Value → Option Bool
structure KxOk_TooMany (kx : Kx) : Prop where
  e1 : kx.sub kx.TooMany kx.InvalidWord = some false
  e2 : kx.sub kx.TooMany kx.InvalidRow = some false
  e3 : kx.sub kx.TooMany kx.InvalidNumber = some false
  e4 : kx.sub kx.TooMany kx.InvalidPerson = some false
  e5 : kx.sub kx.TooMany kx.InvalidPlace = some false
  e6 : kx.sub kx.TooMany kx.InvalidIndex = some false
  e7 : kx.sub kx.TooMany kx.InvalidGoal = some false
  e8 : kx.sub kx.TooMany kx.InvalidSeen = some false
  e9 : kx.sub kx.TooMany kx.InvalidText = some false
  e10 : kx.sub kx.TooMany kx.TooMany = some true
  e11 : kx.sub kx.TooMany kx.NothingToUndo = some false
  e12 : kx.sub kx.TooMany kx.DrillError = some true
  e13 : kx.sub kx.TooMany kx.ValueError = some true
structure KxOk_InvalidText (kx : Kx) : Prop where
  e1 : kx.sub kx.InvalidText kx.InvalidWord = some false
  e2 : kx.sub kx.InvalidText kx.InvalidRow = some false
  e3 : kx.sub kx.InvalidText kx.InvalidNumber = some false
  e4 : kx.sub kx.InvalidText kx.InvalidPerson = some false
  e5 : kx.sub kx.InvalidText kx.InvalidPlace = some false
  e6 : kx.sub kx.InvalidText kx.InvalidIndex = some false
  e7 : kx.sub kx.InvalidText kx.InvalidGoal = some false
  e8 : kx.sub kx.InvalidText kx.InvalidSeen = some false
  e9 : kx.sub kx.InvalidText kx.InvalidText = some true
  e10 : kx.sub kx.InvalidText kx.TooMany = some false
  e11 : kx.sub kx.InvalidText kx.NothingToUndo = some false
  e12 : kx.sub kx.InvalidText kx.DrillError = some true
  e13 : kx.sub kx.InvalidText kx.ValueError = some true
def nbD (x : Str × Bool) : D := .tup [.str x.1, .bl x.2]
theorem nbD_inj (a b : Str × Bool) (h : nbD a = nbD b) : a = b := by
  simp only [nbD, D.tup.injEq, List.cons.injEq, D.str.injEq, D.bl.injEq] at h
  exact Prod.ext h.1 h.2.1
def errNames : List Str := ["word", "row", "number", "person", "place", "index", "goal", "seen", "text", "many", "undo", "base", "value"]
theorem err_split : Txt.split "word row number person place index goal seen text many undo base value" " " = errNames := by decide +kernel
/-! #### _law_rows_with -/
def F__law_rows_with : DF
  | [a], Q, _ => ∃ m : Nat, a = .int m ∧ m ≤ 3 ∧ Q (.lst ((rowsW m).map rowD))
  | _, _, _ => False
/-! #### _law_padded -/
def F__law_padded : DF
  | [a, b], Q, _ => ∃ ws : List Wd, a = .src ∧ b = rowD ws ∧ Row ws ∧ ws.length ≤ 6 ∧ ∀ us, Row us → us.length ≤ ws.length + 2 → Q (rowD us)
  | _, _, _ => False
/-! #### _law_shortest -/
def shortT (ws : List Wd) : Option (List Wd) := (catR 3).find? fun r => decide (parting ws r = none)
def F__law_shortest : DF
  | [a], Q, _ => ∃ ws : List Wd, a = rowD ws ∧ Row ws ∧ Q (optR (shortT ws))
  | _, _, _ => False
/-! #### _more4 -/
-- texts: what stands in the parts of a text
def okS (x : Str) : Bool := PyData.strOk x
theorem okS_iff (x : Str) : okS x = true ↔ ∀ c ∈ TL.tl x, c < 0x110000 := by
  unfold okS PyData.strOk TL.tl
  rw [Array.all_eq_true_iff_forall_mem]
  simp
theorem spl_mem (S : List Nat) : ∀ (l : List Nat) (k : Nat) (acc : List Nat), ∀ p ∈ TL.spl S k acc l, ∀ c ∈ p, c ∈ acc ∨ c ∈ l
  | [], k, acc, p, hp, c, hc => by
    rw [TL.spl_nil] at hp
    rw [List.mem_singleton.mp hp] at hc
    exact .inl hc
  | d :: r, 0, acc, p, hp, c, hc => by
    unfold TL.spl at hp
    split at hp
    · rcases List.mem_cons.mp hp with rfl | hp
      · exact .inl hc
      · rcases spl_mem S r _ [] p hp c hc with h | h
        · cases h
        · exact .inr (List.mem_cons_of_mem _ h)
    · rcases spl_mem S r 0 (acc ++ [d]) p hp c hc with h | h
      · rcases List.mem_append.mp h with h | h
        · exact .inl h
        · exact .inr (by rw [List.mem_singleton.mp h]; exact List.mem_cons_self ..)
      · exact .inr (List.mem_cons_of_mem _ h)
  | d :: r, k + 1, acc, p, hp, c, hc => by
    have hp : p ∈ TL.spl S k acc r := hp
    rcases spl_mem S r k acc p hp c hc with h | h
    · exact .inl h
    · exact .inr (List.mem_cons_of_mem _ h)
def cm : Str := ", "
theorem split_ok {s : Str} (h : okS s = true) : ∀ x ∈ Txt.split s cm, okS x = true := fun x hx => by
  rw [okS_iff] at h ⊢
  intro c hc
  have e := TL.split_spl s cm (by decide +kernel) (TL.kind_ok (by decide +kernel))
  have hm : TL.tl x ∈ TL.spl (TL.tl cm) 0 [] (TL.tl s) := by rw [← e]; exact List.mem_map_of_mem hx
  rcases spl_mem _ _ _ _ _ hm c hc with z | z
  · cases z
  · exact h c z
theorem okS_append {a b : Str} (ha : okS a = true) (hb : okS b = true) : okS (a ++ b) = true := by
  rw [okS_iff] at ha hb ⊢
  intro c hc
  rw [TL.tl_append] at hc
  rcases List.mem_append.mp hc with h | h
  · exact ha c h
  · exact hb c h
theorem okS_cut {a : Str} (ha : okS a = true) (lo hi : Option Int) : okS (cutS a lo hi) = true := by
  rw [okS_iff] at ha ⊢
  intro c hc
  have : c ∈ ((a.cps.toList.drop (HT.sIx a.length 0 lo)).take (HT.sIx a.length a.length hi - HT.sIx a.length 0 lo)) := by
    have h : TL.tl (cutS a lo hi) = ((a.cps.toList.drop (HT.sIx a.length 0 lo)).take (HT.sIx a.length a.length hi - HT.sIx a.length 0 lo)) := rfl
    rw [← h]
    exact hc
  exact ha c (List.mem_of_mem_drop (List.mem_of_mem_take this))
def rowS (ws : List Wd) : Str := Txt.join cm (ws.map Wd.nm)
theorem nm_len (w : Wd) : w.nm.length ≤ 11 := by cases w <;> decide +kernel
theorem nm_comma (w : Wd) : 44 ∉ TL.tl w.nm := by cases w <;> decide +kernel
theorem nm_ok (w : Wd) : ∀ c ∈ TL.tl w.nm, c < 1114112 := by cases w <;> decide +kernel
theorem nm_sum : ∀ ws : List Wd, ((ws.map Wd.nm).map (·.length)).sum ≤ 11 * ws.length
  | [] => by simp
  | w :: ws => by
    have := nm_len w
    have := nm_sum ws
    simp only [List.map_cons, List.sum_cons, List.length_cons] at this ⊢
    omega
theorem rowS_split {ws : List Wd} (h : ws ≠ []) : Txt.split (rowS ws) cm = ws.map Wd.nm :=
  TL.split_join (y := cm) (s := 44) (S := [32]) (by decide +kernel) (by decide +kernel) (by simpa using h) fun p hp => by
    obtain ⟨w, _, rfl⟩ := List.mem_map.mp hp
    exact nm_comma w
theorem joinL_mem (S : List Nat) : ∀ ps : List (List Nat), ∀ c ∈ TL.joinL S ps, c ∈ S ∨ ∃ p ∈ ps, c ∈ p
  | [], c, h => by cases h
  | [p], c, h => .inr ⟨p, List.mem_singleton.mpr rfl, h⟩
  | p :: q :: r, c, h => by
    have h : c ∈ p ++ (S ++ TL.joinL S (q :: r)) := h
    rcases List.mem_append.mp h with h | h
    · exact .inr ⟨p, List.mem_cons_self .., h⟩
    · rcases List.mem_append.mp h with h | h
      · exact .inl h
      · rcases joinL_mem S (q :: r) c h with h | ⟨x, hx, h⟩
        · exact .inl h
        · exact .inr ⟨x, List.mem_cons_of_mem _ hx, h⟩
theorem joinL_len (S : List Nat) : ∀ ps : List (List Nat), (TL.joinL S ps).length ≤ (ps.map (·.length)).sum + ps.length * S.length
  | [] => by simp [TL.joinL]
  | [p] => by simp [TL.joinL]
  | p :: q :: r => by
    have := joinL_len S (q :: r)
    show (p ++ (S ++ TL.joinL S (q :: r))).length ≤ _
    rw [List.length_append, List.length_append, List.map_cons, List.sum_cons, List.length_cons, Nat.succ_mul]
    omega
theorem rowS_ok (ws : List Wd) : okS (rowS ws) = true := by
  rw [okS_iff]
  unfold rowS
  rw [TL.join_eq, TL.tl_join]
  intro c hc
  rcases joinL_mem _ _ c hc with h | ⟨p, hp, h⟩
  · have : ∀ c ∈ TL.tl cm, c < 1114112 := by decide +kernel
    exact this c h
  · obtain ⟨x, hx, rfl⟩ := List.mem_map.mp hp
    obtain ⟨w, _, rfl⟩ := List.mem_map.mp hx
    exact nm_ok w c h
theorem rowS_len (ws : List Wd) : (rowS ws).length ≤ 13 * ws.length := by
  rw [TL.len_tl]
  unfold rowS
  rw [TL.join_eq, TL.tl_join]
  have h1 := joinL_len (TL.tl cm) ((ws.map Wd.nm).map TL.tl)
  have h2 := nm_sum ws
  have h3 : (((ws.map Wd.nm).map TL.tl).map (·.length)) = (ws.map Wd.nm).map (·.length) := by
    rw [List.map_map]
    exact List.map_congr_left fun x _ => (TL.len_tl x).symm
  have h4 : (TL.tl cm).length = 2 := by decide +kernel
  rw [h3, h4, List.length_map, List.length_map] at h1
  omega
theorem rowS_nil_iff {ws : List Wd} : rowS ws = "" ↔ ws = [] := by
  constructor
  · intro h
    cases ws with
    | nil => rfl
    | cons w ws =>
      exfalso
      have e := rowS_split (ws := w :: ws) (by simp)
      rw [h] at e
      have e2 : Txt.split "" cm = [("" : Str)] := by decide +kernel
      rw [e2] at e
      cases ws with
      | nil =>
        have : w.nm = "" := by simpa using e.symm
        revert this
        cases w <;> decide +kernel
      | cons v ws => simp at e
  · rintro rfl
    decide +kernel
def readD (s : Str) : D := .tup (if s = "" then [] else (Txt.split s cm).map D.str)
theorem readD_ok {s : Str} (h : okS s = true) : okV (readD s) = true := fl_tup' fun x hx => by
  split at hx
  · cases hx
  · obtain ⟨y, hy, rfl⟩ := List.mem_map.mp hx
    exact split_ok h y hy
theorem readD_row (ws : List Wd) : readD (rowS ws) = rowD ws := by
  unfold readD
  by_cases h : ws = []
  · rw [if_pos (rowS_nil_iff.mpr h), h]
    rfl
  · rw [if_neg fun z => h (rowS_nil_iff.mp z), rowS_split h]
    show D.tup _ = D.tup _
    rw [List.map_map]
    rfl
/-! #### row_text -/
def F_row_text : DF
  | [a], Q, _ => ∃ ws : List Wd, a = rowD ws ∧ Row ws ∧ Q (.str (rowS ws))
  | _, _, _ => False
/-! #### beside_in -/
def cntB (ps : List (Nat × Nat)) : Nat := ((ps.zip ps.tail).filter fun p => RG.bsd p.1 p.2).length
theorem besideN_cnt (st : RG.Sq) : RG.besideN st = cntB st.2.2 := by
  unfold RG.besideN cntB
  generalize st.2.2 = ps
  have e : ps.zip ps.tail = (List.range (ps.length - 1)).map fun i => (ps[i]?.getD (0, 0), ps[i + 1]?.getD (0, 0)) := by
    apply List.ext_getElem
    · simp
    · intro i h1 h2
      simp at h1 h2
      simp
      rw [List.getElem?_eq_getElem (by omega), List.getElem?_eq_getElem (by omega)]
      simp
  rw [e, List.filter_map, List.length_map]
  congr 1
  refine List.filter_congr fun i hi => ?_
  have hi := List.mem_range.mp hi
  show _ = RG.bsd (ps[i]?.getD (0, 0)) (ps[i + 1]?.getD (0, 0))
  rw [List.getElem?_eq_getElem (show i < ps.length by omega), List.getElem?_eq_getElem (show i + 1 < ps.length by omega)]
  rfl
def F_beside_in : DF
  | [a, b], Q, _ => ∃ (ws : List Wd) (n : Nat), a = rowD ws ∧ b = .int n ∧ 0 < n ∧ n < 1000000 ∧ ws.length ≤ 16 ∧ Q (.int (RG.besideN (RG.drilled ws n)))
  | _, _, _ => False
def prD (p : (Nat × Nat) × (Nat × Nat)) : D := .tup [RG.spotD p.1, RG.spotD p.2]
theorem spotD_inj {s t : Nat × Nat} (h : RG.spotD s = RG.spotD t) : s = t := by
  have := RG.eq_spot s t
  rw [h, RG.eq_spot] at this
  simpa using this.symm
theorem prD_inj (p q : (Nat × Nat) × (Nat × Nat)) (h : prD p = prD q) : p = q := by
  unfold prD at h
  injection h with h
  injection h with h1 h
  injection h with h2 h
  exact Prod.ext (spotD_inj h1) (spotD_inj h2)
theorem zip_prD (ps qs : List (Nat × Nat)) : zipD (ps.map RG.spotD) (qs.map RG.spotD) = (ps.zip qs).map prD := by
  unfold zipD
  rw [List.zipWith_map, List.zip, List.map_zipWith]
  rfl
theorem cut1 {α : Type} (xs : List α) : PD.cutD xs (some 1) none = xs.tail := by
  unfold PD.cutD
  rw [show ((1 : Int)) = ((1 : Nat) : Int) from rfl, HT.sIx_none, HT.sIx_nat]
  cases xs with
  | nil => rfl
  | cons x xs => simp
theorem bsd_int (s t : Nat × Nat) : RG.bsd s t = (decide ((s.1 : Int) = t.1) && decide ((if (s.2 : Int) - t.2 < 0 then -((s.2 : Int) - t.2) else (s.2 : Int) - t.2) = 1)) := by
  unfold RG.bsd
  congr 1
  · exact decide_eq_decide.mpr (by omega)
  · apply decide_eq_decide.mpr
    split <;> omega
/-! #### count_beside -/
def F_count_beside : DF
  | [a, b], Q, _ => ∃ (ws : List Wd) (n : Nat), a = rowD ws ∧ b = .int n ∧ Row ws ∧ 0 < n ∧ n ≤ 1000000000000 ∧ Q (.int (RG.besideN (RG.drilled ws n)))
  | _, _, _ => False
theorem beside_far {ws : List Wd} (h1 : RG.shapes ws ≤ 2) {n : Nat} (hn : 9 * pOf ws ≤ n) :
    (RG.besideN (RG.drilled ws n) : Int) = RG.besideN (RG.drilled ws (8 * pOf ws + n % pOf ws)) + ((RG.besideN (RG.drilled ws (8 * pOf ws + n % pOf ws + pOf ws)) : Int) - RG.besideN (RG.drilled ws (8 * pOf ws + n % pOf ws))) * (((n - (8 * pOf ws + n % pOf ws)) / pOf ws : Nat) : Int) := by
  have hP : 0 < pOf ws := pOf_pos ws
  have hr := Nat.mod_lt n hP
  have e := Nat.div_add_mod n (pOf ws)
  obtain ⟨a, b, q⟩ := RG.row_beside hr h1 (Nat.dvd_refl (pOf ws))
  generalize hm : n / pOf ws = m at e
  have hm9 : 9 ≤ m := by
    rw [← hm]
    exact (Nat.le_div_iff_mul_le hP).mpr hn
  have ht : (((n - (8 * pOf ws + n % pOf ws)) / pOf ws : Nat) : Int) = (m : Int) - 8 := by
    have : n - (8 * pOf ws + n % pOf ws) = pOf ws * (m - 8) := by rw [Nat.mul_sub, Nat.mul_comm 8 (pOf ws)]; omega
    rw [this, Nat.mul_div_cancel_left _ hP, Int.ofNat_sub (by omega)]
    rfl
  rw [ht]
  have qm := q m (by omega)
  have q8 := q 8 (by omega)
  have q9 := q 9 (by omega)
  rw [show pOf ws * 8 + n % pOf ws = 8 * pOf ws + n % pOf ws by omega] at q8
  rw [show pOf ws * 9 + n % pOf ws = 8 * pOf ws + n % pOf ws + pOf ws by omega] at q9
  rw [e] at qm
  rw [qm, q8, q9, show (a * ((9 : Nat) : Int) + b - (a * ((8 : Nat) : Int) + b)) = a by omega, Int.mul_sub]
  omega
theorem besideN_lt (ws : List Wd) (n : Nat) : RG.besideN (RG.drilled ws n) ≤ n := by
  have := RG.besideN_le (RG.drilled ws n)
  rw [RG.drilled_len] at this
  exact this
/-! #### empty_places -/
def F_empty_places : DF
  | [a, b], Q, _ => ∃ (ws : List Wd) (n : Nat), a = rowD ws ∧ b = .int n ∧ Row ws ∧ 0 < n ∧ n ≤ 1000000000000 ∧ Q (.int (((RG.drilled ws n).1 : Int) * ((RG.drilled ws n).2.1 : Int) - n))
  | _, _, _ => False
theorem drilled_Sm {ws : List Wd} (hR : Row ws) {n : Nat} (h0 : 0 < n) (hn : n ≤ 1000000000000) : Sm ((RG.drilled ws n).1 : Int) ∧ Sm ((RG.drilled ws n).2.1 : Int) := by
  have hb := drilled_bound ws h0
  have hp : 2 ^ ws.length ≤ 2 ^ 8 := Nat.pow_le_pow_right (by decide) hR.1
  have hm : 2 ^ ws.length * (2 * n) ≤ 2 ^ 8 * (2 * 1000000000000) := Nat.mul_le_mul hp (by omega)
  exact ⟨.of (by omega) (by omega), .of (by omega) (by omega)⟩
/-! #### _law_beside -/
def F__law_beside : DF
  | [a], Q, _ => ∃ st : RG.Sq, a = RG.sqD st ∧ st.2.2.length < 1000000 ∧ Q (.int (RG.besideN st))
  | _, _, _ => False
theorem zip_tail_take {α : Type} (ps : List α) {i : Nat} {s t : α} (h1 : ps[i]? = some s) (h2 : ps[i + 1]? = some t) : (ps.take (i + 2)).zip (ps.take (i + 2)).tail = (ps.take (i + 1)).zip (ps.take (i + 1)).tail ++ [(s, t)] := by
  apply List.ext_getElem
  · have := (List.getElem?_eq_some_iff.mp h2).1
    simp
    omega
  · intro j a b
    have l2 := (List.getElem?_eq_some_iff.mp h2).1
    simp at a b
    rw [List.getElem_zip, List.getElem_append]
    split
    · simp
    · rename_i hj
      simp at hj
      have : j = i := by omega
      subst this
      obtain ⟨z1, e1⟩ := List.getElem?_eq_some_iff.mp h1
      obtain ⟨z2, e2⟩ := List.getElem?_eq_some_iff.mp h2
      simp [e1, e2]
theorem cntB_one (s : Nat × Nat) : cntB [s] = 0 := rfl
theorem cntB_succ {ps : List (Nat × Nat)} {i : Nat} {s t : Nat × Nat} (h1 : ps[i]? = some s) (h2 : ps[i + 1]? = some t) : cntB (ps.take (i + 2)) = cntB (ps.take (i + 1)) + if RG.bsd s t = true then 1 else 0 := by
  unfold cntB
  rw [zip_tail_take ps h1 h2, List.filter_append, List.length_append]
  congr 1
  by_cases h : RG.bsd s t = true
  · simp [h]
  · simp [h]
theorem bsd_comm (s t : Nat × Nat) : RG.bsd s t = RG.bsd t s := by
  unfold RG.bsd
  congr 1
  · exact decide_eq_decide.mpr ⟨Eq.symm, Eq.symm⟩
  · exact decide_eq_decide.mpr (by omega)
def lastI (ps : List (Nat × Nat)) (i : Nat) : Int × Int := if i = 0 then (-5, -5) else (((ps[i - 1]?.getD (0, 0)).1 : Int), ((ps[i - 1]?.getD (0, 0)).2 : Int))
def bsdI (t : Nat × Nat) (x : Int × Int) : Bool := decide ((t.1 : Int) = x.1) && decide ((if (t.2 : Int) - x.2 < 0 then -((t.2 : Int) - x.2) else (t.2 : Int) - x.2) = 1)
theorem lastI_next {ps : List (Nat × Nat)} {i : Nat} {t : Nat × Nat} (ht : ps[i]? = some t) : spI (lastI ps (i + 1)) = RG.spotD t := by
  unfold lastI
  rw [if_neg (by omega), show i + 1 - 1 = i by omega, ht]
  rfl
theorem cntB_step {ps : List (Nat × Nat)} {i : Nat} {t : Nat × Nat} (ht : ps[i]? = some t) : (cntB (ps.take (i + 1)) : Int) = if bsdI t (lastI ps i) = true then (cntB (ps.take i) : Int) + 1 else cntB (ps.take i) := by
  cases i with
  | zero =>
    have : bsdI t (lastI ps 0) = false := by
      unfold bsdI lastI
      simp <;> omega
    rw [this]
    cases ps with
    | nil => cases ht
    | cons p ps => rfl
  | succ j =>
    have hj : j < ps.length := by
      have := (List.getElem?_eq_some_iff.mp ht).1
      omega
    have e1 := List.getElem?_eq_getElem hj
    rw [cntB_succ e1 ht]
    have : bsdI t (lastI ps (j + 1)) = RG.bsd ps[j] t := by
      rw [bsd_comm, bsd_int]
      unfold bsdI lastI
      rw [if_neg (by omega), show j + 1 - 1 = j by omega, e1]
      rfl
    rw [this]
    split <;> simp
/-! #### steady_numbers -/
def F_steady_numbers : DF
  | [a], Q, _ => ∃ ws : List Wd, a = rowD ws ∧ ws.length ≤ 8 ∧ Q (.lst (rangeL (8 * (pOf ws : Int)) (pOf ws)))
  | _, _, _ => False
/-- how many more a period more brings -/
def shr (ws : List Wd) (n : Nat) : Nat := RG.besideN (RG.drilled ws (n + pOf ws)) - RG.besideN (RG.drilled ws n)
theorem shr_ok {ws : List Wd} (h : RG.shapes ws ≤ 2) {r : Nat} (hr : r < pOf ws) : ((RG.besideN (RG.drilled ws (8 * pOf ws + r + pOf ws)) : Int) - RG.besideN (RG.drilled ws (8 * pOf ws + r)) = (shr ws (8 * pOf ws + r) : Int)) ∧ shr ws (8 * pOf ws + r) ≤ pOf ws ∧
    ∀ n : Nat, n % pOf ws = r → ∀ s0 s1 g : Int, 0 < s1 → 0 < g → (shr ws (8 * pOf ws + r) : Int) = g * s0 → (pOf ws : Int) = g * s1 → -(8 * (pOf ws : Int)) * s1 ≤ (RG.besideN (RG.drilled ws n) : Int) * s1 - s0 * n ∧ (RG.besideN (RG.drilled ws n) : Int) * s1 - s0 * n ≤ 8 * (pOf ws : Int) * s1 := by
  obtain ⟨A, B, h0, h1, h2, h3, q⟩ := RG.row_beside_le hr h (Nat.dvd_refl (pOf ws))
  have q8 := q 8 (by omega)
  have q9 := q 9 (by omega)
  rw [show pOf ws * 8 + r = 8 * pOf ws + r by omega] at q8
  rw [show pOf ws * 9 + r = 8 * pOf ws + r + pOf ws by omega] at q9
  have hA : ((RG.besideN (RG.drilled ws (8 * pOf ws + r + pOf ws)) : Int) - RG.besideN (RG.drilled ws (8 * pOf ws + r))) = A := by omega
  have hS : (shr ws (8 * pOf ws + r) : Int) = A := by unfold shr; omega
  refine ⟨by omega, by omega, fun n hn s0 s1 g hs1 hg e0 e1 => ?_⟩
  rw [hS] at e0
  have hs0 : 0 ≤ s0 := by
    rcases Int.lt_or_le s0 0 with y | y
    · have : g * s0 < 0 := Int.mul_neg_of_pos_of_neg hg y
      omega
    · exact y
  have hle : s0 ≤ s1 := by
    rcases Int.lt_or_le s1 s0 with y | y
    · have := Int.mul_lt_mul_of_pos_left y hg
      omega
    · exact y
  have hb := RG.besideN_le (RG.drilled ws n)
  rw [RG.drilled_len] at hb
  have e := Nat.div_add_mod n (pOf ws)
  rw [hn] at e
  generalize n / pOf ws = m at e
  by_cases hm : 7 ≤ m
  · have qm := q m hm
    rw [e] at qm
    rw [qm]
    -- (A m + B) s1 - s0 (P m + r), with A s1 = P s0
    have ex : A * s1 = pOf ws * s0 := by rw [e0, e1, Int.mul_assoc, Int.mul_assoc, Int.mul_comm s0 s1]
    have en : (n : Int) = pOf ws * m + r := by rw [← e, Int.natCast_add, Int.natCast_mul]
    have k : (A * m + B) * s1 - s0 * n = B * s1 - s0 * r := by
      rw [en, Int.add_mul, Int.mul_add]
      have : A * (m : Int) * s1 = s0 * (pOf ws * m) := by
        rw [Int.mul_right_comm, ex, Int.mul_comm (pOf ws : Int) s0, Int.mul_assoc]
      omega
    rw [k]
    have u1 : 0 ≤ s0 * r := Int.mul_nonneg hs0 (by omega)
    have u2 : s0 * (r : Int) ≤ s1 * pOf ws := Int.le_trans (Int.mul_le_mul_of_nonneg_left (by omega) hs0) (Int.mul_le_mul_of_nonneg_right hle (by omega))
    have u3 : B * s1 ≤ (8 * (pOf ws : Int)) * s1 := Int.mul_le_mul_of_nonneg_right (by omega) (by omega)
    have u4 : (-(7 * (pOf ws : Int))) * s1 ≤ B * s1 := Int.mul_le_mul_of_nonneg_right (by omega) (by omega)
    have u5 : s1 * (pOf ws : Int) = (pOf ws : Int) * s1 := Int.mul_comm _ _
    rw [Int.neg_mul, Int.mul_assoc] at u4
    rw [Int.neg_mul, Int.mul_assoc]
    rw [Int.mul_assoc] at u3
    omega
  · have hn8 : n ≤ 8 * pOf ws := by
      have := Nat.mul_le_mul_left (pOf ws) (show m ≤ 6 by omega)
      omega
    have u1 : 0 ≤ s0 * n := Int.mul_nonneg hs0 (by omega)
    have u2 : s0 * (n : Int) ≤ s1 * (8 * pOf ws) := Int.le_trans (Int.mul_le_mul_of_nonneg_left (by omega) hs0) (Int.mul_le_mul_of_nonneg_right hle (by omega))
    have u3 : (RG.besideN (RG.drilled ws n) : Int) * s1 ≤ (8 * (pOf ws : Int)) * s1 := Int.mul_le_mul_of_nonneg_right (by omega) (by omega)
    have u4 : 0 ≤ (RG.besideN (RG.drilled ws n) : Int) * s1 := Int.mul_nonneg (by omega) (by omega)
    have u5 : s1 * (8 * (pOf ws : Int)) = 8 * (pOf ws : Int) * s1 := Int.mul_comm _ _
    rw [Int.neg_mul]
    omega
def lowK (x y : Nat) : KP := (((x / Nat.gcd x y : Nat) : Int), ((y / Nat.gcd x y : Nat) : Int))
def keysTo (ws : List Wd) (i : Nat) : List KP := (List.range i).foldl (fun ks r => putP ks (lowK (shr ws (8 * pOf ws + r)) (pOf ws))) []
theorem keysTo_succ (ws : List Wd) (i : Nat) : keysTo ws (i + 1) = putP (keysTo ws i) (lowK (shr ws (8 * pOf ws + i)) (pOf ws)) := by
  simp [keysTo, List.range_succ]
theorem keysTo_len (ws : List Wd) : ∀ i, (keysTo ws i).length ≤ i
  | 0 => by simp [keysTo]
  | i + 1 => by
    have := keysTo_len ws i
    rw [keysTo_succ]
    unfold putP
    split
    · omega
    · simp; omega
theorem keysTo_mem (ws : List Wd) {r : Nat} : ∀ {i : Nat}, r < i → lowK (shr ws (8 * pOf ws + r)) (pOf ws) ∈ keysTo ws i
  | i + 1, h => by
    rw [keysTo_succ]
    unfold putP
    by_cases hr : r = i
    · subst hr
      split
      · assumption
      · simp
    · have := keysTo_mem ws (i := i) (r := r) (by omega)
      split
      · exact this
      · exact List.mem_append.mpr (.inl this)
theorem keysTo_eq {ws : List Wd} {k : KP} : ∀ {i : Nat}, k ∈ keysTo ws i → ∃ r, r < i ∧ k = lowK (shr ws (8 * pOf ws + r)) (pOf ws)
  | 0, h => by simp [keysTo] at h
  | i + 1, h => by
    rw [keysTo_succ] at h
    unfold putP at h
    split at h
    · obtain ⟨r, hr, e⟩ := keysTo_eq h
      exact ⟨r, by omega, e⟩
    · rcases List.mem_append.mp h with h | h
      · obtain ⟨r, hr, e⟩ := keysTo_eq h
        exact ⟨r, by omega, e⟩
      · exact ⟨i, by omega, by simpa using h⟩
theorem keysOk_all (ks : List KP) : keysOk ks := by
  unfold keysOk
  rw [List.map_map]
  exact ⟨PySem.W.AllAlike.of (enc := fun e => (kpD e).pd) fun b b' => rfl, PySem.W.Sortable.tuples (enc := fun e => (kpD e).pd) fun b => ⟨_, _, rfl⟩⟩
def keysD (ks : List KP) : List D := (ks.map kpD).mergeSort (PySem.W.dataLe false D.pd)
def sharesD (ws : List Wd) : D := .lst (keysD (keysTo ws (pOf ws)))
theorem keysD_mem {ks : List KP} {d : D} (h : d ∈ keysD ks) : ∃ k ∈ ks, d = kpD k := by
  have := (List.mergeSort_perm (ks.map kpD) (PySem.W.dataLe false D.pd)).mem_iff.mp h
  obtain ⟨k, hk, e⟩ := List.mem_map.mp this
  exact ⟨k, hk, e.symm⟩
theorem keysD_fl (ks : List KP) : (D.lst (keysD ks)).fl 12 = true := fl_lst' fun x hx => by
  obtain ⟨k, _, rfl⟩ := keysD_mem hx
  rfl
theorem keysD_len (ks : List KP) : (keysD ks).length = ks.length := by
  unfold keysD
  rw [List.length_mergeSort, List.length_map]
/-! #### beside_shares -/
def F_beside_shares : DF
  | [a], Q, _ => ∃ ws : List Wd, a = rowD ws ∧ Row ws ∧ Q (sharesD ws)
  | _, _, _ => False
/-! #### _law_steady -/
def F__law_steady : DF
  | [a], Q, _ => ∃ ws : List Wd, a = rowD ws ∧ ws.length ≤ 8 ∧ Q (.lst (rangeL (8 * (pOf ws : Int)) (pOf ws)))
  | _, _, _ => False
/-! #### _law_lowest -/
def F__law_lowest : DFK
  | [a, b], Q, _ => ∃ x y : Nat, a = .int x ∧ b = .int y ∧ 0 < y ∧ Sm x ∧ Sm y ∧ Q (lowK x y)
  | _, _, _ => False
/-! #### _law_beside2 -/
def F__law_beside2 : DF
  | [a, b], Q, _ => ∃ (ws : List Wd) (n : Nat), a = rowD ws ∧ b = .int n ∧ 0 < n ∧ n < 1000000 ∧ ws.length ≤ 16 ∧ Q (.int (RG.besideN (RG.drilled ws n)))
  | _, _, _ => False
/-! #### _law_source -/
def w__law_source : WS := (wSeq (wAsg (wC (.int 0)) (gN 2))
  (wSeq (wIf (wB (wBin fLt (wVar 1) (wCB fLen (wCons (wVar 0) wNil)))) (wAsg (wBin fIx (wVar 0) (wVar 1)) (gN 2)) wSkip)
  (wSeq (wAsg (wLst (wCons (wC (.int 2147483647)) (wCons (wC (.int 2147483629)) (wCons (wC (.int 2147483587)) (wCons (wC (.int 2147483579)) (wCons (wC (.int 2147483563)) (wCons (wC (.int 2147483549)) (wCons (wC (.int 2147483543)) (wCons (wC (.int 2147483497)) wNil))))))))) (gN 3))
  (wSeq (wAsg (wBin fMod (wCB fInt (wCons (wBin fMul (wBin fAdd (wBin fMod (wCB fInt (wCons (wVar 2) wNil)) (wC (.int 2147483489))) (wC (.int 1))) (wBin fAdd (wC (.int 48271)) (wBin fMul (wC (.int 2)) (wVar 1)))) wNil)) (wC (.int 2147483489))) (gN 4))
  (wSeq (wAsg (wBin fAdd (wBin fAdd (wBin fMod (wCB fInt (wCons (wBin fMul (wVar 4) (wVar 4)) wNil)) (wC (.int 2147483477))) (wVar 1)) (wC (.int 1))) (gN 4))
  (wSeq (wIf (wB (wBin fGe (wVar 2) (wBin fPow (wC (.int 10)) (wC (.int 18))))) (wRetSrc (wCons (wVar 2) (wCons (wVar 4) (wCons (wBin fIx (wVar 3) (wBin fMod (wCB fInt (wCons (wVar 1) wNil)) (wC (.int 8)))) wNil)))) wSkip)
  (wRetSrc (wCons (wC (.int 0)) (wCons (wVar 4) (wCons (wBin fIx (wVar 3) (wBin fMod (wCB fInt (wCons (wVar 1) wNil)) (wC (.int 8)))) wNil))))))))))
def N__law_source : List Str := ["script", "k", "cell", "primes", "seed"]
theorem sp__law_source : ∀ ds Q E, ds.length = 2 → F__law_source ds Q E → w__law_source (fun _ => Q .non) Q Ev0 (startG N__law_source ds) := by
  intro ds Q E hl h
  match ds, h with
  | [a, b], ⟨ns, k, e1, e2, hk, h⟩ =>
    subst e1 e2
    have h8 := eight_at k (fun p => 1073741824 < p ∧ p < 2147483648) [2147483647, 2147483629, 2147483587, 2147483579, 2147483563, 2147483549, 2147483543, 2147483497] rfl (by decide)
    obtain ⟨p, hp, p1, p2⟩ := h8
    simp only [List.map_cons, List.map_nil] at hp
    have s2 : Sm 2 := .of (by omega) (by omega)
    have sk : Sm (k : Int) := .of (by omega) (by omega)
    have sy : Sm (48271 + 2 * (k : Int)) := .of (by omega) (by omega)
    simp only [w__law_source, N__law_source, startG]
    by_cases hn : k < ns.length
    · have ha : atI (ns.map D.int) (k : Int) = some (.int ns[k]) := atI_nat (by rw [List.getElem?_map, List.getElem?_eq_getElem hn]; rfl)
      have sx : Sm (ns[k] % 2147483489 + 1) := .of (by omega) (by omega)
      have q1 := Int.emod_nonneg ((ns[k] % 2147483489 + 1) * (48271 + 2 * (k : Int))) (show (2147483489 : Int) ≠ 0 by decide)
      have q2 := Int.emod_lt_of_pos ((ns[k] % 2147483489 + 1) * (48271 + 2 * (k : Int))) (show (0 : Int) < 2147483489 by decide)
      generalize he : (ns[k] % 2147483489 + 1) * (48271 + 2 * (k : Int)) % 2147483489 = e at q1 q2
      have se : Sm e := .of (by omega) (by omega)
      have q3 := Int.emod_nonneg (e * e) (show (2147483477 : Int) ≠ 0 by decide)
      have q4 := Int.emod_lt_of_pos (e * e) (show (0 : Int) < 2147483477 by decide)
      simp [ha, s2, sk, sy, sx, he, se, hp, p1, p2, h, q1, q3]
      refine .inr ⟨hn, ?_⟩
      by_cases hc : (1000000000000000000 : Int) ≤ ns[k]
      · exact .inr ⟨hc, _, _, _, ⟨rfl, rfl, rfl⟩, by omega, by omega, p1, p2⟩
      · exact .inl ⟨by omega, _, _, _, ⟨rfl, rfl, rfl⟩, by omega, by omega, p1, p2⟩
    · have q1 := Int.emod_nonneg (48271 + 2 * (k : Int)) (show (2147483489 : Int) ≠ 0 by decide)
      have q2 := Int.emod_lt_of_pos (48271 + 2 * (k : Int)) (show (0 : Int) < 2147483489 by decide)
      have s1 : Sm 1 := .of (by omega) (by omega)
      have he : (1 : Int) * (48271 + 2 * (k : Int)) % 2147483489 = 48271 + 2 * (k : Int) := by omega
      have q3 := Int.emod_nonneg ((48271 + 2 * (k : Int)) * (48271 + 2 * (k : Int))) (show (2147483477 : Int) ≠ 0 by decide)
      have q4 := Int.emod_lt_of_pos ((48271 + 2 * (k : Int)) * (48271 + 2 * (k : Int))) (show (0 : Int) < 2147483477 by decide)
      have he' : (48271 + 2 * (k : Int)) % 2147483489 = 48271 + 2 * (k : Int) := by omega
      simp [s1, s2, sk, sy, he', hp, p1, p2, h]
      exact .inl ⟨by omega, _, _, _, ⟨rfl, rfl, rfl⟩, by omega, by omega, p1, p2⟩
/-! #### _law_pick -/
def w__law_pick : WS := (wSeq (wIf (wB (wBin fGt (wSrcIx 0 0) (wC (.int 0)))) (wSeq (wAsg (wBin fMod (wCB fInt (wCons (wSrcIx 0 0) wNil)) (wVar 1)) (gN 2))
  (wSeq (wSrcSt 0 0 (wBin fDiv (wSrcIx 0 0) (wVar 1)))
  (wRet (wVar 2)))) wSkip)
  (wSeq (wSrcSt 0 1 (wBin fAdd (wBin fMod (wCB fInt (wCons (wBin fMul (wSrcIx 0 1) (wC (.int 48271))) wNil)) (wSrcIx 0 2)) (wC (.int 1))))
  (wRet (wBin fMod (wCB fInt (wCons (wBin fDiv (wBin fMod (wCB fInt (wCons (wBin fMul (wSrcIx 0 1) (wSrcIx 0 1)) wNil)) (wC (.int 2147483423))) (wC (.int 7))) wNil)) (wVar 1)))))
def N__law_pick : List Str := ["source", "limit", "drawn"]
theorem sp__law_pick : ∀ ds Q E, ds.length = 2 → F__law_pick ds Q E → w__law_pick (fun _ => Q .non) Q Ev0 (startG N__law_pick ds) := by
  intro ds Q E hl h
  match ds, h with
  | [a, b], ⟨l, e1, e2, h1, h2, h⟩ =>
    subst e1 e2
    simp only [w__law_pick, N__law_pick, startG]
    simp [h1]
    intro c hc
    by_cases h0 : 0 < c
    · refine .inr ⟨h0, fun u _ v hv => ⟨.of (by omega) (by omega), Int.ediv_nonneg hv (by omega), h _ (Int.emod_nonneg _ (by omega)) (Int.emod_lt_of_pos _ h1)⟩⟩
    · refine .inl ⟨by omega, fun s s1 s2 => ⟨⟨.of (by omega) (by omega), .of (by omega) (by omega)⟩, fun p p1 p2 => ?_⟩⟩
      rw [if_pos (by omega)]
      have q1 := Int.emod_nonneg (s * 48271) (show p ≠ 0 by omega)
      have q2 := Int.emod_lt_of_pos (s * 48271) (show 0 < p by omega)
      refine ⟨by omega, fun v v1 v2 u u1 u2 => ⟨⟨.of (by omega) (by omega), .of (by omega) (by omega)⟩, .of (by omega) (by omega), ?_⟩⟩
      exact h _ (Int.emod_nonneg _ (by omega)) (Int.emod_lt_of_pos _ h1)
/-! #### _law_chosen -/
def w__law_chosen : WS := (wRet (wBin fIx (wVar 1) (wCall 2 F__law_pick (wCons (wVar 0) (wCons (wCB fLen (wCons (wVar 1) wNil)) wNil)))))
def N__law_chosen : List Str := ["source", "some"]
theorem sp__law_chosen : ∀ ds Q E, ds.length = 2 → F__law_chosen ds Q E → w__law_chosen (fun _ => Q .non) Q Ev0 (startG N__law_chosen ds) := by
  intro ds Q E hl h
  match ds, h with
  | [a, b], ⟨xs, e1, e2, hn, hz, h⟩ =>
    have hp : 0 < xs.length := by cases xs with | nil => exact absurd rfl hn | cons _ _ => simp
    have key : ∀ v : Int, 0 ≤ v → v < xs.length → ∃ d, atI xs v = some d ∧ Q d := fun v h0 h1 => by
      obtain ⟨j, rfl⟩ := Int.eq_ofNat_of_zero_le h0
      have hj : j < xs.length := by omega
      exact ⟨_, atI_nat (List.getElem?_eq_getElem hj), h _ (List.getElem_mem hj)⟩
    subst e1
    rcases e2 with rfl | rfl
    · simp [w__law_chosen, N__law_chosen, startG, F__law_pick]
      exact ⟨hp, by omega, key⟩
    · simp [w__law_chosen, N__law_chosen, startG, F__law_pick]
      exact ⟨hp, by omega, key⟩
/-! #### _law_all_words -/
def w__law_all_words : WS := (wSeq (wAsg (wLst (wCons (wC (.str "about")) (wCons (wC (.str "change")) (wCons (wC (.str "column 2")) (wCons (wC (.str "column 3")) (wCons (wC (.str "double")) (wCons (wC (.str "left")) (wCons (wC (.str "line")) (wCons (wC (.str "right")) wNil))))))))) (gN 0))
  (wRet (wBin fAdd (wVar 0) (wLst (wCons (wC (.str "undouble")) (wCons (wC (.str "wheel left")) (wCons (wC (.str "wheel right")) wNil)))))))
def N__law_all_words : List Str := ["words"]
theorem sp__law_all_words : ∀ ds Q E, ds.length = 0 → F__law_all_words ds Q E → w__law_all_words (fun _ => Q .non) Q Ev0 (startG N__law_all_words ds) := by
  intro ds Q E hl h
  match ds, h with
  | [], h => simpa [w__law_all_words, N__law_all_words, startG, sizeLine_eq, allW, wD, Wd.nm] using h
/-! #### _law_factor -/
def w__law_factor : WS := (wSeq (wIf (wB (wBin fEq (wVar 0) (wC (.str "column 3")))) (wRet (wC (.int 3))) wSkip)
  (wRet (wIfE (wB (wBin fIn (wVar 0) (wTup (wCons (wC (.str "column 2")) (wCons (wC (.str "double")) (wCons (wC (.str "undouble")) wNil)))))) (wC (.int 2)) (wC (.int 1)))))
def N__law_factor : List Str := ["word"]
theorem sp__law_factor : ∀ ds Q E, ds.length = 1 → F__law_factor ds Q E → w__law_factor (fun _ => Q .non) Q Ev0 (startG N__law_factor ds) := by
  intro ds Q E hl h
  match ds, h with
  | [d], ⟨w, e, h⟩ =>
    subst e
    have h1 := fl_w w 12
    have h2 : (wD w).flat = true := rfl
    have e1 : D.eq (wD w) (.str "column 3") = decide (w = .col3) := by cases w <;> decide +kernel
    have e2 : D.inl (wD w) [.str "column 2", .str "double", .str "undouble"] = decide (w.fac = 2) := by cases w <;> decide +kernel
    have h3 : (D.str "column 3").fl 12 = true := by decide +kernel
    have h4 : ∀ z : Str, (D.str z).flat = true := fun _ => rfl
    simp [w__law_factor, N__law_factor, startG, h1, h2, h3, h4, e1, e2]
    cases w <;> simpa [Wd.fac] using h
/-! #### _law_is_good_row -/
def w__law_is_good_row : WS := (wSeq (wIf (wBor (wBnot (wB (wCB fIsi (wCons (wVar 0) (wCons (wC (.ty "tuple")) wNil))))) (wB (wBin fGt (wCB fLen (wCons (wVar 0) wNil)) (wC (.int 8))))) (wRet (wC (.bl false))) wSkip)
  (wSeq (wIf (wB (wBin fNe (wLc [1] (wIt (wVar 0)) (gN 1) (wBor (wBnot (wB (wCB fIsi (wCons (wVar 1) (wCons (wC (.ty "str")) wNil))))) (wB (wBin fNin (wVar 1) (wCall 0 F__law_all_words wNil)))) (wVar 1)) (wLst wNil))) (wRet (wC (.bl false))) wSkip)
  (wRet (wBin fLe (wCB fLen (wCons (wLc [1] (wIt (wVar 0)) (gN 1) (wB (wBin fGt (wCall 1 F__law_factor (wCons (wVar 1) wNil)) (wC (.int 1)))) (wVar 1)) wNil)) (wC (.int 2))))))
def N__law_is_good_row : List Str := ["value", "word"]
theorem sp__law_is_good_row : ∀ ds Q E, ds.length = 1 → F__law_is_good_row ds Q E → w__law_is_good_row (fun _ => Q .non) Q Ev0 (startG N__law_is_good_row ds) := by
  intro ds Q E hl h
  match ds, h with
  | [d], ⟨h1, h2⟩ =>
    have h0 := fl_noTy h1
    simp only [w__law_is_good_row, N__law_is_good_row, startG]
    cases d <;> first | (cases h0; done) | skip
    case tup xs =>
      have h3 : ∀ x ∈ xs, x.fl 11 = true := fl_tup h1
      simp [D.noTy, D.isi, isiN, D.tn]
      by_cases h8 : xs.length ≤ 8
      · refine .inl ⟨by omega, lcD_pure (fun d => !isWordD d) id (by omega) (fun d hd Qt Qf ht hf => ?_) ?_⟩
        · have n := fl_noTy (h3 d hd)
          simp [wipeG, n]
          cases d <;> first | (cases n; done) | skip
          case str z =>
            have e : D.inl (.str z) (allW.map wD) = isWordD (.str z) := by
              have := inl_strs z wordStrs
              rw [wordStrs, List.map_map] at this
              exact this
            have e2 : (allW.map wD).all (D.fl 10) = true := by rw [List.all_eq_true]; intro x hx; obtain ⟨w, _, rfl⟩ := List.mem_map.mp hx; exact fl_w w _
            have e3 : (D.str z).fl 10 = true := h3 _ hd
            simp only [D.isi, isiN, D.tn]
            simp [e]
            refine ⟨⟨e3, fun w _ => fl_w w _⟩, ?_⟩
            cases hw : isWordD (.str z) with
            | true => exact .inl ⟨rfl, hf (by rw [hw]; rfl)⟩
            | false => exact .inr ⟨rfl, ht (by rw [hw]; rfl)⟩
          all_goals simpa [D.isi, isiN, D.tn] using ht rfl
        · simp only [List.map_id]
          refine ⟨fl_lst' fun x hx => h3 x (List.mem_filter.mp hx).1, rfl, ?_⟩
          rw [eq_nilL]
          cases hw : xs.all isWordD with
          | false =>
            refine .inr ⟨?_, by simpa [isRowD, hw] using h2⟩
            obtain ⟨x, hx, hn⟩ := List.all_eq_false.mp hw
            have : x ∈ xs.filter fun d => !isWordD d := List.mem_filter.mpr ⟨hx, by simpa using hn⟩
            cases e : xs.filter fun d => !isWordD d with
            | nil => rw [e] at this; cases this
            | cons _ _ => rfl
          | true =>
            have hw' := List.all_eq_true.mp hw
            refine .inl ⟨?_, lcD_pure shapeD id (by omega) (fun d hd Qt Qf ht hf => ?_) ?_⟩
            · rw [List.filter_eq_nil_iff.mpr fun x hx => by simp [hw' x hx]]; rfl
            · obtain ⟨w, rfl⟩ := isWordD_ex (hw' d hd)
              simp [wipeG, F__law_factor]
              refine ⟨w, rfl, ?_⟩
              have hs := shapeD_w w
              by_cases hf' : 1 < w.fac
              · exact .inr ⟨by omega, ht (by rw [hs]; simpa using hf')⟩
              · exact .inl ⟨by omega, hf (by rw [hs]; simpa using hf')⟩
            · simp only [List.map_id]
              show Q (.bl (decide (((xs.filter shapeD).length : Int) ≤ 2)))
              rw [show decide (((xs.filter shapeD).length : Int) ≤ 2) = isRowD (.tup xs) from ?_]
              · exact h2
              · show _ = (decide (xs.length ≤ 8) && xs.all isWordD && decide ((xs.filter shapeD).length ≤ 2))
                rw [hw, decide_eq_true h8]
                simp only [Bool.true_and]
                exact decide_eq_decide.mpr (by omega)
      · exact .inr ⟨by omega, by simpa [isRowD, h8] using h2⟩
    all_goals simpa [D.noTy, D.isi, isiN, D.tn, isRowD] using h2
/-! #### _law_row -/
def w__law_row : WS := (wSeq (wAsg (wTup wNil) (gN 2))
  (wSeq (wFor (wRange1 (wCons (wCall 2 F__law_pick (wCons (wVar 0) (wCons (wBin fAdd (wVar 1) (wC (.int 1))) wNil))) wNil)) (gN 3) (wSeq (wAsg (wCall 2 F__law_chosen (wCons (wVar 0) (wCons (wBin fAdd (wCall 0 F__law_all_words wNil) (wLst (wCons (wC (.str "line")) (wCons (wC (.str "right")) (wCons (wC (.str "left")) (wCons (wC (.str "change")) wNil)))))) wNil))) (gN 4))
  (wAsg (wIfE (wB (wCall 1 F__law_is_good_row (wCons (wBin fAdd (wVar 2) (wTup (wCons (wVar 4) wNil))) wNil))) (wBin fAdd (wVar 2) (wTup (wCons (wVar 4) wNil))) (wVar 2)) (gN 2))))
  (wRet (wVar 2))))
def N__law_row : List Str := ["source", "most", "found", "turn", "word"]
theorem sp__law_row : ∀ ds Q E, ds.length = 2 → F__law_row ds Q E → w__law_row (fun _ => Q .non) Q Ev0 (startG N__law_row ds) := by
  intro ds Q E hl h
  match ds, h with
  | [a, b], ⟨n, e1, e2, h0, h1, h⟩ =>
    subst e1 e2
    simp only [w__law_row, N__law_row, startG]
    simp [F__law_pick]
    refine ⟨by omega, by omega, fun v v0 v1 => ⟨⟨by omega, by omega⟩, ?_⟩⟩
    refine ⟨fun i Γ => ∃ ws x y, Γ = [.dat .src, .dat (.int n), .dat (rowD ws), x, y] ∧ Row ws ∧ ws.length ≤ i, ⟨[], _, _, rfl, row_nil, Nat.le_refl _⟩, fun i d Γ' hd hI => ?_, fun Γ' hI => ?_⟩
    · obtain ⟨ws, x, y, rfl, hR, hi⟩ := hI
      have hi' := rangeL_get hd
      simp [F__law_chosen]
      refine ⟨by simp [allW, sizeLine_eq], by simp [allW], fun x hx => ?_⟩
      obtain ⟨w, rfl⟩ : ∃ w, x = wD w := by
        rcases hx with ⟨w, _, rfl⟩ | rfl | rfl | rfl | rfl
        · exact ⟨w, rfl⟩
        · exact ⟨.line, rfl⟩
        · exact ⟨.right, rfl⟩
        · exact ⟨.left, rfl⟩
        · exact ⟨.change, rfl⟩
      have hz : ws.length + 1 ≤ sizeLine := by rw [sizeLine_eq]; have := hR.1; omega
      rw [fAdd_row]
      refine ⟨hz, okV_row _, ?_⟩
      by_cases hr : isRowD (rowD (ws ++ [w])) = true
      · rw [if_pos hr, fAdd_row]
        exact ⟨hz, _, rfl, row_of hr, by simp; omega⟩
      · rw [if_neg hr]
        exact ⟨ws, rfl, hR, by omega⟩
    · obtain ⟨ws, x, y, rfl, hR, hi⟩ := hI
      rw [rangeL_len] at hi
      simpa using h ws hR (by omega)
/-! #### _law_period -/
def w__law_period : WS := (wSeq (wAsg (wC (.int 1)) (gN 1))
  (wSeq (wFor (wIt (wVar 0)) (gN 2) (wAsg (wBin fMul (wVar 1) (wCall 1 F__law_factor (wCons (wVar 2) wNil))) (gN 1)))
  (wRet (wVar 1))))
def N__law_period : List Str := ["words", "found", "word"]
theorem sp__law_period : ∀ ds Q E, ds.length = 1 → F__law_period ds Q E → w__law_period (fun _ => Q .non) Q Ev0 (startG N__law_period ds) := by
  intro ds Q E hl h
  match ds, h with
  | [d], ⟨ws, e, h8, h⟩ =>
    subst e
    simp only [w__law_period, N__law_period, startG]
    simp [rowD]
    refine ⟨fun i Γ => ∃ x, Γ = [.dat (rowD ws), .dat (.int (pOf (ws.take i))), x], ⟨_, rfl⟩, fun i d Γ' hd hI => ?_, fun Γ' hI => ?_⟩
    · obtain ⟨x, rfl⟩ := hI
      obtain ⟨w, ew, rfl⟩ := rowD_get hd
      have hb := pOf_le ws i
      have hf := fac_le w
      have hi : i < ws.length := (List.getElem?_eq_some_iff.mp ew).1
      have : 3 ^ i ≤ 3 ^ 8 := Nat.pow_le_pow_right (by decide) (by omega)
      simp [F__law_factor]
      exact ⟨w, rfl, ⟨.of (by omega) (by omega), .of (by omega) (by omega)⟩, by rw [pOf_take ws i w ew]; simp⟩
    · obtain ⟨x, rfl⟩ := hI
      rw [List.length_map, List.take_length]
      simpa using h
/-! #### _law_steady -/
def w__law_steady : WS := (wSeq (wAsg (wCall 1 F__law_period (wCons (wVar 0) wNil)) (gN 1))
  (wRet (wBin fLrg2 (wBin fMul (wC (.int 8)) (wVar 1)) (wBin fMul (wC (.int 9)) (wVar 1)))))
def N__law_steady : List Str := ["words", "step"]
theorem sp__law_steady : ∀ ds Q E, ds.length = 1 → F__law_steady ds Q E → w__law_steady (fun _ => Q .non) Q Ev0 (startG N__law_steady ds) := by
  intro ds Q E hl h
  match ds, h with
  | [a], ⟨ws, e1, hw, h⟩ =>
    subst e1
    have hp := pOf_8 hw
    simp only [w__law_steady, N__law_steady, startG]
    simp
    refine ⟨ws, rfl, hw, ?_⟩
    have sL : Sm (pOf ws : Int) := .of (by omega) (by omega)
    have s8 : Sm 8 := .of (by omega) (by omega)
    have s9 : Sm 9 := .of (by omega) (by omega)
    have e9 : (9 * (pOf ws : Int) - 8 * (pOf ws : Int)).toNat = pOf ws := by omega
    simp [sL, s8, s9, e9]
    exact ⟨by omega, h⟩
/-! #### is_word -/
def w_is_word : WS := (wRet (wAnd (wCB fIsi (wCons (wVar 0) (wCons (wC (.ty "str")) wNil))) (wBin fIn (wVar 0) (wC (.tup [(.str "about"), (.str "change"), (.str "column 2"), (.str "column 3"), (.str "double"), (.str "left"), (.str "line"), (.str "right"), (.str "undouble"), (.str "wheel left"), (.str "wheel right")])))))
def N_is_word : List Str := ["value"]
theorem sp_is_word : ∀ ds Q E, ds.length = 1 → F_is_word ds Q E → w_is_word (fun _ => Q .non) Q Ev0 (startG N_is_word ds) := by
  intro ds Q E hl h
  match ds, h with
  | [d], ⟨h1, h2⟩ =>
    simp only [w_is_word, N_is_word, startG]
    cases d <;> first | (cases h1; done) | skip
    case str z =>
      have e : D.inl (.str z) (wordStrs.map D.str) = isWordD (.str z) := inl_strs z _
      rw [← e] at h2
      simpa [D.noTy, D.isi, isiN, D.tn, D.flat, wordStrs, allW, Wd.nm] using h2
    all_goals simpa [D.noTy, D.isi, isiN, D.tn, D.flat, isWordD] using h2
/-! #### is_row -/
def w_is_row : WS := (wSeq (wIf (wBor (wBnot (wB (wCB fIsi (wCons (wVar 0) (wCons (wC (.ty "tuple")) wNil))))) (wBor (wB (wBin fGt (wCB fLen (wCons (wVar 0) wNil)) (wC (.int 8)))) (wBnot (wB (wCB fAll (wCons (wLc [1] (wIt (wVar 0)) (gN 1) wYes (wCall 1 F_is_word (wCons (wVar 1) wNil))) wNil)))))) (wRet (wC (.bl false))) wSkip)
  (wRet (wBin fLe (wCB fLen (wCons (wLc [1] (wIt (wVar 0)) (gN 1) (wB (wUn (fKIn k_FACTORS) (wVar 1))) (wVar 1)) wNil)) (wC (.int 2)))))
def N_is_row : List Str := ["value", "word"]
theorem sp_is_row : ∀ ds Q E, ds.length = 1 → F_is_row ds Q E → w_is_row (fun _ => Q .non) Q Ev0 (startG N_is_row ds) := by
  intro ds Q E hl h
  match ds, h with
  | [d], ⟨h1, h2⟩ =>
    simp only [w_is_row, N_is_row, startG]
    cases d <;> first | (cases h1; done) | skip
    case tup xs =>
      simp [D.noTy, D.isi, isiN, D.tn]
      have h3 : ∀ x ∈ xs, x.noTy = true := fun x hx => fl_noTy (fl_tup h1 x hx)
      by_cases h8 : xs.length ≤ 8
      · refine .inl ⟨by omega, lcD_map (fun d => .bl (isWordD d)) (by omega) (fun d hd Qt hq => by simpa [wipeG] using ⟨h3 d hd, hq⟩) ?_⟩
        refine ⟨_, bls_mapf isWordD xs, ?_⟩
        have ea : (xs.map isWordD).all id = xs.all isWordD := by rw [List.all_map]; rfl
        rw [ea]
        cases hw : xs.all isWordD with
        | false => exact .inl ⟨rfl, by simpa [isRowD, hw] using h2⟩
        | true =>
          refine .inr ⟨rfl, lcD_pure shapeD id (by omega) (fun d hd Qt Qf ht hf => ?_) ?_⟩
          · obtain ⟨w, rfl⟩ := isWordD_ex (List.all_eq_true.mp hw d hd)
            simp only [gN, wipeG, wB, wUn, wVar]
            cases hs : shapeD (wD w) with
            | true => exact ⟨_, rfl, _, rfl, by rw [show ((k_FACTORS.lookup w.nm).isSome) = true from hs]; exact ⟨_, rfl, ht hs⟩⟩
            | false => exact ⟨_, rfl, _, rfl, by rw [show ((k_FACTORS.lookup w.nm).isSome) = false from hs]; exact hf hs⟩
          · simp only [List.map_id]
            show Q (.bl (decide (((xs.filter shapeD).length : Int) ≤ 2)))
            rw [show decide (((xs.filter shapeD).length : Int) ≤ 2) = isRowD (.tup xs) from ?_]
            · exact h2
            · show _ = (decide (xs.length ≤ 8) && xs.all isWordD && decide ((xs.filter shapeD).length ≤ 2))
              rw [hw, decide_eq_true h8]
              simp only [Bool.true_and]
              exact decide_eq_decide.mpr (by omega)
      · exact .inr ⟨by omega, by simpa [isRowD, h8] using h2⟩
    all_goals simpa [D.noTy, D.isi, isiN, D.tn, D.flat, isRowD] using h2
/-! #### require_row -/
def w_require_row : WS := (wIf (wBnot (wB (wCall 1 F_is_row (wCons (wVar 0) wNil)))) wNever wSkip)
def N_require_row : List Str := ["value"]
theorem sp_require_row : ∀ ds Q E, ds.length = 1 → F_require_row ds Q E → w_require_row (fun _ => Q .non) Q Ev0 (startG N_require_row ds) := by
  intro ds Q E hl h
  match ds, h with
  | [d], ⟨h1, h2, h3⟩ =>
    simp [w_require_row, N_require_row, startG, h1, h2, h3]
/-! #### period_of -/
def w_period_of : WS := (wSeq (wAsg (wC (.int 1)) (gN 1))
  (wSeq (wFor (wIt (wVar 0)) (gN 2) (wAsg (wBin fMul (wVar 1) (wBin (fKGet k_FACTORS) (wVar 2) (wC (.int 1)))) (gN 1)))
  (wRet (wVar 1))))
def N_period_of : List Str := ["row", "found", "word"]
theorem sp_period_of : ∀ ds Q E, ds.length = 1 → F_period_of ds Q E → w_period_of (fun _ => Q .non) Q Ev0 (startG N_period_of ds) := by
  intro ds Q E hl h
  match ds, h with
  | [d], ⟨ws, e, h8, h⟩ =>
    subst e
    simp only [w_period_of, N_period_of, startG]
    simp [rowD]
    refine ⟨fun i Γ => ∃ x, Γ = [.dat (rowD ws), .dat (.int (pOf (ws.take i))), x], ⟨_, rfl⟩, fun i d Γ' hd hI => ?_, fun Γ' hI => ?_⟩
    · obtain ⟨x, rfl⟩ := hI
      rw [List.getElem?_map] at hd
      cases ew : ws[i]? with
      | none => rw [ew] at hd; cases hd
      | some w =>
        rw [ew] at hd
        cases hd
        have hb := pOf_le ws i
        have hf := fac_le w
        have hi : i < ws.length := (List.getElem?_eq_some_iff.mp ew).1
        have : 3 ^ i ≤ 3 ^ 8 := Nat.pow_le_pow_right (by decide) (by omega)
        simp [wD]
        rw [look_fac]
        simp
        exact ⟨⟨.of (by omega) (by omega), .of (by omega) (by omega)⟩, by rw [pOf_take ws i w ew]; simp⟩
    · obtain ⟨x, rfl⟩ := hI
      rw [List.length_map, List.take_length]
      simpa using h
/-! #### steady_numbers -/
def w_steady_numbers : WS := (wSeq (wAsg (wCall 1 F_period_of (wCons (wVar 0) wNil)) (gN 1))
  (wRet (wBin fLrg2 (wBin fMul (wC (.int 8)) (wVar 1)) (wBin fMul (wBin fAdd (wC (.int 8)) (wC (.int 1))) (wVar 1)))))
def N_steady_numbers : List Str := ["row", "step"]
theorem sp_steady_numbers : ∀ ds Q E, ds.length = 1 → F_steady_numbers ds Q E → w_steady_numbers (fun _ => Q .non) Q Ev0 (startG N_steady_numbers ds) := by
  intro ds Q E hl h
  match ds, h with
  | [a], ⟨ws, e1, hw, h⟩ =>
    subst e1
    have hp := pOf_8 hw
    simp only [w_steady_numbers, N_steady_numbers, startG]
    simp
    refine ⟨ws, rfl, hw, ?_⟩
    have sL : Sm (pOf ws : Int) := .of (by omega) (by omega)
    have s8 : Sm 8 := .of (by omega) (by omega)
    have s9 : Sm 9 := .of (by omega) (by omega)
    have e9 : (9 * (pOf ws : Int) - 8 * (pOf ws : Int)).toNat = pOf ws := by omega
    simp [sL, s8, s9, e9]
    exact ⟨by omega, h⟩
/-! #### first_state -/
def w_first_state : WS := (wRet (wTup (wCons (wC (.int 1)) (wCons (wVar 0) (wCons (wLc [1] (wRange1 (wCons (wVar 0) wNil)) (gN 1) wYes (wTup (wCons (wC (.int 0)) (wCons (wVar 1) wNil)))) wNil)))))
def N_first_state : List Str := ["number", "person"]
theorem sp_first_state : ∀ ds Q E, ds.length = 1 → F_first_state ds Q E → w_first_state (fun _ => Q .non) Q Ev0 (startG N_first_state ds) := by
  intro ds Q E hl h
  match ds, h with
  | [a], ⟨n, e1, hn, h⟩ =>
    subst e1
    simp only [w_first_state, N_first_state, startG]
    simp
    refine ⟨⟨by omega, by omega⟩, lcD_map (fun d => .tup [.int 0, d]) (by rw [rangeL_len]; omega) (fun d hd Qt hq => by simpa [wipeG] using hq) ?_⟩
    have e : (rangeL 0 n).map (fun d => D.tup [.int 0, d]) = ((List.range n).map fun i => (0, i)).map RG.spotD := by
      unfold rangeL
      rw [List.map_map, List.map_map]
      refine List.map_congr_left fun i _ => ?_
      simp [RG.spotD]
    rw [e]
    exact h
/-! #### resized -/
def w_resized : WS := (wSeq (wIf (wB (wBin fIn (wVar 0) (wTup (wCons (wC (.str "right")) (wCons (wC (.str "left")) wNil))))) (wRet (wTup (wCons (wVar 2) (wCons (wVar 1) wNil)))) wSkip)
  (wSeq (wIf (wB (wBin fEq (wVar 0) (wC (.str "double")))) (wRet (wTup (wCons (wBin fMul (wC (.int 2)) (wVar 1)) (wCons (wBin fDiv (wBin fAdd (wVar 2) (wC (.int 1))) (wC (.int 2))) wNil)))) wSkip)
  (wSeq (wIf (wBand (wB (wBin fEq (wVar 0) (wC (.str "undouble")))) (wB (wBin fEq (wBin fMod (wVar 1) (wC (.int 2))) (wC (.int 0))))) (wRet (wTup (wCons (wBin fDiv (wVar 1) (wC (.int 2))) (wCons (wBin fMul (wC (.int 2)) (wVar 2)) wNil)))) wSkip)
  (wRet (wTup (wCons (wVar 1) (wCons (wVar 2) wNil)))))))
def N_resized : List Str := ["word", "ranks", "files"]
theorem sp_resized : ∀ ds Q E, ds.length = 3 → F_resized ds Q E → w_resized (fun _ => Q .non) Q Ev0 (startG N_resized ds) := by
  intro ds Q E hl h
  match ds, h with
  | [a, b, c], ⟨w, R, F, e1, e2, e3, h3, h4, h⟩ =>
    subst e1 e2 e3
    obtain ⟨s1, s2, s3, s4, s5, s6, s7, s8, s9⟩ := w_str
    simp only [w_resized, N_resized, startG, s1, s2, s3, s4, s5, s6]
    have sm2 : Sm 2 := .of (by omega) (by omega)
    have smr : Sm (R : Int) := .of (by omega) (by omega)
    have smf : Sm (F : Int) := .of (by omega) (by omega)
    have e1 : D.inl (wD w) [wD .right, wD .left] = (decide (w = .right) || decide (w = .left)) := by cases w <;> decide +kernel
    simp [flw12, eqw, sm2, smr, smf, e1, flatw]
    cases w <;> simp [RG.resized, szD] at h ⊢ <;> first | exact h | skip
    by_cases hp : R % 2 = 0
    · rw [if_pos (by omega)]
      simpa [hp] using h
    · rw [if_neg (by omega)]
      simpa [hp] using h
/-! #### in_ranks -/
def w_in_ranks : WS := (wSeq (wOwnLc 3 [2] (wIt (wVar 0)) (gN 2) wYes (wTup (wCons (wC (.int 0)) (wCons (wC (.int 0)) wNil))))
  (wSeq (wFor (wEnumerate (wCons (wCB fSortD (wCons (wLc [4, 2] (wEnumerate (wCons (wVar 0) wNil)) (gT 2 (gsCons (gN 4) (gsCons (gN 2) gsNil))) wYes (wTup (wCons (wVar 2) (wCons (wVar 4) wNil)))) wNil)) wNil)) (gT 2 (gsCons (gN 5) (gsCons (gT 2 (gsCons (gN 2) (gsCons (gN 4) gsNil))) gsNil))) (wSto 3 (wVar 4) (wTup (wCons (wBin fDiv (wVar 5) (wVar 1)) (wCons (wBin fMod (wVar 5) (wVar 1)) wNil)))))
  (wRetOwn 3)))
def N_in_ranks : List Str := ["places", "width", "spot", "found", "person", "at"]
theorem sp_in_ranks : ∀ ds Q E, ds.length = 2 → F_in_ranks ds Q E → w_in_ranks (fun _ => Q .non) Q Ev0 (startG N_in_ranks ds) := by
  intro ds Q E hl h
  match ds, h with
  | [a, b], ⟨ps, w, e1, e2, hw, hw2, hz, hn, h⟩ =>
    subst e1 e2
    obtain ⟨zs, ez, hlz, h1, h2⟩ := RG.sort_spots hn
    simp only [w_in_ranks, N_in_ranks, startG]
    simp [RG.spotsD]
    refine lcD_map (fun _ => RG.spotD (0, 0)) (by simp; omega) (fun d hd Qt hq => by simpa [wipeG, RG.spotD] using hq) ?_
    refine ⟨_, rfl, ?_⟩
    simp
    refine lcD_map swapD (by rw [enumD_len]; simp; omega) (fun d hd Qt hq => ?_) ?_
    · rw [RG.enumD_spots] at hd
      obtain ⟨e, _, rfl⟩ := List.mem_map.mp hd
      simpa [wipeG] using hq
    · rw [enum_swap]
      simp only [fSortD_1]
      refine ⟨sortable_enc _, ?_⟩
      rw [ez]
      simp
      refine ⟨fun i Γ => ∃ fs x y z, Γ = [.dat (.lst (ps.map RG.spotD)), .dat (.int w), x, .own fs, y, z] ∧ fs.length = ps.length ∧ ∀ j p s, zs[j]? = some (s, p) → j < i → fs[p]? = some (RG.spotD (j / w, j % w)), ⟨_, _, _, _, rfl, by simp, fun j p s _ h => by omega⟩, fun i d Γ' hd hI => ?_, fun Γ' hI => ?_⟩
      · obtain ⟨fs, x, y, z, rfl, hf, hI⟩ := hI
        rw [enumD_get, List.getElem?_map] at hd
        cases hzi : zs[i]? with
        | none => rw [hzi] at hd; cases hd
        | some e =>
          rw [hzi] at hd
          obtain ⟨s, p⟩ := e
          cases hd
          have hp : p < ps.length := (List.getElem?_eq_some_iff.mp (h2 i s p hzi).1).1
          have sw : Sm (w : Int) := .of (by omega) (by omega)
          have hw0 : (0 : Int) < w := by omega
          have hpf : p < fs.length := by omega
          simp [RG.encE, sw, hw]
          refine ⟨p, ixN_nat hpf, hf, fun j q a b hj hji => ?_⟩
          by_cases hjp : q = p
          · subst hjp
            have : i = j := nodup_p hlz h2 hzi hj
            subst this
            rw [List.getElem?_set_self hpf]
            simp [RG.spotD]
          · rw [List.getElem?_set_ne (Ne.symm hjp)]
            refine hI j q (a, b) hj ?_
            rcases Nat.lt_or_ge j i with z | z
            · exact z
            · have : j = i := by omega
              subst this
              rw [hzi] at hj
              cases hj
              exact absurd rfl hjp
      · obtain ⟨fs, x, y, z, rfl, hf, hI⟩ := hI
        rw [enumD_len, List.length_map] at hI
        simp
        rw [ranks_done hlz h1 h2 hf hI]
        exact h
/-! #### moved -/
def w_moved : WS := (wSeq (wAsg (wVar 3) (gT 2 (gsCons (gN 4) (gsCons (gN 5) gsNil))))
  (wSeq (wIf (wB (wBin fEq (wVar 0) (wC (.str "right")))) (wRet (wTup (wCons (wVar 5) (wCons (wBin fSub (wBin fSub (wVar 1) (wC (.int 1))) (wVar 4)) wNil)))) wSkip)
  (wSeq (wIf (wB (wBin fEq (wVar 0) (wC (.str "left")))) (wRet (wTup (wCons (wBin fSub (wBin fSub (wVar 2) (wC (.int 1))) (wVar 5)) (wCons (wVar 4) wNil)))) wSkip)
  (wSeq (wIf (wB (wBin fEq (wVar 0) (wC (.str "about")))) (wRet (wTup (wCons (wBin fSub (wBin fSub (wVar 1) (wC (.int 1))) (wVar 4)) (wCons (wBin fSub (wBin fSub (wVar 2) (wC (.int 1))) (wVar 5)) wNil)))) wSkip)
  (wSeq (wIf (wB (wBin fEq (wVar 0) (wC (.str "change")))) (wRet (wTup (wCons (wBin fSub (wBin fSub (wVar 1) (wC (.int 1))) (wVar 4)) (wCons (wVar 5) wNil)))) wSkip)
  (wSeq (wIf (wB (wBin fEq (wVar 0) (wC (.str "double")))) (wRet (wTup (wCons (wBin fAdd (wBin fMul (wC (.int 2)) (wVar 4)) (wBin fMod (wVar 5) (wC (.int 2)))) (wCons (wBin fDiv (wVar 5) (wC (.int 2))) wNil)))) wSkip)
  (wSeq (wIf (wBand (wB (wBin fEq (wVar 0) (wC (.str "undouble")))) (wB (wBin fEq (wBin fMod (wVar 1) (wC (.int 2))) (wC (.int 0))))) (wRet (wTup (wCons (wBin fDiv (wVar 4) (wC (.int 2))) (wCons (wBin fAdd (wBin fMul (wC (.int 2)) (wVar 5)) (wBin fMod (wVar 4) (wC (.int 2)))) wNil)))) wSkip)
  (wRet (wVar 3)))))))))
def N_moved : List Str := ["word", "ranks", "files", "spot", "rank", "file"]
theorem sp_moved : ∀ ds Q E, ds.length = 4 → F_moved ds Q E → w_moved (fun _ => Q .non) Q Ev0 (startG N_moved ds) := by
  intro ds Q E hl h
  match ds, h with
  | [a, b, c, d], ⟨w, R, F, s, e1, e2, e3, e4, h1, h2, h3, h4, h⟩ =>
    subst e1 e2 e3 e4
    obtain ⟨r, f⟩ := s
    simp only at h1 h2
    obtain ⟨s1, s2, s3, s4, s5, s6, s7, s8, s9⟩ := w_str
    simp only [w_moved, N_moved, startG, s1, s2, s3, s4, s5, s6]
    have sm2 : Sm 2 := .of (by omega) (by omega)
    have smr : Sm (r : Int) := .of (by omega) (by omega)
    have smf : Sm (f : Int) := .of (by omega) (by omega)
    simp [RG.spotD, flw12, eqw, sm2, smr, smf]
    have cR : ((R - 1 - r : Nat) : Int) = (R : Int) - 1 - r := by omega
    have cF : ((F - 1 - f : Nat) : Int) = (F : Int) - 1 - f := by omega
    cases w <;> simp [RG.moved, RG.spotD, cR, cF] at h ⊢ <;> first | exact h | skip
    by_cases hp : R % 2 = 0
    · rw [if_pos (by omega)]
      simpa [hp] using h
    · rw [if_neg (by omega)]
      simpa [hp] using h
/-! #### obeyed -/
def w_obeyed : WS := (wSeq (wAsg (wVar 1) (gT 3 (gsCons (gN 2) (gsCons (gN 3) (gsCons (gN 4) gsNil)))))
  (wSeq (wAsg (wCB fLen (wCons (wVar 4) wNil)) (gN 5))
  (wSeq (wIf (wB (wBin fEq (wVar 0) (wC (.str "line")))) (wRet (wTup (wCons (wC (.int 1)) (wCons (wVar 5) (wCons (wCall 2 F_in_ranks (wCons (wVar 4) (wCons (wVar 5) wNil))) wNil))))) wSkip)
  (wSeq (wIf (wB (wBin fIn (wVar 0) (wTup (wCons (wC (.str "column 2")) (wCons (wC (.str "column 3")) wNil))))) (wSeq (wAsg (wUn (fKIx k_FACTORS) (wVar 0)) (gN 6))
  (wRet (wTup (wCons (wBin fDiv (wBin fSub (wBin fAdd (wVar 5) (wVar 6)) (wC (.int 1))) (wVar 6)) (wCons (wVar 6) (wCons (wCall 2 F_in_ranks (wCons (wVar 4) (wCons (wVar 6) wNil))) wNil)))))) wSkip)
  (wRet (wBin fAdd (wCall 3 F_resized (wCons (wVar 0) (wCons (wVar 2) (wCons (wVar 3) wNil)))) (wTup (wCons (wLc [7] (wIt (wVar 4)) (gN 7) wYes (wCall 4 F_moved (wCons (wVar 0) (wCons (wVar 2) (wCons (wVar 3) (wCons (wVar 7) wNil)))))) wNil))))))))
def N_obeyed : List Str := ["word", "state", "ranks", "files", "places", "number", "width", "spot"]
theorem sp_obeyed : ∀ ds Q E, ds.length = 2 → F_obeyed ds Q E → w_obeyed (fun _ => Q .non) Q Ev0 (startG N_obeyed ds) := by
  intro ds Q E hl h
  match ds, h with
  | [a, b], ⟨w, st, e1, e2, ⟨hn, hz, hp, hR, hF, hs⟩, h⟩ =>
    subst e1 e2
    obtain ⟨R, F, ps⟩ := st
    simp only at hn hz hp hR hF hs
    obtain ⟨s1, s2, s3, s4, s5, s6, s7, s8, s9⟩ := w_str
    simp only [w_obeyed, N_obeyed, startG, s7, s8, s9]
    have e1 : D.inl (wD w) [wD .col2, wD .col3] = (decide (w = .col2) || decide (w = .col3)) := by cases w <;> decide +kernel
    simp [RG.sqD, RG.spotsD, flw12, eqw, e1, flatw]
    have mv : ∀ Γ : List Sl, Γ.length = 8 → Γ[0]? = some (.dat (wD w)) → Γ[2]? = some (.dat (.int R)) → Γ[3]? = some (.dat (.int F)) → RG.obeyed w (R, F, ps) = ((RG.resized w R F).1, (RG.resized w R F).2, ps.map (RG.moved w R F)) →
        F_resized [wD w, .int R, .int F] (fun x => lcD [7] (gN 7) wYes (wCall 4 F_moved (wCons (wVar 0) (wCons (wVar 2) (wCons (wVar 3) (wCons (wVar 7) wNil))))) Γ (fun x_1 => fAdd x (.tup [x_1]) Q) (ps.map RG.spotD)) Ev0 := fun Γ g8 g0 g2 g3 hob => by
      refine ⟨w, R, F, rfl, rfl, rfl, hR, hF, lcD_map (fun d => match d with | .tup [.int r, .int f] => RG.spotD (RG.moved w R F (r.toNat, f.toNat)) | _ => .non) (by simp; omega) (fun d hd Qt hq => ?_) ?_⟩
      · obtain ⟨s, hsm, rfl⟩ := List.mem_map.mp hd
        obtain ⟨a, b⟩ := hs s hsm
        match Γ, g8 with
        | [x0, x1, x2, x3, x4, x5, x6, x7], _ =>
          simp at g0 g2 g3
          subst g0 g2 g3
          simp [wipeG]
          exact ⟨w, R, F, s, rfl, rfl, rfl, rfl, a, b, hR, hF, by simpa [RG.spotD] using hq⟩
      · have e : (ps.map RG.spotD).map (fun d => match d with | .tup [.int r, .int f] => RG.spotD (RG.moved w R F (r.toNat, f.toNat)) | _ => .non) = (ps.map (RG.moved w R F)).map RG.spotD := by
          rw [List.map_map, List.map_map]
          refine List.map_congr_left fun s _ => ?_
          simp [RG.spotD]
        rw [e]
        simp [szD, sizeLine_eq]
        rw [hob] at h
        simpa [RG.sqD, RG.spotsD] using h
    have col : ∀ k : Nat, 1 < k → k < 4 → RG.obeyed w (R, F, ps) = ((ps.length + k - 1) / k, k, RG.inRanks ps k) → ∀ G : D → Prop, (G (RG.spotsD (RG.inRanks ps k)) → True) → (∀ x, x = RG.spotsD (RG.inRanks ps k) → G x) → F_in_ranks [.lst (ps.map RG.spotD), .int k] G Ev0 := fun k k1 k2 hob G _ hG =>
      ⟨ps, k, rfl, rfl, by omega, by omega, hz, hn, hG _ rfl⟩
    cases w
    case line =>
      simp
      exact ⟨ps, ps.length, rfl, rfl, hp, by omega, hz, hn, h⟩
    case col2 =>
      simp
      refine ⟨2, by decide +kernel, ?_⟩
      have sm2 : Sm 2 := .of (by omega) (by omega)
      simp [sm2]
      refine ⟨ps, 2, rfl, rfl, by omega, by omega, hz, hn, ?_⟩
      have e : (((ps.length + 1) / 2 : Nat) : Int) = ((ps.length : Int) + 2 - 1) / 2 := by omega
      simp [RG.obeyed, RG.sqD] at h
      rw [show ((ps.length : Int) + 2 - 1) = (ps.length : Int) + 1 by omega]
      exact h
    case col3 =>
      simp
      refine ⟨3, by decide +kernel, ?_⟩
      have sm3 : Sm 3 := .of (by omega) (by omega)
      simp [sm3]
      refine ⟨ps, 3, rfl, rfl, by omega, by omega, hz, hn, ?_⟩
      simp [RG.obeyed, RG.sqD] at h
      rw [show ((ps.length : Int) + 3 - 1) = (ps.length : Int) + 2 by omega]
      exact h
    all_goals
      simp
      exact mv _ rfl rfl rfl rfl rfl
/-! #### drilled -/
def w_drilled : WS := (wSeq (wAsg (wCall 1 F_first_state (wCons (wVar 1) wNil)) (gN 2))
  (wSeq (wFor (wIt (wVar 0)) (gN 3) (wAsg (wCall 2 F_obeyed (wCons (wVar 3) (wCons (wVar 2) wNil))) (gN 2)))
  (wRet (wVar 2))))
def N_drilled : List Str := ["row", "number", "state", "word"]
theorem sp_drilled : ∀ ds Q E, ds.length = 2 → F_drilled ds Q E → w_drilled (fun _ => Q .non) Q Ev0 (startG N_drilled ds) := by
  intro ds Q E hl h
  match ds, h with
  | [a, b], ⟨ws, n, e1, e2, h0, hn, hw, h⟩ =>
    subst e1 e2
    simp only [w_drilled, N_drilled, startG]
    simp [F_first_state, rowD]
    refine ⟨n, rfl, hn, fun i Γ => ∃ x, Γ = [.dat (rowD ws), .dat (.int n), .dat (RG.sqD (RG.drilled (ws.take i) n)), x], ⟨_, rfl⟩, fun i d Γ' hd hI => ?_, fun Γ' hI => ?_⟩
    · obtain ⟨x, rfl⟩ := hI
      obtain ⟨w, ew, rfl⟩ := rowD_get hd
      simp
      refine ⟨w, _, rfl, rfl, drilled_ok h0 hn (by rw [List.length_take]; omega), ?_⟩
      have : ws.take (i + 1) = ws.take i ++ [w] := by rw [List.take_add_one, ew]; rfl
      rw [this, drilled_snoc]
    · obtain ⟨x, rfl⟩ := hI
      rw [List.length_map, List.take_length]
      simpa using h
/-! #### beside_in -/
def w_beside_in : WS := (wSeq (wAsg (wBin fIx (wCall 2 F_drilled (wCons (wVar 0) (wCons (wVar 1) wNil))) (wC (.int 2))) (gN 2))
  (wSeq (wAsg (wCB fLZip (wCons (wVar 2) (wCons (wSl (wVar 2) (wSo (wC (.int 1))) wNo) wNil))) (gN 3))
  (wRet (wCB fLen (wCons (wLc [4, 5] (wIt (wVar 3)) (gT 2 (gsCons (gN 4) (gsCons (gN 5) gsNil))) (wBand (wB (wBin fEq (wBin fIx (wVar 4) (wC (.int 0))) (wBin fIx (wVar 5) (wC (.int 0))))) (wB (wBin fEq (wCB fAbs (wCons (wBin fSub (wBin fIx (wVar 4) (wC (.int 1))) (wBin fIx (wVar 5) (wC (.int 1)))) wNil)) (wC (.int 1))))) (wC (.int 1))) wNil)))))
def N_beside_in : List Str := ["row", "number", "places", "pairs", "one", "other"]
theorem sp_beside_in : ∀ ds Q E, ds.length = 2 → F_beside_in ds Q E → w_beside_in (fun _ => Q .non) Q Ev0 (startG N_beside_in ds) := by
  intro ds Q E hl h
  match ds, h with
  | [a, b], ⟨ws, n, e1, e2, h0, hn, hw, h⟩ =>
    subst e1 e2
    simp only [w_beside_in, N_beside_in, startG]
    simp
    refine ⟨ws, n, rfl, rfl, h0, hn, hw, ?_⟩
    have hlen : (RG.drilled ws n).2.2.length = n := RG.drilled_len ws n
    rw [besideN_cnt] at h
    simp [RG.sqD, RG.spotsD]
    generalize (RG.drilled ws n).2.2 = ps at hlen h
    refine ⟨_, rfl, ?_⟩
    simp [cut1]
    have et : (ps.map RG.spotD).tail = ps.tail.map RG.spotD := List.map_tail.symm
    simp only [et, zip_prD]
    obtain ⟨q, hq⟩ := ex_fun (β := Bool) prD prD_inj fun p => RG.bsd p.1 p.2
    have hz : (ps.zip ps.tail).length ≤ n := by simp; omega
    refine lcD_pure q (fun _ => .int 1) (by rw [List.length_map]; omega) (fun d hd Qt Qf ht hf => ?_) ?_
    · obtain ⟨p, hpm, rfl⟩ := List.mem_map.mp hd
      obtain ⟨s, t⟩ := p
      rw [hq, bsd_int] at ht hf
      simp [wipeG, prD, RG.spotD]
      refine ⟨_, rfl, _, rfl, fl_int _ _, fl_int _ _, ?_⟩
      rw [eq_int]
      by_cases h1 : (s.1 : Int) = t.1
      · simp only [h1, decide_true, Bool.true_and, if_true] at ht hf ⊢
        refine ⟨_, rfl, _, rfl, ?_⟩
        simp
        by_cases h2 : (if (s.2 : Int) - t.2 < 0 then -((s.2 : Int) - t.2) else (s.2 : Int) - t.2) = 1
        · simp only [h2, decide_true, if_true] at ht ⊢
          exact ht trivial
        · simp only [h2, decide_false] at hf ⊢
          exact hf trivial
      · simp only [h1, decide_false, Bool.false_and] at hf ⊢
        exact hf trivial
    · rw [filter_enc prD _ q hq, List.map_map]
      simp
      exact h
/-! #### common_multiple -/
def w_common_multiple : WS := (wSeq (wPar 2 3 (wCons (wVar 0) (wCons (wVar 1) wNil)))
  (wSeq (wWhile (wB (wBin fGt (wVar 3) (wC (.int 0)))) (wPar 2 3 (wCons (wVar 3) (wCons (wBin fMod (wVar 2) (wVar 3)) wNil))))
  (wRet (wBin fDiv (wBin fMul (wVar 0) (wVar 1)) (wVar 2)))))
def N_common_multiple : List Str := ["one", "other", "first", "second"]
theorem sp_common_multiple : ∀ ds Q E, ds.length = 2 → F_common_multiple ds Q E → w_common_multiple (fun _ => Q .non) Q Ev0 (startG N_common_multiple ds) := by
  intro ds Q E hl h
  match ds, h with
  | [a, b], ⟨x, y, e1, e2, hx, hy, bx, by_, h⟩ =>
    subst e1 e2
    simp only [w_common_multiple, N_common_multiple, startG]
    simp
    refine ⟨fun m Γ => ∃ f s : Nat, Γ = [.dat (.int x), .dat (.int y), .dat (.int f), .dat (.int s)] ∧ 0 < f ∧ Nat.gcd f s = Nat.gcd x y ∧ m = s, ⟨_, x, y, rfl, hx, rfl, rfl⟩, ?_⟩
    rintro m Γ ⟨f, s, rfl, h0, hg, hm⟩
    subst hm
    simp
    by_cases hs : 0 < m
    · refine .inr ⟨hs, ?_⟩
      simp [hs]
      refine ⟨f % m, Nat.mod_lt _ hs, m, f % m, ⟨rfl, by simp⟩, hs, ?_, rfl⟩
      rw [← hg, Nat.gcd_comm f m, Nat.gcd_rec m f, Nat.gcd_comm]
    · have : m = 0 := by omega
      subst this
      rw [Nat.gcd_zero_right] at hg
      subst hg
      have hd : Nat.gcd x y ≤ x := Nat.gcd_le_left _ hx
      refine .inl ⟨rfl, ⟨bx, by_⟩, ?_⟩
      rw [if_pos (by omega)]
      refine ⟨Sm.le bx hd, ?_⟩
      have e : (x : Int) * (y : Int) / ((Nat.gcd x y : Nat) : Int) = ((Nat.lcm x y : Nat) : Int) := by
        unfold Nat.lcm
        rw [Int.natCast_ediv, Int.natCast_mul]
      rw [e]
      exact h
/-! #### beside_shares -/
def w_beside_shares : WS := (wSeq (wDrop (wCall 1 F_require_row (wCons (wVar 0) wNil)))
  (wSeq (wParRD 1 2 (wCall 1 F_period_of (wCons (wVar 0) wNil)))
  (wSeq (wFor (wIt (wCall 1 F_steady_numbers (wCons (wVar 0) wNil))) (gN 3) (wSeq (wAsg (wBin fSub (wCall 2 F_beside_in (wCons (wVar 0) (wCons (wBin fAdd (wVar 3) (wVar 1)) wNil))) (wCall 2 F_beside_in (wCons (wVar 0) (wCons (wVar 3) wNil)))) (gN 4))
  (wSeq (wAsg (wIfE (wB (wBin fGt (wVar 4) (wC (.int 0)))) (wBin fDiv (wBin fMul (wVar 4) (wVar 1)) (wCall 2 F_common_multiple (wCons (wVar 4) (wCons (wVar 1) wNil)))) (wVar 1)) (gN 5))
  (wDPut 2 (wKey (wCons (wBin fDiv (wVar 4) (wVar 5)) (wCons (wBin fDiv (wVar 1) (wVar 5)) wNil)))))))
  (wRet (wSortK 2)))))
def N_beside_shares : List Str := ["row", "step", "found", "number", "more", "divisor"]
theorem sp_beside_shares : ∀ ds Q E, ds.length = 1 → F_beside_shares ds Q E → w_beside_shares (fun _ => Q .non) Q Ev0 (startG N_beside_shares ds) := by
  intro ds Q E hl h
  match ds, h with
  | [a], ⟨ws, e1, hR, h⟩ =>
    subst e1
    have hp := pOf_9 hR
    have hp0 := pOf_pos ws
    simp only [w_beside_shares, N_beside_shares, startG]
    simp [okV_row, isRowD_row hR]
    refine ⟨ws, rfl, hR.1, ws, rfl, hR.1, ?_⟩
    refine ⟨_, .inl rfl, fun i Γ => ∃ a b c, Is Γ [.dat (rowD ws), .dat (.int (pOf ws)), .dic (keysTo ws i), a, b, c], ⟨_, _, _, rfl⟩, fun i d Γ' hd hI => ?_, fun Γ' hI => ?_⟩
    · obtain ⟨_, _, _, rfl⟩ := hI
      obtain ⟨hi, rfl⟩ := rangeL_get hd
      obtain ⟨q1, q2, _⟩ := shr_ok (row_shapes hR) hi
      have hw16 : ws.length ≤ 16 := by have := hR.1; omega
      have hlen := keysTo_len ws i
      rw [show (8 * (pOf ws : Int) + (i : Nat)) = ((8 * pOf ws + i : Nat) : Int) by simp]
      generalize hn : 8 * pOf ws + i = n at q1 q2
      have b1 := besideN_lt ws (n + pOf ws)
      simp
      refine ⟨ws, n + pOf ws, rfl, by simp, by omega, by omega, hw16, ws, n, rfl, rfl, by omega, by omega, hw16, ?_⟩
      simp only [q1]
      have sP : Sm (pOf ws : Int) := .of (by omega) (by omega)
      have sS : Sm (shr ws n : Int) := .of (by omega) (by omega)
      have key : keysTo ws (i + 1) = putP (keysTo ws i) (lowK (shr ws n) (pOf ws)) := by rw [keysTo_succ, hn]
      generalize shr ws n = a at *
      generalize eP : pOf ws = P at *
      have fin : ∀ (g : Nat), g = Nat.gcd a P → (lowK a P) = ((a : Int) / (g : Int), (P : Int) / (g : Int)) := fun g hg => by
        rw [hg]
        unfold lowK
        rw [Int.natCast_ediv, Int.natCast_ediv]
      rw [fSub_1, q1]
      by_cases ha : 0 < a
      · simp [ha, sS, sP]
        refine ⟨a, P, rfl, rfl, ha, by omega, sS, sP, ?_⟩
        have hg0 : 0 < Nat.gcd a P := Nat.gcd_pos_of_pos_left _ ha
        have hl0 : 0 < Nat.lcm a P := Nat.lcm_pos ha (by omega)
        have hgl : (a * P) / Nat.lcm a P = Nat.gcd a P := by
          rw [← Nat.gcd_mul_lcm a P, Nat.mul_div_cancel _ hl0]
        have hl9 : Nat.lcm a P ≤ 81 := by
          have h1 : Nat.lcm a P ≤ a * P := Nat.le_of_dvd (Nat.mul_pos ha (by omega)) (Nat.lcm_dvd (Nat.dvd_mul_right _ _) (Nat.dvd_mul_left _ _))
          have h2 : a * P ≤ 9 * 9 := Nat.mul_le_mul (by omega) (by omega)
          omega
        have hg9 : Nat.gcd a P ≤ 9 := Nat.le_trans (Nat.gcd_le_right _ (by omega)) (by omega)
        have sl : Sm (Nat.lcm a P : Int) := .of (by omega) (by omega)
        have sg : Sm (Nat.gcd a P : Int) := .of (by omega) (by omega)
        have ed : (a : Int) * (P : Int) / (Nat.lcm a P : Int) = (Nat.gcd a P : Int) := by
          rw [← Int.natCast_mul, ← Int.natCast_ediv, hgl]
        have f := fin _ rfl
        simp [hl0, sl, ed, hg0, sg]
        refine ⟨by omega, ?_⟩
        rw [← f, key]
        exact ⟨_, _, _, rfl⟩
      · have h0 : a = 0 := by omega
        subst h0
        have f := fin P (by simp)
        have hPs : 0 < P := by omega
        simp [hPs, sP] at f ⊢
        refine ⟨by omega, ?_⟩
        rw [key, f]
        exact ⟨_, _, _, rfl⟩
    · obtain ⟨_, _, _, rfl⟩ := hI
      rw [rangeL_len]
      simp
      exact ⟨keysOk_all _, h⟩
/-! #### _law_far -/
def w__law_far : WS := (wSeq (wAsg (wLst (wCons (wBin fPow (wC (.int 10)) (wC (.int 12))) (wCons (wBin fSub (wBin fPow (wC (.int 10)) (wC (.int 12))) (wCall 2 F__law_pick (wCons (wVar 0) (wCons (wC (.int 50)) wNil)))) (wCons (wBin fAdd (wC (.int 1)) (wCall 2 F__law_pick (wCons (wVar 0) (wCons (wBin fPow (wC (.int 10)) (wC (.int 12))) wNil)))) wNil)))) (gN 1))
  (wRet (wCall 2 F__law_chosen (wCons (wVar 0) (wCons (wBin fAdd (wVar 1) (wLst (wCons (wBin fAdd (wC (.int 1)) (wCall 2 F__law_pick (wCons (wVar 0) (wCons (wBin fPow (wC (.int 10)) (wC (.int 6))) wNil)))) wNil))) wNil)))))
def N__law_far : List Str := ["source", "some"]
theorem sp__law_far : ∀ ds Q E, ds.length = 1 → F__law_far ds Q E → w__law_far (fun _ => Q .non) Q Ev0 (startG N__law_far ds) := by
  intro ds Q E hl h
  match ds, h with
  | [a], ⟨e1, h⟩ =>
    subst e1
    simp only [w__law_far, N__law_far, startG]
    simp
    refine pickN 50 (by decide) (by decide) fun a ha => ?_
    simp only [fSub_1]
    refine pickN 1000000000000 (by decide) (by decide) fun b hb => ?_
    simp only [fAdd_1]
    refine pickN 1000000 (by decide) (by decide) fun c hc => ?_
    simp only [fAdd_1]
    refine ⟨by rw [sizeLine_eq]; decide, _, rfl, .inl rfl, by simp, by simp, fun x hx => ?_⟩
    simp at hx
    rcases hx with rfl | rfl | rfl | rfl
    · exact h 1000000000000 (by decide) (by decide)
    · rw [show (1000000000000 : Int) - (a : Int) = ((1000000000000 - a : Nat) : Int) by omega]
      exact h _ (by omega) (by omega)
    · rw [show (1 : Int) + (b : Int) = ((1 + b : Nat) : Int) by omega]
      exact h _ (by omega) (by omega)
    · rw [show (1 : Int) + (c : Int) = ((1 + c : Nat) : Int) by omega]
      exact h _ (by omega) (by omega)
/-! #### is_integer -/
def w_is_integer : WS := (wRet (wAnd (wCB fIsi (wCons (wVar 0) (wCons (wC (.ty "int")) wNil))) (wAnd (wNot (wCB fIsi (wCons (wVar 0) (wCons (wC (.ty "bool")) wNil)))) (wChain (fun i j => decide (i ≤ j)) (fun i j => decide (i ≤ j)) (wVar 1) (wVar 0) (wVar 2)))))
def N_is_integer : List Str := ["value", "low", "high"]
theorem sp_is_integer : ∀ ds Q E, ds.length = 3 → F_is_integer ds Q E → w_is_integer (fun _ => Q .non) Q Ev0 (startG N_is_integer ds) := by
  intro ds Q E hl h
  match ds, h with
  | [d, a, b], ⟨lo, hi, e1, e2, hd, h⟩ =>
    subst e1 e2
    simp only [w_is_integer, N_is_integer, startG]
    cases d <;> first | (cases hd; done) | skip
    case int i =>
      simp [D.noTy, D.isi, isiN, D.tn]
      by_cases h1 : lo ≤ i
      · simpa [isIntD, h1] using h
      · simpa [isIntD, h1] using h
    all_goals simpa [D.noTy, D.isi, isiN, D.tn, isIntD] using h
/-! #### require_number -/
def w_require_number : WS := (wIf (wBnot (wB (wCall 3 F_is_integer (wCons (wVar 0) (wCons (wVar 1) (wCons (wVar 2) wNil)))))) wNever wSkip)
def N_require_number : List Str := ["value", "low", "high"]
theorem sp_require_number : ∀ ds Q E, ds.length = 3 → F_require_number ds Q E → w_require_number (fun _ => Q .non) Q Ev0 (startG N_require_number ds) := by
  intro ds Q E hl h
  match ds, h with
  | [d, a, b], ⟨v, lo, hi, e1, e2, e3, h1, h2, h⟩ =>
    subst e1 e2 e3
    simp [w_require_number, N_require_number, startG, F_is_integer, D.noTy, isIntD, h1, h2, h]
/-! #### is_small -/
def w_is_small : WS := (wRet (wBin fLt (wVar 1) (wBin fMul (wC (.int 9)) (wCall 1 F_period_of (wCons (wVar 0) wNil)))))
def N_is_small : List Str := ["row", "number"]
theorem sp_is_small : ∀ ds Q E, ds.length = 2 → F_is_small ds Q E → w_is_small (fun _ => Q .non) Q Ev0 (startG N_is_small ds) := by
  intro ds Q E hl h
  match ds, h with
  | [a, b], ⟨ws, n, e1, e2, hw, h⟩ =>
    subst e1 e2
    simp only [w_is_small, N_is_small, startG]
    simp [F_period_of]
    have hp := pOf_8 hw
    refine ⟨ws, rfl, hw, ⟨.of (by omega) (by omega), .of (by omega) (by omega)⟩, ?_⟩
    have e : decide ((n : Int) < 9 * (pOf ws : Int)) = decide (n < 9 * pOf ws) := decide_eq_decide.mpr (by omega)
    rw [e]
    exact h
/-! #### small_number -/
def w_small_number : WS := (wSeq (wAsg (wCall 1 F_period_of (wCons (wVar 0) wNil)) (gN 2))
  (wSeq (wAsg (wBin fAdd (wBin fMul (wC (.int 8)) (wVar 2)) (wBin fMod (wBin fSub (wVar 1) (wBin fMul (wC (.int 8)) (wVar 2))) (wVar 2))) (gN 3))
  (wRet (wTup (wCons (wVar 3) (wCons (wBin fDiv (wBin fSub (wVar 1) (wVar 3)) (wVar 2)) wNil))))))
def N_small_number : List Str := ["row", "number", "step", "small"]
theorem sp_small_number : ∀ ds Q E, ds.length = 2 → F_small_number ds Q E → w_small_number (fun _ => Q .non) Q Ev0 (startG N_small_number ds) := by
  intro ds Q E hl h
  match ds, h with
  | [a, b], ⟨ws, n, e1, e2, hw, hn, h⟩ =>
    subst e1 e2
    simp only [w_small_number, N_small_number, startG]
    simp [F_period_of]
    have hp := pOf_8 hw
    have s1 : Sm (pOf ws : Int) := .of (by omega) (by omega)
    have s8 : Sm 8 := .of (by omega) (by omega)
    refine ⟨ws, rfl, hw, ?_⟩
    simp [s1, s8, show 0 < pOf ws by omega]
    have hr := Nat.mod_lt n (show 0 < pOf ws by omega)
    have e1 : ((8 * pOf ws + n % pOf ws : Nat) : Int) = 8 * (pOf ws : Int) + (n : Int) % (pOf ws : Int) := by simp
    have e2 : (((n - (8 * pOf ws + n % pOf ws)) / pOf ws : Nat) : Int) = ((n : Int) - (8 * (pOf ws : Int) + (n : Int) % (pOf ws : Int))) / (pOf ws : Int) := by
      rw [Int.natCast_ediv, Int.ofNat_sub (by omega), e1]
    rw [← e1, ← Int.ofNat_sub (by omega), ← Int.natCast_ediv]
    exact h
/-! #### grown -/
def w_grown : WS := (wRet (wCB fTuple (wCons (wLc [3, 4] (wZip2 (wCons (wVar 0) (wCons (wVar 1) wNil))) (gT 2 (gsCons (gN 3) (gsCons (gN 4) gsNil))) wYes (wBin fAdd (wVar 3) (wBin fMul (wBin fSub (wVar 4) (wVar 3)) (wVar 2)))) wNil)))
def N_grown : List Str := ["one", "other", "times", "first", "second"]
theorem sp_grown : ∀ ds Q E, ds.length = 3 → F_grown ds Q E → w_grown (fun _ => Q .non) Q Ev0 (startG N_grown ds) := by
  intro ds Q E hl h
  match ds, h with
  | [a, b, c], .inl ⟨p, q, t, e1, e2, e3, hb, h⟩ =>
    subst e1 e2 e3
    simp only [w_grown, N_grown, startG]
    simp [spI, zipD]
    have st : Sm t := .of (by omega) (by omega)
    have s1 : Sm (q.1 - p.1) := .of (by omega) (by omega)
    have s2 : Sm (q.2 - p.2) := .of (by omega) (by omega)
    refine lcD_map (fun d => match d with | .tup [.int x, .int y] => .int (x + (y - x) * t) | _ => .non) (by simp) (fun d hd Qt hq => ?_) ?_
    · simp at hd
      rcases hd with rfl | rfl <;> simpa [wipeG, st, s1, s2] using hq
    · simpa [spI, grow] using h
  | [a, b, c], .inr ⟨x, y, t, e1, e2, e3, hb, h⟩ =>
    subst e1 e2 e3
    simp only [w_grown, N_grown, startG]
    simp [zipD]
    have st : Sm t := .of (by omega) (by omega)
    have s1 : Sm (y - x) := .of (by omega) (by omega)
    refine lcD_map (fun d => match d with | .tup [.int x, .int y] => .int (x + (y - x) * t) | _ => .non) (by simp) (fun d hd Qt hq => ?_) ?_
    · simp at hd
      rcases hd with rfl <;> simpa [wipeG, st, s1] using hq
    · simpa using h
/-! #### count_beside -/
def w_count_beside : WS := (wSeq (wDrop (wCall 1 F_require_row (wCons (wVar 0) wNil)))
  (wSeq (wDrop (wCall 3 F_require_number (wCons (wVar 1) (wCons (wC (.int 1)) (wCons (wC (.int 1000000000000)) wNil)))))
  (wSeq (wIf (wB (wCall 2 F_is_small (wCons (wVar 0) (wCons (wVar 1) wNil)))) (wRet (wCall 2 F_beside_in (wCons (wVar 0) (wCons (wVar 1) wNil)))) wSkip)
  (wSeq (wAsg (wCall 2 F_small_number (wCons (wVar 0) (wCons (wVar 1) wNil))) (gT 2 (gsCons (gN 2) (gsCons (gN 3) gsNil))))
  (wSeq (wPar 4 5 (wCons (wCall 2 F_beside_in (wCons (wVar 0) (wCons (wVar 2) wNil))) (wCons (wCall 2 F_beside_in (wCons (wVar 0) (wCons (wBin fAdd (wVar 2) (wCall 1 F_period_of (wCons (wVar 0) wNil))) wNil))) wNil)))
  (wRet (wBin fIx (wCall 3 F_grown (wCons (wTup (wCons (wVar 4) wNil)) (wCons (wTup (wCons (wVar 5) wNil)) (wCons (wVar 3) wNil)))) (wC (.int 0)))))))))
def N_count_beside : List Str := ["row", "number", "small", "times", "one", "other"]
theorem sp_count_beside : ∀ ds Q E, ds.length = 2 → F_count_beside ds Q E → w_count_beside (fun _ => Q .non) Q Ev0 (startG N_count_beside ds) := by
  intro ds Q E hl h
  match ds, h with
  | [a, b], ⟨ws, n, e1, e2, hR, h0, hn, h⟩ =>
    subst e1 e2
    have hp := pOf_8 hR.1
    have hw16 : ws.length ≤ 16 := by have := hR.1; omega
    simp only [w_count_beside, N_count_beside, startG]
    simp [okV_row, isRowD_row hR]
    refine ⟨n, 1, 1000000000000, rfl, rfl, rfl, by omega, by omega, ?_⟩
    refine ⟨ws, n, rfl, rfl, hR.1, ?_⟩
    by_cases hs : n < 9 * pOf ws
    · simp [hs]
      exact ⟨ws, n, rfl, rfl, h0, by omega, hw16, h⟩
    · have q := beside_far (row_shapes hR) (n := n) (by omega)
      have hr := Nat.mod_lt n (show 0 < pOf ws by omega)
      simp [hs]
      refine ⟨ws, n, rfl, rfl, hR.1, by omega, ?_⟩
      generalize hsm : 8 * pOf ws + n % pOf ws = small at q
      simp
      refine ⟨ws, small, rfl, rfl, by omega, by omega, hw16, ?_⟩
      refine ⟨ws, rfl, hR.1, ?_⟩
      simp
      refine ⟨ws, small + pOf ws, rfl, by simp, by omega, by omega, hw16, ?_⟩
      have htm : (n - small) / pOf ws < 10000000000000 := Nat.lt_of_le_of_lt (Nat.div_le_self _ _) (by omega)
      have ht0 : 0 ≤ (((n - small : Nat) : Int) / (pOf ws : Int)) := Int.ediv_nonneg (by omega) (by omega)
      have ht1 : (((n - small : Nat) : Int) / (pOf ws : Int)) < 10000000000000 := by rw [← Int.natCast_ediv]; omega
      have b1 := besideN_lt ws small
      have b2 := besideN_lt ws (small + pOf ws)
      refine .inr ⟨_, _, _, rfl, rfl, rfl, by omega, ?_⟩
      simp
      refine ⟨_, rfl, ?_⟩
      rw [q] at h
      simpa using h
/-! #### _law_lowest -/
def w__law_lowest : WSK := (wSeqK (wPar 2 3 (wCons (wVar 0) (wCons (wVar 1) wNil)))
  (wSeqK (wWhile (wB (wBin fGt (wVar 3) (wC (.int 0)))) (wPar 2 3 (wCons (wVar 3) (wCons (wBin fMod (wCB fInt (wCons (wVar 2) wNil)) (wVar 3)) wNil))))
  (wRetK (wKey (wCons (wBin fDiv (wVar 0) (wVar 2)) (wCons (wBin fDiv (wVar 1) (wVar 2)) wNil))))))
def N__law_lowest : List Str := ["top", "bottom", "one", "two"]
theorem sp__law_lowest : ∀ ds Q E, ds.length = 2 → F__law_lowest ds Q E → w__law_lowest Q (startG N__law_lowest ds) := by
  intro ds Q E hl h
  match ds, h with
  | [a, b], ⟨x, y, e1, e2, hy, bx, by_, h⟩ =>
    subst e1 e2
    simp only [w__law_lowest, N__law_lowest, startG]
    simp
    refine ⟨fun m Γ => ∃ f s : Nat, Γ = [.dat (.int x), .dat (.int y), .dat (.int f), .dat (.int s)] ∧ (0 < f ∨ 0 < s) ∧ Nat.gcd f s = Nat.gcd x y ∧ m = s, ⟨_, x, y, rfl, .inr hy, rfl, rfl⟩, ?_⟩
    rintro m Γ ⟨f, s, rfl, h0, hg, hm⟩
    subst hm
    simp
    by_cases hs : 0 < m
    · refine .inr ⟨hs, ?_⟩
      rw [if_pos hs]
      refine ⟨f % m, Nat.mod_lt _ hs, m, f % m, ⟨rfl, by simp⟩, .inl hs, ?_, rfl⟩
      rw [← hg, Nat.gcd_comm f m, Nat.gcd_rec m f, Nat.gcd_comm]
    · have : m = 0 := by omega
      subst this
      rw [Nat.gcd_zero_right] at hg
      subst hg
      have hd : Nat.gcd x y ≤ y := Nat.gcd_le_right _ hy
      have hf : 0 < Nat.gcd x y := by omega
      refine .inl ⟨rfl, ?_⟩
      rw [if_pos hf]
      refine ⟨Sm.le by_ hd, ?_⟩
      rw [if_pos hf]
      refine ⟨Sm.le by_ hd, ?_⟩
      have e : lowK x y = ((x : Int) / ((Nat.gcd x y : Nat) : Int), (y : Int) / ((Nat.gcd x y : Nat) : Int)) := by
        unfold lowK
        rw [Int.natCast_ediv, Int.natCast_ediv]
      rw [← e]
      exact h
/-! #### _law_step -/
def w__law_step : WS := (wSeq (wIf (wB (wBin fEq (wVar 0) (wC (.str "right")))) (wRet (wTup (wCons (wVar 4) (wCons (wBin fSub (wBin fSub (wVar 1) (wC (.int 1))) (wVar 3)) wNil)))) wSkip)
  (wSeq (wIf (wB (wBin fEq (wVar 0) (wC (.str "left")))) (wRet (wTup (wCons (wBin fSub (wBin fSub (wVar 2) (wC (.int 1))) (wVar 4)) (wCons (wVar 3) wNil)))) wSkip)
  (wSeq (wIf (wB (wBin fEq (wVar 0) (wC (.str "about")))) (wRet (wTup (wCons (wBin fSub (wBin fSub (wVar 1) (wC (.int 1))) (wVar 3)) (wCons (wBin fSub (wBin fSub (wVar 2) (wC (.int 1))) (wVar 4)) wNil)))) wSkip)
  (wSeq (wIf (wB (wBin fEq (wVar 0) (wC (.str "change")))) (wRet (wTup (wCons (wBin fSub (wBin fSub (wVar 1) (wC (.int 1))) (wVar 3)) (wCons (wVar 4) wNil)))) wSkip)
  (wSeq (wIf (wB (wBin fEq (wVar 0) (wC (.str "double")))) (wRet (wTup (wCons (wBin fAdd (wBin fMul (wC (.int 2)) (wVar 3)) (wBin fMod (wCB fInt (wCons (wVar 4) wNil)) (wC (.int 2)))) (wCons (wBin fDiv (wVar 4) (wC (.int 2))) wNil)))) wSkip)
  (wSeq (wIf (wBand (wB (wBin fEq (wVar 0) (wC (.str "undouble")))) (wB (wBin fEq (wBin fMod (wCB fInt (wCons (wVar 1) wNil)) (wC (.int 2))) (wC (.int 0))))) (wRet (wTup (wCons (wBin fDiv (wVar 3) (wC (.int 2))) (wCons (wBin fAdd (wBin fMul (wC (.int 2)) (wVar 4)) (wBin fMod (wCB fInt (wCons (wVar 3) wNil)) (wC (.int 2)))) wNil)))) wSkip)
  (wRet (wTup (wCons (wVar 3) (wCons (wVar 4) wNil))))))))))
def N__law_step : List Str := ["word", "d", "w", "r", "f"]
theorem sp__law_step : ∀ ds Q E, ds.length = 5 → F__law_step ds Q E → w__law_step (fun _ => Q .non) Q Ev0 (startG N__law_step ds) := by
  intro ds Q E hl h
  match ds, h with
  | [a, b, c, d, e], ⟨w, R, F, s, e1, e2, e3, e4, e5, h1, h2, h3, h4, h⟩ =>
    subst e1 e2 e3 e4 e5
    obtain ⟨r, f⟩ := s
    simp only at h1 h2
    obtain ⟨s1, s2, s3, s4, s5, s6, s7, s8, s9⟩ := w_str
    simp only [w__law_step, N__law_step, startG, s1, s2, s3, s4, s5, s6]
    have sm2 : Sm 2 := .of (by omega) (by omega)
    have smr : Sm (r : Int) := .of (by omega) (by omega)
    have smf : Sm (f : Int) := .of (by omega) (by omega)
    simp [flw12, eqw, sm2, smr, smf]
    have cR : ((R - 1 - r : Nat) : Int) = (R : Int) - 1 - r := by omega
    have cF : ((F - 1 - f : Nat) : Int) = (F : Int) - 1 - f := by omega
    cases w <;> simp [RG.moved, RG.spotD, cR, cF] at h ⊢ <;> first | exact h | skip
    by_cases hp : R % 2 = 0
    · rw [if_pos (by omega)]
      simpa [hp] using h
    · rw [if_neg (by omega)]
      simpa [hp] using h
/-! #### _law_ranked -/
def w__law_ranked : WS := (wSeq (wAsg (wCB fSortD (wCons (wLc [6, 7] (wEnumerate (wCons (wVar 0) wNil)) (gT 2 (gsCons (gN 6) (gsCons (gN 7) gsNil))) wYes (wTup (wCons (wVar 7) (wCons (wVar 6) wNil)))) wNil)) (gN 2))
  (wSeq (wOwn 3 (wRepL (wLst (wCons (wTup (wCons (wC (.int 0)) (wCons (wC (.int 0)) wNil))) wNil)) (wCB fLen (wCons (wVar 0) wNil))))
  (wSeq (wFor (wEnumerate (wCons (wVar 2) wNil)) (gT 2 (gsCons (gN 4) (gsCons (gN 5) gsNil))) (wSto 3 (wBin fIx (wVar 5) (wC (.int 1))) (wTup (wCons (wBin fDiv (wVar 4) (wVar 1)) (wCons (wBin fMod (wCB fInt (wCons (wVar 4) wNil)) (wVar 1)) wNil)))))
  (wRetOwn 3))))
def N__law_ranked : List Str := ["spots", "width", "order", "found", "at", "pair", "person_so", "spot"]
theorem sp__law_ranked : ∀ ds Q E, ds.length = 2 → F__law_ranked ds Q E → w__law_ranked (fun _ => Q .non) Q Ev0 (startG N__law_ranked ds) := by
  intro ds Q E hl h
  match ds, h with
  | [a, b], ⟨ps, w, e1, e2, hw, hw2, hz, hn, h⟩ =>
    subst e1 e2
    obtain ⟨zs, ez, hlz, h1, h2⟩ := RG.sort_spots hn
    simp only [w__law_ranked, N__law_ranked, startG]
    simp [RG.spotsD]
    refine lcD_map swapD (by rw [enumD_len]; simp; omega) (fun d hd Qt hq => ?_) ?_
    · rw [RG.enumD_spots] at hd
      obtain ⟨e, _, rfl⟩ := List.mem_map.mp hd
      simpa [wipeG] using hq
    · rw [enum_swap]
      simp only [fSortD_1]
      refine ⟨sortable_enc _, ?_⟩
      rw [ez]
      simp [fRepL, sizeLine_eq]
      refine ⟨⟨by omega, by omega, by omega⟩, fun i Γ => ∃ fs x y z u, Γ = [.dat (.lst (ps.map RG.spotD)), .dat (.int w), .dat (.lst (zs.map RG.encE)), .own fs, x, y, z, u] ∧ fs.length = ps.length ∧ ∀ j p s, zs[j]? = some (s, p) → j < i → fs[p]? = some (RG.spotD (j / w, j % w)), ⟨_, _, _, _, _, rfl, by simp, fun j p s _ h => by omega⟩, fun i d Γ' hd hI => ?_, fun Γ' hI => ?_⟩
      · obtain ⟨fs, x, y, z, u, rfl, hf, hI⟩ := hI
        rw [enumD_get, List.getElem?_map] at hd
        cases hzi : zs[i]? with
        | none => rw [hzi] at hd; cases hd
        | some e =>
          rw [hzi] at hd
          obtain ⟨s, p⟩ := e
          cases hd
          have hp : p < ps.length := (List.getElem?_eq_some_iff.mp (h2 i s p hzi).1).1
          have sw : Sm (w : Int) := .of (by omega) (by omega)
          have hpf : p < fs.length := by omega
          have ha : ∀ x y : D, atI [x, y] 1 = some y := fun _ _ => rfl
          simp [RG.encE, sw, hw, ha]
          have q := rank_loop hlz h2 hzi hpf hI
          simp [RG.spotD] at q
          exact ⟨p, ixN_nat hpf, hf, by simpa [RG.spotD] using q⟩
      · obtain ⟨fs, x, y, z, u, rfl, hf, hI⟩ := hI
        rw [enumD_len, List.length_map] at hI
        simp
        rw [ranks_done hlz h1 h2 hf hI]
        exact h
/-! #### _law_obey -/
def w__law_obey : WS := (wSeq (wAsg (wVar 1) (gT 3 (gsCons (gN 2) (gsCons (gN 3) (gsCons (gN 4) gsNil)))))
  (wSeq (wAsg (wCB fLen (wCons (wVar 4) wNil)) (gN 5))
  (wSeq (wIf (wB (wBin fEq (wVar 0) (wC (.str "line")))) (wRet (wTup (wCons (wC (.int 1)) (wCons (wVar 5) (wCons (wCall 2 F__law_ranked (wCons (wVar 4) (wCons (wVar 5) wNil))) wNil))))) wSkip)
  (wSeq (wIf (wB (wBin fEq (wVar 0) (wC (.str "column 2")))) (wRet (wTup (wCons (wBin fDiv (wBin fAdd (wVar 5) (wC (.int 1))) (wC (.int 2))) (wCons (wC (.int 2)) (wCons (wCall 2 F__law_ranked (wCons (wVar 4) (wCons (wC (.int 2)) wNil))) wNil))))) wSkip)
  (wSeq (wIf (wB (wBin fEq (wVar 0) (wC (.str "column 3")))) (wRet (wTup (wCons (wBin fDiv (wBin fAdd (wVar 5) (wC (.int 2))) (wC (.int 3))) (wCons (wC (.int 3)) (wCons (wCall 2 F__law_ranked (wCons (wVar 4) (wCons (wC (.int 3)) wNil))) wNil))))) wSkip)
  (wSeq (wAsg (wLc [7] (wIt (wVar 4)) (gN 7) wYes (wCall 5 F__law_step (wCons (wVar 0) (wCons (wVar 2) (wCons (wVar 3) (wCons (wBin fIx (wVar 7) (wC (.int 0))) (wCons (wBin fIx (wVar 7) (wC (.int 1))) wNil))))))) (gN 6))
  (wSeq (wIf (wB (wBin fIn (wVar 0) (wTup (wCons (wC (.str "right")) (wCons (wC (.str "left")) wNil))))) (wRet (wTup (wCons (wVar 3) (wCons (wVar 2) (wCons (wVar 6) wNil))))) wSkip)
  (wSeq (wIf (wB (wBin fEq (wVar 0) (wC (.str "double")))) (wRet (wTup (wCons (wBin fMul (wC (.int 2)) (wVar 2)) (wCons (wBin fDiv (wBin fAdd (wVar 3) (wC (.int 1))) (wC (.int 2))) (wCons (wVar 6) wNil))))) wSkip)
  (wSeq (wIf (wBand (wB (wBin fEq (wVar 0) (wC (.str "undouble")))) (wB (wBin fEq (wBin fMod (wCB fInt (wCons (wVar 2) wNil)) (wC (.int 2))) (wC (.int 0))))) (wRet (wTup (wCons (wBin fDiv (wVar 2) (wC (.int 2))) (wCons (wBin fMul (wC (.int 2)) (wVar 3)) (wCons (wVar 6) wNil))))) wSkip)
  (wRet (wTup (wCons (wVar 2) (wCons (wVar 3) (wCons (wVar 6) wNil))))))))))))))
def N__law_obey : List Str := ["word", "here", "d", "w", "spots", "many", "new", "spot"]
theorem sp__law_obey : ∀ ds Q E, ds.length = 2 → F__law_obey ds Q E → w__law_obey (fun _ => Q .non) Q Ev0 (startG N__law_obey ds) := by
  intro ds Q E hl h
  match ds, h with
  | [a, b], ⟨w, st, e1, e2, ⟨hn, hz, hp, hR, hF, hs⟩, h⟩ =>
    subst e1 e2
    obtain ⟨R, F, ps⟩ := st
    simp only at hn hz hp hR hF hs
    obtain ⟨s1, s2, s3, s4, s5, s6, s7, s8, s9⟩ := w_str
    simp only [w__law_obey, N__law_obey, startG, s1, s2, s5, s6, s7, s8, s9]
    have e1 : D.inl (wD w) [wD .right, wD .left] = (decide (w = .right) || decide (w = .left)) := by cases w <;> decide +kernel
    have sm2 : Sm 2 := .of (by omega) (by omega)
    have sm3 : Sm 3 := .of (by omega) (by omega)
    have smR : Sm (R : Int) := .of (by omega) (by omega)
    have smF : Sm (F : Int) := .of (by omega) (by omega)
    simp [RG.sqD, RG.spotsD, flw12, eqw, e1, flatw, sm2, sm3, smR, smF]
    have rk : ∀ (k : Nat) (G : D → Prop), 0 < k → k < 1000000000000 → G (RG.spotsD (RG.inRanks ps k)) → F__law_ranked [.lst (ps.map RG.spotD), .int k] G Ev0 := fun k G h0 h1 hG => ⟨ps, k, rfl, rfl, h0, h1, hz, hn, hG⟩
    have mv : ∀ (Γ : List Sl) (G : D → Prop), Γ.length = 8 → Γ[0]? = some (.dat (wD w)) → Γ[2]? = some (.dat (.int R)) → Γ[3]? = some (.dat (.int F)) → G (RG.spotsD (ps.map (RG.moved w R F))) →
        lcD [7] (gN 7) wYes (wCall 5 F__law_step (wCons (wVar 0) (wCons (wVar 2) (wCons (wVar 3) (wCons (wBin fIx (wVar 7) (wC (.int 0))) (wCons (wBin fIx (wVar 7) (wC (.int 1))) wNil)))))) Γ G (ps.map RG.spotD) := fun Γ G g8 g0 g2 g3 hG => by
      refine lcD_map (fun d => match d with | .tup [.int r, .int f] => RG.spotD (RG.moved w R F (r.toNat, f.toNat)) | _ => .non) (by simp; omega) (fun d hd Qt hq => ?_) ?_
      · obtain ⟨s, hsm, rfl⟩ := List.mem_map.mp hd
        obtain ⟨a, b⟩ := hs s hsm
        match Γ, g8 with
        | [x0, x1, x2, x3, x4, x5, x6, x7], _ =>
          simp at g0 g2 g3
          subst g0 g2 g3
          have a0 : ∀ x y : D, atI [x, y] 0 = some x := fun _ _ => rfl
          have a1 : ∀ x y : D, atI [x, y] 1 = some y := fun _ _ => rfl
          simp [wipeG, RG.spotD, a0, a1]
          exact ⟨w, R, F, s, rfl, rfl, rfl, rfl, rfl, a, b, hR, hF, by simpa [RG.spotD] using hq⟩
      · have e : (ps.map RG.spotD).map (fun d => match d with | .tup [.int r, .int f] => RG.spotD (RG.moved w R F (r.toNat, f.toNat)) | _ => .non) = (ps.map (RG.moved w R F)).map RG.spotD := by
          rw [List.map_map, List.map_map]
          refine List.map_congr_left fun s _ => ?_
          simp [RG.spotD]
        rw [e]
        exact hG
    cases w
    case line =>
      simp
      exact rk ps.length _ hp (by omega) (by simpa [RG.obeyed, RG.sqD] using h)
    case col2 =>
      simp
      exact rk 2 _ (by omega) (by omega) (by simpa [RG.obeyed, RG.sqD] using h)
    case col3 =>
      simp
      exact rk 3 _ (by omega) (by omega) (by simpa [RG.obeyed, RG.sqD] using h)
    case undouble =>
      simp
      refine mv _ _ rfl rfl rfl rfl ?_
      by_cases hev : R % 2 = 0
      · rw [if_pos (by omega)]
        simpa [RG.obeyed, RG.resized, RG.sqD, hev] using h
      · rw [if_neg (by omega)]
        simpa [RG.obeyed, RG.resized, RG.sqD, hev] using h
    all_goals
      simp
      refine mv _ _ rfl rfl rfl rfl ?_
      simpa [RG.obeyed, RG.resized, RG.sqD] using h
/-! #### _law_drilled -/
def w__law_drilled : WS := (wSeq (wAsg (wTup (wCons (wC (.int 1)) (wCons (wVar 1) (wCons (wLc [4] (wRange1 (wCons (wVar 1) wNil)) (gN 4) wYes (wTup (wCons (wC (.int 0)) (wCons (wVar 4) wNil)))) wNil)))) (gN 2))
  (wSeq (wFor (wIt (wVar 0)) (gN 3) (wAsg (wCall 2 F__law_obey (wCons (wVar 3) (wCons (wVar 2) wNil))) (gN 2)))
  (wRet (wVar 2))))
def N__law_drilled : List Str := ["words", "many", "here", "word", "at"]
theorem sp__law_drilled : ∀ ds Q E, ds.length = 2 → F__law_drilled ds Q E → w__law_drilled (fun _ => Q .non) Q Ev0 (startG N__law_drilled ds) := by
  intro ds Q E hl h
  match ds, h with
  | [a, b], ⟨ws, n, e1, e2, h0, hn, hw, h⟩ =>
    subst e1 e2
    simp only [w__law_drilled, N__law_drilled, startG]
    simp
    refine ⟨⟨by omega, by omega⟩, lcD_map (fun d => .tup [.int 0, d]) (by rw [rangeL_len]; omega) (fun d hd Qt hq => by simpa [wipeG] using hq) ?_⟩
    have e : (rangeL 0 n).map (fun d => D.tup [.int 0, d]) = ((List.range n).map fun i => (0, i)).map RG.spotD := by
      unfold rangeL
      rw [List.map_map, List.map_map]
      refine List.map_congr_left fun i _ => ?_
      simp [RG.spotD]
    rw [e]
    generalize hX : ((List.range n).map fun i => (0, i)).map RG.spotD = X0
    have e2 : D.tup [.int 1, .int n, .lst X0] = RG.sqD (RG.firstS n) := by rw [← hX]; rfl
    simp [rowD]
    rw [e2]
    refine ⟨fun i Γ => ∃ x y, Γ = [.dat (rowD ws), .dat (.int n), .dat (RG.sqD (RG.drilled (ws.take i) n)), x, y], ⟨_, _, rfl⟩, fun i d Γ' hd hI => ?_, fun Γ' hI => ?_⟩
    · obtain ⟨x, y, rfl⟩ := hI
      obtain ⟨w, ew, rfl⟩ := rowD_get hd
      simp
      refine ⟨w, _, rfl, rfl, drilled_ok h0 hn (by rw [List.length_take]; omega), ?_⟩
      have : ws.take (i + 1) = ws.take i ++ [w] := by rw [List.take_add_one, ew]; rfl
      rw [this, drilled_snoc]
    · obtain ⟨x, y, rfl⟩ := hI
      rw [List.length_map, List.take_length]
      simpa using h
/-! #### _law_beside2 -/
def w__law_beside2 : WS := (wSeq (wAsg (wBin fIx (wCall 2 F__law_drilled (wCons (wVar 0) (wCons (wVar 1) wNil))) (wC (.int 2))) (gN 2))
  (wRet (wCB fLen (wCons (wLc [3, 4] (wZip2 (wCons (wVar 2) (wCons (wSl (wVar 2) (wSo (wC (.int 1))) wNo) wNil))) (gT 2 (gsCons (gN 3) (gsCons (gN 4) gsNil))) (wBand (wB (wBin fEq (wBin fIx (wVar 3) (wC (.int 0))) (wBin fIx (wVar 4) (wC (.int 0))))) (wB (wBin fEq (wCB fAbs (wCons (wBin fSub (wBin fIx (wVar 3) (wC (.int 1))) (wBin fIx (wVar 4) (wC (.int 1)))) wNil)) (wC (.int 1))))) (wC (.int 1))) wNil))))
def N__law_beside2 : List Str := ["words", "many", "spots", "one", "two"]
theorem sp__law_beside2 : ∀ ds Q E, ds.length = 2 → F__law_beside2 ds Q E → w__law_beside2 (fun _ => Q .non) Q Ev0 (startG N__law_beside2 ds) := by
  intro ds Q E hl h
  match ds, h with
  | [a, b], ⟨ws, n, e1, e2, h0, hn, hw, h⟩ =>
    subst e1 e2
    simp only [w__law_beside2, N__law_beside2, startG]
    simp
    refine ⟨ws, n, rfl, rfl, h0, hn, hw, ?_⟩
    have hlen : (RG.drilled ws n).2.2.length = n := RG.drilled_len ws n
    rw [besideN_cnt] at h
    simp [RG.sqD, RG.spotsD]
    generalize (RG.drilled ws n).2.2 = ps at hlen h
    refine ⟨_, rfl, ?_⟩
    simp [cut1]
    have et : (ps.map RG.spotD).tail = ps.tail.map RG.spotD := List.map_tail.symm
    simp only [et, zip_prD]
    obtain ⟨q, hq⟩ := ex_fun (β := Bool) prD prD_inj fun p => RG.bsd p.1 p.2
    have hz : (ps.zip ps.tail).length ≤ n := by simp; omega
    refine lcD_pure q (fun _ => .int 1) (by rw [List.length_map]; omega) (fun d hd Qt Qf ht hf => ?_) ?_
    · obtain ⟨p, hpm, rfl⟩ := List.mem_map.mp hd
      obtain ⟨s, t⟩ := p
      rw [hq, bsd_int] at ht hf
      simp [wipeG, prD, RG.spotD]
      refine ⟨_, rfl, _, rfl, fl_int _ _, fl_int _ _, ?_⟩
      rw [eq_int]
      by_cases h1 : (s.1 : Int) = t.1
      · simp only [h1, decide_true, Bool.true_and, if_true] at ht hf ⊢
        refine ⟨_, rfl, _, rfl, ?_⟩
        simp
        by_cases h2 : (if (s.2 : Int) - t.2 < 0 then -((s.2 : Int) - t.2) else (s.2 : Int) - t.2) = 1
        · simp only [h2, decide_true, if_true] at ht ⊢
          exact ht trivial
        · simp only [h2, decide_false] at hf ⊢
          exact hf trivial
      · simp only [h1, decide_false, Bool.false_and] at hf ⊢
        exact hf trivial
    · rw [filter_enc prD _ q hq, List.map_map]
      simp
      exact h
/-! #### law -/

theorem pOf_snoc (ws : List Wd) {w : Wd} (h : w.fac = 1) : pOf (ws ++ [w]) = pOf ws := by
  have := pOf_take (ws ++ [w]) ws.length w (by simp)
  rw [List.take_of_length_le (by simp)] at this
  rw [this, List.take_left, h, Nat.mul_one]
theorem kpD_inj (p q : KP) (h : kpD p = kpD q) : p = q := by
  unfold kpD at h
  injection h with h
  injection h with h1 h
  injection h with h2 h
  injection h1 with h1
  injection h2 with h2
  exact Prod.ext h1 h2
theorem shares_eq (ws : List Wd) : D.eq (sharesD ws) (sharesD ws) = true := PySem.SeqAt.eqv_refl _ (D.fl_ok 12 _ (keysD_fl _)).1
theorem bsd_about (R F : Nat) {s t : Nat × Nat} (h1 : s.1 < R ∧ s.2 < F) (h2 : t.1 < R ∧ t.2 < F) : RG.bsd (R - 1 - s.1, F - 1 - s.2) (R - 1 - t.1, F - 1 - t.2) = RG.bsd s t := by
  unfold RG.bsd
  congr 1
  · exact decide_eq_decide.mpr (by simp only; omega)
  · exact decide_eq_decide.mpr (by simp only; omega)
theorem cntB_map (g : Nat × Nat → Nat × Nat) (ps : List (Nat × Nat)) (h : ∀ s ∈ ps, ∀ t ∈ ps, RG.bsd (g s) (g t) = RG.bsd s t) : cntB (ps.map g) = cntB ps := by
  unfold cntB
  rw [← List.map_tail, List.zip_map, List.filter_map, List.length_map]
  congr 1
  refine List.filter_congr fun p hp => ?_
  obtain ⟨h1, h2⟩ := List.of_mem_zip hp
  exact h p.1 h1 p.2 (List.mem_of_mem_tail h2)
theorem beside_about (ws : List Wd) (n : Nat) : RG.besideN (RG.drilled (ws ++ [.about]) n) = RG.besideN (RG.drilled ws n) := by
  rw [drilled_snoc, besideN_cnt, besideN_cnt]
  exact cntB_map _ _ fun s hs t ht => bsd_about _ _ (spot_lt ws n hs) (spot_lt ws n ht)
theorem beside_wheel (ws : List Wd) (n : Nat) : RG.besideN (RG.drilled (ws ++ [.wright]) n) = RG.besideN (RG.drilled ws n) := by
  rw [drilled_snoc, besideN_cnt, besideN_cnt]
  exact cntB_map _ _ fun s hs t ht => rfl
theorem keys_snoc {ws : List Wd} {w : Wd} (h : w.fac = 1) (hb : ∀ n, RG.besideN (RG.drilled (ws ++ [w]) n) = RG.besideN (RG.drilled ws n)) : sharesD (ws ++ [w]) = sharesD ws := by
  unfold sharesD keysTo shr
  rw [pOf_snoc ws h]
  simp only [hb]
theorem row_snoc {ws : List Wd} {w : Wd} (h : Row ws) (hl : ws.length ≤ 6) (hw : w.fac = 1) : Row (ws ++ [w]) := by
  refine ⟨by simp; omega, ?_⟩
  have := h.2
  rw [List.filter_append, List.length_append]
  simp [hw]
  exact this
def absI (x : Int) : Int := if x < 0 then -x else x
def nearP (c n : Int) (k : KP) : Bool := decide (absI (c * k.2 - k.1 * n) ≤ 200 * k.2)
theorem near_some {ws : List Wd} (hR : Row ws) (n : Nat) : ∃ k ∈ keysTo ws (pOf ws), nearP (RG.besideN (RG.drilled ws n)) n k = true := by
  have hp := pOf_9 hR
  have hr := Nat.mod_lt n (pOf_pos ws)
  obtain ⟨_, _, q⟩ := shr_ok (row_shapes hR) hr
  refine ⟨_, keysTo_mem ws hr, ?_⟩
  have hg : 0 < Nat.gcd (shr ws (8 * pOf ws + n % pOf ws)) (pOf ws) := Nat.gcd_pos_of_pos_right _ (pOf_pos ws)
  have d1 := Nat.gcd_dvd_left (shr ws (8 * pOf ws + n % pOf ws)) (pOf ws)
  have d2 := Nat.gcd_dvd_right (shr ws (8 * pOf ws + n % pOf ws)) (pOf ws)
  have hq : 0 < pOf ws / Nat.gcd (shr ws (8 * pOf ws + n % pOf ws)) (pOf ws) := Nat.div_pos (Nat.le_of_dvd (pOf_pos ws) d2) hg
  obtain ⟨a, b⟩ := q n rfl ((shr ws (8 * pOf ws + n % pOf ws) / Nat.gcd (shr ws (8 * pOf ws + n % pOf ws)) (pOf ws) : Nat) : Int) ((pOf ws / Nat.gcd (shr ws (8 * pOf ws + n % pOf ws)) (pOf ws) : Nat) : Int) (Nat.gcd (shr ws (8 * pOf ws + n % pOf ws)) (pOf ws)) (by omega) (by omega)
    (by rw [← Int.natCast_mul, Nat.mul_div_cancel' d1]) (by rw [← Int.natCast_mul, Nat.mul_div_cancel' d2])
  have hs : (0 : Int) < ((pOf ws / Nat.gcd (shr ws (8 * pOf ws + n % pOf ws)) (pOf ws) : Nat) : Int) := by omega
  unfold nearP lowK absI
  simp only [decide_eq_true_eq]
  generalize ((pOf ws / Nat.gcd (shr ws (8 * pOf ws + n % pOf ws)) (pOf ws) : Nat) : Int) = s1 at *
  generalize ((shr ws (8 * pOf ws + n % pOf ws) / Nat.gcd (shr ws (8 * pOf ws + n % pOf ws)) (pOf ws) : Nat) : Int) = s0 at *
  generalize (RG.besideN (RG.drilled ws n) : Int) * s1 - s0 * (n : Int) = z at *
  have u : (8 * (pOf ws : Int)) * s1 ≤ 200 * s1 := Int.mul_le_mul_of_nonneg_right (by omega) (by omega)
  rw [Int.neg_mul] at a
  split <;> omega
def w_law : WS := (wSeq (wFor (wRange1 (wCons (wCB fMax (wCons (wC (.int 6)) (wCons (wCB fMin (wCons (wC (.int 14)) (wCons (wCB fLen (wCons (wVar 0) wNil)) wNil))) wNil))) wNil)) (gN 1) (wSeq (wAsg (wCall 2 F__law_source (wCons (wVar 0) (wCons (wVar 1) wNil))) (gN 2))
  (wSeq (wAsg (wCall 2 F__law_row (wCons (wVar 2) (wCons (wC (.int 6)) wNil))) (gN 3))
  (wSeq (wAsg (wCall 1 F__law_period (wCons (wVar 3) wNil)) (gN 4))
  (wSeq (wDNew 5)
  (wSeq (wFor (wIt (wCall 1 F__law_steady (wCons (wVar 3) wNil))) (gN 6) (wSeq (wAsgK 7 (wCallK 2 F__law_lowest (wCons (wBin fSub (wCall 2 F__law_beside2 (wCons (wVar 3) (wCons (wBin fAdd (wVar 6) (wVar 4)) wNil))) (wCall 2 F__law_beside2 (wCons (wVar 3) (wCons (wVar 6) wNil)))) (wCons (wVar 4) wNil))))
  (wDPut 5 (wKV 7))))
  (wSeq (wAsg (wCall 1 F_beside_shares (wCons (wVar 3) wNil)) (gN 8))
  (wSeq (wIf (wBor (wBnot (wB (wCB fIsi (wCons (wVar 8) (wCons (wC (.ty "list")) wNil))))) (wB (wBin fNe (wVar 8) (wSortK 5)))) (wRet (wC (.bl false))) wSkip)
  (wSeq (wAsg (wCall 1 F__law_far (wCons (wVar 2) wNil)) (gN 6))
  (wSeq (wAsg (wCall 2 F_count_beside (wCons (wVar 3) (wCons (wVar 6) wNil))) (gN 9))
  (wSeq (wAsg (wLc [7] (wIt (wVar 8)) (gN 7) (wB (wBin fLe (wCB fAbs (wCons (wBin fSub (wBin fMul (wVar 9) (wBin fIx (wVar 7) (wC (.int 1)))) (wBin fMul (wBin fIx (wVar 7) (wC (.int 0))) (wVar 6))) wNil)) (wBin fMul (wC (.int 200)) (wBin fIx (wVar 7) (wC (.int 1)))))) (wVar 7)) (gN 10))
  (wSeq (wIf (wB (wBin fEq (wVar 10) (wLst wNil))) (wRet (wC (.bl false))) wSkip)
  (wIf (wBor (wB (wBin fNe (wCall 1 F_beside_shares (wCons (wBin fAdd (wVar 3) (wTup (wCons (wC (.str "about")) wNil))) wNil)) (wVar 8))) (wB (wBin fNe (wCall 1 F_beside_shares (wCons (wBin fAdd (wVar 3) (wTup (wCons (wC (.str "wheel right")) wNil))) wNil)) (wVar 8)))) (wRet (wC (.bl false))) wSkip)))))))))))))
  (wSeq (wIf (wBor (wB (wBin fNe (wCall 1 F_beside_shares (wCons (wTup wNil) wNil)) (wLst (wCons (wTup (wCons (wC (.int 1)) (wCons (wC (.int 1)) wNil))) wNil)))) (wB (wBin fNe (wCall 1 F_beside_shares (wCons (wTup (wCons (wC (.str "column 3")) (wCons (wC (.str "right")) wNil))) wNil)) (wLst (wCons (wTup (wCons (wC (.int 0)) (wCons (wC (.int 1)) wNil))) wNil))))) (wRet (wC (.bl false))) wSkip)
  (wSeq (wIf (wBor (wB (wBin fNe (wCall 1 F_beside_shares (wCons (wTup (wCons (wC (.str "column 3")) wNil)) wNil)) (wLst (wCons (wTup (wCons (wC (.int 2)) (wCons (wC (.int 3)) wNil))) wNil)))) (wB (wBin fNe (wCall 1 F_beside_shares (wCons (wTup (wCons (wC (.str "double")) wNil)) wNil)) (wLst (wCons (wTup (wCons (wC (.int 0)) (wCons (wC (.int 1)) wNil))) wNil))))) (wRet (wC (.bl false))) wSkip)
  (wRet (wBin fEq (wCall 1 F_beside_shares (wCons (wTup (wCons (wC (.str "column 3")) (wCons (wC (.str "undouble")) wNil))) wNil)) (wLst (wCons (wTup (wCons (wC (.int 0)) (wCons (wC (.int 1)) wNil))) (wCons (wTup (wCons (wC (.int 2)) (wCons (wC (.int 3)) wNil))) wNil))))))))
def N_law : List Str := ["script", "k", "source", "words", "step", "shares", "many", "share", "found", "count_so", "near"]
theorem sp_law : ∀ ns : List Int, ns.length ≤ 63 → w_law (fun _ => False) (fun d => d = .bl true) Ev0 (startG N_law [.lst (ns.map D.int)]) := by
  intro ns hn
  simp only [w_law, N_law, startG]
  simp
  generalize hm : (if 6 < if (ns.length : Int) < 14 then (ns.length : Int) else 14 then if (ns.length : Int) < 14 then (ns.length : Int) else 14 else 6) = m
  have m0 : 6 ≤ m ∧ m ≤ 14 := by
    rw [← hm]
    split <;> split at * <;> omega
  refine ⟨⟨by omega, by omega⟩, ?_⟩
  refine ⟨fun i Γ => ∃ e1 e2 e3 e4 e5 e6 e7 e8 e9 e10, Γ = [.dat (.lst (ns.map D.int)), e1, e2, e3, e4, e5, e6, e7, e8, e9, e10], ⟨_, _, _, _, _, _, _, _, _, _, rfl⟩, fun i d Γ' hd hI => ?_, fun Γ' hI => ?_⟩
  · obtain ⟨_, _, _, _, _, _, _, _, _, _, rfl⟩ := hI
    obtain ⟨hi, rfl⟩ := rangeL_get hd
    simp
    refine F_src (by omega) ?_
    refine ⟨6, rfl, rfl, by decide, by decide, fun ws hR hw => ?_⟩
    have hw16 : ws.length ≤ 16 := by have := hR.1; omega
    have hp := pOf_9 hR
    have hp0 := pOf_pos ws
    simp
    refine ⟨ws, rfl, hR.1, ws, rfl, hR.1, ?_⟩
    refine ⟨_, .inl rfl, fun i Γ => ∃ a b c d e, Is Γ [.dat (.lst (ns.map D.int)), _, .dat .src, .dat (rowD ws), .dat (.int (pOf ws)), .dic (keysTo ws i), a, b, c, d, e], ⟨_, _, _, _, _, rfl⟩, fun i d Γ' hd hI => ?_, fun Γ' hI => ?_⟩
    · obtain ⟨_, _, _, _, _, rfl⟩ := hI
      obtain ⟨hi, rfl⟩ := rangeL_get hd
      obtain ⟨q1, q2, _⟩ := shr_ok (row_shapes hR) hi
      have hlen := keysTo_len ws i
      rw [show (8 * (pOf ws : Int) + (i : Nat)) = ((8 * pOf ws + i : Nat) : Int) by simp]
      have key : keysTo ws (i + 1) = putP (keysTo ws i) (lowK (shr ws (8 * pOf ws + i)) (pOf ws)) := keysTo_succ ws i
      generalize hn : 8 * pOf ws + i = n at q1 q2 key
      simp
      refine ⟨ws, n + pOf ws, rfl, by simp, by omega, by omega, hw16, ws, n, rfl, rfl, by omega, by omega, hw16, ?_⟩
      simp only [fSub_1, q1]
      refine ⟨shr ws n, pOf ws, rfl, rfl, hp0, .of (by omega) (by omega), .of (by omega) (by omega), ?_⟩
      simp
      refine ⟨by omega, ?_⟩
      rw [← key]
      exact ⟨_, _, _, _, _, rfl⟩
    · obtain ⟨_, _, _, _, _, rfl⟩ := hI
      rw [rangeL_len]
      simp
      refine ⟨ws, rfl, hR, rfl, rfl, keysOk_all _, keysD_fl _, keysD_fl _, shares_eq ws, rfl, fun n n0 n1 => ?_⟩
      refine ⟨ws, n, rfl, rfl, hR, n0, n1, ?_⟩
      have hb := besideN_lt ws n
      obtain ⟨k0, hk0, hk1⟩ := near_some hR n
      generalize RG.besideN (RG.drilled ws n) = c at *
      obtain ⟨p, hpp⟩ := ex_fun (β := Bool) kpD kpD_inj fun k => nearP c n k
      have hlen := keysTo_len ws (pOf ws)
      refine ⟨_, .inl rfl, lcD_pure p id (by rw [keysD_len]; omega) (fun d hd Qt Qf ht hf => ?_) ?_⟩
      · obtain ⟨k, hk, rfl⟩ := keysD_mem hd
        obtain ⟨r, hr, ek⟩ := keysTo_eq hk
        obtain ⟨u, v, ek2, hu, hv⟩ : ∃ u v : Nat, k = ((u : Int), (v : Int)) ∧ u ≤ 9 ∧ v ≤ 9 := by
          obtain ⟨_, q2, _⟩ := shr_ok (row_shapes hR) hr
          exact ⟨_, _, ek, Nat.le_trans (Nat.div_le_self _ _) (by omega), Nat.le_trans (Nat.div_le_self _ _) (by omega)⟩
        subst ek2
        rw [hpp] at ht hf
        have sc : Sm (c : Int) := .of (by omega) (by omega)
        have sn : Sm (n : Int) := .of (by omega) (by omega)
        have su : Sm (u : Int) := .of (by omega) (by omega)
        have sv : Sm (v : Int) := .of (by omega) (by omega)
        have s2 : Sm 200 := .of (by omega) (by omega)
        simp [wipeG, kpD]
        refine ⟨_, rfl, ?_⟩
        simp [sc, sv]
        refine ⟨_, rfl, ?_⟩
        simp [su, sn]
        refine ⟨_, rfl, ?_⟩
        simp [s2, sv]
        unfold nearP absI at ht hf
        simp only [decide_eq_true_eq, decide_eq_false_iff_not] at ht hf
        exact (Int.lt_or_le _ _).elim (fun y => .inl ⟨y, hf (Int.not_le.mpr y)⟩) fun y => .inr ⟨y, ht y⟩
      · have hfl : (D.lst ((keysD (keysTo ws (pOf ws))).filter p)).fl 12 = true := fl_lst' fun x hx => by
          obtain ⟨k, _, rfl⟩ := keysD_mem (List.mem_filter.mp hx).1
          rfl
        have hin : kpD k0 ∈ (keysD (keysTo ws (pOf ws))).filter p := by
          refine List.mem_filter.mpr ⟨?_, by rw [hpp]; exact hk1⟩
          exact (List.mergeSort_perm ((keysTo ws (pOf ws)).map kpD) (PySem.W.dataLe false D.pd)).mem_iff.mpr (List.mem_map.mpr ⟨k0, hk0, rfl⟩)
        rw [List.map_id]
        refine ⟨hfl, rfl, ?_, ?_⟩
        · cases hz : (keysD (keysTo ws (pOf ws))).filter p with
          | nil => rw [hz] at hin; cases hin
          | cons x xs => rfl
        · have r1 : Row (ws ++ [.about]) := row_snoc hR (by omega) rfl
          have r2 : Row (ws ++ [.wright]) := row_snoc hR (by omega) rfl
          show fAdd (rowD ws) (rowD [.about]) _
          rw [fAdd_rows]
          refine ⟨by rw [sizeLine_eq]; simp; omega, ws ++ [.about], rfl, r1, ?_⟩
          rw [keys_snoc rfl (beside_about ws)]
          refine ⟨keysD_fl _, keysD_fl _, shares_eq ws, ?_⟩
          show fAdd (rowD ws) (rowD [.wright]) _
          rw [fAdd_rows]
          refine ⟨by rw [sizeLine_eq]; simp; omega, ws ++ [.wright], rfl, r2, ?_⟩
          rw [keys_snoc rfl (beside_wheel ws)]
          exact ⟨keysD_fl _, keysD_fl _, shares_eq ws⟩
  · obtain ⟨_, _, _, _, _, _, _, _, _, _, rfl⟩ := hI
    simp
    have k1 : keysTo [] (pOf []) = [(1, 1)] := by decide +kernel
    have k2 : keysTo [.col3, .right] (pOf [.col3, .right]) = [(0, 1)] := by decide +kernel
    have k3 : keysTo [.col3] (pOf [.col3]) = [(2, 3)] := by decide +kernel
    have k4 : keysTo [.double] (pOf [.double]) = [(0, 1)] := by decide +kernel
    have k5 : keysTo [.col3, .undouble] (pOf [.col3, .undouble]) = [(0, 1), (2, 3)] ∨ keysTo [.col3, .undouble] (pOf [.col3, .undouble]) = [(2, 3), (0, 1)] := by decide +kernel
    have one : ∀ p : KP, D.eq (.lst (keysD [p])) (.lst [kpD p]) = true := fun p => by
      unfold keysD
      rw [List.map_singleton, List.mergeSort_singleton]
      exact PySem.SeqAt.eqv_refl _ (D.fl_ok 12 _ (show (D.lst [kpD p]).fl 12 = true from rfl)).1
    refine ⟨[], rfl, row_nil, keysD_fl _, rfl, by unfold sharesD; rw [k1]; exact one _, ?_⟩
    refine ⟨[.col3, .right], rfl, ⟨by decide, by decide⟩, keysD_fl _, rfl, by unfold sharesD; rw [k2]; exact one _, ?_⟩
    refine ⟨[.col3], rfl, ⟨by decide, by decide⟩, keysD_fl _, rfl, by unfold sharesD; rw [k3]; exact one _, ?_⟩
    refine ⟨[.double], rfl, ⟨by decide, by decide⟩, keysD_fl _, rfl, by unfold sharesD; rw [k4]; exact one _, ?_⟩
    refine ⟨[.col3, .undouble], rfl, ⟨by decide, by decide⟩, keysD_fl _, rfl, ?_⟩
    unfold sharesD
    have two : D.eq (.lst [kpD (0, 1), kpD (2, 3)]) (.lst [kpD (0, 1), kpD (2, 3)]) = true := PySem.SeqAt.eqv_refl _ (D.fl_ok 12 _ (show (D.lst [kpD (0, 1), kpD (2, 3)]).fl 12 = true from rfl)).1
    rcases k5 with k5 | k5
    · rw [k5]
      unfold keysD
      simp [List.mergeSort, List.MergeSort.Internal.splitInTwo, List.merge]
      rw [if_pos (show PySem.W.dataLe false D.pd (kpD (0, 1)) (kpD (2, 3)) = true by decide +kernel)]
      exact two
    · rw [k5]
      unfold keysD
      simp [List.mergeSort, List.MergeSort.Internal.splitInTwo, List.merge]
      rw [if_neg (show ¬ PySem.W.dataLe false D.pd (kpD (2, 3)) (kpD (0, 1)) = true by decide +kernel)]
      exact two
/-! ### the text -/
def topS (i : Nat) : Stmt := PySem.Challenge.pw_squadwords_k25_whole_shares_of_neighbors.main.body.getD i (.Pass ⟨0, 0, 0, 0⟩)
abbrev s__law_source : Stmt := topS 36
theorem sc__law_source : FnScope N__law_source ["script", "k"] (defScope s__law_source) := ⟨rfl, rfl, rfl, by decide +kernel, rfl, by decide +kernel, by decide +kernel⟩
abbrev s__law_pick : Stmt := topS 37
theorem sc__law_pick : FnScope N__law_pick ["source", "limit"] (defScope s__law_pick) := ⟨rfl, rfl, rfl, by decide +kernel, rfl, by decide +kernel, by decide +kernel⟩
abbrev s__law_chosen : Stmt := topS 38
theorem sc__law_chosen : FnScope N__law_chosen ["source", "some"] (defScope s__law_chosen) := ⟨rfl, rfl, rfl, by decide +kernel, rfl, by decide +kernel, by decide +kernel⟩
abbrev s__law_all_words : Stmt := topS 39
theorem sc__law_all_words : FnScope N__law_all_words [] (defScope s__law_all_words) := ⟨rfl, rfl, rfl, by decide +kernel, rfl, by decide +kernel, by decide +kernel⟩
abbrev s__law_factor : Stmt := topS 40
theorem sc__law_factor : FnScope N__law_factor ["word"] (defScope s__law_factor) := ⟨rfl, rfl, rfl, by decide +kernel, rfl, by decide +kernel, by decide +kernel⟩
abbrev s__law_is_good_row : Stmt := topS 42
theorem sc__law_is_good_row : FnScope N__law_is_good_row ["value"] (defScope s__law_is_good_row) := ⟨rfl, rfl, rfl, by decide +kernel, rfl, by decide +kernel, by decide +kernel⟩
abbrev s__law_row : Stmt := topS 43
theorem sc__law_row : FnScope N__law_row ["source", "most"] (defScope s__law_row) := ⟨rfl, rfl, rfl, by decide +kernel, rfl, by decide +kernel, by decide +kernel⟩
abbrev s__law_period : Stmt := topS 41
theorem sc__law_period : FnScope N__law_period ["words"] (defScope s__law_period) := ⟨rfl, rfl, rfl, by decide +kernel, rfl, by decide +kernel, by decide +kernel⟩
abbrev s__law_steady : Stmt := topS 48
theorem sc__law_steady : FnScope N__law_steady ["words"] (defScope s__law_steady) := ⟨rfl, rfl, rfl, by decide +kernel, rfl, by decide +kernel, by decide +kernel⟩
abbrev s_is_word : Stmt := topS 11
theorem sc_is_word : FnScope N_is_word ["value"] (defScope s_is_word) := ⟨rfl, rfl, rfl, by decide +kernel, rfl, by decide +kernel, by decide +kernel⟩
abbrev s_is_row : Stmt := topS 12
theorem sc_is_row : FnScope N_is_row ["value"] (defScope s_is_row) := ⟨rfl, rfl, rfl, by decide +kernel, rfl, by decide +kernel, by decide +kernel⟩
abbrev s_require_row : Stmt := topS 13
theorem sc_require_row : FnScope N_require_row ["value"] (defScope s_require_row) := ⟨rfl, rfl, rfl, by decide +kernel, rfl, by decide +kernel, by decide +kernel⟩
abbrev s_period_of : Stmt := topS 15
theorem sc_period_of : FnScope N_period_of ["row"] (defScope s_period_of) := ⟨rfl, rfl, rfl, by decide +kernel, rfl, by decide +kernel, by decide +kernel⟩
abbrev s_steady_numbers : Stmt := topS 32
theorem sc_steady_numbers : FnScope N_steady_numbers ["row"] (defScope s_steady_numbers) := ⟨rfl, rfl, rfl, by decide +kernel, rfl, by decide +kernel, by decide +kernel⟩
abbrev s_first_state : Stmt := topS 20
theorem sc_first_state : FnScope N_first_state ["number"] (defScope s_first_state) := ⟨rfl, rfl, rfl, by decide +kernel, rfl, by decide +kernel, by decide +kernel⟩
abbrev s_resized : Stmt := topS 18
theorem sc_resized : FnScope N_resized ["word", "ranks", "files"] (defScope s_resized) := ⟨rfl, rfl, rfl, by decide +kernel, rfl, by decide +kernel, by decide +kernel⟩
abbrev s_in_ranks : Stmt := topS 16
theorem sc_in_ranks : FnScope N_in_ranks ["places", "width"] (defScope s_in_ranks) := ⟨rfl, rfl, rfl, by decide +kernel, rfl, by decide +kernel, by decide +kernel⟩
abbrev s_moved : Stmt := topS 17
theorem sc_moved : FnScope N_moved ["word", "ranks", "files", "spot"] (defScope s_moved) := ⟨rfl, rfl, rfl, by decide +kernel, rfl, by decide +kernel, by decide +kernel⟩
abbrev s_obeyed : Stmt := topS 19
theorem sc_obeyed : FnScope N_obeyed ["word", "state"] (defScope s_obeyed) := ⟨rfl, rfl, rfl, by decide +kernel, rfl, by decide +kernel, by decide +kernel⟩
abbrev s_drilled : Stmt := topS 21
theorem sc_drilled : FnScope N_drilled ["row", "number"] (defScope s_drilled) := ⟨rfl, rfl, rfl, by decide +kernel, rfl, by decide +kernel, by decide +kernel⟩
abbrev s_beside_in : Stmt := topS 27
theorem sc_beside_in : FnScope N_beside_in ["row", "number"] (defScope s_beside_in) := ⟨rfl, rfl, rfl, by decide +kernel, rfl, by decide +kernel, by decide +kernel⟩
abbrev s_common_multiple : Stmt := topS 30
theorem sc_common_multiple : FnScope N_common_multiple ["one", "other"] (defScope s_common_multiple) := ⟨rfl, rfl, rfl, by decide +kernel, rfl, by decide +kernel, by decide +kernel⟩
abbrev s_beside_shares : Stmt := topS 34
theorem sc_beside_shares : FnScope N_beside_shares ["row"] (defScope s_beside_shares) := ⟨rfl, rfl, rfl, by decide +kernel, rfl, by decide +kernel, by decide +kernel⟩
abbrev s__law_far : Stmt := topS 49
theorem sc__law_far : FnScope N__law_far ["source"] (defScope s__law_far) := ⟨rfl, rfl, rfl, by decide +kernel, rfl, by decide +kernel, by decide +kernel⟩
abbrev s_is_integer : Stmt := topS 10
theorem sc_is_integer : FnScope N_is_integer ["value", "low", "high"] (defScope s_is_integer) := ⟨rfl, rfl, rfl, by decide +kernel, rfl, by decide +kernel, by decide +kernel⟩
abbrev s_require_number : Stmt := topS 14
theorem sc_require_number : FnScope N_require_number ["value", "low", "high"] (defScope s_require_number) := ⟨rfl, rfl, rfl, by decide +kernel, rfl, by decide +kernel, by decide +kernel⟩
abbrev s_is_small : Stmt := topS 23
theorem sc_is_small : FnScope N_is_small ["row", "number"] (defScope s_is_small) := ⟨rfl, rfl, rfl, by decide +kernel, rfl, by decide +kernel, by decide +kernel⟩
abbrev s_small_number : Stmt := topS 22
theorem sc_small_number : FnScope N_small_number ["row", "number"] (defScope s_small_number) := ⟨rfl, rfl, rfl, by decide +kernel, rfl, by decide +kernel, by decide +kernel⟩
abbrev s_grown : Stmt := topS 24
theorem sc_grown : FnScope N_grown ["one", "other", "times"] (defScope s_grown) := ⟨rfl, rfl, rfl, by decide +kernel, rfl, by decide +kernel, by decide +kernel⟩
abbrev s_count_beside : Stmt := topS 28
theorem sc_count_beside : FnScope N_count_beside ["row", "number"] (defScope s_count_beside) := ⟨rfl, rfl, rfl, by decide +kernel, rfl, by decide +kernel, by decide +kernel⟩
abbrev s__law_lowest : Stmt := topS 51
theorem sc__law_lowest : FnScope N__law_lowest ["top", "bottom"] (defScope s__law_lowest) := ⟨rfl, rfl, rfl, by decide +kernel, rfl, by decide +kernel, by decide +kernel⟩
abbrev s__law_step : Stmt := topS 45
theorem sc__law_step : FnScope N__law_step ["word", "d", "w", "r", "f"] (defScope s__law_step) := ⟨rfl, rfl, rfl, by decide +kernel, rfl, by decide +kernel, by decide +kernel⟩
abbrev s__law_ranked : Stmt := topS 44
theorem sc__law_ranked : FnScope N__law_ranked ["spots", "width"] (defScope s__law_ranked) := ⟨rfl, rfl, rfl, by decide +kernel, rfl, by decide +kernel, by decide +kernel⟩
abbrev s__law_obey : Stmt := topS 46
theorem sc__law_obey : FnScope N__law_obey ["word", "here"] (defScope s__law_obey) := ⟨rfl, rfl, rfl, by decide +kernel, rfl, by decide +kernel, by decide +kernel⟩
abbrev s__law_drilled : Stmt := topS 47
theorem sc__law_drilled : FnScope N__law_drilled ["words", "many"] (defScope s__law_drilled) := ⟨rfl, rfl, rfl, by decide +kernel, rfl, by decide +kernel, by decide +kernel⟩
abbrev s__law_beside2 : Stmt := topS 50
theorem sc__law_beside2 : FnScope N__law_beside2 ["words", "many"] (defScope s__law_beside2) := ⟨rfl, rfl, rfl, by decide +kernel, rfl, by decide +kernel, by decide +kernel⟩
abbrev s_law : Stmt := topS 52
theorem sc_law : FnScope N_law ["script"] (defScope s_law) := ⟨rfl, rfl, rfl, by decide +kernel, rfl, by decide +kernel, by decide +kernel⟩
structure Txt (K : PySem.W.Frag) (w : World) (mg : Str → Option Value) where
  b_len : mg "len" = none
  b_int : mg "int" = none
  b_tuple : mg "tuple" = none
  b_isinstance : mg "isinstance" = none
  b_str : mg "str" = none
  b_range : mg "range" = none
  b_list : mg "list" = none
  b_all : mg "all" = none
  b_enumerate : mg "enumerate" = none
  b_sorted : mg "sorted" = none
  b_zip : mg "zip" = none
  b_abs : mg "abs" = none
  b_bool : mg "bool" = none
  b_min : mg "min" = none
  b_max : mg "max" = none
  g_WORDS : KG K mg "WORDS" (.tup [(.str "about"), (.str "change"), (.str "column 2"), (.str "column 3"), (.str "double"), (.str "left"), (.str "line"), (.str "right"), (.str "undouble"), (.str "wheel left"), (.str "wheel right")])
  g_MAX_WORDS : KG K mg "MAX_WORDS" (.int 8)
  g_MAX_SHAPES : KG K mg "MAX_SHAPES" (.int 2)
  g_MANY : KG K mg "MANY" (.int 8)
  g_MAX_NUMBER : KG K mg "MAX_NUMBER" (.int 1000000000000)
  d_FACTORS : KD K w mg "FACTORS" k_FACTORS
  f__law_source : Addr
  fd__law_source : FuncData
  F__law_source : Fun K "_law_source" "_law_source" s__law_source f__law_source fd__law_source
  m__law_source : mg "_law_source" = some (.ref f__law_source)
  B__law_source : Binds K fd__law_source ["script", "k"] []
  f__law_pick : Addr
  fd__law_pick : FuncData
  F__law_pick : Fun K "_law_pick" "_law_pick" s__law_pick f__law_pick fd__law_pick
  m__law_pick : mg "_law_pick" = some (.ref f__law_pick)
  B__law_pick : Binds K fd__law_pick ["source", "limit"] []
  f__law_chosen : Addr
  fd__law_chosen : FuncData
  F__law_chosen : Fun K "_law_chosen" "_law_chosen" s__law_chosen f__law_chosen fd__law_chosen
  m__law_chosen : mg "_law_chosen" = some (.ref f__law_chosen)
  B__law_chosen : Binds K fd__law_chosen ["source", "some"] []
  f__law_all_words : Addr
  fd__law_all_words : FuncData
  F__law_all_words : Fun K "_law_all_words" "_law_all_words" s__law_all_words f__law_all_words fd__law_all_words
  m__law_all_words : mg "_law_all_words" = some (.ref f__law_all_words)
  B__law_all_words : Binds K fd__law_all_words [] []
  f__law_factor : Addr
  fd__law_factor : FuncData
  F__law_factor : Fun K "_law_factor" "_law_factor" s__law_factor f__law_factor fd__law_factor
  m__law_factor : mg "_law_factor" = some (.ref f__law_factor)
  B__law_factor : Binds K fd__law_factor ["word"] []
  f__law_is_good_row : Addr
  fd__law_is_good_row : FuncData
  F__law_is_good_row : Fun K "_law_is_good_row" "_law_is_good_row" s__law_is_good_row f__law_is_good_row fd__law_is_good_row
  m__law_is_good_row : mg "_law_is_good_row" = some (.ref f__law_is_good_row)
  B__law_is_good_row : Binds K fd__law_is_good_row ["value"] []
  f__law_row : Addr
  fd__law_row : FuncData
  F__law_row : Fun K "_law_row" "_law_row" s__law_row f__law_row fd__law_row
  m__law_row : mg "_law_row" = some (.ref f__law_row)
  B__law_row : Binds K fd__law_row ["source", "most"] []
  f__law_period : Addr
  fd__law_period : FuncData
  F__law_period : Fun K "_law_period" "_law_period" s__law_period f__law_period fd__law_period
  m__law_period : mg "_law_period" = some (.ref f__law_period)
  B__law_period : Binds K fd__law_period ["words"] []
  f__law_steady : Addr
  fd__law_steady : FuncData
  F__law_steady : Fun K "_law_steady" "_law_steady" s__law_steady f__law_steady fd__law_steady
  m__law_steady : mg "_law_steady" = some (.ref f__law_steady)
  B__law_steady : Binds K fd__law_steady ["words"] []
  f_is_word : Addr
  fd_is_word : FuncData
  F_is_word : Fun K "is_word" "is_word" s_is_word f_is_word fd_is_word
  m_is_word : mg "is_word" = some (.ref f_is_word)
  B_is_word : Binds K fd_is_word ["value"] []
  f_is_row : Addr
  fd_is_row : FuncData
  F_is_row : Fun K "is_row" "is_row" s_is_row f_is_row fd_is_row
  m_is_row : mg "is_row" = some (.ref f_is_row)
  B_is_row : Binds K fd_is_row ["value"] []
  f_require_row : Addr
  fd_require_row : FuncData
  F_require_row : Fun K "require_row" "require_row" s_require_row f_require_row fd_require_row
  m_require_row : mg "require_row" = some (.ref f_require_row)
  B_require_row : Binds K fd_require_row ["value"] []
  f_period_of : Addr
  fd_period_of : FuncData
  F_period_of : Fun K "period_of" "period_of" s_period_of f_period_of fd_period_of
  m_period_of : mg "period_of" = some (.ref f_period_of)
  B_period_of : Binds K fd_period_of ["row"] []
  f_steady_numbers : Addr
  fd_steady_numbers : FuncData
  F_steady_numbers : Fun K "steady_numbers" "steady_numbers" s_steady_numbers f_steady_numbers fd_steady_numbers
  m_steady_numbers : mg "steady_numbers" = some (.ref f_steady_numbers)
  B_steady_numbers : Binds K fd_steady_numbers ["row"] []
  f_first_state : Addr
  fd_first_state : FuncData
  F_first_state : Fun K "first_state" "first_state" s_first_state f_first_state fd_first_state
  m_first_state : mg "first_state" = some (.ref f_first_state)
  B_first_state : Binds K fd_first_state ["number"] []
  f_resized : Addr
  fd_resized : FuncData
  F_resized : Fun K "resized" "resized" s_resized f_resized fd_resized
  m_resized : mg "resized" = some (.ref f_resized)
  B_resized : Binds K fd_resized ["word", "ranks", "files"] []
  f_in_ranks : Addr
  fd_in_ranks : FuncData
  F_in_ranks : Fun K "in_ranks" "in_ranks" s_in_ranks f_in_ranks fd_in_ranks
  m_in_ranks : mg "in_ranks" = some (.ref f_in_ranks)
  B_in_ranks : Binds K fd_in_ranks ["places", "width"] []
  f_moved : Addr
  fd_moved : FuncData
  F_moved : Fun K "moved" "moved" s_moved f_moved fd_moved
  m_moved : mg "moved" = some (.ref f_moved)
  B_moved : Binds K fd_moved ["word", "ranks", "files", "spot"] []
  f_obeyed : Addr
  fd_obeyed : FuncData
  F_obeyed : Fun K "obeyed" "obeyed" s_obeyed f_obeyed fd_obeyed
  m_obeyed : mg "obeyed" = some (.ref f_obeyed)
  B_obeyed : Binds K fd_obeyed ["word", "state"] []
  f_drilled : Addr
  fd_drilled : FuncData
  F_drilled : Fun K "drilled" "drilled" s_drilled f_drilled fd_drilled
  m_drilled : mg "drilled" = some (.ref f_drilled)
  B_drilled : Binds K fd_drilled ["row", "number"] []
  f_beside_in : Addr
  fd_beside_in : FuncData
  F_beside_in : Fun K "beside_in" "beside_in" s_beside_in f_beside_in fd_beside_in
  m_beside_in : mg "beside_in" = some (.ref f_beside_in)
  B_beside_in : Binds K fd_beside_in ["row", "number"] []
  f_common_multiple : Addr
  fd_common_multiple : FuncData
  F_common_multiple : Fun K "common_multiple" "common_multiple" s_common_multiple f_common_multiple fd_common_multiple
  m_common_multiple : mg "common_multiple" = some (.ref f_common_multiple)
  B_common_multiple : Binds K fd_common_multiple ["one", "other"] []
  f_beside_shares : Addr
  fd_beside_shares : FuncData
  F_beside_shares : Fun K "beside_shares" "beside_shares" s_beside_shares f_beside_shares fd_beside_shares
  m_beside_shares : mg "beside_shares" = some (.ref f_beside_shares)
  B_beside_shares : Binds K fd_beside_shares ["row"] []
  f__law_far : Addr
  fd__law_far : FuncData
  F__law_far : Fun K "_law_far" "_law_far" s__law_far f__law_far fd__law_far
  m__law_far : mg "_law_far" = some (.ref f__law_far)
  B__law_far : Binds K fd__law_far ["source"] []
  f_is_integer : Addr
  fd_is_integer : FuncData
  F_is_integer : Fun K "is_integer" "is_integer" s_is_integer f_is_integer fd_is_integer
  m_is_integer : mg "is_integer" = some (.ref f_is_integer)
  B_is_integer : Binds K fd_is_integer ["value", "low", "high"] []
  f_require_number : Addr
  fd_require_number : FuncData
  F_require_number : Fun K "require_number" "require_number" s_require_number f_require_number fd_require_number
  m_require_number : mg "require_number" = some (.ref f_require_number)
  B_require_number : Binds K fd_require_number ["value", "low", "high"] []
  f_is_small : Addr
  fd_is_small : FuncData
  F_is_small : Fun K "is_small" "is_small" s_is_small f_is_small fd_is_small
  m_is_small : mg "is_small" = some (.ref f_is_small)
  B_is_small : Binds K fd_is_small ["row", "number"] []
  f_small_number : Addr
  fd_small_number : FuncData
  F_small_number : Fun K "small_number" "small_number" s_small_number f_small_number fd_small_number
  m_small_number : mg "small_number" = some (.ref f_small_number)
  B_small_number : Binds K fd_small_number ["row", "number"] []
  f_grown : Addr
  fd_grown : FuncData
  F_grown : Fun K "grown" "grown" s_grown f_grown fd_grown
  m_grown : mg "grown" = some (.ref f_grown)
  B_grown : Binds K fd_grown ["one", "other", "times"] []
  f_count_beside : Addr
  fd_count_beside : FuncData
  F_count_beside : Fun K "count_beside" "count_beside" s_count_beside f_count_beside fd_count_beside
  m_count_beside : mg "count_beside" = some (.ref f_count_beside)
  B_count_beside : Binds K fd_count_beside ["row", "number"] []
  f__law_lowest : Addr
  fd__law_lowest : FuncData
  F__law_lowest : Fun K "_law_lowest" "_law_lowest" s__law_lowest f__law_lowest fd__law_lowest
  m__law_lowest : mg "_law_lowest" = some (.ref f__law_lowest)
  B__law_lowest : Binds K fd__law_lowest ["top", "bottom"] []
  f__law_step : Addr
  fd__law_step : FuncData
  F__law_step : Fun K "_law_step" "_law_step" s__law_step f__law_step fd__law_step
  m__law_step : mg "_law_step" = some (.ref f__law_step)
  B__law_step : Binds K fd__law_step ["word", "d", "w", "r", "f"] []
  f__law_ranked : Addr
  fd__law_ranked : FuncData
  F__law_ranked : Fun K "_law_ranked" "_law_ranked" s__law_ranked f__law_ranked fd__law_ranked
  m__law_ranked : mg "_law_ranked" = some (.ref f__law_ranked)
  B__law_ranked : Binds K fd__law_ranked ["spots", "width"] []
  f__law_obey : Addr
  fd__law_obey : FuncData
  F__law_obey : Fun K "_law_obey" "_law_obey" s__law_obey f__law_obey fd__law_obey
  m__law_obey : mg "_law_obey" = some (.ref f__law_obey)
  B__law_obey : Binds K fd__law_obey ["word", "here"] []
  f__law_drilled : Addr
  fd__law_drilled : FuncData
  F__law_drilled : Fun K "_law_drilled" "_law_drilled" s__law_drilled f__law_drilled fd__law_drilled
  m__law_drilled : mg "_law_drilled" = some (.ref f__law_drilled)
  B__law_drilled : Binds K fd__law_drilled ["words", "many"] []
  f__law_beside2 : Addr
  fd__law_beside2 : FuncData
  F__law_beside2 : Fun K "_law_beside" "_law_beside" s__law_beside2 f__law_beside2 fd__law_beside2
  m__law_beside2 : mg "_law_beside" = some (.ref f__law_beside2)
  B__law_beside2 : Binds K fd__law_beside2 ["words", "many"] []
  f_law : Addr
  fd_law : FuncData
  F_law : Fun K "law" "law" s_law f_law fd_law
  m_law : mg "law" = some (.ref f_law)
  B_law : Binds K fd_law ["script"] []
section
variable {P : Program} {w : World} {K : PySem.W.Frag} {mg : Str → Option Value} {base : Heap}
theorem ok__law_source (T : Txt K w mg) : FnOk P w K mg base CX0 2 T.f__law_source T.fd__law_source ["script", "k"] (spD K 2 F__law_source) :=
  fn_pd T.F__law_source sc__law_source sp__law_source fun cdv A outer s H E hr =>
    ((ss_cons (s_set (i := 2) sc__law_source.nd rfl (by first | exact Or.inl rfl | exact Or.inr rfl) d_int)
    (ss_cons (s_if (t_cmp op_lt fr_icmp (d_var 1) (d_callB call_lenD' fc_len rfl T.b_len (by decide +kernel) (da_cons (d_var 0) da_nil)) (nomark _)) (ss_one (s_set (i := 2) sc__law_source.nd rfl (by first | exact Or.inl rfl | exact Or.inr rfl) (d_ix ix_D fr_ix (d_var 0) (d_var 1) (fun _ _ => rfl)))) ss_nil)
    (ss_cons (s_set (i := 3) sc__law_source.nd rfl (by first | exact Or.inl rfl | exact Or.inr rfl) (d_lst (da_cons d_int (da_cons d_int (da_cons d_int (da_cons d_int (da_cons d_int (da_cons d_int (da_cons d_int (da_cons d_int da_nil))))))))))
    (ss_cons (s_set (i := 4) sc__law_source.nd rfl (by first | exact Or.inl rfl | exact Or.inr rfl) (d_op op_modD fr_mod (d_callTy call_int1 fc_int rfl T.b_int (by decide +kernel) (da_cons (d_op op_mulD fr_mul (d_op op_addD fr_add (d_op op_modD fr_mod (d_callTy call_int1 fc_int rfl T.b_int (by decide +kernel) (da_cons (d_var 2) da_nil)) d_int) d_int) (d_op op_addD fr_add d_int (d_op op_mulD fr_mul d_int (d_var 1)))) da_nil)) d_int))
    (ss_cons (s_set (i := 4) sc__law_source.nd rfl (by first | exact Or.inl rfl | exact Or.inr rfl) (d_op op_addD fr_add (d_op op_addD fr_add (d_op op_modD fr_mod (d_callTy call_int1 fc_int rfl T.b_int (by decide +kernel) (da_cons (d_op op_mulD fr_mul (d_var 4) (d_var 4)) da_nil)) d_int) (d_var 1)) d_int))
    (ss_cons (s_if (t_cmp op_ge fr_icmp (d_var 2) (d_op op_pow fr_pow d_int d_int) (nomark _)) (ss_one (s_retSrc (da_cons (d_var 2) (da_cons (d_var 4) (da_cons (d_ix ix_D fr_ix (d_var 3) (d_op op_modD fr_mod (d_callTy call_int1 fc_int rfl T.b_int (by decide +kernel) (da_cons (d_var 1) da_nil)) d_int) (fun _ _ => rfl)) da_nil))))) ss_nil)
    (ss_one (s_retSrc (da_cons d_int (da_cons (d_var 4) (da_cons (d_ix ix_D fr_ix (d_var 3) (d_op op_modD fr_mod (d_callTy call_int1 fc_int rfl T.b_int (by decide +kernel) (da_cons (d_var 1) da_nil)) d_int) (fun _ _ => rfl)) da_nil))))))))))))
theorem ok__law_pick (T : Txt K w mg) : FnOk P w K mg base CX0 2 T.f__law_pick T.fd__law_pick ["source", "limit"] (spD K 2 F__law_pick) :=
  fn_pd T.F__law_pick sc__law_pick sp__law_pick fun cdv A outer s H E hr =>
    ((ss_cons (s_if (t_cmp op_gt fr_icmp (d_srcIx 0) d_int (nomark _)) (ss_cons (s_set (i := 2) sc__law_pick.nd rfl (by first | exact Or.inl rfl | exact Or.inr rfl) (d_op op_modD fr_mod (d_callTy call_int1 fc_int rfl T.b_int (by decide +kernel) (da_cons (d_srcIx 0) da_nil)) (d_var 1)))
    (ss_cons (s_srcSt 0 (d_op op_divD fr_div (d_srcIx 0) (d_var 1)))
    (ss_one (s_ret (d_var 2))))) ss_nil)
    (ss_cons (s_srcSt 0 (d_op op_addD fr_add (d_op op_modD fr_mod (d_callTy call_int1 fc_int rfl T.b_int (by decide +kernel) (da_cons (d_op op_mulD fr_mul (d_srcIx 0) d_int) da_nil)) (d_srcIx 0)) d_int))
    (ss_one (s_ret (d_op op_modD fr_mod (d_callTy call_int1 fc_int rfl T.b_int (by decide +kernel) (da_cons (d_op op_divD fr_div (d_op op_modD fr_mod (d_callTy call_int1 fc_int rfl T.b_int (by decide +kernel) (da_cons (d_op op_mulD fr_mul (d_srcIx 0) (d_srcIx 0)) da_nil)) d_int) d_int) da_nil)) (d_var 1)))))))
theorem ok__law_chosen (T : Txt K w mg) : FnOk P w K mg base CX0 3 T.f__law_chosen T.fd__law_chosen ["source", "some"] (spD K 2 F__law_chosen) :=
  fn_pd T.F__law_chosen sc__law_chosen sp__law_chosen fun cdv A outer s H E hr =>
    ((ss_one (s_ret (d_ix ix_D fr_ix (d_var 1) (d_call (ok__law_pick T) (hr.mono (by omega)) rfl T.m__law_pick T.F__law_pick.kp T.B__law_pick passZ (da_cons (d_var 0) (da_cons (d_callB call_lenD' fc_len rfl T.b_len (by decide +kernel) (da_cons (d_var 1) da_nil)) da_nil))) (fun _ _ => rfl)))))
theorem ok__law_all_words (T : Txt K w mg) : FnOk P w K mg base CX0 2 T.f__law_all_words T.fd__law_all_words [] (spD K 0 F__law_all_words) :=
  fn_pd T.F__law_all_words sc__law_all_words sp__law_all_words fun cdv A outer s H E hr =>
    ((ss_cons (s_set (i := 0) sc__law_all_words.nd rfl (by first | exact Or.inl rfl | exact Or.inr rfl) (d_lst (da_cons d_str (da_cons d_str (da_cons d_str (da_cons d_str (da_cons d_str (da_cons d_str (da_cons d_str (da_cons d_str da_nil))))))))))
    (ss_one (s_ret (d_op op_addD fr_add (d_var 0) (d_lst (da_cons d_str (da_cons d_str (da_cons d_str da_nil)))))))))
theorem ok__law_factor (T : Txt K w mg) : FnOk P w K mg base CX0 2 T.f__law_factor T.fd__law_factor ["word"] (spD K 1 F__law_factor) :=
  fn_pd T.F__law_factor sc__law_factor sp__law_factor fun cdv A outer s H E hr =>
    ((ss_cons (s_if (t_cmp (op_eqD (hu64 hr)) fr_eq (d_var 0) d_str (nomark _)) (ss_one (s_ret d_int)) ss_nil)
    (ss_one (s_ret (d_ife (t_cmp (op_inDD (hu65 hr)) fr_in (d_var 0) (d_tup (da_cons d_str (da_cons d_str (da_cons d_str da_nil)))) (by rfl)) d_int d_int)))))
theorem ok__law_is_good_row (T : Txt K w mg) : FnOk P w K mg base CX0 3 T.f__law_is_good_row T.fd__law_is_good_row ["value"] (spD K 1 F__law_is_good_row) :=
  fn_pd T.F__law_is_good_row sc__law_is_good_row sp__law_is_good_row fun cdv A outer s H E hr =>
    ((ss_cons (s_if (PW.pt (t_or (t_not (t_val (d_callB call_isi fc_isi rfl T.b_isinstance (by decide +kernel) (da_cons (d_var 0) (da_cons (d_type rfl T.b_tuple (by decide +kernel)) da_nil))))) (t_or1 (t_cmp op_gt fr_icmp (d_callB call_lenD' fc_len rfl T.b_len (by decide +kernel) (da_cons (d_var 0) da_nil)) d_int (nomark _))))) (ss_one (s_ret d_bl)) ss_nil)
    (ss_cons (s_if (t_cmp (op_neD (hu64 hr)) fr_ne (d_lc (own := [("word", 1)]) rfl sc__law_is_good_row.nd (i_seq (d_var 0)) (blkOk_by (own := [("word", 1)]) (N := ["value", "word"]) (sc := defScope s__law_is_good_row) (by decide +kernel)) (fun _ _ _ _ _ => (g_name 1 sc__law_is_good_row.nd rfl (by first | exact Or.inl rfl | exact Or.inr rfl))) (fun _ _ _ _ _ => (ts_one (PW.pt (t_or (t_not (t_val (d_callB call_isi fc_isi rfl T.b_isinstance (by decide +kernel) (da_cons (d_var 1) (da_cons (d_type rfl T.b_str (by decide +kernel)) da_nil))))) (t_or1 (t_cmp (op_ninDD (hu65 hr)) fr_nin (d_var 1) (d_call0 (ok__law_all_words T) (hr.mono (by omega)) rfl T.m__law_all_words T.F__law_all_words.kp T.B__law_all_words passZ) (by rfl))))))) (fun _ _ _ _ _ => (d_var 1))) (d_lst da_nil) (nomark _)) (ss_one (s_ret d_bl)) ss_nil)
    (ss_one (s_ret (d_cmp op_le fr_icmp (d_callB call_lenD' fc_len rfl T.b_len (by decide +kernel) (da_cons (d_lc (own := [("word", 1)]) rfl sc__law_is_good_row.nd (i_seq (d_var 0)) (blkOk_by (own := [("word", 1)]) (N := ["value", "word"]) (sc := defScope s__law_is_good_row) (by decide +kernel)) (fun _ _ _ _ _ => (g_name 1 sc__law_is_good_row.nd rfl (by first | exact Or.inl rfl | exact Or.inr rfl))) (fun _ _ _ _ _ => (ts_one (t_cmp op_gt fr_icmp (d_call (ok__law_factor T) (hr.mono (by omega)) rfl T.m__law_factor T.F__law_factor.kp T.B__law_factor passZ (da_cons (d_var 1) da_nil)) d_int (nomark _)))) (fun _ _ _ _ _ => (d_var 1))) da_nil)) d_int (nomark _)))))))
theorem ok__law_row (T : Txt K w mg) : FnOk P w K mg base CX0 4 T.f__law_row T.fd__law_row ["source", "most"] (spD K 2 F__law_row) :=
  fn_pd T.F__law_row sc__law_row sp__law_row fun cdv A outer s H E hr =>
    ((ss_cons (s_set (i := 2) sc__law_row.nd rfl (by first | exact Or.inl rfl | exact Or.inr rfl) (d_tup da_nil))
    (ss_cons (s_for PassesOwn.never rfl (i_range1 rfl T.b_range (da_cons (d_call (ok__law_pick T) (hr.mono (by omega)) rfl T.m__law_pick T.F__law_pick.kp T.B__law_pick passZ (da_cons (d_var 0) (da_cons (d_op op_addD fr_add (d_var 1) d_int) da_nil))) da_nil)) (g_name 3 sc__law_row.nd rfl (by first | exact Or.inl rfl | exact Or.inr rfl)) (ss_cons (s_set (i := 4) sc__law_row.nd rfl (by first | exact Or.inl rfl | exact Or.inr rfl) (d_call (ok__law_chosen T) (hr.mono (by omega)) rfl T.m__law_chosen T.F__law_chosen.kp T.B__law_chosen passZ (da_cons (d_var 0) (da_cons (d_op op_addD fr_add (d_call0 (ok__law_all_words T) (hr.mono (by omega)) rfl T.m__law_all_words T.F__law_all_words.kp T.B__law_all_words passZ) (d_lst (da_cons d_str (da_cons d_str (da_cons d_str (da_cons d_str da_nil)))))) da_nil))))
    (ss_one (s_set (i := 2) sc__law_row.nd rfl (by first | exact Or.inl rfl | exact Or.inr rfl) (d_ife (t_val (d_call (ok__law_is_good_row T) (hr.mono (by omega)) rfl T.m__law_is_good_row T.F__law_is_good_row.kp T.B__law_is_good_row passZ (da_cons (d_op op_addD fr_add (d_var 2) (d_tup (da_cons (d_var 4) da_nil))) da_nil))) (d_op op_addD fr_add (d_var 2) (d_tup (da_cons (d_var 4) da_nil))) (d_var 2))))))
    (ss_one (s_ret (d_var 2))))))
theorem ok__law_period (T : Txt K w mg) : FnOk P w K mg base CX0 3 T.f__law_period T.fd__law_period ["words"] (spD K 1 F__law_period) :=
  fn_pd T.F__law_period sc__law_period sp__law_period fun cdv A outer s H E hr =>
    ((ss_cons (s_set (i := 1) sc__law_period.nd rfl (by first | exact Or.inl rfl | exact Or.inr rfl) d_int)
    (ss_cons (s_for PassesOwn.never rfl (i_seq (d_var 0)) (g_name 2 sc__law_period.nd rfl (by first | exact Or.inl rfl | exact Or.inr rfl)) (ss_one (s_set (i := 1) sc__law_period.nd rfl (by first | exact Or.inl rfl | exact Or.inr rfl) (d_op op_mulD fr_mul (d_var 1) (d_call (ok__law_factor T) (hr.mono (by omega)) rfl T.m__law_factor T.F__law_factor.kp T.B__law_factor passZ (da_cons (d_var 2) da_nil))))))
    (ss_one (s_ret (d_var 1))))))
theorem ok__law_steady (T : Txt K w mg) : FnOk P w K mg base CX0 4 T.f__law_steady T.fd__law_steady ["words"] (spD K 1 F__law_steady) :=
  fn_pd T.F__law_steady sc__law_steady sp__law_steady fun cdv A outer s H E hr =>
    ((ss_cons (s_set (i := 1) sc__law_steady.nd rfl (by first | exact Or.inl rfl | exact Or.inr rfl) (d_call (ok__law_period T) (hr.mono (by omega)) rfl T.m__law_period T.F__law_period.kp T.B__law_period passZ (da_cons (d_var 0) da_nil)))
    (ss_one (s_ret (d_lrg2 rfl rfl T.b_list rfl T.b_range (d_op op_mulD fr_mul d_int (d_var 1)) (d_op op_mulD fr_mul d_int (d_var 1)))))))
theorem ok_is_word (T : Txt K w mg) : FnOk P w K mg base CX0 2 T.f_is_word T.fd_is_word ["value"] (spD K 1 F_is_word) :=
  fn_pd T.F_is_word sc_is_word sp_is_word fun cdv A outer s H E hr =>
    ((ss_one (s_ret (d_and (d_callB call_isi fc_isi rfl T.b_isinstance (by decide +kernel) (da_cons (d_var 0) (da_cons (d_type rfl T.b_str (by decide +kernel)) da_nil))) (d_one (d_cmp (op_inDD (hu65 hr)) fr_in (d_var 0) (d_glob T.g_WORDS rfl) (by rfl)))))))
theorem ok_is_row (T : Txt K w mg) : FnOk P w K mg base CX0 3 T.f_is_row T.fd_is_row ["value"] (spD K 1 F_is_row) :=
  fn_pd T.F_is_row sc_is_row sp_is_row fun cdv A outer s H E hr =>
    ((ss_cons (s_if (PW.pt (t_or (t_not (t_val (d_callB call_isi fc_isi rfl T.b_isinstance (by decide +kernel) (da_cons (d_var 0) (da_cons (d_type rfl T.b_tuple (by decide +kernel)) da_nil))))) (t_or (t_cmp op_gt fr_icmp (d_callB call_lenD' fc_len rfl T.b_len (by decide +kernel) (da_cons (d_var 0) da_nil)) (d_glob T.g_MAX_WORDS rfl) (nomark _)) (t_or1 (t_not (t_val (d_callB (cr_all rfl) fc_all rfl T.b_all (by decide +kernel) (da_cons (d_lc (own := [("word", 1)]) rfl sc_is_row.nd (i_seq (d_var 0)) (blkOk_by (own := [("word", 1)]) (N := ["value", "word"]) (sc := defScope s_is_row) (by decide +kernel)) (fun _ _ _ _ _ => (g_name 1 sc_is_row.nd rfl (by first | exact Or.inl rfl | exact Or.inr rfl))) (fun _ _ _ _ _ => ts_nil) (fun _ _ _ _ _ => (d_call (ok_is_word T) (hr.mono (by omega)) rfl T.m_is_word T.F_is_word.kp T.B_is_word passZ (da_cons (d_var 1) da_nil)))) da_nil)))))))) (ss_one (s_ret d_bl)) ss_nil)
    (ss_one (s_ret (d_cmp op_le fr_icmp (d_callB call_lenD' fc_len rfl T.b_len (by decide +kernel) (da_cons (d_lc (own := [("word", 1)]) rfl sc_is_row.nd (i_seq (d_var 0)) (blkOk_by (own := [("word", 1)]) (N := ["value", "word"]) (sc := defScope s_is_row) (by decide +kernel)) (fun _ _ _ _ _ => (g_name 1 sc_is_row.nd rfl (by first | exact Or.inl rfl | exact Or.inr rfl))) (fun _ _ _ _ _ => (ts_one (t_kin T.d_FACTORS rfl (d_var 1)))) (fun _ _ _ _ _ => (d_var 1))) da_nil)) (d_glob T.g_MAX_SHAPES rfl) (nomark _))))))
theorem ok_require_row (T : Txt K w mg) : FnOk P w K mg base CX0 4 T.f_require_row T.fd_require_row ["value"] (spD K 1 F_require_row) :=
  fn_pd T.F_require_row sc_require_row sp_require_row fun cdv A outer s H E hr =>
    ((ss_one (s_if (t_not (t_val (d_call (ok_is_row T) (hr.mono (by omega)) rfl T.m_is_row T.F_is_row.kp T.B_is_row passZ (da_cons (d_var 0) da_nil)))) (ss_one s_never) ss_nil)))
theorem ok_period_of (T : Txt K w mg) : FnOk P w K mg base CX0 2 T.f_period_of T.fd_period_of ["row"] (spD K 1 F_period_of) :=
  fn_pd T.F_period_of sc_period_of sp_period_of fun cdv A outer s H E hr =>
    ((ss_cons (s_set (i := 1) sc_period_of.nd rfl (by first | exact Or.inl rfl | exact Or.inr rfl) d_int)
    (ss_cons (s_for PassesOwn.never rfl (i_seq (d_var 0)) (g_name 2 sc_period_of.nd rfl (by first | exact Or.inl rfl | exact Or.inr rfl)) (ss_one (s_set (i := 1) sc_period_of.nd rfl (by first | exact Or.inl rfl | exact Or.inr rfl) (d_op op_mulD fr_mul (d_var 1) (d_kget T.d_FACTORS rfl (d_var 2) d_int ⟨rfl, rfl, rfl, rfl⟩)))))
    (ss_one (s_ret (d_var 1))))))
theorem ok_steady_numbers (T : Txt K w mg) : FnOk P w K mg base CX0 3 T.f_steady_numbers T.fd_steady_numbers ["row"] (spD K 1 F_steady_numbers) :=
  fn_pd T.F_steady_numbers sc_steady_numbers sp_steady_numbers fun cdv A outer s H E hr =>
    ((ss_cons (s_set (i := 1) sc_steady_numbers.nd rfl (by first | exact Or.inl rfl | exact Or.inr rfl) (d_call (ok_period_of T) (hr.mono (by omega)) rfl T.m_period_of T.F_period_of.kp T.B_period_of passZ (da_cons (d_var 0) da_nil)))
    (ss_one (s_ret (d_lrg2 rfl rfl T.b_list rfl T.b_range (d_op op_mulD fr_mul (d_glob T.g_MANY rfl) (d_var 1)) (d_op op_mulD fr_mul (d_op op_addD fr_add (d_glob T.g_MANY rfl) d_int) (d_var 1)))))))
theorem ok_first_state (T : Txt K w mg) : FnOk P w K mg base CX0 2 T.f_first_state T.fd_first_state ["number"] (spD K 1 F_first_state) :=
  fn_pd T.F_first_state sc_first_state sp_first_state fun cdv A outer s H E hr =>
    ((ss_one (s_ret (d_tup (da_cons d_int (da_cons (d_var 0) (da_cons (d_lc (own := [("person", 1)]) rfl sc_first_state.nd (i_range1 rfl T.b_range (da_cons (d_var 0) da_nil)) (blkOk_by (own := [("person", 1)]) (N := ["number", "person"]) (sc := defScope s_first_state) (by decide +kernel)) (fun _ _ _ _ _ => (g_name 1 sc_first_state.nd rfl (by first | exact Or.inl rfl | exact Or.inr rfl))) (fun _ _ _ _ _ => ts_nil) (fun _ _ _ _ _ => (d_tup (da_cons d_int (da_cons (d_var 1) da_nil))))) da_nil)))))))
theorem ok_resized (T : Txt K w mg) : FnOk P w K mg base CX0 2 T.f_resized T.fd_resized ["word", "ranks", "files"] (spD K 3 F_resized) :=
  fn_pd T.F_resized sc_resized sp_resized fun cdv A outer s H E hr =>
    ((ss_cons (s_if (t_cmp (op_inDD (hu65 hr)) fr_in (d_var 0) (d_tup (da_cons d_str (da_cons d_str da_nil))) (by rfl)) (ss_one (s_ret (d_tup (da_cons (d_var 2) (da_cons (d_var 1) da_nil))))) ss_nil)
    (ss_cons (s_if (t_cmp (op_eqD (hu64 hr)) fr_eq (d_var 0) d_str (nomark _)) (ss_one (s_ret (d_tup (da_cons (d_op op_mulD fr_mul d_int (d_var 1)) (da_cons (d_op op_divD fr_div (d_op op_addD fr_add (d_var 2) d_int) d_int) da_nil))))) ss_nil)
    (ss_cons (s_if (PW.pt (t_and (t_cmp (op_eqD (hu64 hr)) fr_eq (d_var 0) d_str (nomark _)) (t_and1 (t_cmp (op_eqD (hu64 hr)) fr_eq (d_op op_modD fr_mod (d_var 1) d_int) d_int (nomark _))))) (ss_one (s_ret (d_tup (da_cons (d_op op_divD fr_div (d_var 1) d_int) (da_cons (d_op op_mulD fr_mul d_int (d_var 2)) da_nil))))) ss_nil)
    (ss_one (s_ret (d_tup (da_cons (d_var 1) (da_cons (d_var 2) da_nil)))))))))
theorem ok_in_ranks (T : Txt K w mg) : FnOk P w K mg base CX0 2 T.f_in_ranks T.fd_in_ranks ["places", "width"] (spD K 2 F_in_ranks) :=
  fn_pd T.F_in_ranks sc_in_ranks sp_in_ranks fun cdv A outer s H E hr =>
    ((ss_cons (s_ownLc (i := 3) (own := [("spot", 2)]) rfl sc_in_ranks.nd rfl rfl (sw_true rfl rfl rfl (by decide +kernel)) (i_seq (d_var 0)) (blkOk_by (own := [("spot", 2)]) (N := ["places", "width", "spot", "found", "person", "at"]) (sc := defScope s_in_ranks) (by decide +kernel)) (fun _ _ _ _ _ => (g_name 2 sc_in_ranks.nd rfl (by first | exact Or.inl rfl | exact Or.inr rfl))) (fun _ _ _ _ _ => ts_nil) (fun _ _ _ _ _ => (d_tup (da_cons d_int (da_cons d_int da_nil)))))
    (ss_cons (s_for PassesOwn.never rfl (i_enumerate rfl T.b_enumerate (da_cons (d_callB (cr_sortD (hu65 hr)) fc_sortD rfl T.b_sorted (by decide +kernel) (da_cons (d_lc (own := [("person", 4), ("spot", 2)]) rfl sc_in_ranks.nd (i_enumerate rfl T.b_enumerate (da_cons (d_var 0) da_nil)) (blkOk_by (own := [("person", 4), ("spot", 2)]) (N := ["places", "width", "spot", "found", "person", "at"]) (sc := defScope s_in_ranks) (by decide +kernel)) (fun _ _ _ _ _ => (g_tup rfl (gs_cons (g_name 4 sc_in_ranks.nd rfl (by first | exact Or.inl rfl | exact Or.inr rfl)) (gs_cons (g_name 2 sc_in_ranks.nd rfl (by first | exact Or.inl rfl | exact Or.inr rfl)) gs_nil)))) (fun _ _ _ _ _ => ts_nil) (fun _ _ _ _ _ => (d_tup (da_cons (d_var 2) (da_cons (d_var 4) da_nil))))) da_nil)) da_nil)) (g_tup rfl (gs_cons (g_name 5 sc_in_ranks.nd rfl (by first | exact Or.inl rfl | exact Or.inr rfl)) (gs_cons (g_tup rfl (gs_cons (g_name 2 sc_in_ranks.nd rfl (by first | exact Or.inl rfl | exact Or.inr rfl)) (gs_cons (g_name 4 sc_in_ranks.nd rfl (by first | exact Or.inl rfl | exact Or.inr rfl)) gs_nil))) gs_nil))) (ss_one (s_sto 3 (d_tup (da_cons (d_op op_divD fr_div (d_var 5) (d_var 1)) (da_cons (d_op op_modD fr_mod (d_var 5) (d_var 1)) da_nil))) (d_var 4))))
    (ss_one (s_retOwn 3)))))
theorem ok_moved (T : Txt K w mg) : FnOk P w K mg base CX0 2 T.f_moved T.fd_moved ["word", "ranks", "files", "spot"] (spD K 4 F_moved) :=
  fn_pd T.F_moved sc_moved sp_moved fun cdv A outer s H E hr =>
    ((ss_cons (s_asg (d_var 3) (g_tup rfl (gs_cons (g_name 4 sc_moved.nd rfl (by first | exact Or.inl rfl | exact Or.inr rfl)) (gs_cons (g_name 5 sc_moved.nd rfl (by first | exact Or.inl rfl | exact Or.inr rfl)) gs_nil))))
    (ss_cons (s_if (t_cmp (op_eqD (hu64 hr)) fr_eq (d_var 0) d_str (nomark _)) (ss_one (s_ret (d_tup (da_cons (d_var 5) (da_cons (d_op op_sub fr_sub (d_op op_sub fr_sub (d_var 1) d_int) (d_var 4)) da_nil))))) ss_nil)
    (ss_cons (s_if (t_cmp (op_eqD (hu64 hr)) fr_eq (d_var 0) d_str (nomark _)) (ss_one (s_ret (d_tup (da_cons (d_op op_sub fr_sub (d_op op_sub fr_sub (d_var 2) d_int) (d_var 5)) (da_cons (d_var 4) da_nil))))) ss_nil)
    (ss_cons (s_if (t_cmp (op_eqD (hu64 hr)) fr_eq (d_var 0) d_str (nomark _)) (ss_one (s_ret (d_tup (da_cons (d_op op_sub fr_sub (d_op op_sub fr_sub (d_var 1) d_int) (d_var 4)) (da_cons (d_op op_sub fr_sub (d_op op_sub fr_sub (d_var 2) d_int) (d_var 5)) da_nil))))) ss_nil)
    (ss_cons (s_if (t_cmp (op_eqD (hu64 hr)) fr_eq (d_var 0) d_str (nomark _)) (ss_one (s_ret (d_tup (da_cons (d_op op_sub fr_sub (d_op op_sub fr_sub (d_var 1) d_int) (d_var 4)) (da_cons (d_var 5) da_nil))))) ss_nil)
    (ss_cons (s_if (t_cmp (op_eqD (hu64 hr)) fr_eq (d_var 0) d_str (nomark _)) (ss_one (s_ret (d_tup (da_cons (d_op op_addD fr_add (d_op op_mulD fr_mul d_int (d_var 4)) (d_op op_modD fr_mod (d_var 5) d_int)) (da_cons (d_op op_divD fr_div (d_var 5) d_int) da_nil))))) ss_nil)
    (ss_cons (s_if (PW.pt (t_and (t_cmp (op_eqD (hu64 hr)) fr_eq (d_var 0) d_str (nomark _)) (t_and1 (t_cmp (op_eqD (hu64 hr)) fr_eq (d_op op_modD fr_mod (d_var 1) d_int) d_int (nomark _))))) (ss_one (s_ret (d_tup (da_cons (d_op op_divD fr_div (d_var 4) d_int) (da_cons (d_op op_addD fr_add (d_op op_mulD fr_mul d_int (d_var 5)) (d_op op_modD fr_mod (d_var 4) d_int)) da_nil))))) ss_nil)
    (ss_one (s_ret (d_var 3)))))))))))
theorem ok_obeyed (T : Txt K w mg) : FnOk P w K mg base CX0 3 T.f_obeyed T.fd_obeyed ["word", "state"] (spD K 2 F_obeyed) :=
  fn_pd T.F_obeyed sc_obeyed sp_obeyed fun cdv A outer s H E hr =>
    ((ss_cons (s_asg (d_var 1) (g_tup rfl (gs_cons (g_name 2 sc_obeyed.nd rfl (by first | exact Or.inl rfl | exact Or.inr rfl)) (gs_cons (g_name 3 sc_obeyed.nd rfl (by first | exact Or.inl rfl | exact Or.inr rfl)) (gs_cons (g_name 4 sc_obeyed.nd rfl (by first | exact Or.inl rfl | exact Or.inr rfl)) gs_nil)))))
    (ss_cons (s_set (i := 5) sc_obeyed.nd rfl (by first | exact Or.inl rfl | exact Or.inr rfl) (d_callB call_lenD' fc_len rfl T.b_len (by decide +kernel) (da_cons (d_var 4) da_nil)))
    (ss_cons (s_if (t_cmp (op_eqD (hu64 hr)) fr_eq (d_var 0) d_str (nomark _)) (ss_one (s_ret (d_tup (da_cons d_int (da_cons (d_var 5) (da_cons (d_call (ok_in_ranks T) (hr.mono (by omega)) rfl T.m_in_ranks T.F_in_ranks.kp T.B_in_ranks passZ (da_cons (d_var 4) (da_cons (d_var 5) da_nil))) da_nil)))))) ss_nil)
    (ss_cons (s_if (t_cmp (op_inDD (hu65 hr)) fr_in (d_var 0) (d_tup (da_cons d_str (da_cons d_str da_nil))) (by rfl)) (ss_cons (s_set (i := 6) sc_obeyed.nd rfl (by first | exact Or.inl rfl | exact Or.inr rfl) (d_kix T.d_FACTORS rfl (d_var 0) (fun _ _ => rfl)))
    (ss_one (s_ret (d_tup (da_cons (d_op op_divD fr_div (d_op op_sub fr_sub (d_op op_addD fr_add (d_var 5) (d_var 6)) d_int) (d_var 6)) (da_cons (d_var 6) (da_cons (d_call (ok_in_ranks T) (hr.mono (by omega)) rfl T.m_in_ranks T.F_in_ranks.kp T.B_in_ranks passZ (da_cons (d_var 4) (da_cons (d_var 6) da_nil))) da_nil))))))) ss_nil)
    (ss_one (s_ret (d_op op_addD fr_add (d_call (ok_resized T) (hr.mono (by omega)) rfl T.m_resized T.F_resized.kp T.B_resized passZ (da_cons (d_var 0) (da_cons (d_var 2) (da_cons (d_var 3) da_nil)))) (d_tup (da_cons (d_lc (own := [("spot", 7)]) rfl sc_obeyed.nd (i_seq (d_var 4)) (blkOk_by (own := [("spot", 7)]) (N := ["word", "state", "ranks", "files", "places", "number", "width", "spot"]) (sc := defScope s_obeyed) (by decide +kernel)) (fun _ _ _ _ _ => (g_name 7 sc_obeyed.nd rfl (by first | exact Or.inl rfl | exact Or.inr rfl))) (fun _ _ _ _ _ => ts_nil) (fun _ _ _ _ _ => (d_call (ok_moved T) (hr.mono (by omega)) rfl T.m_moved T.F_moved.kp T.B_moved passZ (da_cons (d_var 0) (da_cons (d_var 2) (da_cons (d_var 3) (da_cons (d_var 7) da_nil))))))) da_nil))))))))))
theorem ok_drilled (T : Txt K w mg) : FnOk P w K mg base CX0 4 T.f_drilled T.fd_drilled ["row", "number"] (spD K 2 F_drilled) :=
  fn_pd T.F_drilled sc_drilled sp_drilled fun cdv A outer s H E hr =>
    ((ss_cons (s_set (i := 2) sc_drilled.nd rfl (by first | exact Or.inl rfl | exact Or.inr rfl) (d_call (ok_first_state T) (hr.mono (by omega)) rfl T.m_first_state T.F_first_state.kp T.B_first_state passZ (da_cons (d_var 1) da_nil)))
    (ss_cons (s_for PassesOwn.never rfl (i_seq (d_var 0)) (g_name 3 sc_drilled.nd rfl (by first | exact Or.inl rfl | exact Or.inr rfl)) (ss_one (s_set (i := 2) sc_drilled.nd rfl (by first | exact Or.inl rfl | exact Or.inr rfl) (d_call (ok_obeyed T) (hr.mono (by omega)) rfl T.m_obeyed T.F_obeyed.kp T.B_obeyed passZ (da_cons (d_var 3) (da_cons (d_var 2) da_nil))))))
    (ss_one (s_ret (d_var 2))))))
theorem ok_beside_in (T : Txt K w mg) : FnOk P w K mg base CX0 5 T.f_beside_in T.fd_beside_in ["row", "number"] (spD K 2 F_beside_in) :=
  fn_pd T.F_beside_in sc_beside_in sp_beside_in fun cdv A outer s H E hr =>
    ((ss_cons (s_set (i := 2) sc_beside_in.nd rfl (by first | exact Or.inl rfl | exact Or.inr rfl) (d_ix ix_D fr_ix (d_call (ok_drilled T) (hr.mono (by omega)) rfl T.m_drilled T.F_drilled.kp T.B_drilled passZ (da_cons (d_var 0) (da_cons (d_var 1) da_nil))) d_int (fun _ _ => rfl)))
    (ss_cons (s_set (i := 3) sc_beside_in.nd rfl (by first | exact Or.inl rfl | exact Or.inr rfl) (d_lzip rfl rfl T.b_list rfl T.b_zip (da_cons (d_var 2) (da_cons (d_sl (d_var 2) (do_so d_int) do_no) da_nil))))
    (ss_one (s_ret (d_callB call_lenD' fc_len rfl T.b_len (by decide +kernel) (da_cons (d_lc (own := [("one", 4), ("other", 5)]) rfl sc_beside_in.nd (i_seq (d_var 3)) (blkOk_by (own := [("one", 4), ("other", 5)]) (N := ["row", "number", "places", "pairs", "one", "other"]) (sc := defScope s_beside_in) (by decide +kernel)) (fun _ _ _ _ _ => (g_tup rfl (gs_cons (g_name 4 sc_beside_in.nd rfl (by first | exact Or.inl rfl | exact Or.inr rfl)) (gs_cons (g_name 5 sc_beside_in.nd rfl (by first | exact Or.inl rfl | exact Or.inr rfl)) gs_nil)))) (fun _ _ _ _ _ => (ts_one (PW.pt (t_and (t_cmp (op_eqD (hu64 hr)) fr_eq (d_ix ix_D fr_ix (d_var 4) d_int (fun _ _ => rfl)) (d_ix ix_D fr_ix (d_var 5) d_int (fun _ _ => rfl)) (nomark _)) (t_and1 (t_cmp (op_eqD (hu64 hr)) fr_eq (d_callB call_abs fc_abs rfl T.b_abs (by decide +kernel) (da_cons (d_op op_sub fr_sub (d_ix ix_D fr_ix (d_var 4) d_int (fun _ _ => rfl)) (d_ix ix_D fr_ix (d_var 5) d_int (fun _ _ => rfl))) da_nil)) d_int (nomark _))))))) (fun _ _ _ _ _ => d_int)) da_nil)))))))
theorem ok_common_multiple (T : Txt K w mg) : FnOk P w K mg base CX0 2 T.f_common_multiple T.fd_common_multiple ["one", "other"] (spD K 2 F_common_multiple) :=
  fn_pd T.F_common_multiple sc_common_multiple sp_common_multiple fun cdv A outer s H E hr =>
    ((ss_cons (s_par (i := 2) (j := 3) rfl sc_common_multiple.nd rfl rfl (by decide) rfl rfl (da_cons (d_var 0) (da_cons (d_var 1) da_nil)) (by rfl))
    (ss_cons (s_while PassesOwn.never (t_cmp op_gt fr_icmp (d_var 3) d_int (nomark _)) (ss_one (s_par (i := 2) (j := 3) rfl sc_common_multiple.nd rfl rfl (by decide) rfl rfl (da_cons (d_var 3) (da_cons (d_op op_modD fr_mod (d_var 2) (d_var 3)) da_nil)) (by rfl))))
    (ss_one (s_ret (d_op op_divD fr_div (d_op op_mulD fr_mul (d_var 0) (d_var 1)) (d_var 2)))))))
theorem ok_beside_shares (T : Txt K w mg) : FnOk P w K mg base CX0 6 T.f_beside_shares T.fd_beside_shares ["row"] (spD K 1 F_beside_shares) :=
  fn_pd T.F_beside_shares sc_beside_shares sp_beside_shares fun cdv A outer s H E hr =>
    ((ss_cons (s_expr (d_call (ok_require_row T) (hr.mono (by omega)) rfl T.m_require_row T.F_require_row.kp T.B_require_row passZ (da_cons (d_var 0) da_nil)))
    (ss_cons (s_parRD (i := 1) (j := 2) rfl sc_beside_shares.nd rfl rfl (by decide) rfl rfl (d_call (ok_period_of T) (hr.mono (by omega)) rfl T.m_period_of T.F_period_of.kp T.B_period_of passZ (da_cons (d_var 0) da_nil)) (by rfl))
    (ss_cons (s_for PassesOwn.never rfl (i_seq (d_call (ok_steady_numbers T) (hr.mono (by omega)) rfl T.m_steady_numbers T.F_steady_numbers.kp T.B_steady_numbers passZ (da_cons (d_var 0) da_nil))) (g_name 3 sc_beside_shares.nd rfl (by first | exact Or.inl rfl | exact Or.inr rfl)) (ss_cons (s_set (i := 4) sc_beside_shares.nd rfl (by first | exact Or.inl rfl | exact Or.inr rfl) (d_op op_sub fr_sub (d_call (ok_beside_in T) (hr.mono (by omega)) rfl T.m_beside_in T.F_beside_in.kp T.B_beside_in passZ (da_cons (d_var 0) (da_cons (d_op op_addD fr_add (d_var 3) (d_var 1)) da_nil))) (d_call (ok_beside_in T) (hr.mono (by omega)) rfl T.m_beside_in T.F_beside_in.kp T.B_beside_in passZ (da_cons (d_var 0) (da_cons (d_var 3) da_nil)))))
    (ss_cons (s_set (i := 5) sc_beside_shares.nd rfl (by first | exact Or.inl rfl | exact Or.inr rfl) (d_ife (t_cmp op_gt fr_icmp (d_var 4) d_int (nomark _)) (d_op op_divD fr_div (d_op op_mulD fr_mul (d_var 4) (d_var 1)) (d_call (ok_common_multiple T) (hr.mono (by omega)) rfl T.m_common_multiple T.F_common_multiple.kp T.B_common_multiple passZ (da_cons (d_var 4) (da_cons (d_var 1) da_nil)))) (d_var 1)))
    (ss_one (s_dput 2 (Nat.lt_of_le_of_lt (Nat.add_le_add_left (show 1 ≤ 64 by decide) _) (hu64 hr)) (dk_tup (da_cons (d_op op_divD fr_div (d_var 4) (d_var 5)) (da_cons (d_op op_divD fr_div (d_var 1) (d_var 5)) da_nil))))))))
    (ss_one (s_ret (d_sortK 2 rfl (hu65 hr) rfl T.b_sorted)))))))
theorem ok__law_far (T : Txt K w mg) : FnOk P w K mg base CX0 4 T.f__law_far T.fd__law_far ["source"] (spD K 1 F__law_far) :=
  fn_pd T.F__law_far sc__law_far sp__law_far fun cdv A outer s H E hr =>
    ((ss_cons (s_set (i := 1) sc__law_far.nd rfl (by first | exact Or.inl rfl | exact Or.inr rfl) (d_lst (da_cons (d_op op_pow fr_pow d_int d_int) (da_cons (d_op op_sub fr_sub (d_op op_pow fr_pow d_int d_int) (d_call (ok__law_pick T) (hr.mono (by omega)) rfl T.m__law_pick T.F__law_pick.kp T.B__law_pick passZ (da_cons (d_var 0) (da_cons d_int da_nil)))) (da_cons (d_op op_addD fr_add d_int (d_call (ok__law_pick T) (hr.mono (by omega)) rfl T.m__law_pick T.F__law_pick.kp T.B__law_pick passZ (da_cons (d_var 0) (da_cons (d_op op_pow fr_pow d_int d_int) da_nil)))) da_nil)))))
    (ss_one (s_ret (d_call (ok__law_chosen T) (hr.mono (by omega)) rfl T.m__law_chosen T.F__law_chosen.kp T.B__law_chosen passZ (da_cons (d_var 0) (da_cons (d_op op_addD fr_add (d_var 1) (d_lst (da_cons (d_op op_addD fr_add d_int (d_call (ok__law_pick T) (hr.mono (by omega)) rfl T.m__law_pick T.F__law_pick.kp T.B__law_pick passZ (da_cons (d_var 0) (da_cons (d_op op_pow fr_pow d_int d_int) da_nil)))) da_nil))) da_nil)))))))
theorem ok_is_integer (T : Txt K w mg) : FnOk P w K mg base CX0 2 T.f_is_integer T.fd_is_integer ["value", "low", "high"] (spD K 3 F_is_integer) :=
  fn_pd T.F_is_integer sc_is_integer sp_is_integer fun cdv A outer s H E hr =>
    ((ss_one (s_ret (d_and (d_callB call_isi fc_isi rfl T.b_isinstance (by decide +kernel) (da_cons (d_var 0) (da_cons (d_type rfl T.b_int (by decide +kernel)) da_nil))) (d_and (d_not (d_callB call_isi fc_isi rfl T.b_isinstance (by decide +kernel) (da_cons (d_var 0) (da_cons (d_type rfl T.b_bool (by decide +kernel)) da_nil)))) (d_one (d_chain op_le op_le (d_var 1) (d_var 0) (d_var 2))))))))
theorem ok_require_number (T : Txt K w mg) : FnOk P w K mg base CX0 3 T.f_require_number T.fd_require_number ["value", "low", "high"] (spD K 3 F_require_number) :=
  fn_pd T.F_require_number sc_require_number sp_require_number fun cdv A outer s H E hr =>
    ((ss_one (s_if (t_not (t_val (d_call (ok_is_integer T) (hr.mono (by omega)) rfl T.m_is_integer T.F_is_integer.kp T.B_is_integer passZ (da_cons (d_var 0) (da_cons (d_var 1) (da_cons (d_var 2) da_nil)))))) (ss_one s_never) ss_nil)))
theorem ok_is_small (T : Txt K w mg) : FnOk P w K mg base CX0 3 T.f_is_small T.fd_is_small ["row", "number"] (spD K 2 F_is_small) :=
  fn_pd T.F_is_small sc_is_small sp_is_small fun cdv A outer s H E hr =>
    ((ss_one (s_ret (d_cmp op_lt fr_icmp (d_var 1) (d_op op_mulD fr_mul d_int (d_call (ok_period_of T) (hr.mono (by omega)) rfl T.m_period_of T.F_period_of.kp T.B_period_of passZ (da_cons (d_var 0) da_nil))) (nomark _)))))
theorem ok_small_number (T : Txt K w mg) : FnOk P w K mg base CX0 3 T.f_small_number T.fd_small_number ["row", "number"] (spD K 2 F_small_number) :=
  fn_pd T.F_small_number sc_small_number sp_small_number fun cdv A outer s H E hr =>
    ((ss_cons (s_set (i := 2) sc_small_number.nd rfl (by first | exact Or.inl rfl | exact Or.inr rfl) (d_call (ok_period_of T) (hr.mono (by omega)) rfl T.m_period_of T.F_period_of.kp T.B_period_of passZ (da_cons (d_var 0) da_nil)))
    (ss_cons (s_set (i := 3) sc_small_number.nd rfl (by first | exact Or.inl rfl | exact Or.inr rfl) (d_op op_addD fr_add (d_op op_mulD fr_mul d_int (d_var 2)) (d_op op_modD fr_mod (d_op op_sub fr_sub (d_var 1) (d_op op_mulD fr_mul d_int (d_var 2))) (d_var 2))))
    (ss_one (s_ret (d_tup (da_cons (d_var 3) (da_cons (d_op op_divD fr_div (d_op op_sub fr_sub (d_var 1) (d_var 3)) (d_var 2)) da_nil))))))))
theorem ok_grown (T : Txt K w mg) : FnOk P w K mg base CX0 2 T.f_grown T.fd_grown ["one", "other", "times"] (spD K 3 F_grown) :=
  fn_pd T.F_grown sc_grown sp_grown fun cdv A outer s H E hr =>
    ((ss_one (s_ret (d_callTy call_tuple_of fc_tuple rfl T.b_tuple (by decide +kernel) (da_cons (d_lc (own := [("first", 3), ("second", 4)]) rfl sc_grown.nd (i_zip2 rfl T.b_zip (da_cons (d_var 0) (da_cons (d_var 1) da_nil))) (blkOk_by (own := [("first", 3), ("second", 4)]) (N := ["one", "other", "times", "first", "second"]) (sc := defScope s_grown) (by decide +kernel)) (fun _ _ _ _ _ => (g_tup rfl (gs_cons (g_name 3 sc_grown.nd rfl (by first | exact Or.inl rfl | exact Or.inr rfl)) (gs_cons (g_name 4 sc_grown.nd rfl (by first | exact Or.inl rfl | exact Or.inr rfl)) gs_nil)))) (fun _ _ _ _ _ => ts_nil) (fun _ _ _ _ _ => (d_op op_addD fr_add (d_var 3) (d_op op_mulD fr_mul (d_op op_sub fr_sub (d_var 4) (d_var 3)) (d_var 2))))) da_nil)))))
theorem ok_count_beside (T : Txt K w mg) : FnOk P w K mg base CX0 6 T.f_count_beside T.fd_count_beside ["row", "number"] (spD K 2 F_count_beside) :=
  fn_pd T.F_count_beside sc_count_beside sp_count_beside fun cdv A outer s H E hr =>
    ((ss_cons (s_expr (d_call (ok_require_row T) (hr.mono (by omega)) rfl T.m_require_row T.F_require_row.kp T.B_require_row passZ (da_cons (d_var 0) da_nil)))
    (ss_cons (s_expr (d_call (ok_require_number T) (hr.mono (by omega)) rfl T.m_require_number T.F_require_number.kp T.B_require_number passZ (da_cons (d_var 1) (da_cons d_int (da_cons (d_glob T.g_MAX_NUMBER rfl) da_nil)))))
    (ss_cons (s_if (t_val (d_call (ok_is_small T) (hr.mono (by omega)) rfl T.m_is_small T.F_is_small.kp T.B_is_small passZ (da_cons (d_var 0) (da_cons (d_var 1) da_nil)))) (ss_one (s_ret (d_call (ok_beside_in T) (hr.mono (by omega)) rfl T.m_beside_in T.F_beside_in.kp T.B_beside_in passZ (da_cons (d_var 0) (da_cons (d_var 1) da_nil))))) ss_nil)
    (ss_cons (s_asg (d_call (ok_small_number T) (hr.mono (by omega)) rfl T.m_small_number T.F_small_number.kp T.B_small_number passZ (da_cons (d_var 0) (da_cons (d_var 1) da_nil))) (g_tup rfl (gs_cons (g_name 2 sc_count_beside.nd rfl (by first | exact Or.inl rfl | exact Or.inr rfl)) (gs_cons (g_name 3 sc_count_beside.nd rfl (by first | exact Or.inl rfl | exact Or.inr rfl)) gs_nil))))
    (ss_cons (s_par (i := 4) (j := 5) rfl sc_count_beside.nd rfl rfl (by decide) rfl rfl (da_cons (d_call (ok_beside_in T) (hr.mono (by omega)) rfl T.m_beside_in T.F_beside_in.kp T.B_beside_in passZ (da_cons (d_var 0) (da_cons (d_var 2) da_nil))) (da_cons (d_call (ok_beside_in T) (hr.mono (by omega)) rfl T.m_beside_in T.F_beside_in.kp T.B_beside_in passZ (da_cons (d_var 0) (da_cons (d_op op_addD fr_add (d_var 2) (d_call (ok_period_of T) (hr.mono (by omega)) rfl T.m_period_of T.F_period_of.kp T.B_period_of passZ (da_cons (d_var 0) da_nil))) da_nil))) da_nil)) (by rfl))
    (ss_one (s_ret (d_ix ix_D fr_ix (d_call (ok_grown T) (hr.mono (by omega)) rfl T.m_grown T.F_grown.kp T.B_grown passZ (da_cons (d_tup (da_cons (d_var 4) da_nil)) (da_cons (d_tup (da_cons (d_var 5) da_nil)) (da_cons (d_var 3) da_nil)))) d_int (fun _ _ => rfl))))))))))
theorem ok__law_lowest (T : Txt K w mg) : FnOk P w K mg base CX0 2 T.f__law_lowest T.fd__law_lowest ["top", "bottom"] (spDK K 2 F__law_lowest) :=
  fn_pdK T.F__law_lowest sc__law_lowest sp__law_lowest fun cdv A outer s H E hr =>
    ((ss_consK (E := E0) (s_par (i := 2) (j := 3) rfl sc__law_lowest.nd rfl rfl (by decide) rfl rfl (da_cons (d_var 0) (da_cons (d_var 1) da_nil)) (by rfl))
    (ss_consK (E := E0) (s_while PassesOwn.never (t_cmp op_gt fr_icmp (d_var 3) d_int (nomark _)) (ss_one (s_par (i := 2) (j := 3) rfl sc__law_lowest.nd rfl rfl (by decide) rfl rfl (da_cons (d_var 3) (da_cons (d_op op_modD fr_mod (d_callTy call_int1 fc_int rfl T.b_int (by decide +kernel) (da_cons (d_var 2) da_nil)) (d_var 3)) da_nil)) (by rfl))))
    (ss_retK (E := E0) (dk_tup (da_cons (d_op op_divD fr_div (d_var 0) (d_var 2)) (da_cons (d_op op_divD fr_div (d_var 1) (d_var 2)) da_nil)))))))
theorem ok__law_step (T : Txt K w mg) : FnOk P w K mg base CX0 2 T.f__law_step T.fd__law_step ["word", "d", "w", "r", "f"] (spD K 5 F__law_step) :=
  fn_pd T.F__law_step sc__law_step sp__law_step fun cdv A outer s H E hr =>
    ((ss_cons (s_if (t_cmp (op_eqD (hu64 hr)) fr_eq (d_var 0) d_str (nomark _)) (ss_one (s_ret (d_tup (da_cons (d_var 4) (da_cons (d_op op_sub fr_sub (d_op op_sub fr_sub (d_var 1) d_int) (d_var 3)) da_nil))))) ss_nil)
    (ss_cons (s_if (t_cmp (op_eqD (hu64 hr)) fr_eq (d_var 0) d_str (nomark _)) (ss_one (s_ret (d_tup (da_cons (d_op op_sub fr_sub (d_op op_sub fr_sub (d_var 2) d_int) (d_var 4)) (da_cons (d_var 3) da_nil))))) ss_nil)
    (ss_cons (s_if (t_cmp (op_eqD (hu64 hr)) fr_eq (d_var 0) d_str (nomark _)) (ss_one (s_ret (d_tup (da_cons (d_op op_sub fr_sub (d_op op_sub fr_sub (d_var 1) d_int) (d_var 3)) (da_cons (d_op op_sub fr_sub (d_op op_sub fr_sub (d_var 2) d_int) (d_var 4)) da_nil))))) ss_nil)
    (ss_cons (s_if (t_cmp (op_eqD (hu64 hr)) fr_eq (d_var 0) d_str (nomark _)) (ss_one (s_ret (d_tup (da_cons (d_op op_sub fr_sub (d_op op_sub fr_sub (d_var 1) d_int) (d_var 3)) (da_cons (d_var 4) da_nil))))) ss_nil)
    (ss_cons (s_if (t_cmp (op_eqD (hu64 hr)) fr_eq (d_var 0) d_str (nomark _)) (ss_one (s_ret (d_tup (da_cons (d_op op_addD fr_add (d_op op_mulD fr_mul d_int (d_var 3)) (d_op op_modD fr_mod (d_callTy call_int1 fc_int rfl T.b_int (by decide +kernel) (da_cons (d_var 4) da_nil)) d_int)) (da_cons (d_op op_divD fr_div (d_var 4) d_int) da_nil))))) ss_nil)
    (ss_cons (s_if (PW.pt (t_and (t_cmp (op_eqD (hu64 hr)) fr_eq (d_var 0) d_str (nomark _)) (t_and1 (t_cmp (op_eqD (hu64 hr)) fr_eq (d_op op_modD fr_mod (d_callTy call_int1 fc_int rfl T.b_int (by decide +kernel) (da_cons (d_var 1) da_nil)) d_int) d_int (nomark _))))) (ss_one (s_ret (d_tup (da_cons (d_op op_divD fr_div (d_var 3) d_int) (da_cons (d_op op_addD fr_add (d_op op_mulD fr_mul d_int (d_var 4)) (d_op op_modD fr_mod (d_callTy call_int1 fc_int rfl T.b_int (by decide +kernel) (da_cons (d_var 3) da_nil)) d_int)) da_nil))))) ss_nil)
    (ss_one (s_ret (d_tup (da_cons (d_var 3) (da_cons (d_var 4) da_nil))))))))))))
theorem ok__law_ranked (T : Txt K w mg) : FnOk P w K mg base CX0 2 T.f__law_ranked T.fd__law_ranked ["spots", "width"] (spD K 2 F__law_ranked) :=
  fn_pd T.F__law_ranked sc__law_ranked sp__law_ranked fun cdv A outer s H E hr =>
    ((ss_cons (s_set (i := 2) sc__law_ranked.nd rfl (by first | exact Or.inl rfl | exact Or.inr rfl) (d_callB (cr_sortD (hu65 hr)) fc_sortD rfl T.b_sorted (by decide +kernel) (da_cons (d_lc (own := [("person_so", 6), ("spot", 7)]) rfl sc__law_ranked.nd (i_enumerate rfl T.b_enumerate (da_cons (d_var 0) da_nil)) (blkOk_by (own := [("person_so", 6), ("spot", 7)]) (N := ["spots", "width", "order", "found", "at", "pair", "person_so", "spot"]) (sc := defScope s__law_ranked) (by decide +kernel)) (fun _ _ _ _ _ => (g_tup rfl (gs_cons (g_name 6 sc__law_ranked.nd rfl (by first | exact Or.inl rfl | exact Or.inr rfl)) (gs_cons (g_name 7 sc__law_ranked.nd rfl (by first | exact Or.inl rfl | exact Or.inr rfl)) gs_nil)))) (fun _ _ _ _ _ => ts_nil) (fun _ _ _ _ _ => (d_tup (da_cons (d_var 7) (da_cons (d_var 6) da_nil))))) da_nil)))
    (ss_cons (s_own (i := 3) sc__law_ranked.nd rfl (by first | exact Or.inl rfl | exact Or.inr rfl) (dl_rep (d_lst (da_cons (d_tup (da_cons d_int (da_cons d_int da_nil))) da_nil)) (d_callB call_lenD' fc_len rfl T.b_len (by decide +kernel) (da_cons (d_var 0) da_nil))))
    (ss_cons (s_for PassesOwn.never rfl (i_enumerate rfl T.b_enumerate (da_cons (d_var 2) da_nil)) (g_tup rfl (gs_cons (g_name 4 sc__law_ranked.nd rfl (by first | exact Or.inl rfl | exact Or.inr rfl)) (gs_cons (g_name 5 sc__law_ranked.nd rfl (by first | exact Or.inl rfl | exact Or.inr rfl)) gs_nil))) (ss_one (s_sto 3 (d_tup (da_cons (d_op op_divD fr_div (d_var 4) (d_var 1)) (da_cons (d_op op_modD fr_mod (d_callTy call_int1 fc_int rfl T.b_int (by decide +kernel) (da_cons (d_var 4) da_nil)) (d_var 1)) da_nil))) (d_ix ix_D fr_ix (d_var 5) d_int (fun _ _ => rfl)))))
    (ss_one (s_retOwn 3))))))
theorem ok__law_obey (T : Txt K w mg) : FnOk P w K mg base CX0 3 T.f__law_obey T.fd__law_obey ["word", "here"] (spD K 2 F__law_obey) :=
  fn_pd T.F__law_obey sc__law_obey sp__law_obey fun cdv A outer s H E hr =>
    ((ss_cons (s_asg (d_var 1) (g_tup rfl (gs_cons (g_name 2 sc__law_obey.nd rfl (by first | exact Or.inl rfl | exact Or.inr rfl)) (gs_cons (g_name 3 sc__law_obey.nd rfl (by first | exact Or.inl rfl | exact Or.inr rfl)) (gs_cons (g_name 4 sc__law_obey.nd rfl (by first | exact Or.inl rfl | exact Or.inr rfl)) gs_nil)))))
    (ss_cons (s_set (i := 5) sc__law_obey.nd rfl (by first | exact Or.inl rfl | exact Or.inr rfl) (d_callB call_lenD' fc_len rfl T.b_len (by decide +kernel) (da_cons (d_var 4) da_nil)))
    (ss_cons (s_if (t_cmp (op_eqD (hu64 hr)) fr_eq (d_var 0) d_str (nomark _)) (ss_one (s_ret (d_tup (da_cons d_int (da_cons (d_var 5) (da_cons (d_call (ok__law_ranked T) (hr.mono (by omega)) rfl T.m__law_ranked T.F__law_ranked.kp T.B__law_ranked passZ (da_cons (d_var 4) (da_cons (d_var 5) da_nil))) da_nil)))))) ss_nil)
    (ss_cons (s_if (t_cmp (op_eqD (hu64 hr)) fr_eq (d_var 0) d_str (nomark _)) (ss_one (s_ret (d_tup (da_cons (d_op op_divD fr_div (d_op op_addD fr_add (d_var 5) d_int) d_int) (da_cons d_int (da_cons (d_call (ok__law_ranked T) (hr.mono (by omega)) rfl T.m__law_ranked T.F__law_ranked.kp T.B__law_ranked passZ (da_cons (d_var 4) (da_cons d_int da_nil))) da_nil)))))) ss_nil)
    (ss_cons (s_if (t_cmp (op_eqD (hu64 hr)) fr_eq (d_var 0) d_str (nomark _)) (ss_one (s_ret (d_tup (da_cons (d_op op_divD fr_div (d_op op_addD fr_add (d_var 5) d_int) d_int) (da_cons d_int (da_cons (d_call (ok__law_ranked T) (hr.mono (by omega)) rfl T.m__law_ranked T.F__law_ranked.kp T.B__law_ranked passZ (da_cons (d_var 4) (da_cons d_int da_nil))) da_nil)))))) ss_nil)
    (ss_cons (s_setLc (i := 6) (own := [("spot", 7)]) rfl sc__law_obey.nd rfl rfl (sw_true rfl rfl rfl (by decide +kernel)) (i_seq (d_var 4)) (blkOk_by (own := [("spot", 7)]) (N := ["word", "here", "d", "w", "spots", "many", "new", "spot"]) (sc := defScope s__law_obey) (by decide +kernel)) (fun _ _ _ _ _ => (g_name 7 sc__law_obey.nd rfl (by first | exact Or.inl rfl | exact Or.inr rfl))) (fun _ _ _ _ _ => ts_nil) (fun _ _ _ _ _ => (d_call (ok__law_step T) (hr.mono (by omega)) rfl T.m__law_step T.F__law_step.kp T.B__law_step passZ (da_cons (d_var 0) (da_cons (d_var 2) (da_cons (d_var 3) (da_cons (d_ix ix_D fr_ix (d_var 7) d_int (fun _ _ => rfl)) (da_cons (d_ix ix_D fr_ix (d_var 7) d_int (fun _ _ => rfl)) da_nil))))))))
    (ss_cons (s_if (t_cmp (op_inDD (hu65 hr)) fr_in (d_var 0) (d_tup (da_cons d_str (da_cons d_str da_nil))) (by rfl)) (ss_one (s_ret (d_tup (da_cons (d_var 3) (da_cons (d_var 2) (da_cons (d_var 6) da_nil)))))) ss_nil)
    (ss_cons (s_if (t_cmp (op_eqD (hu64 hr)) fr_eq (d_var 0) d_str (nomark _)) (ss_one (s_ret (d_tup (da_cons (d_op op_mulD fr_mul d_int (d_var 2)) (da_cons (d_op op_divD fr_div (d_op op_addD fr_add (d_var 3) d_int) d_int) (da_cons (d_var 6) da_nil)))))) ss_nil)
    (ss_cons (s_if (PW.pt (t_and (t_cmp (op_eqD (hu64 hr)) fr_eq (d_var 0) d_str (nomark _)) (t_and1 (t_cmp (op_eqD (hu64 hr)) fr_eq (d_op op_modD fr_mod (d_callTy call_int1 fc_int rfl T.b_int (by decide +kernel) (da_cons (d_var 2) da_nil)) d_int) d_int (nomark _))))) (ss_one (s_ret (d_tup (da_cons (d_op op_divD fr_div (d_var 2) d_int) (da_cons (d_op op_mulD fr_mul d_int (d_var 3)) (da_cons (d_var 6) da_nil)))))) ss_nil)
    (ss_one (s_ret (d_tup (da_cons (d_var 2) (da_cons (d_var 3) (da_cons (d_var 6) da_nil))))))))))))))))
theorem ok__law_drilled (T : Txt K w mg) : FnOk P w K mg base CX0 4 T.f__law_drilled T.fd__law_drilled ["words", "many"] (spD K 2 F__law_drilled) :=
  fn_pd T.F__law_drilled sc__law_drilled sp__law_drilled fun cdv A outer s H E hr =>
    ((ss_cons (s_set (i := 2) sc__law_drilled.nd rfl (by first | exact Or.inl rfl | exact Or.inr rfl) (d_tup (da_cons d_int (da_cons (d_var 1) (da_cons (d_lc (own := [("at", 4)]) rfl sc__law_drilled.nd (i_range1 rfl T.b_range (da_cons (d_var 1) da_nil)) (blkOk_by (own := [("at", 4)]) (N := ["words", "many", "here", "word", "at"]) (sc := defScope s__law_drilled) (by decide +kernel)) (fun _ _ _ _ _ => (g_name 4 sc__law_drilled.nd rfl (by first | exact Or.inl rfl | exact Or.inr rfl))) (fun _ _ _ _ _ => ts_nil) (fun _ _ _ _ _ => (d_tup (da_cons d_int (da_cons (d_var 4) da_nil))))) da_nil)))))
    (ss_cons (s_for PassesOwn.never rfl (i_seq (d_var 0)) (g_name 3 sc__law_drilled.nd rfl (by first | exact Or.inl rfl | exact Or.inr rfl)) (ss_one (s_set (i := 2) sc__law_drilled.nd rfl (by first | exact Or.inl rfl | exact Or.inr rfl) (d_call (ok__law_obey T) (hr.mono (by omega)) rfl T.m__law_obey T.F__law_obey.kp T.B__law_obey passZ (da_cons (d_var 3) (da_cons (d_var 2) da_nil))))))
    (ss_one (s_ret (d_var 2))))))
theorem ok__law_beside2 (T : Txt K w mg) : FnOk P w K mg base CX0 5 T.f__law_beside2 T.fd__law_beside2 ["words", "many"] (spD K 2 F__law_beside2) :=
  fn_pd T.F__law_beside2 sc__law_beside2 sp__law_beside2 fun cdv A outer s H E hr =>
    ((ss_cons (s_set (i := 2) sc__law_beside2.nd rfl (by first | exact Or.inl rfl | exact Or.inr rfl) (d_ix ix_D fr_ix (d_call (ok__law_drilled T) (hr.mono (by omega)) rfl T.m__law_drilled T.F__law_drilled.kp T.B__law_drilled passZ (da_cons (d_var 0) (da_cons (d_var 1) da_nil))) d_int (fun _ _ => rfl)))
    (ss_one (s_ret (d_callB call_lenD' fc_len rfl T.b_len (by decide +kernel) (da_cons (d_lc (own := [("one", 3), ("two", 4)]) rfl sc__law_beside2.nd (i_zip2 rfl T.b_zip (da_cons (d_var 2) (da_cons (d_sl (d_var 2) (do_so d_int) do_no) da_nil))) (blkOk_by (own := [("one", 3), ("two", 4)]) (N := ["words", "many", "spots", "one", "two"]) (sc := defScope s__law_beside2) (by decide +kernel)) (fun _ _ _ _ _ => (g_tup rfl (gs_cons (g_name 3 sc__law_beside2.nd rfl (by first | exact Or.inl rfl | exact Or.inr rfl)) (gs_cons (g_name 4 sc__law_beside2.nd rfl (by first | exact Or.inl rfl | exact Or.inr rfl)) gs_nil)))) (fun _ _ _ _ _ => (ts_one (PW.pt (t_and (t_cmp (op_eqD (hu64 hr)) fr_eq (d_ix ix_D fr_ix (d_var 3) d_int (fun _ _ => rfl)) (d_ix ix_D fr_ix (d_var 4) d_int (fun _ _ => rfl)) (nomark _)) (t_and1 (t_cmp (op_eqD (hu64 hr)) fr_eq (d_callB call_abs fc_abs rfl T.b_abs (by decide +kernel) (da_cons (d_op op_sub fr_sub (d_ix ix_D fr_ix (d_var 3) d_int (fun _ _ => rfl)) (d_ix ix_D fr_ix (d_var 4) d_int (fun _ _ => rfl))) da_nil)) d_int (nomark _))))))) (fun _ _ _ _ _ => d_int)) da_nil))))))
theorem ok_law (T : Txt K w mg) : FnOk P w K mg base CX0 7 T.f_law T.fd_law ["script"] (spLaw K) :=
  fn_law T.F_law sc_law sp_law fun cdv A outer s H E hr =>
    ((ss_cons (s_for PassesOwn.never rfl (i_range1 rfl T.b_range (da_cons (d_callB (call_maxD rfl) fc_max rfl T.b_max (by decide +kernel) (da_cons d_int (da_cons (d_callB (call_minD rfl) fc_min rfl T.b_min (by decide +kernel) (da_cons d_int (da_cons (d_callB call_lenD' fc_len rfl T.b_len (by decide +kernel) (da_cons (d_var 0) da_nil)) da_nil))) da_nil))) da_nil)) (g_name 1 sc_law.nd rfl (by first | exact Or.inl rfl | exact Or.inr rfl)) (ss_cons (s_set (i := 2) sc_law.nd rfl (by first | exact Or.inl rfl | exact Or.inr rfl) (d_call (ok__law_source T) (hr.mono (by omega)) rfl T.m__law_source T.F__law_source.kp T.B__law_source passZ (da_cons (d_var 0) (da_cons (d_var 1) da_nil))))
    (ss_cons (s_set (i := 3) sc_law.nd rfl (by first | exact Or.inl rfl | exact Or.inr rfl) (d_call (ok__law_row T) (hr.mono (by omega)) rfl T.m__law_row T.F__law_row.kp T.B__law_row passZ (da_cons (d_var 2) (da_cons d_int da_nil))))
    (ss_cons (s_set (i := 4) sc_law.nd rfl (by first | exact Or.inl rfl | exact Or.inr rfl) (d_call (ok__law_period T) (hr.mono (by omega)) rfl T.m__law_period T.F__law_period.kp T.B__law_period passZ (da_cons (d_var 3) da_nil)))
    (ss_cons (s_dnew (i := 5) sc_law.nd rfl (by first | exact rfl | exact Or.inl rfl | decide))
    (ss_cons (s_for PassesOwn.never rfl (i_seq (d_call (ok__law_steady T) (hr.mono (by omega)) rfl T.m__law_steady T.F__law_steady.kp T.B__law_steady passZ (da_cons (d_var 3) da_nil))) (g_name 6 sc_law.nd rfl (by first | exact Or.inl rfl | exact Or.inr rfl)) (ss_cons (s_asgK (i := 7) sc_law.nd rfl (by first | exact rfl | exact Or.inl rfl | decide) (dk_call (ok__law_lowest T) (hr.mono (by omega)) rfl T.m__law_lowest T.F__law_lowest.kp T.B__law_lowest passZ (da_cons (d_op op_sub fr_sub (d_call (ok__law_beside2 T) (hr.mono (by omega)) rfl T.m__law_beside2 T.F__law_beside2.kp T.B__law_beside2 passZ (da_cons (d_var 3) (da_cons (d_op op_addD fr_add (d_var 6) (d_var 4)) da_nil))) (d_call (ok__law_beside2 T) (hr.mono (by omega)) rfl T.m__law_beside2 T.F__law_beside2.kp T.B__law_beside2 passZ (da_cons (d_var 3) (da_cons (d_var 6) da_nil)))) (da_cons (d_var 4) da_nil))))
    (ss_one (s_dput 5 (Nat.lt_of_le_of_lt (Nat.add_le_add_left (show 1 ≤ 64 by decide) _) (hu64 hr)) (dk_v 7)))))
    (ss_cons (s_set (i := 8) sc_law.nd rfl (by first | exact Or.inl rfl | exact Or.inr rfl) (d_call (ok_beside_shares T) (hr.mono (by omega)) rfl T.m_beside_shares T.F_beside_shares.kp T.B_beside_shares passZ (da_cons (d_var 3) da_nil)))
    (ss_cons (s_if (PW.pt (t_or (t_not (t_val (d_callB call_isi fc_isi rfl T.b_isinstance (by decide +kernel) (da_cons (d_var 8) (da_cons (d_type rfl T.b_list (by decide +kernel)) da_nil))))) (t_or1 (t_cmp (op_neD (hu64 hr)) fr_ne (d_var 8) (d_sortK 5 rfl (hu65 hr) rfl T.b_sorted) (nomark _))))) (ss_one (s_ret d_bl)) ss_nil)
    (ss_cons (s_set (i := 6) sc_law.nd rfl (by first | exact Or.inl rfl | exact Or.inr rfl) (d_call (ok__law_far T) (hr.mono (by omega)) rfl T.m__law_far T.F__law_far.kp T.B__law_far passZ (da_cons (d_var 2) da_nil)))
    (ss_cons (s_set (i := 9) sc_law.nd rfl (by first | exact Or.inl rfl | exact Or.inr rfl) (d_call (ok_count_beside T) (hr.mono (by omega)) rfl T.m_count_beside T.F_count_beside.kp T.B_count_beside passZ (da_cons (d_var 3) (da_cons (d_var 6) da_nil))))
    (ss_cons (s_setLc (i := 10) (own := [("share", 7)]) rfl sc_law.nd rfl rfl (sw_true rfl rfl rfl (by decide +kernel)) (i_seq (d_var 8)) (blkOk_by (own := [("share", 7)]) (N := ["script", "k", "source", "words", "step", "shares", "many", "share", "found", "count_so", "near"]) (sc := defScope s_law) (by decide +kernel)) (fun _ _ _ _ _ => (g_name 7 sc_law.nd rfl (by first | exact Or.inl rfl | exact Or.inr rfl))) (fun _ _ _ _ _ => (ts_one (t_cmp op_le fr_icmp (d_callB call_abs fc_abs rfl T.b_abs (by decide +kernel) (da_cons (d_op op_sub fr_sub (d_op op_mulD fr_mul (d_var 9) (d_ix ix_D fr_ix (d_var 7) d_int (fun _ _ => rfl))) (d_op op_mulD fr_mul (d_ix ix_D fr_ix (d_var 7) d_int (fun _ _ => rfl)) (d_var 6))) da_nil)) (d_op op_mulD fr_mul d_int (d_ix ix_D fr_ix (d_var 7) d_int (fun _ _ => rfl))) (nomark _)))) (fun _ _ _ _ _ => (d_var 7)))
    (ss_cons (s_if (t_cmp (op_eqD (hu64 hr)) fr_eq (d_var 10) (d_lst da_nil) (nomark _)) (ss_one (s_ret d_bl)) ss_nil)
    (ss_one (s_if (PW.pt (t_or (t_cmp (op_neD (hu64 hr)) fr_ne (d_call (ok_beside_shares T) (hr.mono (by omega)) rfl T.m_beside_shares T.F_beside_shares.kp T.B_beside_shares passZ (da_cons (d_op op_addD fr_add (d_var 3) (d_tup (da_cons d_str da_nil))) da_nil)) (d_var 8) (nomark _)) (t_or1 (t_cmp (op_neD (hu64 hr)) fr_ne (d_call (ok_beside_shares T) (hr.mono (by omega)) rfl T.m_beside_shares T.F_beside_shares.kp T.B_beside_shares passZ (da_cons (d_op op_addD fr_add (d_var 3) (d_tup (da_cons d_str da_nil))) da_nil)) (d_var 8) (nomark _))))) (ss_one (s_ret d_bl)) ss_nil))))))))))))))
    (ss_cons (s_if (PW.pt (t_or (t_cmp (op_neD (hu64 hr)) fr_ne (d_call (ok_beside_shares T) (hr.mono (by omega)) rfl T.m_beside_shares T.F_beside_shares.kp T.B_beside_shares passZ (da_cons (d_tup da_nil) da_nil)) (d_lst (da_cons (d_tup (da_cons d_int (da_cons d_int da_nil))) da_nil)) (nomark _)) (t_or1 (t_cmp (op_neD (hu64 hr)) fr_ne (d_call (ok_beside_shares T) (hr.mono (by omega)) rfl T.m_beside_shares T.F_beside_shares.kp T.B_beside_shares passZ (da_cons (d_tup (da_cons d_str (da_cons d_str da_nil))) da_nil)) (d_lst (da_cons (d_tup (da_cons d_int (da_cons d_int da_nil))) da_nil)) (nomark _))))) (ss_one (s_ret d_bl)) ss_nil)
    (ss_cons (s_if (PW.pt (t_or (t_cmp (op_neD (hu64 hr)) fr_ne (d_call (ok_beside_shares T) (hr.mono (by omega)) rfl T.m_beside_shares T.F_beside_shares.kp T.B_beside_shares passZ (da_cons (d_tup (da_cons d_str da_nil)) da_nil)) (d_lst (da_cons (d_tup (da_cons d_int (da_cons d_int da_nil))) da_nil)) (nomark _)) (t_or1 (t_cmp (op_neD (hu64 hr)) fr_ne (d_call (ok_beside_shares T) (hr.mono (by omega)) rfl T.m_beside_shares T.F_beside_shares.kp T.B_beside_shares passZ (da_cons (d_tup (da_cons d_str da_nil)) da_nil)) (d_lst (da_cons (d_tup (da_cons d_int (da_cons d_int da_nil))) da_nil)) (nomark _))))) (ss_one (s_ret d_bl)) ss_nil)
    (ss_one (s_ret (d_cmp (op_eqD (hu64 hr)) fr_eq (d_call (ok_beside_shares T) (hr.mono (by omega)) rfl T.m_beside_shares T.F_beside_shares.kp T.B_beside_shares passZ (da_cons (d_tup (da_cons d_str (da_cons d_str da_nil))) da_nil)) (d_lst (da_cons (d_tup (da_cons d_int (da_cons d_int da_nil))) (da_cons (d_tup (da_cons d_int (da_cons d_int da_nil))) da_nil))) (nomark _))))))))
end
theorem all_mk {l : PySem.W.OpenLaw} {w : World} {K : PySem.W.Frag} {h : Heap} {mg : Str → Option Value} {fa : Addr} (X : K.In h) (G : h.Ns mainGlobals mg) (hfa : mg "law" = some (.ref fa))
  {f0 : Addr} {od0 an0 : Option Addr} {sl0 : Array (Option Value)} {oc0 kV0 dc0 pm0 cd0 ct0 : Value}
  {f1 : Addr} {od1 an1 : Option Addr} {sl1 : Array (Option Value)} {oc1 kV1 dc1 pm1 cd1 ct1 : Value}
  {f2 : Addr} {od2 an2 : Option Addr} {sl2 : Array (Option Value)} {oc2 kV2 dc2 pm2 cd2 ct2 : Value}
  {f3 : Addr} {od3 an3 : Option Addr} {sl3 : Array (Option Value)} {oc3 kV3 dc3 pm3 cd3 ct3 : Value}
  {f4 : Addr} {od4 an4 : Option Addr} {sl4 : Array (Option Value)} {oc4 kV4 dc4 pm4 cd4 ct4 : Value}
  {f5 : Addr} {od5 an5 : Option Addr} {sl5 : Array (Option Value)} {oc5 kV5 dc5 pm5 cd5 ct5 : Value}
  {f6 : Addr} {od6 an6 : Option Addr} {sl6 : Array (Option Value)} {oc6 kV6 dc6 pm6 cd6 ct6 : Value}
  {f7 : Addr} {od7 an7 : Option Addr} {sl7 : Array (Option Value)} {oc7 kV7 dc7 pm7 cd7 ct7 : Value}
  {f8 : Addr} {od8 an8 : Option Addr} {sl8 : Array (Option Value)} {oc8 kV8 dc8 pm8 cd8 ct8 : Value}
  {f9 : Addr} {od9 an9 : Option Addr} {sl9 : Array (Option Value)} {oc9 kV9 dc9 pm9 cd9 ct9 : Value}
  {f10 : Addr} {od10 an10 : Option Addr} {sl10 : Array (Option Value)} {oc10 kV10 dc10 pm10 cd10 ct10 : Value}
  {f11 : Addr} {od11 an11 : Option Addr} {sl11 : Array (Option Value)} {oc11 kV11 dc11 pm11 cd11 ct11 : Value}
  {f12 : Addr} {od12 an12 : Option Addr} {sl12 : Array (Option Value)} {oc12 kV12 dc12 pm12 cd12 ct12 : Value}
  {f13 : Addr} {od13 an13 : Option Addr} {sl13 : Array (Option Value)} {oc13 kV13 dc13 pm13 cd13 ct13 : Value}
  {f14 : Addr} {od14 an14 : Option Addr} {sl14 : Array (Option Value)} {oc14 kV14 dc14 pm14 cd14 ct14 : Value}
  {f15 : Addr} {od15 an15 : Option Addr} {sl15 : Array (Option Value)} {oc15 kV15 dc15 pm15 cd15 ct15 : Value}
  {f16 : Addr} {od16 an16 : Option Addr} {sl16 : Array (Option Value)} {oc16 kV16 dc16 pm16 cd16 ct16 : Value}
  {f17 : Addr} {od17 an17 : Option Addr} {sl17 : Array (Option Value)} {oc17 kV17 dc17 pm17 cd17 ct17 : Value}
  {f18 : Addr} {od18 an18 : Option Addr} {sl18 : Array (Option Value)} {oc18 kV18 dc18 pm18 cd18 ct18 : Value}
  {f19 : Addr} {od19 an19 : Option Addr} {sl19 : Array (Option Value)} {oc19 kV19 dc19 pm19 cd19 ct19 : Value}
  {f20 : Addr} {od20 an20 : Option Addr} {sl20 : Array (Option Value)} {oc20 kV20 dc20 pm20 cd20 ct20 : Value}
  {f21 : Addr} {od21 an21 : Option Addr} {sl21 : Array (Option Value)} {oc21 kV21 dc21 pm21 cd21 ct21 : Value}
  {f22 : Addr} {od22 an22 : Option Addr} {sl22 : Array (Option Value)} {oc22 kV22 dc22 pm22 cd22 ct22 : Value}
  {f23 : Addr} {od23 an23 : Option Addr} {sl23 : Array (Option Value)} {oc23 kV23 dc23 pm23 cd23 ct23 : Value}
  {f24 : Addr} {od24 an24 : Option Addr} {sl24 : Array (Option Value)} {oc24 kV24 dc24 pm24 cd24 ct24 : Value}
  {f25 : Addr} {od25 an25 : Option Addr} {sl25 : Array (Option Value)} {oc25 kV25 dc25 pm25 cd25 ct25 : Value}
  {f26 : Addr} {od26 an26 : Option Addr} {sl26 : Array (Option Value)} {oc26 kV26 dc26 pm26 cd26 ct26 : Value}
  {f27 : Addr} {od27 an27 : Option Addr} {sl27 : Array (Option Value)} {oc27 kV27 dc27 pm27 cd27 ct27 : Value}
  {f28 : Addr} {od28 an28 : Option Addr} {sl28 : Array (Option Value)} {oc28 kV28 dc28 pm28 cd28 ct28 : Value}
  {f29 : Addr} {od29 an29 : Option Addr} {sl29 : Array (Option Value)} {oc29 kV29 dc29 pm29 cd29 ct29 : Value}
  {f30 : Addr} {od30 an30 : Option Addr} {sl30 : Array (Option Value)} {oc30 kV30 dc30 pm30 cd30 ct30 : Value}
  {f31 : Addr} {od31 an31 : Option Addr} {sl31 : Array (Option Value)} {oc31 kV31 dc31 pm31 cd31 ct31 : Value}
  {f32 : Addr} {od32 an32 : Option Addr} {sl32 : Array (Option Value)} {oc32 kV32 dc32 pm32 cd32 ct32 : Value}
  {f33 : Addr} {od33 an33 : Option Addr} {sl33 : Array (Option Value)} {oc33 kV33 dc33 pm33 cd33 ct33 : Value}
  {f34 : Addr} {od34 an34 : Option Addr} {sl34 : Array (Option Value)} {oc34 kV34 dc34 pm34 cd34 ct34 : Value}
  {f35 : Addr} {od35 an35 : Option Addr} {sl35 : Array (Option Value)} {oc35 kV35 dc35 pm35 cd35 ct35 : Value}
  {f36 : Addr} {od36 an36 : Option Addr} {sl36 : Array (Option Value)} {oc36 kV36 dc36 pm36 cd36 ct36 : Value}
  {ga_WORDS : Addr} {gd_WORDS : Option Addr} {gi_WORDS : Array Value} {gn_WORDS : Nat} {gs_WORDS : Array (Option Value)}
  {gt_MAX_WORDS : Tok}
  {gt_MAX_SHAPES : Tok}
  {gt_MANY : Tok}
  {gt_MAX_NUMBER : Tok}
  {da_FACTORS : Addr} {de_FACTORS : Array DictEntry} {dn_FACTORS : Nat}
  (a0 : PySem.W.nsIn K mainGlobals "_law_source" = some (some (.ref f0)))
  (l0 : K.lookup f0 = some ⟨oc0, od0, .func (PySem.W.fnOf "_law_source" "_law_source" (defArgs s__law_source) (defBody s__law_source) (defScope s__law_source) .none kV0 dc0 pm0 an0 cd0 ct0), sl0⟩)
  (c0 : PySem.W.codeIn K cd0 "_law_source" = true)
  (k0 : PySem.W.keepIn K (.ref f0) = true)
  (a1 : PySem.W.nsIn K mainGlobals "_law_pick" = some (some (.ref f1)))
  (l1 : K.lookup f1 = some ⟨oc1, od1, .func (PySem.W.fnOf "_law_pick" "_law_pick" (defArgs s__law_pick) (defBody s__law_pick) (defScope s__law_pick) .none kV1 dc1 pm1 an1 cd1 ct1), sl1⟩)
  (c1 : PySem.W.codeIn K cd1 "_law_pick" = true)
  (k1 : PySem.W.keepIn K (.ref f1) = true)
  (a2 : PySem.W.nsIn K mainGlobals "_law_chosen" = some (some (.ref f2)))
  (l2 : K.lookup f2 = some ⟨oc2, od2, .func (PySem.W.fnOf "_law_chosen" "_law_chosen" (defArgs s__law_chosen) (defBody s__law_chosen) (defScope s__law_chosen) .none kV2 dc2 pm2 an2 cd2 ct2), sl2⟩)
  (c2 : PySem.W.codeIn K cd2 "_law_chosen" = true)
  (k2 : PySem.W.keepIn K (.ref f2) = true)
  (a3 : PySem.W.nsIn K mainGlobals "_law_all_words" = some (some (.ref f3)))
  (l3 : K.lookup f3 = some ⟨oc3, od3, .func (PySem.W.fnOf "_law_all_words" "_law_all_words" (defArgs s__law_all_words) (defBody s__law_all_words) (defScope s__law_all_words) .none kV3 dc3 pm3 an3 cd3 ct3), sl3⟩)
  (c3 : PySem.W.codeIn K cd3 "_law_all_words" = true)
  (k3 : PySem.W.keepIn K (.ref f3) = true)
  (a4 : PySem.W.nsIn K mainGlobals "_law_factor" = some (some (.ref f4)))
  (l4 : K.lookup f4 = some ⟨oc4, od4, .func (PySem.W.fnOf "_law_factor" "_law_factor" (defArgs s__law_factor) (defBody s__law_factor) (defScope s__law_factor) .none kV4 dc4 pm4 an4 cd4 ct4), sl4⟩)
  (c4 : PySem.W.codeIn K cd4 "_law_factor" = true)
  (k4 : PySem.W.keepIn K (.ref f4) = true)
  (a5 : PySem.W.nsIn K mainGlobals "_law_is_good_row" = some (some (.ref f5)))
  (l5 : K.lookup f5 = some ⟨oc5, od5, .func (PySem.W.fnOf "_law_is_good_row" "_law_is_good_row" (defArgs s__law_is_good_row) (defBody s__law_is_good_row) (defScope s__law_is_good_row) .none kV5 dc5 pm5 an5 cd5 ct5), sl5⟩)
  (c5 : PySem.W.codeIn K cd5 "_law_is_good_row" = true)
  (k5 : PySem.W.keepIn K (.ref f5) = true)
  (a6 : PySem.W.nsIn K mainGlobals "_law_row" = some (some (.ref f6)))
  (l6 : K.lookup f6 = some ⟨oc6, od6, .func (PySem.W.fnOf "_law_row" "_law_row" (defArgs s__law_row) (defBody s__law_row) (defScope s__law_row) .none kV6 dc6 pm6 an6 cd6 ct6), sl6⟩)
  (c6 : PySem.W.codeIn K cd6 "_law_row" = true)
  (k6 : PySem.W.keepIn K (.ref f6) = true)
  (a7 : PySem.W.nsIn K mainGlobals "_law_period" = some (some (.ref f7)))
  (l7 : K.lookup f7 = some ⟨oc7, od7, .func (PySem.W.fnOf "_law_period" "_law_period" (defArgs s__law_period) (defBody s__law_period) (defScope s__law_period) .none kV7 dc7 pm7 an7 cd7 ct7), sl7⟩)
  (c7 : PySem.W.codeIn K cd7 "_law_period" = true)
  (k7 : PySem.W.keepIn K (.ref f7) = true)
  (a8 : PySem.W.nsIn K mainGlobals "_law_steady" = some (some (.ref f8)))
  (l8 : K.lookup f8 = some ⟨oc8, od8, .func (PySem.W.fnOf "_law_steady" "_law_steady" (defArgs s__law_steady) (defBody s__law_steady) (defScope s__law_steady) .none kV8 dc8 pm8 an8 cd8 ct8), sl8⟩)
  (c8 : PySem.W.codeIn K cd8 "_law_steady" = true)
  (k8 : PySem.W.keepIn K (.ref f8) = true)
  (a9 : PySem.W.nsIn K mainGlobals "is_word" = some (some (.ref f9)))
  (l9 : K.lookup f9 = some ⟨oc9, od9, .func (PySem.W.fnOf "is_word" "is_word" (defArgs s_is_word) (defBody s_is_word) (defScope s_is_word) .none kV9 dc9 pm9 an9 cd9 ct9), sl9⟩)
  (c9 : PySem.W.codeIn K cd9 "is_word" = true)
  (k9 : PySem.W.keepIn K (.ref f9) = true)
  (a10 : PySem.W.nsIn K mainGlobals "is_row" = some (some (.ref f10)))
  (l10 : K.lookup f10 = some ⟨oc10, od10, .func (PySem.W.fnOf "is_row" "is_row" (defArgs s_is_row) (defBody s_is_row) (defScope s_is_row) .none kV10 dc10 pm10 an10 cd10 ct10), sl10⟩)
  (c10 : PySem.W.codeIn K cd10 "is_row" = true)
  (k10 : PySem.W.keepIn K (.ref f10) = true)
  (a11 : PySem.W.nsIn K mainGlobals "require_row" = some (some (.ref f11)))
  (l11 : K.lookup f11 = some ⟨oc11, od11, .func (PySem.W.fnOf "require_row" "require_row" (defArgs s_require_row) (defBody s_require_row) (defScope s_require_row) .none kV11 dc11 pm11 an11 cd11 ct11), sl11⟩)
  (c11 : PySem.W.codeIn K cd11 "require_row" = true)
  (k11 : PySem.W.keepIn K (.ref f11) = true)
  (a12 : PySem.W.nsIn K mainGlobals "period_of" = some (some (.ref f12)))
  (l12 : K.lookup f12 = some ⟨oc12, od12, .func (PySem.W.fnOf "period_of" "period_of" (defArgs s_period_of) (defBody s_period_of) (defScope s_period_of) .none kV12 dc12 pm12 an12 cd12 ct12), sl12⟩)
  (c12 : PySem.W.codeIn K cd12 "period_of" = true)
  (k12 : PySem.W.keepIn K (.ref f12) = true)
  (a13 : PySem.W.nsIn K mainGlobals "steady_numbers" = some (some (.ref f13)))
  (l13 : K.lookup f13 = some ⟨oc13, od13, .func (PySem.W.fnOf "steady_numbers" "steady_numbers" (defArgs s_steady_numbers) (defBody s_steady_numbers) (defScope s_steady_numbers) .none kV13 dc13 pm13 an13 cd13 ct13), sl13⟩)
  (c13 : PySem.W.codeIn K cd13 "steady_numbers" = true)
  (k13 : PySem.W.keepIn K (.ref f13) = true)
  (a14 : PySem.W.nsIn K mainGlobals "first_state" = some (some (.ref f14)))
  (l14 : K.lookup f14 = some ⟨oc14, od14, .func (PySem.W.fnOf "first_state" "first_state" (defArgs s_first_state) (defBody s_first_state) (defScope s_first_state) .none kV14 dc14 pm14 an14 cd14 ct14), sl14⟩)
  (c14 : PySem.W.codeIn K cd14 "first_state" = true)
  (k14 : PySem.W.keepIn K (.ref f14) = true)
  (a15 : PySem.W.nsIn K mainGlobals "resized" = some (some (.ref f15)))
  (l15 : K.lookup f15 = some ⟨oc15, od15, .func (PySem.W.fnOf "resized" "resized" (defArgs s_resized) (defBody s_resized) (defScope s_resized) .none kV15 dc15 pm15 an15 cd15 ct15), sl15⟩)
  (c15 : PySem.W.codeIn K cd15 "resized" = true)
  (k15 : PySem.W.keepIn K (.ref f15) = true)
  (a16 : PySem.W.nsIn K mainGlobals "in_ranks" = some (some (.ref f16)))
  (l16 : K.lookup f16 = some ⟨oc16, od16, .func (PySem.W.fnOf "in_ranks" "in_ranks" (defArgs s_in_ranks) (defBody s_in_ranks) (defScope s_in_ranks) .none kV16 dc16 pm16 an16 cd16 ct16), sl16⟩)
  (c16 : PySem.W.codeIn K cd16 "in_ranks" = true)
  (k16 : PySem.W.keepIn K (.ref f16) = true)
  (a17 : PySem.W.nsIn K mainGlobals "moved" = some (some (.ref f17)))
  (l17 : K.lookup f17 = some ⟨oc17, od17, .func (PySem.W.fnOf "moved" "moved" (defArgs s_moved) (defBody s_moved) (defScope s_moved) .none kV17 dc17 pm17 an17 cd17 ct17), sl17⟩)
  (c17 : PySem.W.codeIn K cd17 "moved" = true)
  (k17 : PySem.W.keepIn K (.ref f17) = true)
  (a18 : PySem.W.nsIn K mainGlobals "obeyed" = some (some (.ref f18)))
  (l18 : K.lookup f18 = some ⟨oc18, od18, .func (PySem.W.fnOf "obeyed" "obeyed" (defArgs s_obeyed) (defBody s_obeyed) (defScope s_obeyed) .none kV18 dc18 pm18 an18 cd18 ct18), sl18⟩)
  (c18 : PySem.W.codeIn K cd18 "obeyed" = true)
  (k18 : PySem.W.keepIn K (.ref f18) = true)
  (a19 : PySem.W.nsIn K mainGlobals "drilled" = some (some (.ref f19)))
  (l19 : K.lookup f19 = some ⟨oc19, od19, .func (PySem.W.fnOf "drilled" "drilled" (defArgs s_drilled) (defBody s_drilled) (defScope s_drilled) .none kV19 dc19 pm19 an19 cd19 ct19), sl19⟩)
  (c19 : PySem.W.codeIn K cd19 "drilled" = true)
  (k19 : PySem.W.keepIn K (.ref f19) = true)
  (a20 : PySem.W.nsIn K mainGlobals "beside_in" = some (some (.ref f20)))
  (l20 : K.lookup f20 = some ⟨oc20, od20, .func (PySem.W.fnOf "beside_in" "beside_in" (defArgs s_beside_in) (defBody s_beside_in) (defScope s_beside_in) .none kV20 dc20 pm20 an20 cd20 ct20), sl20⟩)
  (c20 : PySem.W.codeIn K cd20 "beside_in" = true)
  (k20 : PySem.W.keepIn K (.ref f20) = true)
  (a21 : PySem.W.nsIn K mainGlobals "common_multiple" = some (some (.ref f21)))
  (l21 : K.lookup f21 = some ⟨oc21, od21, .func (PySem.W.fnOf "common_multiple" "common_multiple" (defArgs s_common_multiple) (defBody s_common_multiple) (defScope s_common_multiple) .none kV21 dc21 pm21 an21 cd21 ct21), sl21⟩)
  (c21 : PySem.W.codeIn K cd21 "common_multiple" = true)
  (k21 : PySem.W.keepIn K (.ref f21) = true)
  (a22 : PySem.W.nsIn K mainGlobals "beside_shares" = some (some (.ref f22)))
  (l22 : K.lookup f22 = some ⟨oc22, od22, .func (PySem.W.fnOf "beside_shares" "beside_shares" (defArgs s_beside_shares) (defBody s_beside_shares) (defScope s_beside_shares) .none kV22 dc22 pm22 an22 cd22 ct22), sl22⟩)
  (c22 : PySem.W.codeIn K cd22 "beside_shares" = true)
  (k22 : PySem.W.keepIn K (.ref f22) = true)
  (a23 : PySem.W.nsIn K mainGlobals "_law_far" = some (some (.ref f23)))
  (l23 : K.lookup f23 = some ⟨oc23, od23, .func (PySem.W.fnOf "_law_far" "_law_far" (defArgs s__law_far) (defBody s__law_far) (defScope s__law_far) .none kV23 dc23 pm23 an23 cd23 ct23), sl23⟩)
  (c23 : PySem.W.codeIn K cd23 "_law_far" = true)
  (k23 : PySem.W.keepIn K (.ref f23) = true)
  (a24 : PySem.W.nsIn K mainGlobals "is_integer" = some (some (.ref f24)))
  (l24 : K.lookup f24 = some ⟨oc24, od24, .func (PySem.W.fnOf "is_integer" "is_integer" (defArgs s_is_integer) (defBody s_is_integer) (defScope s_is_integer) .none kV24 dc24 pm24 an24 cd24 ct24), sl24⟩)
  (c24 : PySem.W.codeIn K cd24 "is_integer" = true)
  (k24 : PySem.W.keepIn K (.ref f24) = true)
  (a25 : PySem.W.nsIn K mainGlobals "require_number" = some (some (.ref f25)))
  (l25 : K.lookup f25 = some ⟨oc25, od25, .func (PySem.W.fnOf "require_number" "require_number" (defArgs s_require_number) (defBody s_require_number) (defScope s_require_number) .none kV25 dc25 pm25 an25 cd25 ct25), sl25⟩)
  (c25 : PySem.W.codeIn K cd25 "require_number" = true)
  (k25 : PySem.W.keepIn K (.ref f25) = true)
  (a26 : PySem.W.nsIn K mainGlobals "is_small" = some (some (.ref f26)))
  (l26 : K.lookup f26 = some ⟨oc26, od26, .func (PySem.W.fnOf "is_small" "is_small" (defArgs s_is_small) (defBody s_is_small) (defScope s_is_small) .none kV26 dc26 pm26 an26 cd26 ct26), sl26⟩)
  (c26 : PySem.W.codeIn K cd26 "is_small" = true)
  (k26 : PySem.W.keepIn K (.ref f26) = true)
  (a27 : PySem.W.nsIn K mainGlobals "small_number" = some (some (.ref f27)))
  (l27 : K.lookup f27 = some ⟨oc27, od27, .func (PySem.W.fnOf "small_number" "small_number" (defArgs s_small_number) (defBody s_small_number) (defScope s_small_number) .none kV27 dc27 pm27 an27 cd27 ct27), sl27⟩)
  (c27 : PySem.W.codeIn K cd27 "small_number" = true)
  (k27 : PySem.W.keepIn K (.ref f27) = true)
  (a28 : PySem.W.nsIn K mainGlobals "grown" = some (some (.ref f28)))
  (l28 : K.lookup f28 = some ⟨oc28, od28, .func (PySem.W.fnOf "grown" "grown" (defArgs s_grown) (defBody s_grown) (defScope s_grown) .none kV28 dc28 pm28 an28 cd28 ct28), sl28⟩)
  (c28 : PySem.W.codeIn K cd28 "grown" = true)
  (k28 : PySem.W.keepIn K (.ref f28) = true)
  (a29 : PySem.W.nsIn K mainGlobals "count_beside" = some (some (.ref f29)))
  (l29 : K.lookup f29 = some ⟨oc29, od29, .func (PySem.W.fnOf "count_beside" "count_beside" (defArgs s_count_beside) (defBody s_count_beside) (defScope s_count_beside) .none kV29 dc29 pm29 an29 cd29 ct29), sl29⟩)
  (c29 : PySem.W.codeIn K cd29 "count_beside" = true)
  (k29 : PySem.W.keepIn K (.ref f29) = true)
  (a30 : PySem.W.nsIn K mainGlobals "_law_lowest" = some (some (.ref f30)))
  (l30 : K.lookup f30 = some ⟨oc30, od30, .func (PySem.W.fnOf "_law_lowest" "_law_lowest" (defArgs s__law_lowest) (defBody s__law_lowest) (defScope s__law_lowest) .none kV30 dc30 pm30 an30 cd30 ct30), sl30⟩)
  (c30 : PySem.W.codeIn K cd30 "_law_lowest" = true)
  (k30 : PySem.W.keepIn K (.ref f30) = true)
  (a31 : PySem.W.nsIn K mainGlobals "_law_step" = some (some (.ref f31)))
  (l31 : K.lookup f31 = some ⟨oc31, od31, .func (PySem.W.fnOf "_law_step" "_law_step" (defArgs s__law_step) (defBody s__law_step) (defScope s__law_step) .none kV31 dc31 pm31 an31 cd31 ct31), sl31⟩)
  (c31 : PySem.W.codeIn K cd31 "_law_step" = true)
  (k31 : PySem.W.keepIn K (.ref f31) = true)
  (a32 : PySem.W.nsIn K mainGlobals "_law_ranked" = some (some (.ref f32)))
  (l32 : K.lookup f32 = some ⟨oc32, od32, .func (PySem.W.fnOf "_law_ranked" "_law_ranked" (defArgs s__law_ranked) (defBody s__law_ranked) (defScope s__law_ranked) .none kV32 dc32 pm32 an32 cd32 ct32), sl32⟩)
  (c32 : PySem.W.codeIn K cd32 "_law_ranked" = true)
  (k32 : PySem.W.keepIn K (.ref f32) = true)
  (a33 : PySem.W.nsIn K mainGlobals "_law_obey" = some (some (.ref f33)))
  (l33 : K.lookup f33 = some ⟨oc33, od33, .func (PySem.W.fnOf "_law_obey" "_law_obey" (defArgs s__law_obey) (defBody s__law_obey) (defScope s__law_obey) .none kV33 dc33 pm33 an33 cd33 ct33), sl33⟩)
  (c33 : PySem.W.codeIn K cd33 "_law_obey" = true)
  (k33 : PySem.W.keepIn K (.ref f33) = true)
  (a34 : PySem.W.nsIn K mainGlobals "_law_drilled" = some (some (.ref f34)))
  (l34 : K.lookup f34 = some ⟨oc34, od34, .func (PySem.W.fnOf "_law_drilled" "_law_drilled" (defArgs s__law_drilled) (defBody s__law_drilled) (defScope s__law_drilled) .none kV34 dc34 pm34 an34 cd34 ct34), sl34⟩)
  (c34 : PySem.W.codeIn K cd34 "_law_drilled" = true)
  (k34 : PySem.W.keepIn K (.ref f34) = true)
  (a35 : PySem.W.nsIn K mainGlobals "_law_beside" = some (some (.ref f35)))
  (l35 : K.lookup f35 = some ⟨oc35, od35, .func (PySem.W.fnOf "_law_beside" "_law_beside" (defArgs s__law_beside2) (defBody s__law_beside2) (defScope s__law_beside2) .none kV35 dc35 pm35 an35 cd35 ct35), sl35⟩)
  (c35 : PySem.W.codeIn K cd35 "_law_beside" = true)
  (k35 : PySem.W.keepIn K (.ref f35) = true)
  (a36 : PySem.W.nsIn K mainGlobals "law" = some (some (.ref f36)))
  (l36 : K.lookup f36 = some ⟨oc36, od36, .func (PySem.W.fnOf "law" "law" (defArgs s_law) (defBody s_law) (defScope s_law) .none kV36 dc36 pm36 an36 cd36 ct36), sl36⟩)
  (c36 : PySem.W.codeIn K cd36 "law" = true)
  (k36 : PySem.W.keepIn K (.ref f36) = true)
  (z_len : PySem.W.nsIn K mainGlobals "len" = some none)
  (z_int : PySem.W.nsIn K mainGlobals "int" = some none)
  (z_tuple : PySem.W.nsIn K mainGlobals "tuple" = some none)
  (z_isinstance : PySem.W.nsIn K mainGlobals "isinstance" = some none)
  (z_str : PySem.W.nsIn K mainGlobals "str" = some none)
  (z_range : PySem.W.nsIn K mainGlobals "range" = some none)
  (z_list : PySem.W.nsIn K mainGlobals "list" = some none)
  (z_all : PySem.W.nsIn K mainGlobals "all" = some none)
  (z_enumerate : PySem.W.nsIn K mainGlobals "enumerate" = some none)
  (z_sorted : PySem.W.nsIn K mainGlobals "sorted" = some none)
  (z_zip : PySem.W.nsIn K mainGlobals "zip" = some none)
  (z_abs : PySem.W.nsIn K mainGlobals "abs" = some none)
  (z_bool : PySem.W.nsIn K mainGlobals "bool" = some none)
  (z_min : PySem.W.nsIn K mainGlobals "min" = some none)
  (z_max : PySem.W.nsIn K mainGlobals "max" = some none)
  (g_WORDS : PySem.W.nsIn K mainGlobals "WORDS" = some (some (.ref ga_WORDS)))
  (gl_WORDS : K.lookup ga_WORDS = some ⟨.type "tuple", gd_WORDS, .seq gi_WORDS gn_WORDS, gs_WORDS⟩)
  (ge_WORDS : gi_WORDS.toList.map absV = ((["about", "change", "column 2", "column 3", "double", "left", "line", "right", "undouble", "wheel left", "wheel right"] : List Str).map V.str).map some ∧ gi_WORDS.size ≤ 1000)
  (g_MAX_WORDS : PySem.W.nsIn K mainGlobals "MAX_WORDS" = some (some (.int 8 gt_MAX_WORDS)))
  (g_MAX_SHAPES : PySem.W.nsIn K mainGlobals "MAX_SHAPES" = some (some (.int 2 gt_MAX_SHAPES)))
  (g_MANY : PySem.W.nsIn K mainGlobals "MANY" = some (some (.int 8 gt_MANY)))
  (g_MAX_NUMBER : PySem.W.nsIn K mainGlobals "MAX_NUMBER" = some (some (.int 1000000000000 gt_MAX_NUMBER)))
  (d_FACTORS : PySem.W.nsIn K mainGlobals "FACTORS" = some (some (.ref da_FACTORS)))
  (dl_FACTORS : K.lookup da_FACTORS = some ⟨.type "dict", none, .dict de_FACTORS dn_FACTORS, #[]⟩)
  (dk_FACTORS : PySem.W.KeysLit w.params de_FACTORS.toList)
  (do_FACTORS : (da_FACTORS == sysModules) = false)
  (de_FACTORS : de_FACTORS.toList.map entAbs = k_FACTORS.map some ∧ de_FACTORS.toList.any (·.refKey) = false) :
  ∃ fd : FuncData, (∀ (s : Shared) (v : Value), BindsTo s fd ⟨[v], []⟩ [("script", v)]) ∧ ∀ base : Heap, K.In base → base.Ns mainGlobals mg → FnOk l.prog w K mg base CX0 7 fa fd ["script"] (spLaw K) := by
  have e := hfa.symm.trans (PySem.W.mg_of X G a36)
  cases e
  have F0 := fun_mk (st := s__law_source) l0 c0 k0
  have B0 := F0.binds (ps := ["script", "k"]) fun _ _ _ _ _ _ us hl => match us, hl with | [_, _], _ => rfl
  have F1 := fun_mk (st := s__law_pick) l1 c1 k1
  have B1 := F1.binds (ps := ["source", "limit"]) fun _ _ _ _ _ _ us hl => match us, hl with | [_, _], _ => rfl
  have F2 := fun_mk (st := s__law_chosen) l2 c2 k2
  have B2 := F2.binds (ps := ["source", "some"]) fun _ _ _ _ _ _ us hl => match us, hl with | [_, _], _ => rfl
  have F3 := fun_mk (st := s__law_all_words) l3 c3 k3
  have B3 := F3.binds (ps := []) fun _ _ _ _ _ _ us hl => match us, hl with | [], _ => rfl
  have F4 := fun_mk (st := s__law_factor) l4 c4 k4
  have B4 := F4.binds (ps := ["word"]) fun _ _ _ _ _ _ us hl => match us, hl with | [_], _ => rfl
  have F5 := fun_mk (st := s__law_is_good_row) l5 c5 k5
  have B5 := F5.binds (ps := ["value"]) fun _ _ _ _ _ _ us hl => match us, hl with | [_], _ => rfl
  have F6 := fun_mk (st := s__law_row) l6 c6 k6
  have B6 := F6.binds (ps := ["source", "most"]) fun _ _ _ _ _ _ us hl => match us, hl with | [_, _], _ => rfl
  have F7 := fun_mk (st := s__law_period) l7 c7 k7
  have B7 := F7.binds (ps := ["words"]) fun _ _ _ _ _ _ us hl => match us, hl with | [_], _ => rfl
  have F8 := fun_mk (st := s__law_steady) l8 c8 k8
  have B8 := F8.binds (ps := ["words"]) fun _ _ _ _ _ _ us hl => match us, hl with | [_], _ => rfl
  have F9 := fun_mk (st := s_is_word) l9 c9 k9
  have B9 := F9.binds (ps := ["value"]) fun _ _ _ _ _ _ us hl => match us, hl with | [_], _ => rfl
  have F10 := fun_mk (st := s_is_row) l10 c10 k10
  have B10 := F10.binds (ps := ["value"]) fun _ _ _ _ _ _ us hl => match us, hl with | [_], _ => rfl
  have F11 := fun_mk (st := s_require_row) l11 c11 k11
  have B11 := F11.binds (ps := ["value"]) fun _ _ _ _ _ _ us hl => match us, hl with | [_], _ => rfl
  have F12 := fun_mk (st := s_period_of) l12 c12 k12
  have B12 := F12.binds (ps := ["row"]) fun _ _ _ _ _ _ us hl => match us, hl with | [_], _ => rfl
  have F13 := fun_mk (st := s_steady_numbers) l13 c13 k13
  have B13 := F13.binds (ps := ["row"]) fun _ _ _ _ _ _ us hl => match us, hl with | [_], _ => rfl
  have F14 := fun_mk (st := s_first_state) l14 c14 k14
  have B14 := F14.binds (ps := ["number"]) fun _ _ _ _ _ _ us hl => match us, hl with | [_], _ => rfl
  have F15 := fun_mk (st := s_resized) l15 c15 k15
  have B15 := F15.binds (ps := ["word", "ranks", "files"]) fun _ _ _ _ _ _ us hl => match us, hl with | [_, _, _], _ => rfl
  have F16 := fun_mk (st := s_in_ranks) l16 c16 k16
  have B16 := F16.binds (ps := ["places", "width"]) fun _ _ _ _ _ _ us hl => match us, hl with | [_, _], _ => rfl
  have F17 := fun_mk (st := s_moved) l17 c17 k17
  have B17 := F17.binds (ps := ["word", "ranks", "files", "spot"]) fun _ _ _ _ _ _ us hl => match us, hl with | [_, _, _, _], _ => rfl
  have F18 := fun_mk (st := s_obeyed) l18 c18 k18
  have B18 := F18.binds (ps := ["word", "state"]) fun _ _ _ _ _ _ us hl => match us, hl with | [_, _], _ => rfl
  have F19 := fun_mk (st := s_drilled) l19 c19 k19
  have B19 := F19.binds (ps := ["row", "number"]) fun _ _ _ _ _ _ us hl => match us, hl with | [_, _], _ => rfl
  have F20 := fun_mk (st := s_beside_in) l20 c20 k20
  have B20 := F20.binds (ps := ["row", "number"]) fun _ _ _ _ _ _ us hl => match us, hl with | [_, _], _ => rfl
  have F21 := fun_mk (st := s_common_multiple) l21 c21 k21
  have B21 := F21.binds (ps := ["one", "other"]) fun _ _ _ _ _ _ us hl => match us, hl with | [_, _], _ => rfl
  have F22 := fun_mk (st := s_beside_shares) l22 c22 k22
  have B22 := F22.binds (ps := ["row"]) fun _ _ _ _ _ _ us hl => match us, hl with | [_], _ => rfl
  have F23 := fun_mk (st := s__law_far) l23 c23 k23
  have B23 := F23.binds (ps := ["source"]) fun _ _ _ _ _ _ us hl => match us, hl with | [_], _ => rfl
  have F24 := fun_mk (st := s_is_integer) l24 c24 k24
  have B24 := F24.binds (ps := ["value", "low", "high"]) fun _ _ _ _ _ _ us hl => match us, hl with | [_, _, _], _ => rfl
  have F25 := fun_mk (st := s_require_number) l25 c25 k25
  have B25 := F25.binds (ps := ["value", "low", "high"]) fun _ _ _ _ _ _ us hl => match us, hl with | [_, _, _], _ => rfl
  have F26 := fun_mk (st := s_is_small) l26 c26 k26
  have B26 := F26.binds (ps := ["row", "number"]) fun _ _ _ _ _ _ us hl => match us, hl with | [_, _], _ => rfl
  have F27 := fun_mk (st := s_small_number) l27 c27 k27
  have B27 := F27.binds (ps := ["row", "number"]) fun _ _ _ _ _ _ us hl => match us, hl with | [_, _], _ => rfl
  have F28 := fun_mk (st := s_grown) l28 c28 k28
  have B28 := F28.binds (ps := ["one", "other", "times"]) fun _ _ _ _ _ _ us hl => match us, hl with | [_, _, _], _ => rfl
  have F29 := fun_mk (st := s_count_beside) l29 c29 k29
  have B29 := F29.binds (ps := ["row", "number"]) fun _ _ _ _ _ _ us hl => match us, hl with | [_, _], _ => rfl
  have F30 := fun_mk (st := s__law_lowest) l30 c30 k30
  have B30 := F30.binds (ps := ["top", "bottom"]) fun _ _ _ _ _ _ us hl => match us, hl with | [_, _], _ => rfl
  have F31 := fun_mk (st := s__law_step) l31 c31 k31
  have B31 := F31.binds (ps := ["word", "d", "w", "r", "f"]) fun _ _ _ _ _ _ us hl => match us, hl with | [_, _, _, _, _], _ => rfl
  have F32 := fun_mk (st := s__law_ranked) l32 c32 k32
  have B32 := F32.binds (ps := ["spots", "width"]) fun _ _ _ _ _ _ us hl => match us, hl with | [_, _], _ => rfl
  have F33 := fun_mk (st := s__law_obey) l33 c33 k33
  have B33 := F33.binds (ps := ["word", "here"]) fun _ _ _ _ _ _ us hl => match us, hl with | [_, _], _ => rfl
  have F34 := fun_mk (st := s__law_drilled) l34 c34 k34
  have B34 := F34.binds (ps := ["words", "many"]) fun _ _ _ _ _ _ us hl => match us, hl with | [_, _], _ => rfl
  have F35 := fun_mk (st := s__law_beside2) l35 c35 k35
  have B35 := F35.binds (ps := ["words", "many"]) fun _ _ _ _ _ _ us hl => match us, hl with | [_, _], _ => rfl
  have F36 := fun_mk (st := s_law) l36 c36 k36
  have B36 := F36.binds (ps := ["script"]) fun _ _ _ _ _ _ us hl => match us, hl with | [_], _ => rfl
  let T : Txt K w mg := {
    b_len := PySem.W.mg_none_of X G z_len,
    b_int := PySem.W.mg_none_of X G z_int,
    b_tuple := PySem.W.mg_none_of X G z_tuple,
    b_isinstance := PySem.W.mg_none_of X G z_isinstance,
    b_str := PySem.W.mg_none_of X G z_str,
    b_range := PySem.W.mg_none_of X G z_range,
    b_list := PySem.W.mg_none_of X G z_list,
    b_all := PySem.W.mg_none_of X G z_all,
    b_enumerate := PySem.W.mg_none_of X G z_enumerate,
    b_sorted := PySem.W.mg_none_of X G z_sorted,
    b_zip := PySem.W.mg_none_of X G z_zip,
    b_abs := PySem.W.mg_none_of X G z_abs,
    b_bool := PySem.W.mg_none_of X G z_bool,
    b_min := PySem.W.mg_none_of X G z_min,
    b_max := PySem.W.mg_none_of X G z_max,
    g_WORDS := KG.tupS (PySem.W.mg_of X G g_WORDS) gl_WORDS ge_WORDS.1 ge_WORDS.2,
    g_MAX_WORDS := KG.int (PySem.W.mg_of X G g_MAX_WORDS),
    g_MAX_SHAPES := KG.int (PySem.W.mg_of X G g_MAX_SHAPES),
    g_MANY := KG.int (PySem.W.mg_of X G g_MANY),
    g_MAX_NUMBER := KG.int (PySem.W.mg_of X G g_MAX_NUMBER),
    d_FACTORS := KD.mk' (PySem.W.mg_of X G d_FACTORS) dl_FACTORS dk_FACTORS do_FACTORS de_FACTORS.1 de_FACTORS.2,
    f__law_source := f0,
    fd__law_source := _,
    F__law_source := F0,
    m__law_source := PySem.W.mg_of X G a0,
    B__law_source := B0,
    f__law_pick := f1,
    fd__law_pick := _,
    F__law_pick := F1,
    m__law_pick := PySem.W.mg_of X G a1,
    B__law_pick := B1,
    f__law_chosen := f2,
    fd__law_chosen := _,
    F__law_chosen := F2,
    m__law_chosen := PySem.W.mg_of X G a2,
    B__law_chosen := B2,
    f__law_all_words := f3,
    fd__law_all_words := _,
    F__law_all_words := F3,
    m__law_all_words := PySem.W.mg_of X G a3,
    B__law_all_words := B3,
    f__law_factor := f4,
    fd__law_factor := _,
    F__law_factor := F4,
    m__law_factor := PySem.W.mg_of X G a4,
    B__law_factor := B4,
    f__law_is_good_row := f5,
    fd__law_is_good_row := _,
    F__law_is_good_row := F5,
    m__law_is_good_row := PySem.W.mg_of X G a5,
    B__law_is_good_row := B5,
    f__law_row := f6,
    fd__law_row := _,
    F__law_row := F6,
    m__law_row := PySem.W.mg_of X G a6,
    B__law_row := B6,
    f__law_period := f7,
    fd__law_period := _,
    F__law_period := F7,
    m__law_period := PySem.W.mg_of X G a7,
    B__law_period := B7,
    f__law_steady := f8,
    fd__law_steady := _,
    F__law_steady := F8,
    m__law_steady := PySem.W.mg_of X G a8,
    B__law_steady := B8,
    f_is_word := f9,
    fd_is_word := _,
    F_is_word := F9,
    m_is_word := PySem.W.mg_of X G a9,
    B_is_word := B9,
    f_is_row := f10,
    fd_is_row := _,
    F_is_row := F10,
    m_is_row := PySem.W.mg_of X G a10,
    B_is_row := B10,
    f_require_row := f11,
    fd_require_row := _,
    F_require_row := F11,
    m_require_row := PySem.W.mg_of X G a11,
    B_require_row := B11,
    f_period_of := f12,
    fd_period_of := _,
    F_period_of := F12,
    m_period_of := PySem.W.mg_of X G a12,
    B_period_of := B12,
    f_steady_numbers := f13,
    fd_steady_numbers := _,
    F_steady_numbers := F13,
    m_steady_numbers := PySem.W.mg_of X G a13,
    B_steady_numbers := B13,
    f_first_state := f14,
    fd_first_state := _,
    F_first_state := F14,
    m_first_state := PySem.W.mg_of X G a14,
    B_first_state := B14,
    f_resized := f15,
    fd_resized := _,
    F_resized := F15,
    m_resized := PySem.W.mg_of X G a15,
    B_resized := B15,
    f_in_ranks := f16,
    fd_in_ranks := _,
    F_in_ranks := F16,
    m_in_ranks := PySem.W.mg_of X G a16,
    B_in_ranks := B16,
    f_moved := f17,
    fd_moved := _,
    F_moved := F17,
    m_moved := PySem.W.mg_of X G a17,
    B_moved := B17,
    f_obeyed := f18,
    fd_obeyed := _,
    F_obeyed := F18,
    m_obeyed := PySem.W.mg_of X G a18,
    B_obeyed := B18,
    f_drilled := f19,
    fd_drilled := _,
    F_drilled := F19,
    m_drilled := PySem.W.mg_of X G a19,
    B_drilled := B19,
    f_beside_in := f20,
    fd_beside_in := _,
    F_beside_in := F20,
    m_beside_in := PySem.W.mg_of X G a20,
    B_beside_in := B20,
    f_common_multiple := f21,
    fd_common_multiple := _,
    F_common_multiple := F21,
    m_common_multiple := PySem.W.mg_of X G a21,
    B_common_multiple := B21,
    f_beside_shares := f22,
    fd_beside_shares := _,
    F_beside_shares := F22,
    m_beside_shares := PySem.W.mg_of X G a22,
    B_beside_shares := B22,
    f__law_far := f23,
    fd__law_far := _,
    F__law_far := F23,
    m__law_far := PySem.W.mg_of X G a23,
    B__law_far := B23,
    f_is_integer := f24,
    fd_is_integer := _,
    F_is_integer := F24,
    m_is_integer := PySem.W.mg_of X G a24,
    B_is_integer := B24,
    f_require_number := f25,
    fd_require_number := _,
    F_require_number := F25,
    m_require_number := PySem.W.mg_of X G a25,
    B_require_number := B25,
    f_is_small := f26,
    fd_is_small := _,
    F_is_small := F26,
    m_is_small := PySem.W.mg_of X G a26,
    B_is_small := B26,
    f_small_number := f27,
    fd_small_number := _,
    F_small_number := F27,
    m_small_number := PySem.W.mg_of X G a27,
    B_small_number := B27,
    f_grown := f28,
    fd_grown := _,
    F_grown := F28,
    m_grown := PySem.W.mg_of X G a28,
    B_grown := B28,
    f_count_beside := f29,
    fd_count_beside := _,
    F_count_beside := F29,
    m_count_beside := PySem.W.mg_of X G a29,
    B_count_beside := B29,
    f__law_lowest := f30,
    fd__law_lowest := _,
    F__law_lowest := F30,
    m__law_lowest := PySem.W.mg_of X G a30,
    B__law_lowest := B30,
    f__law_step := f31,
    fd__law_step := _,
    F__law_step := F31,
    m__law_step := PySem.W.mg_of X G a31,
    B__law_step := B31,
    f__law_ranked := f32,
    fd__law_ranked := _,
    F__law_ranked := F32,
    m__law_ranked := PySem.W.mg_of X G a32,
    B__law_ranked := B32,
    f__law_obey := f33,
    fd__law_obey := _,
    F__law_obey := F33,
    m__law_obey := PySem.W.mg_of X G a33,
    B__law_obey := B33,
    f__law_drilled := f34,
    fd__law_drilled := _,
    F__law_drilled := F34,
    m__law_drilled := PySem.W.mg_of X G a34,
    B__law_drilled := B34,
    f__law_beside2 := f35,
    fd__law_beside2 := _,
    F__law_beside2 := F35,
    m__law_beside2 := PySem.W.mg_of X G a35,
    B__law_beside2 := B35,
    f_law := fa,
    fd_law := _,
    F_law := F36,
    m_law := PySem.W.mg_of X G a36,
    B_law := B36 }
  exact ⟨_, fun s v => .of_eq rfl, fun base _ _ => ok_law T⟩
end SQ
open PySem PySem.W PyProof.Rows
set_option maxHeartbeats 0 in
theorem PySem.Challenge.cw_squadwords_k25_whole_shares_of_neighbors_holds : PySem.Challenge.rw_squadwords_k25_whole_shares_of_neighbors.Holds := by
  w_on; o_law; k_head; (case hw => w_witness2)
  k_fill
  refine L2.walk_of (l := PySem.Challenge.rw_squadwords_k25_whole_shares_of_neighbors) (n := 63) (k := 7) (x := "script") (CX := fun _ => L2.CX0) (sp := fun w => PD.spLaw _) rfl (by decide) rfl ⟨rfl, by decide, by decide⟩ (fun w h Y => PySem.W.kIn_of Y) ?F (fun _ _ a ns hl hO hS => ⟨a, ns, rfl, hS, hl, fun _ => rfl⟩) (fun _ _ _ _ _ h => h)
  case F =>
    intro w mg fa h KX G hmg
    refine' SQ.all_mk KX G hmg ?a0 ?l0 ?c0 ?k0 ?a1 ?l1 ?c1 ?k1 ?a2 ?l2 ?c2 ?k2 ?a3 ?l3 ?c3 ?k3 ?a4 ?l4 ?c4 ?k4 ?a5 ?l5 ?c5 ?k5 ?a6 ?l6 ?c6 ?k6 ?a7 ?l7 ?c7 ?k7 ?a8 ?l8 ?c8 ?k8 ?a9 ?l9 ?c9 ?k9 ?a10 ?l10 ?c10 ?k10 ?a11 ?l11 ?c11 ?k11 ?a12 ?l12 ?c12 ?k12 ?a13 ?l13 ?c13 ?k13 ?a14 ?l14 ?c14 ?k14 ?a15 ?l15 ?c15 ?k15 ?a16 ?l16 ?c16 ?k16 ?a17 ?l17 ?c17 ?k17 ?a18 ?l18 ?c18 ?k18 ?a19 ?l19 ?c19 ?k19 ?a20 ?l20 ?c20 ?k20 ?a21 ?l21 ?c21 ?k21 ?a22 ?l22 ?c22 ?k22 ?a23 ?l23 ?c23 ?k23 ?a24 ?l24 ?c24 ?k24 ?a25 ?l25 ?c25 ?k25 ?a26 ?l26 ?c26 ?k26 ?a27 ?l27 ?c27 ?k27 ?a28 ?l28 ?c28 ?k28 ?a29 ?l29 ?c29 ?k29 ?a30 ?l30 ?c30 ?k30 ?a31 ?l31 ?c31 ?k31 ?a32 ?l32 ?c32 ?k32 ?a33 ?l33 ?c33 ?k33 ?a34 ?l34 ?c34 ?k34 ?a35 ?l35 ?c35 ?k35 ?a36 ?l36 ?c36 ?k36 ?z_len ?z_int ?z_tuple ?z_isinstance ?z_str ?z_range ?z_list ?z_all ?z_enumerate ?z_sorted ?z_zip ?z_abs ?z_bool ?z_min ?z_max ?g_WORDS ?gl_WORDS ?ge_WORDS ?g_MAX_WORDS ?g_MAX_SHAPES ?g_MANY ?g_MAX_NUMBER ?d_FACTORS ?dl_FACTORS ?dk_FACTORS ?do_FACTORS ?de_FACTORS
    (case a0 => k_is)
    (case l0 => k_is)
    (case c0 => k_is)
    (case k0 => k_is)
    (case a1 => k_is)
    (case l1 => k_is)
    (case c1 => k_is)
    (case k1 => k_is)
    (case a2 => k_is)
    (case l2 => k_is)
    (case c2 => k_is)
    (case k2 => k_is)
    (case a3 => k_is)
    (case l3 => k_is)
    (case c3 => k_is)
    (case k3 => k_is)
    (case a4 => k_is)
    (case l4 => k_is)
    (case c4 => k_is)
    (case k4 => k_is)
    (case a5 => k_is)
    (case l5 => k_is)
    (case c5 => k_is)
    (case k5 => k_is)
    (case a6 => k_is)
    (case l6 => k_is)
    (case c6 => k_is)
    (case k6 => k_is)
    (case a7 => k_is)
    (case l7 => k_is)
    (case c7 => k_is)
    (case k7 => k_is)
    (case a8 => k_is)
    (case l8 => k_is)
    (case c8 => k_is)
    (case k8 => k_is)
    (case a9 => k_is)
    (case l9 => k_is)
    (case c9 => k_is)
    (case k9 => k_is)
    (case a10 => k_is)
    (case l10 => k_is)
    (case c10 => k_is)
    (case k10 => k_is)
    (case a11 => k_is)
    (case l11 => k_is)
    (case c11 => k_is)
    (case k11 => k_is)
    (case a12 => k_is)
    (case l12 => k_is)
    (case c12 => k_is)
    (case k12 => k_is)
    (case a13 => k_is)
    (case l13 => k_is)
    (case c13 => k_is)
    (case k13 => k_is)
    (case a14 => k_is)
    (case l14 => k_is)
    (case c14 => k_is)
    (case k14 => k_is)
    (case a15 => k_is)
    (case l15 => k_is)
    (case c15 => k_is)
    (case k15 => k_is)
    (case a16 => k_is)
    (case l16 => k_is)
    (case c16 => k_is)
    (case k16 => k_is)
    (case a17 => k_is)
    (case l17 => k_is)
    (case c17 => k_is)
    (case k17 => k_is)
    (case a18 => k_is)
    (case l18 => k_is)
    (case c18 => k_is)
    (case k18 => k_is)
    (case a19 => k_is)
    (case l19 => k_is)
    (case c19 => k_is)
    (case k19 => k_is)
    (case a20 => k_is)
    (case l20 => k_is)
    (case c20 => k_is)
    (case k20 => k_is)
    (case a21 => k_is)
    (case l21 => k_is)
    (case c21 => k_is)
    (case k21 => k_is)
    (case a22 => k_is)
    (case l22 => k_is)
    (case c22 => k_is)
    (case k22 => k_is)
    (case a23 => k_is)
    (case l23 => k_is)
    (case c23 => k_is)
    (case k23 => k_is)
    (case a24 => k_is)
    (case l24 => k_is)
    (case c24 => k_is)
    (case k24 => k_is)
    (case a25 => k_is)
    (case l25 => k_is)
    (case c25 => k_is)
    (case k25 => k_is)
    (case a26 => k_is)
    (case l26 => k_is)
    (case c26 => k_is)
    (case k26 => k_is)
    (case a27 => k_is)
    (case l27 => k_is)
    (case c27 => k_is)
    (case k27 => k_is)
    (case a28 => k_is)
    (case l28 => k_is)
    (case c28 => k_is)
    (case k28 => k_is)
    (case a29 => k_is)
    (case l29 => k_is)
    (case c29 => k_is)
    (case k29 => k_is)
    (case a30 => k_is)
    (case l30 => k_is)
    (case c30 => k_is)
    (case k30 => k_is)
    (case a31 => k_is)
    (case l31 => k_is)
    (case c31 => k_is)
    (case k31 => k_is)
    (case a32 => k_is)
    (case l32 => k_is)
    (case c32 => k_is)
    (case k32 => k_is)
    (case a33 => k_is)
    (case l33 => k_is)
    (case c33 => k_is)
    (case k33 => k_is)
    (case a34 => k_is)
    (case l34 => k_is)
    (case c34 => k_is)
    (case k34 => k_is)
    (case a35 => k_is)
    (case l35 => k_is)
    (case c35 => k_is)
    (case k35 => k_is)
    (case a36 => k_is)
    (case l36 => k_is)
    (case c36 => k_is)
    (case k36 => k_is)
    (case z_len => k_is)
    (case z_int => k_is)
    (case z_tuple => k_is)
    (case z_isinstance => k_is)
    (case z_str => k_is)
    (case z_range => k_is)
    (case z_list => k_is)
    (case z_all => k_is)
    (case z_enumerate => k_is)
    (case z_sorted => k_is)
    (case z_zip => k_is)
    (case z_abs => k_is)
    (case z_bool => k_is)
    (case z_min => k_is)
    (case z_max => k_is)
    (case g_WORDS => k_is)
    (case gl_WORDS => k_is)
    (case ge_WORDS => exact ⟨rfl, by decide⟩)
    (case g_MAX_WORDS => k_is)
    (case g_MAX_SHAPES => k_is)
    (case g_MANY => k_is)
    (case g_MAX_NUMBER => k_is)
    (case d_FACTORS => k_is)
    (case dl_FACTORS => k_is)
    (case dk_FACTORS => exact ⟨⟨_, _, rfl, rfl⟩, ⟨_, _, rfl, rfl⟩, ⟨_, _, rfl, rfl⟩, ⟨_, _, rfl, rfl⟩, trivial⟩)
    (case do_FACTORS => rfl)
    (case de_FACTORS => exact ⟨rfl, rfl⟩)
