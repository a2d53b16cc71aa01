import PyProof.Rows.All
import Wide.All
import OpenK.AllK
import Wide.FinOn
import HandS.ForMost
import HandS.ForExc
import HandS.Star
import HandS.Zip
import HandS.TryMany
import HandS.Flow
import HandS.Walk
import HandS.Ends
import PySem.Challenge.RW_paintershouse_k01_all_blends
set_option Elab.async false
set_option linter.all false
set_option maxRecDepth 100000
set_option maxHeartbeats 4000000
/-! values without addresses, and how they stand in the abstract heap -/
namespace DPy
open PySem PySem.Spec L2
open PyProof.Rows hiding St

inductive D where
  | gone
  | non | bl (b : Bool) | int (i : Int) | str (x : Str)
  | tup (xs : List D) | lst (o : Bool) (xs : List D)

/-- a value may be shared: nothing of it will be changed -/
def D.fz : D → Bool
  | .lst o _ => !o
  | .gone => false
  | _ => true
def D.here : D → Bool
  | .gone => false
  | _ => true

mutual
/-- v stands for d: what may be shared lies in G, what is owned lies in H alone, at fp -/
inductive Rp (K : PySem.W.Frag) (G H : Hp) : V → D → List Addr → Prop
  | gone (v : V) : Rp K G H v .gone []
  | non : Rp K G H .non .non []
  | bl (b : Bool) : Rp K G H (.bl b) (.bl b) []
  | int (i : Int) : Rp K G H (.int i) (.int i) []
  | str (x : Str) : Rp K G H (.str x) (.str x) []
  | tup {a : Addr} {vs : List V} {xs : List D} : SqT K G a vs → FzL K G H vs xs → Rp K G H (.ref a) (.tup xs) []
  | lst {a : Addr} {vs : List V} {xs : List D} : SqL K G a vs → FzL K G H vs xs → Rp K G H (.ref a) (.lst false xs) []
  | own {a : Addr} {vs : List V} {xs : List D} : G a = none → H a = some (.lst vs) → FzL K G H vs xs → Rp K G H (.ref a) (.lst true xs) [a]
/-- things that are shared -/
inductive FzL (K : PySem.W.Frag) (G H : Hp) : List V → List D → Prop
  | nil : FzL K G H [] []
  | cons {v : V} {vs : List V} {d : D} {ds : List D} : Rp K G H v d [] → d.fz = true → FzL K G H vs ds → FzL K G H (v :: vs) (d :: ds)
end

/-- one heap is within another one -/
def Sub (G H : Hp) : Prop := ∀ a o, G a = some o → H a = some o
theorem Sub.refl (G : Hp) : Sub G G := fun _ _ h => h
theorem Sub.trans {A B C : Hp} (x : Sub A B) (y : Sub B C) : Sub A C := fun a o h => y a o (x a o h)
theorem Sub.none {G H : Hp} (s : Sub G H) {a : Addr} (h : H a = none) : G a = none := by
  cases e : G a with
  | none => rfl
  | some o => rw [s a o e] at h; cases h
theorem Sub.rd {G H : Hp} (s : Sub G H) {a : Addr} {u : HO} (r : Rd G a u) : Rd H a u := by
  rcases r with r | ⟨o, r⟩
  · exact .inl (s _ _ r)
  · exact .inr ⟨o, s _ _ r⟩
theorem Sub.sqL {K : PySem.W.Frag} {G H : Hp} (s : Sub G H) {a : Addr} {xs : List V} (r : SqL K G a xs) : SqL K H a xs := r.imp s.rd id
theorem Sub.sqT {K : PySem.W.Frag} {G H : Hp} (s : Sub G H) {a : Addr} {xs : List V} (r : SqT K G a xs) : SqT K H a xs := r.imp s.rd id

section
variable {K : PySem.W.Frag} {G H G' H' : Hp}
mutual
/-- what stands for d goes on to do so -/
theorem Rp.keep (s : Sub G G') : ∀ {d : D} {v : V} {fp : List Addr}, Rp K G H v d fp → (∀ a ∈ fp, H' a = H a ∧ G' a = none) → Rp K G' H' v d fp
  | _, _, _, .gone v, _ => .gone v
  | _, _, _, .non, _ => .non
  | _, _, _, .bl b, _ => .bl b
  | _, _, _, .int i, _ => .int i
  | _, _, _, .str x, _ => .str x
  | _, _, _, .tup h r, _ => .tup (s.sqT h) (FzL.keep s r)
  | _, _, _, .lst h r, _ => .lst (s.sqL h) (FzL.keep s r)
  | _, _, _, .own h e r, q => .own (q _ (by simp)).2 (by rw [(q _ (by simp)).1]; exact e) (FzL.keep s r)
theorem FzL.keep (s : Sub G G') : ∀ {ds : List D} {vs : List V}, FzL K G H vs ds → FzL K G' H' vs ds
  | _, _, .nil => .nil
  | _, _, .cons r f t => .cons (Rp.keep s r fun _ z => nomatch z) f (FzL.keep s t)
end
theorem Rp.fz_nil {v : V} {d : D} {fp : List Addr} (r : Rp K G H v d fp) (h : d.fz = true) : fp = [] := by
  cases r <;> first | rfl | (simp [D.fz] at h)
theorem Rp.fzk {v : V} {d : D} {fp : List Addr} (r : Rp K G H v d fp) (h : d.fz = true) (s : Sub G G') : Rp K G' H' v d [] := by
  have e := r.fz_nil h; subst e
  exact r.keep s fun _ z => nomatch z
theorem FzL.length : ∀ {ds : List D} {vs : List V}, FzL K G H vs ds → vs.length = ds.length
  | _, _, .nil => rfl
  | _, _, .cons _ _ t => by simp [FzL.length t]
theorem FzL.get : ∀ {ds : List D} {vs : List V} {i : Nat} {d : D}, FzL K G H vs ds → ds[i]? = some d → ∃ v, vs[i]? = some v ∧ Rp K G H v d [] ∧ d.fz = true
  | _, _, _, _, .nil, e => by simp at e
  | _, _, 0, _, .cons r f _, e => by simp at e; subst e; exact ⟨_, rfl, r, f⟩
  | _, _, i + 1, _, .cons _ _ t, e => by
    obtain ⟨v, h1, h2⟩ := FzL.get (i := i) t (by simpa using e)
    exact ⟨v, by simpa using h1, h2⟩
theorem FzL.getV : ∀ {ds : List D} {vs : List V} {i : Nat} {v : V}, FzL K G H vs ds → vs[i]? = some v → ∃ d, ds[i]? = some d ∧ Rp K G H v d [] ∧ d.fz = true
  | _, _, _, _, .nil, e => by simp at e
  | _, _, 0, _, .cons r f _, e => by simp at e; subst e; exact ⟨_, rfl, r, f⟩
  | _, _, i + 1, _, .cons _ _ t, e => by
    obtain ⟨v, h1, h2⟩ := FzL.getV (i := i) t (by simpa using e)
    exact ⟨v, by simpa using h1, h2⟩
theorem FzL.app : ∀ {ds es : List D} {vs us : List V}, FzL K G H vs ds → FzL K G H us es → FzL K G H (vs ++ us) (ds ++ es)
  | _, _, _, _, .nil, s => s
  | _, _, _, _, .cons r f t, s => .cons r f (FzL.app t s)
theorem FzL.set {v : V} {d : D} (r : Rp K G H v d []) (f : d.fz = true) : ∀ {ds : List D} {vs : List V} (i : Nat), FzL K G H vs ds → FzL K G H (vs.set i v) (ds.set i d)
  | _, _, _, .nil => .nil
  | _, _, 0, .cons _ _ t => .cons r f t
  | _, _, i + 1, .cons q g t => .cons q g (FzL.set r f i t)
theorem FzL.take : ∀ {ds : List D} {vs : List V} (n : Nat), FzL K G H vs ds → FzL K G H (vs.take n) (ds.take n)
  | _, _, 0, _ => by simpa using FzL.nil
  | _, _, _ + 1, .nil => .nil
  | _, _, n + 1, .cons r f t => .cons r f (FzL.take n t)
theorem FzL.drop : ∀ {ds : List D} {vs : List V} (n : Nat), FzL K G H vs ds → FzL K G H (vs.drop n) (ds.drop n)
  | _, _, 0, r => r
  | _, _, _ + 1, .nil => .nil
  | _, _, n + 1, .cons _ _ t => FzL.drop n t
theorem FzL.one {v : V} {d : D} (r : Rp K G H v d []) (f : d.fz = true) : FzL K G H [v] [d] := .cons r f .nil
theorem FzL.snoc {v : V} {d : D} {vs : List V} {ds : List D} (t : FzL K G H vs ds) (r : Rp K G H v d []) (f : d.fz = true) : FzL K G H (vs ++ [v]) (ds ++ [d]) := t.app (.one r f)
theorem FzL.reverse : ∀ {ds : List D} {vs : List V}, FzL K G H vs ds → FzL K G H vs.reverse ds.reverse
  | _, _, .nil => .nil
  | _, _, .cons r f t => by simpa using (FzL.reverse t).app (.one r f)
theorem Rp.ownG {v : V} {d : D} {fp : List Addr} (r : Rp K G H v d fp) : ∀ a ∈ fp, G a = none ∧ ∃ o, H a = some o := by
  cases r <;> intro a h <;> first | (simp at h; done) | skip
  rename_i a' vs xs h1 h2 h3
  simp at h; subst h; exact ⟨h1, _, h2⟩
end

/-! ### data as the library's own words have it -/
mutual
def D.py : D → PyData
  | .gone => .none
  | .non => .none
  | .bl b => .bool b
  | .int i => .int i
  | .str x => .str x
  | .tup xs => .tuple (D.pys xs)
  | .lst _ xs => .list (D.pys xs)
def D.pys : List D → List PyData
  | [] => []
  | d :: ds => d.py :: D.pys ds
end
section
variable {K : PySem.W.Frag} {G H : Hp}
mutual
theorem Rp.dp (s : Sub G H) : ∀ {d : D} {v : V} {fp : List Addr}, Rp K G H v d fp → d.here = true → Dp K H v d.py
  | _, _, _, .gone _, h => by simp [D.here] at h
  | _, _, _, .non, _ => .non
  | _, _, _, .bl b, _ => .bl b
  | _, _, _, .int i, _ => .int i
  | _, _, _, .str x, _ => .str x
  | _, _, _, .tup h r, _ => .tup (s.sqT h) (FzL.dp s r)
  | _, _, _, .lst h r, _ => .lst (s.sqL h) (FzL.dp s r)
  | _, _, _, .own _ e r, _ => .lst (.inl (.inl e)) (FzL.dp s r)
theorem FzL.dp (s : Sub G H) : ∀ {ds : List D} {vs : List V}, FzL K G H vs ds → DpAll K H vs (D.pys ds)
  | _, _, .nil => .nil
  | _, _, .cons r f t => .cons (Rp.dp s r (by revert f; cases ‹D› <;> simp [D.fz, D.here])) (FzL.dp s t)
end
end
theorem D.fz_here {d : D} (h : d.fz = true) : d.here = true := by cases d <;> simp_all [D.fz, D.here]
end DPy
/-! a frame's state, steps, values that are at hand -/
namespace DPy
open PySem PySem.Spec L2
open PyProof.Rows hiding St

abbrev Fps := Nat → List Addr
def Ow (f : Fps) (a : Addr) : Prop := ∃ i, a ∈ f i
def Fps.put (f : Fps) (i : Nat) (l : List Addr) : Fps := fun j => if j = i then l else f j
theorem Fps.put_same {f : Fps} {i : Nat} {l : List Addr} : f.put i l i = l := if_pos rfl
theorem Fps.put_ne {f : Fps} {i j : Nat} {l : List Addr} (h : j ≠ i) : f.put i l j = f j := if_neg h
theorem Ow.put {f : Fps} {i : Nat} {l : List Addr} {a : Addr} (h : Ow (f.put i l) a) : a ∈ l ∨ (Ow f a ∧ ∃ j, j ≠ i ∧ a ∈ f j) := by
  obtain ⟨j, h⟩ := h
  by_cases e : j = i
  · subst e; rw [Fps.put_same] at h; exact .inl h
  · rw [Fps.put_ne e] at h; exact .inr ⟨⟨j, h⟩, j, e, h⟩

/-- the slots σ hold what Γ tells; fps i: what slot i owns -/
structure Sta (K : PySem.W.Frag) (G H : Hp) (Γ : List D) (σ : St) (f : Fps) : Prop where
  sub : Sub G H
  len : Γ.length = σ.length
  there : ∀ i d, Γ[i]? = some d → d.here = true → ∃ v, σ[i]? = some (some v) ∧ Rp K G H v d (f i)
  noth : ∀ i, (∀ d, Γ[i]? = some d → d.here = false) → f i = []
  dis : ∀ i j a, a ∈ f i → a ∈ f j → i = j

/-- what else stood stays, and is taken by nobody -/
structure Stp (G H : Hp) (A : Addr → Prop) (G' H' : Hp) (B : Addr → Prop) : Prop where
  g : Sub G G'
  fr : ∀ a o, H a = some o → ¬ A a → G a = none → H' a = some o ∧ G' a = none ∧ ¬ B a
theorem Stp.refl (G H : Hp) (A : Addr → Prop) : Stp G H A G H A := ⟨.refl G, fun _ _ h n g => ⟨h, g, n⟩⟩
theorem Stp.trans {G H G1 H1 G2 H2 : Hp} {A B C : Addr → Prop} (x : Stp G H A G1 H1 B) (y : Stp G1 H1 B G2 H2 C) : Stp G H A G2 H2 C :=
  ⟨x.g.trans y.g, fun a o h n g => by
    obtain ⟨h1, g1, n1⟩ := x.fr a o h n g
    exact y.fr a o h1 n1 g1⟩
/-- with more that is held aside -/
theorem Stp.aside {G H G1 H1 : Hp} {A B : Addr → Prop} (x : Stp G H A G1 H1 B) (F : Addr → Prop) : Stp G H (fun a => F a ∨ A a) G1 H1 (fun a => F a ∨ B a) :=
  ⟨x.g, fun a o h n g => by
    obtain ⟨h1, g1, n1⟩ := x.fr a o h (fun z => n (.inr z)) g
    exact ⟨h1, g1, fun z => z.elim (fun q => n (.inl q)) n1⟩⟩
theorem Stp.sub {G H G1 H1 : Hp} {A A' B B' : Addr → Prop} (x : Stp G H A G1 H1 B) (h1 : ∀ a, A a → A' a) (h2 : ∀ a, B' a → B a) : Stp G H A' G1 H1 B' :=
  ⟨x.g, fun a o h n g => by
    obtain ⟨e1, e2, e3⟩ := x.fr a o h (fun z => n (h1 a z)) g
    exact ⟨e1, e2, fun z => e3 (h2 a z)⟩⟩
theorem Stp.B {G H G1 H1 : Hp} {A B B' : Addr → Prop} (x : Stp G H A G1 H1 B) (h2 : ∀ a, B' a → B a) : Stp G H A G1 H1 B' := x.sub (fun _ h => h) h2

inductive R where
  | val (d : D)
  /-- the thing itself that slot i owns -/
  | at (i : Nat)
def RR (K : PySem.W.Frag) (G H : Hp) (σ : St) (v : V) : R → List Addr → Prop
  | .val d, fp => Rp K G H v d fp
  | .at i, fp => σ[i]? = some (some v) ∧ fp = []
/-- what it is, to be read -/
def R.see (Γ : List D) : R → D
  | .val d => d
  | .at i => Γ[i]?.getD .gone

section
variable {K : PySem.W.Frag} {G H G' H' : Hp} {Γ : List D} {σ : St} {f f' : Fps} {v : V} {r : R} {fp : List Addr}
theorem Sta.ow (s : Sta K G H Γ σ f) {a : Addr} (h : Ow f a) : G a = none ∧ ∃ o, H a = some o := by
  obtain ⟨i, h⟩ := h
  cases e : Γ[i]? with
  | none => rw [s.noth i (by simp [e])] at h; cases h
  | some d =>
    cases hd : d.here with
    | false => rw [s.noth i (by intro d' e'; rw [e] at e'; cases e'; exact hd)] at h; cases h
    | true =>
      obtain ⟨v, _, r⟩ := s.there i d e hd
      exact r.ownG a h
theorem RR.ownG (x : RR K G H σ v r fp) : ∀ a ∈ fp, G a = none ∧ ∃ o, H a = some o := by
  cases r with
  | val d => exact Rp.ownG x
  | «at» i => obtain ⟨_, rfl⟩ := x; intro a h; cases h
/-- a value at hand stays what it is while others work -/
theorem RR.stay {A B : Addr → Prop} (x : RR K G H σ v r fp) (n : ∀ a ∈ fp, ¬ A a) (st : Stp G H A G' H' B) : RR K G' H' σ v r fp ∧ ∀ a ∈ fp, ¬ B a := by
  have o := x.ownG
  have k : ∀ a ∈ fp, H' a = H a ∧ G' a = none ∧ ¬ B a := fun a h => by
    obtain ⟨g, ob, e⟩ := o a h
    obtain ⟨e1, e2, e3⟩ := st.fr a ob e (n a h) g
    exact ⟨by rw [e1, e], e2, e3⟩
  refine ⟨?_, fun a h => (k a h).2.2⟩
  cases r with
  | val d => exact Rp.keep st.g x fun a h => ⟨(k a h).1, (k a h).2.1⟩
  | «at» i => exact x
/-- what a value at hand shows -/
theorem RR.sees (s : Sta K G H Γ σ f) (x : RR K G H σ v r fp) (h : (r.see Γ).here = true) : ∃ fp', Rp K G H v (r.see Γ) fp' ∧ ∀ a ∈ fp', a ∈ fp ∨ Ow f a := by
  cases r with
  | val d => exact ⟨fp, x, fun a h => .inl h⟩
  | «at» i =>
    obtain ⟨e, rfl⟩ := x
    cases q : Γ[i]? with
    | none => simp [R.see, q, D.here] at h
    | some d =>
      simp only [R.see, q, Option.getD_some] at h ⊢
      obtain ⟨v', e', r'⟩ := s.there i d q h
      rw [e] at e'; cases e'
      exact ⟨_, r', fun a h => .inr ⟨i, h⟩⟩
theorem RR.dp (s : Sta K G H Γ σ f) (x : RR K G H σ v r fp) (h : (r.see Γ).here = true) : Dp K H v (r.see Γ).py := by
  obtain ⟨_, r', _⟩ := x.sees s h
  exact r'.dp s.sub h

/-! ### sharing what was owned -/
def D.share : D → D
  | .lst true xs => .lst false xs
  | d => d
theorem D.share_fz {d : D} (h : d.here = true) : d.share.fz = true := by
  cases d with
  | lst o xs => cases o <;> rfl
  | gone => simp [D.here] at h
  | _ => rfl
theorem D.share_here {d : D} : d.share.here = d.here := by
  cases d with
  | lst o xs => cases o <;> rfl
  | _ => rfl
/-- G with the objects at fp -/
def shareAt (G H : Hp) (fp : List Addr) : Hp := fun a => if a ∈ fp then H a else G a
theorem shareAt_sub (o : ∀ a ∈ fp, G a = none) : Sub G (shareAt G H fp) := fun a ob e => by
  unfold shareAt
  by_cases h : a ∈ fp
  · rw [o a h] at e; cases e
  · rw [if_neg h]; exact e
theorem shareAt_in (s : Sub G H) : Sub (shareAt G H fp) H := fun a ob e => by
  unfold shareAt at e
  by_cases h : a ∈ fp
  · rw [if_pos h] at e; exact e
  · rw [if_neg h] at e; exact s _ _ e
theorem shareAt_out {a : Addr} (h : a ∉ fp) : shareAt G H fp a = G a := if_neg h
theorem Rp.share {d : D} (r : Rp K G H v d fp) (h : d.here = true) : Rp K (shareAt G H fp) H v d.share [] := by
  have o := r.ownG
  cases r with
  | gone => simp [D.here] at h
  | non => exact .non
  | bl b => exact .bl b
  | int i => exact .int i
  | str x => exact .str x
  | tup h1 h2 =>
    have su : Sub G (shareAt G H []) := shareAt_sub (fun _ z => nomatch z)
    exact .tup (su.sqT h1) (h2.keep su)
  | lst h1 h2 =>
    have su : Sub G (shareAt G H []) := shareAt_sub (fun _ z => nomatch z)
    exact .lst (su.sqL h1) (h2.keep su)
  | @own a vs xs h1 h2 h3 =>
    have su : Sub G (shareAt G H [a]) := shareAt_sub fun b hb => (o b hb).1
    refine .lst (.inl (.inl ?_)) (h3.keep su)
    show (if a ∈ [a] then H a else G a) = _
    rw [if_pos (by simp)]; exact h2
theorem Stp.shareAt (o : ∀ a ∈ fp, G a = none) {A B : Addr → Prop} (hA : ∀ a ∈ fp, A a) (hB : ∀ a, B a → A a) : Stp G H A (shareAt G H fp) H B :=
  ⟨shareAt_sub o, fun a ob e n g => ⟨e, by rw [shareAt_out fun z => n (hA a z)]; exact g, fun z => n (hB a z)⟩⟩
/-- the state where more is shared, which no slot owns -/
theorem Sta.more (s : Sta K G H Γ σ f) (su : Sub G G') (inn : Sub G' H) (o : ∀ a, Ow f a → G' a = none) : Sta K G' H Γ σ f :=
  ⟨inn, s.len, fun i d e h => by
    obtain ⟨v, e1, r⟩ := s.there i d e h
    exact ⟨v, e1, r.keep su fun a ha => ⟨rfl, o a ⟨i, ha⟩⟩⟩, s.noth, s.dis⟩
theorem Sta.get (s : Sta K G H Γ σ f) {i : Nat} {d : D} (e : Γ[i]? = some d) (h : d.here = true) : ∃ v, σ[i]? = some (some v) ∧ Rp K G H v d (f i) := s.there i d e h
/-- slot i's thing is changed, to what owns l -/
theorem Sta.change (s : Sta K G H Γ σ f) {i : Nat} {d : D} {l : List Addr} (su : Sub G G') (inn : Sub G' H')
    (keep : ∀ j a, j ≠ i → a ∈ f j → H' a = H a ∧ G' a = none) (hv : i < Γ.length) {v : V} (e : σ[i]? = some (some v)) (r : Rp K G' H' v d l) (hd : d.here = true)
    (dis : ∀ j a, j ≠ i → a ∈ f j → a ∉ l) : Sta K G' H' (Γ.set i d) σ (f.put i l) := by
  refine ⟨inn, by simpa using s.len, fun j d' e1 h1 => ?_, fun j h1 => ?_, fun j k a h1 h2 => ?_⟩
  · by_cases hj : j = i
    · subst hj
      rw [List.getElem?_set_self hv] at e1; cases e1
      exact ⟨v, e, by rw [Fps.put_same]; exact r⟩
    · rw [List.getElem?_set_ne (Ne.symm hj)] at e1
      obtain ⟨v', e', r'⟩ := s.there j d' e1 h1
      exact ⟨v', e', by rw [Fps.put_ne hj]; exact r'.keep su fun a ha => keep j a hj ha⟩
  · by_cases hj : j = i
    · subst hj
      have := h1 d (List.getElem?_set_self hv)
      rw [hd] at this; cases this
    · rw [Fps.put_ne hj]
      exact s.noth j fun d' e1 => h1 d' (by rw [List.getElem?_set_ne (Ne.symm hj)]; exact e1)
  · by_cases hj : j = i
    · by_cases hk : k = i
      · rw [hj, hk]
      · subst hj
        rw [Fps.put_same] at h1; rw [Fps.put_ne hk] at h2
        exact absurd h1 (dis k a hk h2)
    · by_cases hk : k = i
      · subst hk
        rw [Fps.put_same] at h2; rw [Fps.put_ne hj] at h1
        exact absurd h2 (dis j a hj h1)
      · rw [Fps.put_ne hj] at h1; rw [Fps.put_ne hk] at h2
        exact s.dis j k a h1 h2
/-- slot i's thing is let go -/
theorem Sta.drop (s : Sta K G H Γ σ f) (i : Nat) : Sta K G H (Γ.set i .gone) σ (f.put i []) := by
  refine ⟨s.sub, by simpa using s.len, fun j d' e1 h1 => ?_, fun j h1 => ?_, fun j k a h1 h2 => ?_⟩
  · by_cases hj : j = i
    · subst hj
      by_cases hl : j < Γ.length
      · rw [List.getElem?_set_self hl] at e1; cases e1; simp [D.here] at h1
      · rw [List.getElem?_eq_none (by simpa using hl)] at e1; cases e1
    · rw [List.getElem?_set_ne (Ne.symm hj)] at e1
      obtain ⟨v', e', r'⟩ := s.there j d' e1 h1
      exact ⟨v', e', by rw [Fps.put_ne hj]; exact r'⟩
  · by_cases hj : j = i
    · rw [hj, Fps.put_same]
    · rw [Fps.put_ne hj]
      exact s.noth j fun d' e1 => h1 d' (by rw [List.getElem?_set_ne (Ne.symm hj)]; exact e1)
  · by_cases hj : j = i
    · rw [hj, Fps.put_same] at h1; cases h1
    · by_cases hk : k = i
      · rw [hk, Fps.put_same] at h2; cases h2
      · rw [Fps.put_ne hj] at h1; rw [Fps.put_ne hk] at h2
        exact s.dis j k a h1 h2
/-- a store to slot i of what owns l -/
theorem Sta.store (s : Sta K G H Γ σ f) {i : Nat} {d : D} {l : List Addr} {v : V} (r : Rp K G H v d l) (hd : d.here = true) (hi : i < Γ.length) (dis : ∀ a ∈ l, ¬ Ow f a) :
    Sta K G H (Γ.set i d) (σ.set i (some v)) (f.put i l) := by
  have hi' : i < σ.length := by rw [← s.len]; exact hi
  refine ⟨s.sub, by simpa using s.len, fun j d' e1 h1 => ?_, fun j h1 => ?_, fun j k a h1 h2 => ?_⟩
  · by_cases hj : j = i
    · subst hj
      rw [List.getElem?_set_self hi] at e1; cases e1
      exact ⟨v, List.getElem?_set_self hi', by rw [Fps.put_same]; exact r⟩
    · rw [List.getElem?_set_ne (Ne.symm hj)] at e1
      obtain ⟨v', e', r'⟩ := s.there j d' e1 h1
      exact ⟨v', by rw [List.getElem?_set_ne (Ne.symm hj)]; exact e', by rw [Fps.put_ne hj]; exact r'⟩
  · by_cases hj : j = i
    · subst hj
      have := h1 d (List.getElem?_set_self hi)
      rw [hd] at this; cases this
    · rw [Fps.put_ne hj]
      exact s.noth j fun d' e1 => h1 d' (by rw [List.getElem?_set_ne (Ne.symm hj)]; exact e1)
  · by_cases hj : j = i
    · by_cases hk : k = i
      · rw [hj, hk]
      · subst hj
        rw [Fps.put_same] at h1; rw [Fps.put_ne hk] at h2
        exact absurd ⟨k, h2⟩ (dis a h1)
    · by_cases hk : k = i
      · subst hk
        rw [Fps.put_same] at h2; rw [Fps.put_ne hj] at h1
        exact absurd ⟨j, h1⟩ (dis a h2)
      · rw [Fps.put_ne hj] at h1; rw [Fps.put_ne hk] at h2
        exact s.dis j k a h1 h2
theorem Ow.put_sub {i : Nat} {l : List Addr} {a : Addr} (h : Ow (f.put i l) a) : a ∈ l ∨ Ow f a := by
  rcases h.put with h | h
  · exact .inl h
  · exact .inr h.1

/-- a value at hand is shared -/
def R.force : R → List D → Option (D × List D)
  | .val d, Γ => if d.here then some (d.share, Γ) else none
  | .at i, Γ => match Γ[i]? with
    | some d => if d.here then some (d.share, if d.fz then Γ else Γ.set i d.share) else none
    | none => none
theorem force_fz {d : D} {Γ' : List D} (h : r.force Γ = some (d, Γ')) : d.fz = true := by
  cases r with
  | val d' =>
    simp only [R.force] at h
    split at h
    · cases h; exact D.share_fz ‹_›
    · cases h
  | «at» i =>
    simp only [R.force] at h
    split at h
    · split at h
      · cases h; exact D.share_fz ‹_›
      · cases h
    · cases h
theorem share_eq {d : D} (h : d.fz = true) : d.share = d := by
  cases d with
  | lst o xs => cases o <;> first | rfl | (simp [D.fz] at h)
  | _ => rfl
theorem RR.force (s : Sta K G H Γ σ f) (x : RR K G H σ v r fp) (n : ∀ a ∈ fp, ¬ Ow f a) {d : D} {Γ' : List D} (h : r.force Γ = some (d, Γ')) :
    ∃ G' f', Sta K G' H Γ' σ f' ∧ Rp K G' H v d [] ∧ Stp G H (fun a => a ∈ fp ∨ Ow f a) G' H (Ow f') := by
  have ow := x.ownG
  cases r with
  | val d' =>
    simp only [R.force] at h
    split at h
    · rename_i hh
      cases h
      have x' : Rp K G H v d' fp := x
      refine ⟨shareAt G H fp, f, s.more (shareAt_sub fun a ha => (ow a ha).1) (shareAt_in s.sub) (fun a ha => ?_), x'.share hh, .shareAt (fun a ha => (ow a ha).1) (fun a ha => .inl ha) fun a ha => .inr ha⟩
      rw [shareAt_out fun z => n a z ha]; exact (s.ow ha).1
    · cases h
  | «at» i =>
    simp only [R.force] at h
    obtain ⟨e0, rfl⟩ := x
    split at h
    · rename_i d' e1
      split at h
      · rename_i hh
        cases h
        obtain ⟨v', e2, r'⟩ := s.there i d' e1 hh
        rw [e0] at e2; cases e2
        by_cases hz : d'.fz = true
        · have l0 := r'.fz_nil hz
          rw [if_pos hz, share_eq hz]
          exact ⟨G, f, s, by rw [l0] at r'; exact r', (Stp.refl G H (fun a => a ∈ [] ∨ Ow f a)).B fun a h => .inr h⟩
        · rw [if_neg hz]
          have ow' := r'.ownG
          have hi : i < Γ.length := (List.getElem?_eq_some_iff.mp e1).1
          refine ⟨shareAt G H (f i), f.put i [], s.change (shareAt_sub fun a ha => (ow' a ha).1) (shareAt_in s.sub) (fun j a hj ha => ⟨rfl, ?_⟩) hi e0 (r'.share hh) (by rw [D.share_here]; exact hh) (fun _ _ _ _ z => nomatch z), r'.share hh,
            .shareAt (fun a ha => (ow' a ha).1) (fun a ha => .inr ⟨i, ha⟩) fun a ha => ?_⟩
          · rw [shareAt_out fun z => hj (s.dis j i a ha z)]
            exact (s.ow ⟨j, ha⟩).1
          · rcases ha.put_sub with z | z
            · cases z
            · exact .inr z
      · cases h
    · cases h
end
end DPy
/-! a small Python: terms, what they give -/
namespace DPy
open PySem PySem.Spec L2
open PyProof.Rows hiding St

/-- built-in functions and types that are called by their names -/
inductive Bf where
  | len | abs | max | min | sum | all | any | repr | int | str | list | tuple | bool | sorted
  deriving DecidableEq
def Bf.name : Bf → String
  | .len => "len" | .abs => "abs" | .max => "max" | .min => "min" | .sum => "sum" | .all => "all" | .any => "any" | .repr => "repr"
  | .int => "int" | .str => "str" | .list => "list" | .tuple => "tuple" | .bool => "bool" | .sorted => "sorted"

inductive Tg where
  | nm (i : Nat)
  | tup (ts : List Tg)

mutual
def Tg.slots : Tg → List Nat
  | .nm i => [i]
  | .tup ts => Tg.slotsL ts
def Tg.slotsL : List Tg → List Nat
  | [] => []
  | t :: ts => t.slots ++ Tg.slotsL ts
end
mutual
inductive Ex where
  | nm (i : Nat)
  | gl (x : String)
  | int (n : Int) | bl (b : Bool) | non | str (x : Str)
  | bin (op : Operator) (a b : Ex)
  | neg (a : Ex)
  | cmp (op : CmpOp) (a b : Ex)
  | chn (o p : CmpOp) (a b c : Ex)
  | and (es : List Ex) | or (es : List Ex) | not (a : Ex)
  | ite (c : Tx) (a b : Ex)
  | tup (es : List Ar) | lst (es : List Ar)
  | sub (a b : Ex)
  | slc (a : Ex) (lo hi : List Ar)   -- one, or none
  | rev (a : Ex)                   -- a[::-1]
  | call (f : String) (es : List Ar)
  | cb (f : Bf) (es : List Ar)
  | app (a e : Ex)                 -- a.append(e)
  | lc (e : Ex) (t : Tg) (it : It) (c : List Tx) (own : List (String × Nat))
/-- an argument, or *all of one's items -/
inductive Ar where
  | e (a : Ex)
  | star (a : Ex)
/-- tests -/
inductive Tx where
  | ex (e : Ex)
  | cmp (op : CmpOp) (a b : Ex)
  | chn (o p : CmpOp) (a b c : Ex)
  | not (t : Tx) | and (ts : List Tx) | or (ts : List Tx)
/-- what is walked -/
inductive It where
  | ex (e : Ex)
  | rng1 (a : Ex) | rng2 (a b : Ex) | zip (a b : Ex) | enm (a : Ex)
end

inductive Sm where
  | asg (t : Tg) (e : Ex)
  | set (a b e : Ex)               -- a[b] = e
  | aug (i : Nat) (op : Operator) (e : Ex)
  | exp (e : Ex)
  | ite (c : Tx) (a b : List Sm)
  | for (t : Tg) (it : It) (body : List Sm)
  | whl (c : Tx) (body : List Sm)
  | ret (e : Ex) | retn | brk | cnt | pass

/-! ### what they give -/
structure Exc where
  cls : String
  fld : Option (String × D)
inductive Out (α : Type) where
  | stuck | ok (a : α) (g : List D) | exc (x : Exc) (g : List D)
abbrev M (α : Type) := List D → Out α
def Out.bind {α β : Type} (o : Out α) (k : α → M β) : Out β :=
  match o with
  | .stuck => .stuck
  | .ok a g => k a g
  | .exc x g => .exc x g
def Out.calm {α : Type} (o : Out α) : Out α :=
  match o with
  | .exc _ _ => .stuck
  | o => o
inductive FOut where
  | ret (d : D) (ios : List D) | exc (x : Exc) (ios : List D)
inductive SOut where
  | stuck | nx (g : List D) | brk (g : List D) | cnt (g : List D) | ret (d : D) (g : List D) | exc (x : Exc) (g : List D)

structure Fn where
  n : Nat
  io : List Bool
  sem : List D → Option FOut
structure Cfg where
  fn : String → Option Fn
  gl : String → Option D
  keep : List Nat
  fuel : Nat

def ofO {α : Type} : Option α → M α
  | some a => fun g => .ok a g
  | none => fun _ => .stuck

/-! #### operations -/
def allInts : List D → Option (List Int)
  | [] => some []
  | .int i :: r => (allInts r).map (i :: ·)
  | _ => none
def allBls : List D → Option (List Bool)
  | [] => some []
  | .bl i :: r => (allBls r).map (i :: ·)
  | _ => none
def binop : Operator → D → D → Option D
  | .Add, .int i, .int j => some (.int (i + j))
  | .Sub, .int i, .int j => some (.int (i - j))
  | .Mult, .int i, .int j => if (-18446744073709551616 < i ∧ i < 18446744073709551616) ∨ (-18446744073709551616 < j ∧ j < 18446744073709551616) then some (.int (i * j)) else none
  | .FloorDiv, .int i, .int j => if j ≠ 0 ∧ j.natAbs < 1073741824 then some (.int (i.fdiv j)) else none
  | .Mod, .int i, .int j => if j ≠ 0 then some (.int (i.fmod j)) else none
  | .Pow, .int i, .int j => if 0 ≤ j ∧ j ≤ 1000000 ∧ i.natAbs < 18446744073709551616 then some (.int (i ^ j.toNat)) else none
  | _, _, _ => none
def D.data : D → Bool := D.here
def cmpop : CmpOp → D → D → Option Bool
  | .Lt, .int i, .int j => some (decide (i < j))
  | .LtE, .int i, .int j => some (decide (i ≤ j))
  | .Gt, .int i, .int j => some (decide (j < i))
  | .GtE, .int i, .int j => some (decide (j ≤ i))
  | .Eq, .str p, .str q => some (decide (p = q))
  | .NotEq, .str p, .str q => some (!decide (p = q))
  | .Eq, a, b => if a.here && b.here && SeqAt.shaped a.py && SeqAt.shaped b.py then some (PyData.eqv a.py b.py) else none
  | .NotEq, a, b => if a.here && b.here && SeqAt.shaped a.py && SeqAt.shaped b.py then some (!PyData.eqv a.py b.py) else none
  | _, _, _ => none
def items : D → Option (List D)
  | .tup xs => some xs
  | .lst _ xs => some xs
  | _ => none
def subD (a b : D) : Option D :=
  match a, b with
  | .tup xs, .int i => atI xs i
  | .lst _ xs, .int i => atI xs i
  | _, _ => none
def truth : D → Option Bool
  | .bl b => some b
  | .int i => some (i != 0)
  | .lst _ xs => some (!xs.isEmpty)
  | .tup xs => some (!xs.isEmpty)
  | .non => some false
  | _ => none
/-- a slice's bounds -/
def part : List D → Option (Option Int)
  | [.int i] => some (some i)
  | [] => some none
  | _ => none
def cutD (xs : List D) (lo hi : Option Int) : List D := (xs.drop (HT.sIx xs.length 0 lo)).take (HT.sIx xs.length xs.length hi - HT.sIx xs.length 0 lo)
def slcD (a : D) (lo hi : Option Int) : Option D :=
  match a with
  | .lst _ xs => some (.lst true (cutD xs lo hi))
  | .tup xs => if HT.sIx xs.length 0 lo = 0 ∧ HT.sIx xs.length xs.length hi = xs.length then none else some (.tup (cutD xs lo hi))
  | _ => none
/-- built-in calls that make no new thing of ours -/
def showOk (d : D) : Bool := d.here && PyData.showable d.py && decide (d.py.shown.length ≤ sizeLine) && decide (d.py.depth ≤ 64)
def pbf : Bf → List D → Option D
  | .len, [.tup xs] => some (.int xs.length)
  | .len, [.lst _ xs] => some (.int xs.length)
  | .abs, [.int i] => some (.int (if i < 0 then -i else i))
  | .max, [.int i, .int j] => some (.int (if j > i then j else i))
  | .min, [.int i, .int j] => some (.int (if j < i then j else i))
  | .int, [.int i] => some (.int i)
  | .int, [.bl b] => some (.int (if b = true then 1 else 0))
  | .repr, [d] => if showOk d then some (.str d.py.shown) else none
  | _, _ => none

/-- arguments: by the flags the thing itself, or shared -/
def passes : List Bool → List R → List D → Option (List D × List (Option Nat) × List D)
  | _, [], g => some ([], [], g)
  | io, .at i :: rs, g =>
    if io.headD false then
      match g[i]? with
      | some d => if d.here then (passes io.tail rs (g.set i .gone)).map fun (ds, js, g') => (d :: ds, some i :: js, g') else none
      | none => none
    else
      match (R.at i).force g with
      | some (d, g1) => (passes io.tail rs g1).map fun (ds, js, g') => (d :: ds, none :: js, g')
      | none => none
  | io, .val d :: rs, g =>
    if io.headD false then
      if d.here then (passes io.tail rs g).map fun (ds, js, g') => (d :: ds, none :: js, g') else none
    else
      match (R.val d).force g with
      | some (d, g1) => (passes io.tail rs g1).map fun (ds, js, g') => (d :: ds, none :: js, g')
      | none => none
/-- what a callee gives back -/
def back : List (Option Nat) → List D → List D → List D
  | some i :: js, d :: ds, g => back js ds (g.set i d)
  | none :: js, _ :: ds, g => back js ds g
  | _, _, g => g
def callF (F : Fn) (rs : List R) : M R := fun g =>
  match passes F.io rs g with
  | none => .stuck
  | some (ds, js, g1) =>
    match F.sem ds with
    | none => .stuck
    | some (.ret d ios) => .ok (.val d) (back js ios g1)
    | some (.exc x ios) => .exc x (back js ios g1)
def partM (ms : M (List R)) : M (Option Int) := fun g => (ms g).bind fun rs g => ofO (part (rs.map fun r => r.see g)) g

def forceL : List R → List D → Option (List D × List D)
  | [], g => some ([], g)
  | r :: rs, g =>
    match r.force g with
    | some (d, g1) => (forceL rs g1).map fun (ds, g2) => (d :: ds, g2)
    | none => none
def forceM (r : R) : M D := fun g =>
  match r.force g with
  | some (d, g1) => .ok d g1
  | none => .stuck
def forceLM (rs : List R) : M (List D) := fun g =>
  match forceL rs g with
  | some (d, g1) => .ok d g1
  | none => .stuck

/-- a store to a name, of what is shared or one's own alone -/
def storeD (c : Cfg) (i : Nat) (d : D) (g : List D) : Option (List D) := if i < g.length ∧ d.here = true ∧ i ∉ c.keep then some (g.set i d) else none
mutual
def tgD (c : Cfg) : Tg → D → List D → Option (List D)
  | .nm i, d, g => storeD c i d g
  | .tup ts, d, g => match items d with
    | some xs => tgsD c ts xs g
    | none => none
def tgsD (c : Cfg) : List Tg → List D → List D → Option (List D)
  | [], [], g => some g
  | t :: ts, d :: ds, g => (tgD c t d g).bind fun g' => tgsD c ts ds g'
  | _, _, _ => none
end
def wipeD (g : List D) : List Nat → List D
  | [] => g
  | i :: r => wipeD (g.set i .gone) r
/-- the names of a comprehension get back what they held outside -/
def unwipe (g0 : List D) : List D → List Nat → List D
  | g, [] => g
  | g, i :: r => unwipe g0 (g.set i (g0[i]?.getD .gone)) r
def mayWipe (g : List D) (own : List Nat) : Bool := own.all fun i => match g[i]? with
  | some d => d.fz || !d.here
  | none => false

def rngD : List D → Option (List D)
  | [.int j] => if -4611686018427387904 ≤ j ∧ j < 4611686018427387904 then some ((List.range j.toNat).map fun k => .int (k : Nat)) else none
  | [.int i, .int j] => if -4611686018427387904 ≤ i ∧ i < 4611686018427387904 ∧ -4611686018427387904 ≤ j ∧ j < 4611686018427387904 then some ((List.range (j - i).toNat).map fun k => .int (i + (k : Nat))) else none
  | _ => none
def zipD : List D → List D → List D := List.zipWith fun a b => .tup [a, b]
def zip2D : D → D → Option (List D)
  | .lst _ xs, .lst _ ys => some (zipD xs ys)
  | .tup xs, .tup ys => some (zipD xs ys)
  | _, _ => none
def enmD (xs : List D) : List D := xs.zipIdx.map fun (d, i) => .tup [.int (i : Nat), d]

/-- a fold that may end -/
def compL (step : D → M (Option D)) : List D → List D → M (List D)
  | [], acc => fun g => .ok acc g
  | x :: xs, acc => fun g => (step x g).bind fun r g' => match r with
    | some y => if acc.length < sizeLine then compL step xs (acc ++ [y]) g' else .stuck
    | none => compL step xs acc g'

/-- slot i's thing turns -/
def ofA (o : Option D) (i : Nat) : M R := fun g =>
  match o with
  | some d => .ok (.val .non) (g.set i d)
  | none => .stuck
def isOwnL (g : List D) (i : Nat) : Bool := match g[i]? with
  | some (.lst true _) => true
  | _ => false
def appD (d : D) : D → Option D
  | .lst true xs => if xs.length < sizeLine then some (.lst true (xs ++ [d])) else none
  | _ => none
mutual
def evR (c : Cfg) : Ex → M R
  | .nm i => fun g => match g[i]? with
    | some d => if d.here then (if d.fz then .ok (.val d) g else .ok (.at i) g) else .stuck
    | none => .stuck
  | .gl x => ofO ((c.gl x).map R.val)
  | .int n => fun g => .ok (.val (.int n)) g
  | .bl b => fun g => .ok (.val (.bl b)) g
  | .non => fun g => .ok (.val .non) g
  | .str x => fun g => .ok (.val (.str x)) g
  | .bin op a b => fun g => (evR c a g).bind fun r g => (evR c b g).bind fun s g => ofO ((binop op (r.see g) (s.see g)).map R.val) g
  | .neg a => fun g => (evR c a g).bind fun r g => match r.see g with
    | .int i => .ok (.val (.int (-i))) g
    | _ => .stuck
  | .cmp op a b => fun g => (evR c a g).bind fun r g => (evR c b g).bind fun s g => ofO ((cmpop op (r.see g) (s.see g)).map fun k => R.val (.bl k)) g
  | .chn o p a b d => fun g => (evR c a g).bind fun r g => (evR c b g).bind fun s g => match cmpop o (r.see g) (s.see g) with
    | some true => (evR c d g).bind fun t g => ofO ((cmpop p (s.see g) (t.see g)).map fun k => R.val (.bl k)) g
    | some false => .ok (.val (.bl false)) g
    | none => .stuck
  | .and es => fun g => (evAndV c es g).bind fun b g => .ok (.val (.bl b)) g
  | .or es => fun g => (evOrV c es g).bind fun b g => .ok (.val (.bl b)) g
  | .not a => fun g => (evR c a g).bind fun r g => match r.see g with
    | .bl b => .ok (.val (.bl (!b))) g
    | _ => .stuck
  | .ite t a b => fun g => (evT c t g).bind fun k g => if k then evR c a g else evR c b g
  | .tup es => fun g => (evRs c es g).bind fun rs g => (forceLM rs g).bind fun ds g => if ds.length ≤ sizeLine then .ok (.val (.tup ds)) g else .stuck
  | .lst es => fun g => (evRs c es g).bind fun rs g => (forceLM rs g).bind fun ds g => if ds.length ≤ sizeLine then .ok (.val (.lst true ds)) g else .stuck
  | .sub a b => fun g => (evR c a g).bind fun r g => (evR c b g).bind fun s g => ofO ((subD (r.see g) (s.see g)).map R.val) g
  | .slc a lo hi => fun g => (evR c a g).bind fun r g => (partM (evRs c lo) g).bind fun u g => (partM (evRs c hi) g).bind fun v g => ofO ((slcD (r.see g) u v).map R.val) g
  | .call f es => match c.fn f with
    | some F => fun g => (evRs c es g).bind fun rs g => if rs.length = F.n then callF F rs g else .stuck
    | none => fun _ => .stuck
  | .cb f es => fun g => (evRs c es g).bind fun rs g => ofO ((pbf f (rs.map fun r => r.see g)).map R.val) g
  | .app a e => fun g => (evR c a g).bind fun r g => match r with
    | .val _ => .stuck
    | .at i => if isOwnL g i then (evR c e g).bind fun s g => (forceM s g).bind fun d g => ofA (g[i]?.bind (appD d)) i g else .stuck
  | .lc e t it cs own => fun g0 => (evI c it g0).bind fun xs g => if mayWipe g (own.map (·.2)) then
      (compL (fun x g => match tgD { c with keep := [] } t x (wipeD g (own.map (·.2))) with
        | some g => ((evTs c cs g).bind fun k g => if k then (evR c e g).bind fun r g => (forceM r g).bind fun d g => .ok (some d) g else .ok none g).calm
        | none => .stuck) xs [] g).bind fun ys g' => .ok (.val (.lst true ys)) (unwipe g g' (own.map (·.2)))
    else .stuck
  | _ => fun _ => .stuck
def evRs (c : Cfg) : List Ar → M (List R)
  | [] => fun g => .ok [] g
  | .star a :: es => fun g => (evR c a g).bind fun r g => match items (r.see g) with
    | some xs => (evRs c es g).bind fun rs g => .ok (xs.map R.val ++ rs) g
    | none => .stuck
  | .e e :: es => fun g => (evR c e g).bind fun r g => (evRs c es g).bind fun rs g => .ok (r :: rs) g
def evAndV (c : Cfg) : List Ex → M Bool
  | [] => fun _ => .stuck
  | [e] => fun g => (evR c e g).bind fun r g => match r.see g with
    | .bl b => .ok b g
    | _ => .stuck
  | e :: es => fun g => (evR c e g).bind fun r g => match r.see g with
    | .bl b => if b then evAndV c es g else .ok false g
    | _ => .stuck
def evOrV (c : Cfg) : List Ex → M Bool
  | [] => fun _ => .stuck
  | [e] => fun g => (evR c e g).bind fun r g => match r.see g with
    | .bl b => .ok b g
    | _ => .stuck
  | e :: es => fun g => (evR c e g).bind fun r g => match r.see g with
    | .bl b => if b then .ok true g else evOrV c es g
    | _ => .stuck
def evT (c : Cfg) : Tx → M Bool
  | .ex e => fun g => (evR c e g).bind fun r g => ofO (truth (r.see g)) g
  | .cmp op a b => fun g => (evR c a g).bind fun r g => (evR c b g).bind fun s g => ofO (cmpop op (r.see g) (s.see g)) g
  | .chn o p a b d => fun g => (evR c a g).bind fun r g => (evR c b g).bind fun s g => match cmpop o (r.see g) (s.see g) with
    | some true => (evR c d g).bind fun t g => ofO (cmpop p (s.see g) (t.see g)) g
    | some false => .ok false g
    | none => .stuck
  | .not a => fun g => (evT c a g).bind fun b g => .ok (!b) g
  | .and es => evAnd c es
  | .or es => evOr c es
def evAnd (c : Cfg) : List Tx → M Bool
  | [] => fun g => .ok true g
  | e :: es => fun g => (evT c e g).bind fun b g => if b then evAnd c es g else .ok false g
def evOr (c : Cfg) : List Tx → M Bool
  | [] => fun g => .ok false g
  | e :: es => fun g => (evT c e g).bind fun b g => if b then .ok true g else evOr c es g
/-- a comprehension's tests: none or one -/
def evTs (c : Cfg) : List Tx → M Bool
  | [] => fun g => .ok true g
  | [e] => evT c e
  | _ => fun _ => .stuck
/-- what is walked: its items, shared -/
def evI (c : Cfg) : It → M (List D)
  | .ex e => fun g => (evR c e g).bind fun r g => (forceM r g).bind fun d g => ofO (items d) g
  | .rng1 a => fun g => (evR c a g).bind fun r g => ofO (rngD [r.see g]) g
  | .rng2 a b => fun g => (evR c a g).bind fun r g => (evR c b g).bind fun s g => ofO (rngD [r.see g, s.see g]) g
  | .zip a b => fun g => (evR c a g).bind fun r g => (evR c b g).bind fun s g => (forceM r g).bind fun d g => (forceM s g).bind fun e g => ofO (zip2D d e) g
  | .enm _ => fun _ => .stuck
end

/-! ### statements -/
def toS (o : Out α) (k : α → List D → SOut) : SOut :=
  match o with
  | .stuck => .stuck
  | .ok a g => k a g
  | .exc x g => .exc x g
def SOut.seq (o : SOut) (k : List D → SOut) : SOut :=
  match o with
  | .nx g => k g
  | o => o
/-- a loop's body behind which it goes on -/
def forL (step : D → List D → SOut) : List D → List D → SOut
  | [], g => .nx g
  | x :: xs, g => match step x g with
    | .nx g => forL step xs g
    | .cnt g => forL step xs g
    | .brk g => .nx g
    | o => o
def whlL (test : M Bool) (step : List D → SOut) : Nat → List D → SOut
  | 0, _ => .stuck
  | n + 1, g => toS (test g) fun b g => if b then match step g with
      | .nx g => whlL test step n g
      | .cnt g => whlL test step n g
      | .brk g => .nx g
      | o => o
    else .nx g
/-- an owned thing is handed out -/
def handOut (r : R) (g : List D) : Option (D × List D) :=
  match r with
  | .val d => if d.here then some (d, g) else none
  | .at i => match g[i]? with
    | some d => if d.here then some (d, g.set i .gone) else none
    | none => none
def setAt (xs : List D) (i : Int) (d : D) : Option (List D) := (ixN xs.length i).map fun j => xs.set j d
def inop : Operator → D → D → Option D
  | .Add, .int i, .int j => some (.int (i + j))
  | .Sub, .int i, .int j => some (.int (i - j))
  | _, _, _ => none
def nxO : Option (List D) → SOut
  | some g => .nx g
  | none => .stuck
def asgK (c : Cfg) (t : Tg) (r : R) (g : List D) : SOut := match t with
  | .nm i => match r with
    | .val d => nxO (storeD c i d g)
    | .at j => toS (forceM (.at j) g) fun d g => nxO (storeD c i d g)
  | .tup ts => toS (forceM r g) fun d g => nxO (tgD c (.tup ts) d g)
def setK (d s : D) : D → Option D
  | .lst true xs => match s with
    | .int k => (setAt xs k d).map fun ys => .lst true ys
    | _ => none
  | _ => none
mutual
def evS (c : Cfg) : Sm → List D → SOut
  | .asg t e => fun g => toS (evR c e g) fun r g => asgK c t r g
  | .set a b e => fun g => toS (evR c e g) fun r g => toS (evR c a g) fun s g => match s with
    | .val _ => .stuck
    | .at i => toS (evR c b g) fun t g => toS (forceM r g) fun d g => nxO ((g[i]?.bind (setK d (t.see g))).map fun y => g.set i y)
  | .aug i op e => fun g => toS (evR c (.nm i) g) fun r g => toS (evR c e g) fun s g => match inop op (r.see g) (s.see g) with
    | some d => nxO (storeD c i d g)
    | none => .stuck
  | .exp e => fun g => toS (evR c e g) fun _ g => .nx g
  | .ite t a b => fun g => toS (evT c t g) fun k g => if k then evSs c a g else evSs c b g
  | .for t it body => fun g => toS (evI c it g) fun xs g => forL (fun x g => match tgD c t x g with
      | some g => evSs c body g
      | none => .stuck) xs g
  | .whl t body => fun g => whlL (evT c t) (evSs c body) c.fuel g
  | .ret e => fun g => toS (evR c e g) fun r g => match handOut r g with
    | some (d, g) => .ret d g
    | none => .stuck
  | .retn => fun g => .ret .non g
  | .brk => fun g => .brk g
  | .cnt => fun g => .cnt g
  | .pass => fun g => .nx g
def evSs (c : Cfg) : List Sm → List D → SOut
  | [] => fun g => .nx g
  | s :: ss => fun g => (evS c s g).seq (evSs c ss)
end
/-- a def's end -/
def iosOf (keep : List Nat) (n : Nat) (g : List D) : List D := (List.range n).map fun i => if i ∈ keep then g[i]?.getD .gone else .gone
def bodyF (c : Cfg) (n : Nat) (slots : Nat) (body : List Sm) (ds : List D) : Option FOut :=
  if ds.length = n then
    match evSs c body (ds ++ List.replicate (slots - n) .gone) with
    | .ret d g => some (.ret d (iosOf c.keep n g))
    | .nx g => some (.ret .non (iosOf c.keep n g))
    | .exc x g => some (.exc x (iosOf c.keep n g))
    | _ => none
  else none
end DPy
/-! what it means that a small term tells what a Python term does -/
namespace DPy
open PySem PySem.Spec L2
open PyProof.Rows hiding St

/-- an exception as it lies -/
def XR (K : PySem.W.Frag) (cl : String → Option Addr) (x : Exc) (cv : Value) (d : Option Addr) (G H : Hp) : Prop :=
  ∃ C, cl x.cls = some C ∧ cv = .ref C ∧ match x.fld with
    | none => d = none
    | some (n, y) => ∃ dd v, d = some dd ∧ G dd = some (.xd [(Str.ofString n, v)]) ∧ Rp K G H v y [] ∧ y.fz = true

/-- the wish behind a computation that began at G0, H0 with A0 owned -/
def Fin {α κ : Type} (K : PySem.W.Frag) (cl : String → Option Addr) (W : WX) (rel : Hp → Hp → κ → α → List Addr → Prop) (σ : St) (G0 H0 : Hp) (A0 : Addr → Prop) (o : Out α) (Q : κ → Hp → Prop) : Prop :=
  match o with
  | .stuck => False
  | .ok a Γ' => ∀ v G' H' f' fp, Sta K G' H' Γ' σ f' → rel G' H' v a fp → (∀ a ∈ fp, ¬ Ow f' a) → Stp G0 H0 A0 G' H' (fun a => a ∈ fp ∨ Ow f' a) → Q v H'
  | .exc x Γ' => ∀ cv d G' H' f', Sta K G' H' Γ' σ f' → XR K cl x cv d G' H' → Stp G0 H0 A0 G' H' (Ow f') → W cv d σ H'
/-- a reading: the computation m, from what the slots hold -/
def tM {α κ : Type} (K : PySem.W.Frag) (cl : String → Option Addr) (W : WX) (rel : St → Hp → Hp → κ → α → List Addr → Prop) (m : M α) : St → Hp → (κ → Hp → Prop) → Prop := fun σ H Q =>
  ∃ Γ G f, Sta K G H Γ σ f ∧ Fin K cl W (rel σ) σ G H (Ow f) (m Γ) Q

/-- values at hand, in a row -/
inductive RRL (K : PySem.W.Frag) (G H : Hp) (σ : St) : List V → List R → List Addr → Prop
  | nil : RRL K G H σ [] [] []
  | cons {v : V} {vs : List V} {r : R} {rs : List R} {f fs : List Addr} : RR K G H σ v r f → RRL K G H σ vs rs fs → (∀ a ∈ f, a ∉ fs) → RRL K G H σ (v :: vs) (r :: rs) (f ++ fs)
def relR (K : PySem.W.Frag) (σ : St) (G H : Hp) (v : V) (r : R) (fp : List Addr) : Prop := RR K G H σ v r fp
def relRs (K : PySem.W.Frag) (σ : St) (G H : Hp) (v : List V) (r : List R) (fp : List Addr) : Prop := RRL K G H σ v r fp
def relB (_ : St) (_ _ : Hp) (v : Bool) (r : Bool) (fp : List Addr) : Prop := v = r ∧ fp = []
abbrev tR (K : PySem.W.Frag) (cl : String → Option Addr) (W : WX) (m : M R) : TE := tM K cl W (relR K) m
abbrev tRs (K : PySem.W.Frag) (cl : String → Option Addr) (W : WX) (m : M (List R)) : TA := tM K cl W (relRs K) m
abbrev tT (K : PySem.W.Frag) (cl : String → Option Addr) (W : WX) (m : M Bool) : TT := tM K cl W relB m

section
variable {K : PySem.W.Frag} {cl : String → Option Addr} {W : WX} {σ : St}
theorem RRL.ownG {G H : Hp} : ∀ {vs : List V} {rs : List R} {fp : List Addr}, RRL K G H σ vs rs fp → ∀ a ∈ fp, G a = none ∧ ∃ o, H a = some o
  | _, _, _, .nil, a, h => by cases h
  | _, _, _, .cons r t _, a, h => (List.mem_append.mp h).elim (r.ownG a) (RRL.ownG t a)
theorem RRL.stay {G H G' H' : Hp} {A B : Addr → Prop} (st : Stp G H A G' H' B) : ∀ {vs : List V} {rs : List R} {fp : List Addr}, RRL K G H σ vs rs fp → (∀ a ∈ fp, ¬ A a) → RRL K G' H' σ vs rs fp ∧ ∀ a ∈ fp, ¬ B a
  | _, _, _, .nil, _ => ⟨.nil, fun _ h => by cases h⟩
  | _, _, _, .cons r t d, n => by
    obtain ⟨r', n1⟩ := r.stay (fun a h => n a (List.mem_append_left _ h)) st
    obtain ⟨t', n2⟩ := RRL.stay st t fun a h => n a (List.mem_append_right _ h)
    exact ⟨.cons r' t' d, fun a h => (List.mem_append.mp h).elim (n1 a) (n2 a)⟩
theorem RRL.length {G H : Hp} : ∀ {vs : List V} {rs : List R} {fp : List Addr}, RRL K G H σ vs rs fp → vs.length = rs.length
  | _, _, _, .nil => rfl
  | _, _, _, .cons _ t _ => by simp [RRL.length t]
/-- shared things as values at hand -/
theorem RRL.ofFz {G H : Hp} : ∀ {ds : List D} {vs : List V}, FzL K G H vs ds → RRL K G H σ vs (ds.map R.val) []
  | _, _, .nil => .nil
  | _, _, .cons r f t => .cons (fs := []) (f := []) r (RRL.ofFz t) (fun _ h => by cases h)
theorem RRL.app {G H : Hp} : ∀ {vs us : List V} {rs qs : List R} {fp fq : List Addr}, RRL K G H σ vs rs fp → RRL K G H σ us qs fq → (∀ a ∈ fp, a ∉ fq) → RRL K G H σ (vs ++ us) (rs ++ qs) (fp ++ fq)
  | _, _, _, _, _, _, .nil, t, _ => t
  | _, _, _, _, _, _, .cons r t d, u, n => by
    rw [List.append_assoc]
    exact .cons r (RRL.app t u fun a h => n a (List.mem_append_right _ h)) fun a h z => (List.mem_append.mp z).elim (d a h) (n a (List.mem_append_left _ h))
theorem forceL_ok {rs : List R} : ∀ {G H : Hp} {Γ Γ' : List D} {f : Fps} {vs : List V} {fp : List Addr} {ds : List D}, Sta K G H Γ σ f → RRL K G H σ vs rs fp → (∀ a ∈ fp, ¬ Ow f a) → forceL rs Γ = some (ds, Γ') →
    ∃ G' f', Sta K G' H Γ' σ f' ∧ FzL K G' H vs ds ∧ Stp G H (fun a => a ∈ fp ∨ Ow f a) G' H (Ow f') := by
  induction rs with
  | nil =>
    intro G H Γ Γ' f vs fp ds s x n h
    cases x
    simp only [forceL, Option.some.injEq, Prod.mk.injEq] at h
    obtain ⟨rfl, rfl⟩ := h
    exact ⟨G, f, s, .nil, (Stp.refl G H _).B fun a h => .inr h⟩
  | cons r rs ih =>
    intro G H Γ Γ' f vs fp ds s x n h
    cases x with
    | @cons v vs' _ _ f1 fs r1 t d =>
      simp only [forceL] at h
      cases e : r.force Γ with
      | none => rw [e] at h; cases h
      | some p =>
        obtain ⟨d1, Γ1⟩ := p
        rw [e] at h
        obtain ⟨q, hq, e2⟩ := Option.map_eq_some_iff.mp h
        obtain ⟨ds', Γ2⟩ := q
        simp only [Prod.mk.injEq] at e2
        obtain ⟨rfl, rfl⟩ := e2
        obtain ⟨G1, f', s1, rp1, st1⟩ := r1.force s (fun a h => n a (List.mem_append_left _ h)) e
        obtain ⟨t1, n1⟩ := t.stay st1 fun a ha z => z.elim (fun z => d a z ha) (n a (List.mem_append_right _ ha))
        obtain ⟨G2, f2, s2, fz, st2⟩ := ih s1 t1 n1 hq
        refine ⟨G2, f2, s2, .cons (rp1.keep st2.g fun _ z => by cases z) (force_fz e) fz, ?_⟩
        have a1 := (st1.aside (fun a => a ∈ fs)).sub (A' := fun a => a ∈ f1 ++ fs ∨ Ow f a) (B' := fun a => a ∈ fs ∨ Ow f' a) (fun a h => by
          rcases h with h | h | h
          · exact .inl (List.mem_append_right _ h)
          · exact .inl (List.mem_append_left _ h)
          · exact .inr h) (fun a h => h)
        exact a1.trans st2
/-- what lists of values show -/
theorem RRL.sees {G H : Hp} {Γ : List D} {f : Fps} (s : Sta K G H Γ σ f) : ∀ {vs : List V} {rs : List R} {fp : List Addr}, RRL K G H σ vs rs fp → ∀ (i : Nat) (r : R), rs[i]? = some r → ∃ v fq, vs[i]? = some v ∧ RR K G H σ v r fq
  | _, _, _, .nil, i, r, h => by simp at h
  | _, _, _, .cons x t _, 0, r, h => by simp at h; subst h; exact ⟨_, _, rfl, x⟩
  | _, _, _, .cons x t _, i + 1, r, h => by
    obtain ⟨v, fq, e, y⟩ := RRL.sees s t i r (by simpa using h)
    exact ⟨v, fq, by simpa using e, y⟩

/-! ### new things -/
theorem Sta.newS {G H : Hp} {Γ : List D} {f : Fps} (s : Sta K G H Γ σ f) {p : Addr} (np : H p = none) (o : HO) : Sta K (upd G p o) (upd H p o) Γ σ f := by
  have gp := s.sub.none np
  have su : Sub G (upd G p o) := fun a u e => by rw [upd_ne (ne_of_none e gp)]; exact e
  refine ⟨fun a u e => ?_, s.len, fun i d e h => ?_, s.noth, s.dis⟩
  · by_cases ha : a = p
    · subst ha; rw [upd_same] at e ⊢; exact e
    · rw [upd_ne ha] at e ⊢; exact s.sub _ _ e
  · obtain ⟨v, e1, r⟩ := s.there i d e h
    refine ⟨v, e1, r.keep su fun a ha => ?_⟩
    obtain ⟨g, ob, eo⟩ := s.ow ⟨i, ha⟩
    have ne := ne_of_none eo np
    exact ⟨upd_ne ne, by rw [upd_ne ne]; exact g⟩
theorem Sta.newO {G H : Hp} {Γ : List D} {f : Fps} (s : Sta K G H Γ σ f) {p : Addr} (np : H p = none) (o : HO) : Sta K G (upd H p o) Γ σ f := by
  refine ⟨fun a u e => ?_, s.len, fun i d e h => ?_, s.noth, s.dis⟩
  · have e' := s.sub _ _ e
    rw [upd_ne (ne_of_none e' np)]; exact e'
  · obtain ⟨v, e1, r⟩ := s.there i d e h
    refine ⟨v, e1, r.keep (.refl G) fun a ha => ?_⟩
    obtain ⟨g, ob, eo⟩ := s.ow ⟨i, ha⟩
    exact ⟨upd_ne (ne_of_none eo np), g⟩
theorem Stp.newS {G H : Hp} {A : Addr → Prop} {p : Addr} (np : H p = none) (gp : G p = none) (o : HO) : Stp G H A (upd G p o) (upd H p o) A :=
  ⟨fun a u e => by rw [upd_ne (ne_of_none e gp)]; exact e, fun a u e n g => by
    have ne := ne_of_none e np
    exact ⟨by rw [upd_ne ne]; exact e, by rw [upd_ne ne]; exact g, n⟩⟩
theorem Stp.newO {G H : Hp} {A : Addr → Prop} {p : Addr} (np : H p = none) (o : HO) : Stp G H A G (upd H p o) (fun a => a = p ∨ A a) :=
  ⟨.refl G, fun a u e n g => by
    have ne := ne_of_none e np
    exact ⟨by rw [upd_ne ne]; exact e, g, fun z => z.elim ne n⟩⟩
theorem Sta.fresh {G H : Hp} {Γ : List D} {f : Fps} (s : Sta K G H Γ σ f) {p : Addr} (np : H p = none) : ¬ Ow f p := fun z => by
  obtain ⟨_, o, e⟩ := s.ow z
  rw [np] at e; cases e
end

/-! ### a frame's context -/
/-- a def's promise by what it computes -/
def spOf (K : PySem.W.Frag) (cl : String → Option Addr) (n : Nat) (sem : List D → Option FOut) : Sp := fun vs H Q E => vs.length = n ∧ ∃ G ds f, Sta K G H ds (vs.map some) f ∧
  match sem ds with
  | none => False
  | some (.ret d ios) => ∀ v G' H' f' fp, Sta K G' H' ios (vs.map some) f' → Rp K G' H' v d fp → (∀ a ∈ fp, ¬ Ow f' a) → Stp G H (Ow f) G' H' (fun a => a ∈ fp ∨ Ow f' a) → Q v H'
  | some (.exc x ios) => ∀ cv d G' H' f', Sta K G' H' ios (vs.map some) f' → XR K cl x cv d G' H' → Stp G H (Ow f) G' H' (Ow f') → E cv d H'
theorem spOf.len {K : PySem.W.Frag} {cl : String → Option Addr} {n : Nat} {sem : List D → Option FOut} {vs : List V} {H : Hp} {Q : VK} {E : XK} (h : spOf K cl n sem vs H Q E) : vs.length = n := h.1
/-- a def's promise, where no repr is at work -/
structure FnG (P : Program) (w : World) (K : PySem.W.Frag) (mg : Str → Option Value) (base : Heap) (k : Nat) (f : Addr) (fd : FuncData) (ps : List Str) (sp : Sp) : Prop where
  len : ∀ vs H Q E, sp vs H Q E → vs.length = ps.length
  run : ∀ (A : Around) (outer : List Env) (s : Shared) (H : Hp) (args : Args) (us : List Value) (vs : List V) (Q : VK) (E : XK), Room k A → A.guards = some [] → Env0 P w K mg base A outer s H → BindsTo s fd args (ps.zip us) → Vals vs us → sp vs H Q E →
    codeAny (model P w) A (.call (.ref f) args) (CR (L2.CX P w) outer P w H s Q E) s
structure FnIn (cl : String → Option Addr) (P : Program) (w : World) (K : PySem.W.Frag) (mg : Str → Option Value) (base : Heap) (k : Nat) (x : String) (F : Fn) : Prop where
  ex : ∃ (a : Addr) (fd : FuncData) (ps : List Str), FnG P w K mg base k a fd ps (spOf K cl F.n F.sem) ∧ mg (Str.ofString x) = some (.ref a) ∧ PySem.W.keepIn K (.ref a) = true ∧ Binds K fd ps []

def noH : Hp := fun _ => none
structure Glob (cl : String → Option Addr) (c : Cfg) (P : Program) (w : World) (K : PySem.W.Frag) (mg : Str → Option Value) (base : Heap) (k : Nat) : Prop where
  fns : ∀ x F, c.fn x = some F → FnIn cl P w K mg base k x F
  gls : ∀ x d, c.gl x = some d → ∃ v u, mg (Str.ofString x) = some u ∧ RelV v u ∧ Rp K noH noH v d [] ∧ d.fz = true
  bfs : ∀ b : Bf, mg (Str.ofString b.name) = none
  rng : mg "range" = none
  zip : mg "zip" = none
  enm : mg "enumerate" = none
structure Ctx (cl : String → Option Addr) (c : Cfg) (W : WX) (X : Cx) (k : Nat) : Prop where
  calm : X.calm = true
  nd : X.N.Nodup
  room : Room k X.A
  grd : X.A.guards = some []
  own : PassesOwn (model X.prog X.w) X.A X.env X.xe
  tk : Takes X W
  gl : Glob cl c X.prog X.w X.K X.mg X.base k

theorem _root_.L2.PE.imp {X : Cx} {e : Expr} {t t' : TE} (h : PE X e t) (i : ∀ σ H Q, t' σ H Q → t σ H Q) : PE X e t' := ⟨fun pins s σ H Q I q => h.run pins s σ H Q I (i _ _ _ q)⟩
theorem _root_.L2.PT.imp {X : Cx} {e : Expr} {t t' : TT} (h : PT X e t) (i : ∀ σ H Q, t' σ H Q → t σ H Q) : PT X e t' := ⟨fun pins s σ H Q I q => h.run pins s σ H Q I (i _ _ _ q)⟩
theorem _root_.L2.PA.imp {X : Cx} {e : List Expr} {t t' : TA} (h : PA X e t) (i : ∀ σ H Q, t' σ H Q → t σ H Q) : PA X e t' := ⟨fun pos pins s σ H Q I q => h.run pos pins s σ H Q I (i _ _ _ q)⟩
theorem _root_.L2.PS.imp {X : Cx} {e : Stmt} {t t' : TS} (h : PS X e t) (i : ∀ D σ H, t' D σ H → t D σ H) : PS X e t' := ⟨fun pins s σ H Q I q => h.run pins s σ H Q I (i _ _ _ q)⟩
end DPy
/-! a small term stands for a Python term: a check by computation -/
namespace DPy
open PySem PySem.Spec L2
open PyProof.Rows hiding St

def visB (sc : Scope) (y : Str) : Bool := match sc.names.lookup y with
  | some .local => true | some .cell => true | some .free => true | _ => false
def locB (sc : Scope) (y : Str) : Bool := match sc.names.lookup y with
  | some .local => true | some .cell => true | _ => false
def glbB (sc : Scope) (y : Str) : Bool := match sc.names.lookup y with
  | some .globalImplicit => true | _ => false
def okName (y : Str) : Bool := !(y == ("__debug__" : Str)) && !(y == ("__classdict__" : Str)) && !(y == ("__name__" : Str))
def noStarB : List Expr → Bool
  | [] => true
  | .Starred _ _ :: _ => false
  | _ :: r => noStarB r
def plainIxB : Expr → Bool
  | .Slice _ _ _ _ => false
  | _ => true
def swapB : Expr → Bool
  | .ListComp _ _ _ _ | .SetComp _ _ _ _ | .DictComp _ _ _ _ _ => false
  | _ => true
def plainTB : Expr → Bool
  | .UnaryOp .Not _ _ => false
  | .BoolOp _ _ _ => false
  | .IfExp _ _ _ _ => false
  | .Compare _ _ _ _ => false
  | _ => true

def foldB : Expr → Bool
  | .Set _ _ _ => false
  | _ => true
mutual
def chkG (N : List Str) (sc : Scope) : Tg → Expr → Bool
  | .nm i, .Name y _ => decide (N[i]? = some y) && locB sc y
  | .tup ts, .Tuple es _ _ => chkGs N sc ts es
  | _, _ => false
def chkGs (N : List Str) (sc : Scope) : List Tg → List Expr → Bool
  | [], [] => true
  | t :: ts, e :: es => chkG N sc t e && chkGs N sc ts es
  | _, _ => false
end
mutual
def chkE (N : List Str) (sc : Scope) : Ex → Expr → Bool
  | .nm i, .Name y _ => decide (N[i]? = some y) && visB sc y && okName y
  | .gl x, .Name y _ => decide (y = Str.ofString x) && glbB sc y && okName y
  | .int n, .Constant (.int m) _ _ => decide (n = m)
  | .bl n, .Constant (.bool m) _ _ => decide (n = m)
  | .non, .Constant .none _ _ => true
  | .str x, .Constant (.str y) _ _ => decide (x = y)
  | .bin op a b, .BinOp e op' f _ => decide (op = op') && chkE N sc a e && chkE N sc b f
  | .neg a, .UnaryOp .USub e _ => chkE N sc a e
  | .cmp op a b, .Compare e [op'] [f] _ => decide (op = op') && chkE N sc a e && chkE N sc b f && !behindInMarks op f
  | .chn o p a b d, .Compare e [o', p'] [f, h] _ => decide (o = o') && decide (p = p') && chkE N sc a e && chkE N sc b f && chkE N sc d h && !lastMarks [o', p'] [f, h]
  | .and es, .BoolOp .And vs _ => chkXs N sc es vs && decide (2 ≤ es.length)
  | .or es, .BoolOp .Or vs _ => chkXs N sc es vs && decide (2 ≤ es.length)
  | .not a, .UnaryOp .Not e _ => chkE N sc a e
  | .ite t a b, .IfExp d e f _ => chkT N sc t d && chkE N sc a e && chkE N sc b f
  | .tup es, .Tuple vs _ _ => chkEs N sc es vs
  | .lst es, .List vs _ => chkEs N sc es vs
  | .sub a b, .Subscript e f _ => chkE N sc a e && chkE N sc b f && plainIxB f
  | .slc a lo hi, .Subscript e (.Slice l h none _) _ => chkE N sc a e && (match l with
      | none => lo.isEmpty
      | some l => chkEs N sc lo [l] && noStarB [l]) && (match h with
      | none => hi.isEmpty
      | some h => chkEs N sc hi [h] && noStarB [h])
  | .call f es, .Call (.Name y _) (v :: vs) [] _ => decide (y = Str.ofString f) && glbB sc y && okName y && chkEs N sc es (v :: vs) && noStarB (v :: vs)
  | .call f [], .Call (.Name y _) [] [] _ => decide (y = Str.ofString f) && glbB sc y && okName y
  | .cb f es, .Call (.Name y _) (v :: vs) [] _ => decide (y = Str.ofString f.name) && glbB sc y && okName y && chkEs N sc es (v :: vs) && noStarB (v :: vs)
  | .app a e, .Call (.Attribute (.Name y p) m ap) [v] [] cp => decide (m = ("append" : Str)) && chkE N sc a (.Name y p) && chkE N sc e v && noStarB [v] && (ap.endLine == cp.line)
  | .lc e t it cs own, .ListComp elt [⟨tg, iter, ifs, 0⟩] scope _ => blkC N sc scope (own.map fun (x, i) => (Str.ofString x, i)) && (t.slots.all fun i => decide (i ∈ own.map (·.2))) && foldB iter && chkI N sc it tg iter && chkG N scope t tg && chkTs N (relS scope sc) cs ifs && chkE N (relS scope sc) e elt
  | _, _ => false
def chkEs (N : List Str) (sc : Scope) : List Ar → List Expr → Bool
  | [], [] => true
  | .star a :: as, .Starred e _ :: es => chkE N sc a e && chkEs N sc as es
  | .e a :: as, e :: es => chkE N sc a e && noStarB [e] && chkEs N sc as es
  | _, _ => false
def chkXs (N : List Str) (sc : Scope) : List Ex → List Expr → Bool
  | [], [] => true
  | a :: as, e :: es => chkE N sc a e && chkXs N sc as es
  | _, _ => false
def chkT (N : List Str) (sc : Scope) : Tx → Expr → Bool
  | .ex a, e => chkE N sc a e && plainTB e
  | .cmp op a b, .Compare e [op'] [f] _ => decide (op = op') && chkE N sc a e && chkE N sc b f && !behindInMarks op f
  | .chn o p a b d, .Compare e [o', p'] [f, h] _ => decide (o = o') && decide (p = p') && chkE N sc a e && chkE N sc b f && chkE N sc d h && !lastMarks [o', p'] [f, h]
  | .not t, .UnaryOp .Not e _ => chkT N sc t e
  | .and ts, .BoolOp .And es _ => chkTs N sc ts es && decide (2 ≤ ts.length)
  | .or ts, .BoolOp .Or es _ => chkTs N sc ts es && decide (2 ≤ ts.length)
  | _, _ => false
def chkTs (N : List Str) (sc : Scope) : List Tx → List Expr → Bool
  | [], [] => true
  | t :: ts, e :: es => chkT N sc t e && chkTs N sc ts es
  | _, _ => false
def chkI (N : List Str) (sc : Scope) : It → Expr → Expr → Bool
  | .ex a, _, e => chkE N sc a e && foldB e
  | .rng1 a, _, .Call (.Name y _) [u] [] _ => decide (y = ("range" : Str)) && glbB sc y && chkE N sc a u && noStarB [u]
  | .rng2 a b, _, .Call (.Name y _) [u, v] [] _ => decide (y = ("range" : Str)) && glbB sc y && chkE N sc a u && chkE N sc b v && noStarB [u, v]
  | .zip a b, .Tuple _ _ _, .Call (.Name y _) [u, v] [] _ => decide (y = ("zip" : Str)) && glbB sc y && chkE N sc a u && chkE N sc b v && noStarB [u, v]
  | _, _, _ => false
end
end DPy
/-! the small terms tell the truth: steps -/
namespace DPy
open PySem PySem.Spec L2
open PyProof.Rows hiding St

/-! ### syntax -/
theorem starEach_of {e : Expr} {es : List Expr} {env : Env} (h : noStarB [e] = true) : starEach (e :: es) env = (false, eval e env) :: starEach es env := by
  cases e <;> first | rfl | (simp [noStarB] at h)
theorem noStar_cons {e : Expr} {es : List Expr} (h : noStarB (e :: es) = true) : noStarB [e] = true ∧ noStarB es = true := by
  cases e <;> first | exact ⟨rfl, h⟩ | (simp [noStarB] at h)
theorem noStar_any {env : Env} {pos : Pos} : ∀ {es : List Expr}, noStarB es = true → (backTo pos (starEach es env)).any (·.1) = false
  | [], _ => rfl
  | e :: es, h => by
    obtain ⟨h1, h2⟩ := noStar_cons h
    rw [starEach_of h1]
    have := noStar_any (env := env) (pos := pos) h2
    simpa [backTo] using this
theorem plainIx_of {e : Expr} (h : plainIxB e = true) : PlainIx e := by
  cases e <;> first | exact fun _ _ => rfl | (simp [plainIxB] at h)
theorem fold_of {e : Expr} (h : foldB e = true) {env : Env} : ∀ x, foldedSetIterable e env x = pure x := by
  cases e <;> first | exact fun _ => rfl | (simp [foldB] at h)
theorem plainT_of {e : Expr} (h : plainTB e = true) {env : Env} : ∀ whole, isTrue e env whole = (do let v ← whole; standAt e.pos; holding [v] (truthy v)) := by
  cases e with
  | UnaryOp o x p => cases o <;> first | exact fun _ => rfl | (simp [plainTB] at h)
  | _ => first | exact fun _ => rfl | (simp [plainTB] at h)
theorem swap_of {e : Expr} (h : swapB e = true) {t : Option Expr} {l : Nat} {env : Env} : swapsWith e t l env = pure false := by
  cases e <;> first | rfl | (simp [swapB] at h)
theorem okName_of {y : Str} (h : okName y = true) : (y == ("__debug__" : Str)) = false ∧ (y == ("__classdict__" : Str)) = false ∧ y ≠ "__name__" := by
  simp only [okName, Bool.and_eq_true, Bool.not_eq_true'] at h
  refine ⟨h.1.1, h.1.2, fun e => ?_⟩
  have := h.2
  rw [e] at this
  simp at this
theorem vis_of {sc : Scope} {y : Str} (h : visB sc y = true) : Vis sc y := by
  unfold visB at h
  split at h <;> rename_i q <;> first | exact .inl q | exact .inr (.inl q) | exact .inr (.inr q) | cases h
theorem loc_of {sc : Scope} {y : Str} (h : locB sc y = true) : Loc sc y := by
  unfold locB at h
  split at h <;> rename_i q <;> first | exact .inl q | exact .inr q | cases h
theorem glb_of {X : Cx} {y : Str} (h : glbB X.env.scope y = true) : Gl X y := by
  unfold glbB at h
  split at h <;> rename_i q <;> first | exact q | cases h

/-! ### one computation behind another -/
section
variable {K : PySem.W.Frag} {cl : String → Option Addr} {W : WX} {σ : St}
theorem tM_stage {α β κ ι : Type} {rel : St → Hp → Hp → κ → α → List Addr → Prop} {rel2 : Hp → Hp → ι → β → List Addr → Prop} {m : M α} {k : α → M β} {G0 H0 G1 H1 : Hp} {A0 : Addr → Prop} {Γ1 : List D} {f1 : Fps} {P : Addr → Prop} {Q : ι → Hp → Prop} {T : κ → Hp → Prop}
    (s : Sta K G1 H1 Γ1 σ f1) (st : Stp G0 H0 A0 G1 H1 (fun a => P a ∨ Ow f1 a)) (fin : Fin K cl W rel2 σ G0 H0 A0 ((m Γ1).bind k) Q)
    (go : ∀ a Γ2 v G2 H2 f2 fp, Sta K G2 H2 Γ2 σ f2 → rel σ G2 H2 v a fp → (∀ a ∈ fp, ¬ Ow f2 a) → Stp G1 H1 (Ow f1) G2 H2 (fun a => a ∈ fp ∨ Ow f2 a) →
      Stp G0 H0 A0 G2 H2 (fun a => P a ∨ a ∈ fp ∨ Ow f2 a) → Fin K cl W rel2 σ G0 H0 A0 (k a Γ2) Q → T v H2) : tM K cl W rel m σ H1 T := by
  refine ⟨Γ1, G1, f1, s, ?_⟩
  cases e : m Γ1 with
  | stuck => rw [e] at fin; exact fin
  | ok a Γ2 =>
    rw [e] at fin
    exact fun v G2 H2 f2 fp s2 r d st2 => go a Γ2 v G2 H2 f2 fp s2 r d st2 (st.trans (st2.aside P)) fin
  | exc x Γ2 =>
    rw [e] at fin
    exact fun cv d G2 H2 f2 s2 x2 st2 => fin cv d G2 H2 f2 s2 x2 ((st.trans (st2.aside P)).B fun a h => .inr h)

/-- one value is at hand -/
structure At1 (K : PySem.W.Frag) (cl : String → Option Addr) (W : WX) (σ : St) {β ι : Type} (rel2 : Hp → Hp → ι → β → List Addr → Prop) (k : R → M β) (x : V) (H : Hp) (Q : ι → Hp → Prop) : Prop where
  ex : ∃ G0 H0 A0 Γ G f r fx, Sta K G H Γ σ f ∧ RR K G H σ x r fx ∧ (∀ a ∈ fx, ¬ Ow f a) ∧ Stp G0 H0 A0 G H (fun a => a ∈ fx ∨ Ow f a) ∧ Fin K cl W rel2 σ G0 H0 A0 (k r Γ) Q
theorem at1 {β ι : Type} {rel2 : St → Hp → Hp → ι → β → List Addr → Prop} {m : M R} {k : R → M β} {H : Hp} {Q : ι → Hp → Prop} (h : tM K cl W rel2 (fun g => (m g).bind k) σ H Q) {T : VK} (go : ∀ x H1, At1 K cl W σ (rel2 σ) k x H1 Q → T x H1) : tR K cl W m σ H T := by
  obtain ⟨Γ, G, f, s, fin⟩ := h
  exact tM_stage (P := fun _ => False) s ((Stp.refl G H _).B fun a h => h.elim False.elim id) fin fun r Γ2 v G2 H2 f2 fp s2 r2 d st2 st3 fin2 =>
    go v H2 ⟨_, _, _, Γ2, G2, f2, r, fp, s2, r2, d, st3.B fun a h => .inr h, fin2⟩
structure At2 (K : PySem.W.Frag) (cl : String → Option Addr) (W : WX) (σ : St) {β ι : Type} (rel2 : Hp → Hp → ι → β → List Addr → Prop) (k : R → R → M β) (x y : V) (H : Hp) (Q : ι → Hp → Prop) : Prop where
  ex : ∃ G0 H0 A0 Γ G f r q fx fy, Sta K G H Γ σ f ∧ RR K G H σ x r fx ∧ RR K G H σ y q fy ∧ (∀ a ∈ fx, ¬ Ow f a) ∧ (∀ a ∈ fy, ¬ Ow f a) ∧ (∀ a ∈ fx, a ∉ fy) ∧ Stp G0 H0 A0 G H (fun a => a ∈ fx ∨ a ∈ fy ∨ Ow f a) ∧ Fin K cl W rel2 σ G0 H0 A0 (k r q Γ) Q
theorem At1.snd {β ι : Type} {rel2 : Hp → Hp → ι → β → List Addr → Prop} {m : M R} {k : R → R → M β} {x : V} {H : Hp} {Q : ι → Hp → Prop} (h : At1 K cl W σ rel2 (fun r g => (m g).bind (k r)) x H Q) {T : VK} (go : ∀ y H1, At2 K cl W σ rel2 k x y H1 Q → T y H1) : tR K cl W m σ H T := by
  obtain ⟨G0, H0, A0, Γ, G, f, r, fx, s, rx, dx, st, fin⟩ := h.ex
  exact tM_stage (P := fun a => a ∈ fx) s st fin fun q Γ2 v G2 H2 f2 fp s2 r2 d st2 st3 fin2 => by
    obtain ⟨rx2, nx⟩ := rx.stay dx st2
    exact go v H2 ⟨_, _, _, Γ2, G2, f2, r, q, fx, fp, s2, rx2, r2, fun a h z => nx a h (.inr z), d, fun a h z => nx a h (.inl z), st3, fin2⟩
structure At3 (K : PySem.W.Frag) (cl : String → Option Addr) (W : WX) (σ : St) {β ι : Type} (rel2 : Hp → Hp → ι → β → List Addr → Prop) (k : R → R → R → M β) (x y z : V) (H : Hp) (Q : ι → Hp → Prop) : Prop where
  ex : ∃ G0 H0 A0 Γ G f r q t fx fy fz, Sta K G H Γ σ f ∧ RR K G H σ x r fx ∧ RR K G H σ y q fy ∧ RR K G H σ z t fz ∧ (∀ a ∈ fx, ¬ Ow f a) ∧ (∀ a ∈ fy, ¬ Ow f a) ∧ (∀ a ∈ fz, ¬ Ow f a) ∧ (∀ a ∈ fx, a ∉ fy) ∧ (∀ a ∈ fx, a ∉ fz) ∧ (∀ a ∈ fy, a ∉ fz) ∧
    Stp G0 H0 A0 G H (fun a => a ∈ fx ∨ a ∈ fy ∨ a ∈ fz ∨ Ow f a) ∧ Fin K cl W rel2 σ G0 H0 A0 (k r q t Γ) Q
theorem At2.trd {β ι : Type} {rel2 : Hp → Hp → ι → β → List Addr → Prop} {m : M R} {k : R → R → R → M β} {x y : V} {H : Hp} {Q : ι → Hp → Prop} (h : At2 K cl W σ rel2 (fun r q g => (m g).bind (k r q)) x y H Q) {T : VK} (go : ∀ z H1, At3 K cl W σ rel2 k x y z H1 Q → T z H1) : tR K cl W m σ H T := by
  obtain ⟨G0, H0, A0, Γ, G, f, r, q, fx, fy, s, rx, ry, dx, dy, dxy, st, fin⟩ := h.ex
  exact tM_stage (P := fun a => a ∈ fx ∨ a ∈ fy) s (st.B fun a h => by rcases h with (h | h) | h <;> simp [h]) fin fun t Γ2 v G2 H2 f2 fp s2 r2 d st2 st3 fin2 => by
    obtain ⟨rx2, nx⟩ := rx.stay dx st2
    obtain ⟨ry2, ny⟩ := ry.stay dy st2
    exact go v H2 ⟨_, _, _, Γ2, G2, f2, r, q, t, fx, fy, fp, s2, rx2, ry2, r2, fun a h z => nx a h (.inr z), fun a h z => ny a h (.inr z), d, dxy, fun a h z => nx a h (.inl z), fun a h z => ny a h (.inl z),
      st3.B fun a h => by rcases h with h | h | h | h <;> simp [h], fin2⟩

/-- the end, with a shared value -/
theorem Fin.fz {d : D} {Γ : List D} {G0 H0 G H : Hp} {A0 B : Addr → Prop} {f : Fps} {v : V} {Q : VK} (fin : Fin K cl W (relR K σ) σ G0 H0 A0 (.ok (.val d) Γ) Q) (s : Sta K G H Γ σ f) (r : Rp K G H v d []) (st : Stp G0 H0 A0 G H B) (hB : ∀ a, Ow f a → B a) : Q v H :=
  fin v G H f [] s r (fun _ h => by cases h) (st.B fun a h => h.elim (fun z => by cases z) (hB a))
/-- .. with a new thing of one's own at p -/
theorem Fin.new {xs : List D} {vs : List V} {Γ : List D} {G0 H0 G H : Hp} {A0 B : Addr → Prop} {f : Fps} {p : Addr} {Q : VK} (fin : Fin K cl W (relR K σ) σ G0 H0 A0 (.ok (.val (.lst true xs)) Γ) Q) (s : Sta K G H Γ σ f) (np : H p = none) (r : FzL K G H vs xs) (st : Stp G0 H0 A0 G H B) (hB : ∀ a, Ow f a → B a) :
    Q (.ref p) (upd H p (.lst vs)) := by
  refine fin _ G _ f [p] (s.newO np _) (Rp.own (s.sub.none np) upd_same (r.keep (.refl G))) (fun a h z => ?_) ((st.trans (Stp.newO np _)).B fun a h => ?_)
  · simp at h; subst h; exact s.fresh np z
  · rcases h with h | h
    · simp at h; exact .inl h
    · exact .inr (hB a h)
/-- .. with a new shared tuple -/
theorem Fin.tup {xs : List D} {vs : List V} {Γ : List D} {G0 H0 G H : Hp} {A0 B : Addr → Prop} {f : Fps} {p : Addr} {Q : VK} (fin : Fin K cl W (relR K σ) σ G0 H0 A0 (.ok (.val (.tup xs)) Γ) Q) (s : Sta K G H Γ σ f) (np : H p = none) (r : FzL K G H vs xs) (st : Stp G0 H0 A0 G H B) (hB : ∀ a, Ow f a → B a) :
    Q (.ref p) (upd H p (.tup vs)) := by
  have gp := s.sub.none np
  have st2 := Stp.newS (A := Ow f) np gp (.tup vs)
  exact Fin.fz fin (s.newS np _) (.tup (.inl (.inl upd_same)) (r.keep st2.g)) ((st.B hB).trans st2) fun a h => h
end
end DPy
/-! operations by values -/
namespace DPy
open PySem PySem.Spec L2
open PyProof.Rows hiding St

theorem Rp.int_inv {K : PySem.W.Frag} {G H : Hp} {v : V} {i : Int} {fp : List Addr} (r : Rp K G H v (.int i) fp) : v = .int i := by cases r; rfl
theorem Rp.bl_inv {K : PySem.W.Frag} {G H : Hp} {v : V} {i : Bool} {fp : List Addr} (r : Rp K G H v (.bl i) fp) : v = .bl i := by cases r; rfl
theorem Rp.str_inv {K : PySem.W.Frag} {G H : Hp} {v : V} {i : Str} {fp : List Addr} (r : Rp K G H v (.str i) fp) : v = .str i := by cases r; rfl
theorem Rp.non_inv {K : PySem.W.Frag} {G H : Hp} {v : V} {fp : List Addr} (r : Rp K G H v .non fp) : v = .non := by cases r; rfl
theorem Rp.tup_inv {K : PySem.W.Frag} {G H : Hp} {v : V} {xs : List D} {fp : List Addr} (r : Rp K G H v (.tup xs) fp) : ∃ a vs, v = .ref a ∧ SqT K G a vs ∧ FzL K G H vs xs := by cases r with | tup h1 h2 => exact ⟨_, _, rfl, h1, h2⟩
/-- a list to be read -/
theorem Rp.lst_inv {K : PySem.W.Frag} {G H : Hp} {v : V} {o : Bool} {xs : List D} {fp : List Addr} (s : Sub G H) (r : Rp K G H v (.lst o xs) fp) : ∃ a vs, v = .ref a ∧ SqL K H a vs ∧ FzL K G H vs xs := by
  cases r with
  | lst h1 h2 => exact ⟨_, _, rfl, s.sqL h1, h2⟩
  | own h1 h2 h3 => exact ⟨_, _, rfl, .inl (.inl h2), h3⟩

/-- values seen -/
def See (K : PySem.W.Frag) (H : Hp) (v : V) (d : D) : Prop := ∃ G f, Sub G H ∧ Rp K G H v d f
def D.sv : D → Option V
  | .non => some .non
  | .bl b => some (.bl b)
  | .int i => some (.int i)
  | .str x => some (.str x)
  | _ => none
theorem Rp.sv {K : PySem.W.Frag} {G H : Hp} {d : D} {v : V} (h : d.sv = some v) : Rp K G H v d [] := by
  cases d <;> simp only [D.sv, Option.some.injEq] at h <;> first | (subst h; constructor; done) | cases h
def rBinV (K : PySem.W.Frag) (op : Operator) : R2 := fun x y H Q => ∃ d1 d2 d v, See K H x d1 ∧ See K H y d2 ∧ binop op d1 d2 = some d ∧ d.sv = some v ∧ Q v H
def rCmpV (K : PySem.W.Frag) (op : CmpOp) : R2 := fun x y H Q => ∃ d1 d2 k, See K H x d1 ∧ See K H y d2 ∧ cmpop op d1 d2 = some k ∧ Q (.bl k) H

section
variable {X : Cx}
theorem op_binV {op : Operator} : OpR X (binaryOp op) (rBinV X.K op) := by
  intro pins s σ H x y v u Q I rx ry h
  obtain ⟨d1, d2, d, w, ⟨G1, f1, s1, r1⟩, ⟨G2, f2, s2, r2⟩, e, es, q⟩ := h
  unfold binop at e
  split at e
  · cases e; cases es; exact op_add pins s σ H x y v u Q I rx ry ⟨_, _, r1.int_inv, r2.int_inv, q⟩
  · cases e; cases es; exact op_sub pins s σ H x y v u Q I rx ry ⟨_, _, r1.int_inv, r2.int_inv, q⟩
  · split at e
    · rename_i hc
      cases e; cases es
      exact op_mul pins s σ H x y v u Q I rx ry ⟨_, _, r1.int_inv, r2.int_inv, hc, q⟩
    · cases e
  · split at e
    · rename_i hc
      cases e; cases es
      exact op_fdivN pins s σ H x y v u Q I rx ry ⟨_, _, r1.int_inv, r2.int_inv, hc, q⟩
    · cases e
  · split at e
    · rename_i hc
      cases e; cases es
      exact op_modN pins s σ H x y v u Q I rx ry ⟨_, _, r1.int_inv, r2.int_inv, hc, q⟩
    · cases e
  · split at e
    · rename_i hc
      cases e; cases es
      exact op_pow pins s σ H x y v u Q I rx ry ⟨_, _, r1.int_inv, r2.int_inv, hc, q⟩
    · cases e
  · cases e
theorem op_cmpV {op : CmpOp} (hu : X.A.units + 64 < cLine) : OpR X (compareOp op) (rCmpV X.K op) := by
  intro pins s σ H x y v u Q I rx ry h
  obtain ⟨d1, d2, k, ⟨G1, f1, s1, r1⟩, ⟨G2, f2, s2, r2⟩, e, q⟩ := h
  unfold cmpop at e
  split at e
  · cases e; exact op_lt pins s σ H x y v u Q I rx ry ⟨_, _, r1.int_inv, r2.int_inv, q⟩
  · cases e; exact op_le pins s σ H x y v u Q I rx ry ⟨_, _, r1.int_inv, r2.int_inv, q⟩
  · cases e; exact op_gt pins s σ H x y v u Q I rx ry ⟨_, _, r1.int_inv, r2.int_inv, q⟩
  · cases e; exact op_ge pins s σ H x y v u Q I rx ry ⟨_, _, r1.int_inv, r2.int_inv, q⟩
  · cases e
    obtain rfl := r1.str_inv
    obtain rfl := r2.str_inv
    exact op_eq pins s σ H _ _ v u Q I rx ry ⟨rfl, by simpa using q⟩
  · cases e
    obtain rfl := r1.str_inv
    obtain rfl := r2.str_inv
    exact op_ne pins s σ H _ _ v u Q I rx ry ⟨rfl, by simpa using q⟩
  · split at e
    · rename_i hc
      simp only [Bool.and_eq_true] at hc
      obtain ⟨⟨⟨h1, h2⟩, h3⟩, h4⟩ := hc
      cases e
      exact op_eqD hu pins s σ H x y v u Q I rx ry ⟨_, _, r1.dp s1 h1, r2.dp s2 h2, h3, h4, q⟩
    · cases e
  · split at e
    · rename_i hc
      simp only [Bool.and_eq_true] at hc
      obtain ⟨⟨⟨h1, h2⟩, h3⟩, h4⟩ := hc
      cases e
      exact op_neD hu pins s σ H x y v u Q I rx ry ⟨_, _, r1.dp s1 h1, r2.dp s2 h2, h3, h4, q⟩
    · cases e
  · cases e

theorem FzL.atI {K : PySem.W.Frag} {G H : Hp} {ds : List D} {vs : List V} {i : Int} {d : D} (t : FzL K G H vs ds) (h : L2.atI ds i = some d) : ∃ v, L2.atI vs i = some v ∧ Rp K G H v d [] ∧ d.fz = true := by
  unfold L2.atI at h ⊢
  rw [t.length]
  obtain ⟨j, e1, e2⟩ := Option.bind_eq_some_iff.mp h
  obtain ⟨v, h1, h2, h3⟩ := t.get e2
  exact ⟨v, by rw [e1]; exact h1, h2, h3⟩
/-- a[b] by values -/
def rSubV (K : PySem.W.Frag) : R2 := fun x y H Q => ∃ G f1 d1 d2 d, Sub G H ∧ Rp K G H x d1 f1 ∧ See K H y d2 ∧ subD d1 d2 = some d ∧ ∀ v, Rp K G H v d [] → d.fz = true → Q v H
theorem ix_subV : IxR X (rSubV X.K) := by
  intro ve sl pins s σ H x y v u Q I rx ry h hs
  obtain ⟨G, f1, d1, d2, d, su, r1, ⟨G2, f2, s2, r2⟩, e, q⟩ := h
  unfold subD at e
  split at e
  · obtain ⟨a, vs, rfl, h1, h2⟩ := r1.tup_inv
    obtain ⟨w, e2, e3, e4⟩ := h2.atI e
    exact ix_tup ve sl pins s σ H _ y v u Q I rx ry ⟨_, _, _, _, rfl, r2.int_inv, su.sqT h1, e2, q _ e3 e4⟩ hs
  · obtain ⟨a, vs, rfl, h1, h2⟩ := r1.lst_inv su
    obtain ⟨w, e2, e3, e4⟩ := h2.atI e
    exact ix_list ve sl pins s σ H _ y v u Q I rx ry ⟨_, _, _, _, rfl, r2.int_inv, h1, e2, q _ e3 e4⟩ hs
  · cases e

/-- truth by values -/
theorem truth_V {K : PySem.W.Frag} {H : Hp} {x : V} {d : D} {k : Bool} (h : See K H x d) (e : truth d = some k) : TruV K x H k := by
  obtain ⟨G, f, su, r⟩ := h
  unfold truth at e
  split at e
  · cases e; rw [r.bl_inv]; rfl
  · cases e; rw [r.int_inv]; rfl
  · cases e
    obtain ⟨a, vs, rfl, h1, h2⟩ := r.lst_inv su
    exact .inl ⟨vs, h1, by cases h2 <;> rfl⟩
  · cases e
    obtain ⟨a, vs, rfl, h1, h2⟩ := r.tup_inv
    exact .inr (.inl ⟨vs, su.sqT h1, by cases h2 <;> rfl⟩)
  · cases e; rw [r.non_inv]; rfl
  · cases e

/-! ### slices -/
theorem FzL.cut {K : PySem.W.Frag} {G H : Hp} {ds : List D} {vs : List V} (t : FzL K G H vs ds) (lo hi : Option Int) : FzL K G H (cutV vs lo hi) (cutD ds lo hi) := by
  unfold cutV cutD
  rw [t.length]
  exact (t.drop _).take _
def rSlcV (K : PySem.W.Frag) : V → Option Int → Option Int → Hp → VK → Prop := fun x lo hi H Q => ∃ G f d d', Sub G H ∧ Rp K G H x d f ∧ slcD d lo hi = some d' ∧
  (∀ xs vs p, d' = .lst true xs → H p = none → FzL K G H vs xs → Q (.ref p) (upd H p (.lst vs))) ∧
  (∀ xs vs p, d' = .tup xs → H p = none → FzL K G H vs xs → Q (.ref p) (upd H p (.tup vs)))
theorem sl_V : SlR X (rSlcV X.K) := by
  intro pins s σ H x v vl vu lo hi sl Q I rx hs pl pu h
  obtain ⟨G, f, d, d', su, r, e, q1, q2⟩ := h
  unfold slcD at e
  split at e
  · obtain ⟨a, vs, rfl, h1, h2⟩ := r.lst_inv su
    exact sl_list pins s σ H _ v vl vu lo hi sl Q I rx hs pl pu ⟨a, vs, rfl, h1, fun p np => q1 _ _ p (Option.some.inj e).symm np (h2.cut lo hi)⟩
  · split at e
    · cases e
    · rename_i hc
      obtain ⟨a, vs, rfl, h1, h2⟩ := r.tup_inv
      exact sl_tup pins s σ H _ v vl vu lo hi sl Q I rx hs pl pu ⟨a, vs, rfl, su.sqT h1, by rw [h2.length]; exact hc, fun p np => q2 _ _ p (Option.some.inj e).symm np (h2.cut lo hi)⟩
  · cases e

/-! ### built-in calls -/
inductive SeeL (K : PySem.W.Frag) (H : Hp) : List V → List D → Prop
  | nil : SeeL K H [] []
  | cons {v : V} {vs : List V} {d : D} {ds : List D} : See K H v d → SeeL K H vs ds → SeeL K H (v :: vs) (d :: ds)
def rPbf (K : PySem.W.Frag) (b : Bf) : List V → Hp → VK → Prop := fun xs H Q => ∃ ds d v, SeeL K H xs ds ∧ pbf b ds = some d ∧ d.sv = some v ∧ Q v H
def Bf.val : Bf → Value
  | .len => .builtin "len" | .abs => .builtin "abs" | .max => .builtin "max" | .min => .builtin "min" | .sum => .builtin "sum" | .all => .builtin "all" | .any => .builtin "any" | .repr => .builtin "repr"
  | .int => .type "int" | .str => .type "str" | .list => .type "list" | .tuple => .type "tuple" | .bool => .type "bool" | .sorted => .builtin "sorted"
theorem Bf.boot (b : Bf) : bootBuiltins (Str.ofString b.name) = some b.val := by cases b <;> decide +kernel
theorem SeeL.one {K : PySem.W.Frag} {H : Hp} {vs : List V} {d : D} (h : SeeL K H vs [d]) : ∃ v, vs = [v] ∧ See K H v d := by
  cases h with | cons h t => cases t; exact ⟨_, rfl, h⟩
theorem SeeL.two {K : PySem.W.Frag} {H : Hp} {vs : List V} {d e : D} (h : SeeL K H vs [d, e]) : ∃ v w, vs = [v, w] ∧ See K H v d ∧ See K H w e := by
  cases h with | cons h t => obtain ⟨w, rfl, t'⟩ := t.one; exact ⟨_, _, rfl, h, t'⟩
mutual
theorem D.noDict : ∀ d : D, d.py.hasDict = false
  | .gone => by simp [D.py, PyData.hasDict]
  | .non => by simp [D.py, PyData.hasDict]
  | .bl _ => by simp [D.py, PyData.hasDict]
  | .int _ => by simp [D.py, PyData.hasDict]
  | .str _ => by simp [D.py, PyData.hasDict]
  | .tup xs => by simp [D.py, PyData.hasDict, D.noDicts xs]
  | .lst _ xs => by simp [D.py, PyData.hasDict, D.noDicts xs]
theorem D.noDicts : ∀ ds : List D, PyData.hasDictAll (D.pys ds) = false
  | [] => by simp [D.pys, PyData.hasDictAll]
  | d :: ds => by simp [D.pys, PyData.hasDictAll, D.noDict d, D.noDicts ds]
end
theorem call_reprV (hg : X.A.guards = some []) (hu : X.A.units + 65 < cLine) : CallR X (.builtin "repr") (rPbf X.K .repr) := by
  intro pins s σ H xs us Q I r h
  obtain ⟨ds, d, v, sl, e, es, q⟩ := h
  unfold pbf at e
  split at e <;> try (cases e; done)
  all_goals (rename_i hb; try cases hb)
  rename_i d0
  split at e
  · rename_i hc
    cases e; cases es
    simp only [showOk, Bool.and_eq_true, decide_eq_true_eq] at hc
    obtain ⟨⟨⟨h1, h2⟩, h3⟩, h4⟩ := hc
    obtain ⟨x, rfl, G, f, su, rp⟩ := sl.one
    cases r with
    | cons rx rr =>
      cases rr
      rename_i u
      have dp := rp.dp su h1
      obtain ⟨as, rd⟩ := Dp.reads I _ _ _ dp rx
      cases rp with
      | gone => simp [D.here] at h1
      | non =>
        cases rx
        exact P.repr_of_none ⟨.str _, H, I.tok _, ⟨_, rfl⟩, by simpa [D.py, PyData.shown] using q⟩
      | bl b =>
        cases rx
        exact P.repr_of_bool ⟨.str _, H, I.tok _, ⟨_, rfl⟩, by simpa [D.py, PyData.shown] using q⟩
      | int i =>
        obtain ⟨t, rfl⟩ := rx
        exact P.repr_of_int (by simpa [D.py, PyData.showable] using h2) ⟨.str _, H, I.tok _, ⟨_, rfl⟩, by simpa [D.py, PyData.shown] using q⟩
      | str i =>
        obtain ⟨t, rfl⟩ := rx
        exact P.repr_of_str ⟨.str _, H, I.tok _, ⟨_, rfl⟩, by simpa [D.py, PyData.shown] using q⟩ (by simpa [D.py, PyData.shown] using h3)
      | tup _ _ =>
        cases rx
        exact repr_of_reads' rd h2 (PyData.noDict_hsm (D.noDict _)) hg (by omega) (fun _ _ e => e) (fun h' u tk hk => ⟨.str _, H, I.kept hk, ⟨_, rfl⟩, q⟩) h3
      | lst _ _ =>
        cases rx
        exact repr_of_reads' rd h2 (PyData.noDict_hsm (D.noDict _)) hg (by omega) (fun _ _ e => e) (fun h' u tk hk => ⟨.str _, H, I.kept hk, ⟨_, rfl⟩, q⟩) h3
      | own _ _ _ =>
        cases rx
        exact repr_of_reads' rd h2 (PyData.noDict_hsm (D.noDict _)) hg (by omega) (fun _ _ e => e) (fun h' u tk hk => ⟨.str _, H, I.kept hk, ⟨_, rfl⟩, q⟩) h3
  · cases e
theorem call_pbf (b : Bf) (hc : X.calm = true) (hg : X.A.guards = some []) (hu : X.A.units + 65 < cLine) : CallR X b.val (rPbf X.K b) := by
  cases b with
  | repr => exact call_reprV hg hu
  | len =>
    intro pins s σ H xs us Q I r h
    obtain ⟨ds, d, v, sl, e, es, q⟩ := h
    unfold pbf at e
    split at e <;> rename_i hb <;> try (cases hb; done)
    · cases e; cases es
      obtain ⟨x, rfl, G, f, su, rp⟩ := sl.one
      obtain ⟨a, vs, rfl, h1, h2⟩ := rp.tup_inv
      exact call_len_seq pins s σ H _ us Q I r ⟨a, vs, rfl, .inr (su.sqT h1), by rw [h2.length]; exact q⟩
    · cases e; cases es
      obtain ⟨x, rfl, G, f, su, rp⟩ := sl.one
      obtain ⟨a, vs, rfl, h1, h2⟩ := rp.lst_inv su
      exact call_len_seq pins s σ H _ us Q I r ⟨a, vs, rfl, .inl h1, by rw [h2.length]; exact q⟩
    · cases e
  | abs =>
    intro pins s σ H xs us Q I r h
    obtain ⟨ds, d, v, sl, e, es, q⟩ := h
    unfold pbf at e
    split at e <;> rename_i hb <;> try (cases hb; done)
    · cases e; cases es
      obtain ⟨x, rfl, G, f, su, rp⟩ := sl.one
      exact call_abs pins s σ H _ us Q I r ⟨_, by rw [rp.int_inv], q⟩
    · cases e
  | max =>
    intro pins s σ H xs us Q I r h
    obtain ⟨ds, d, v, sl, e, es, q⟩ := h
    unfold pbf at e
    split at e <;> rename_i hb <;> try (cases hb; done)
    · cases e; cases es
      obtain ⟨x, y, rfl, ⟨G, f, su, rp⟩, ⟨G2, f2, su2, rp2⟩⟩ := sl.two
      exact call_max2 hc pins s σ H _ us Q I r ⟨_, _, by rw [rp.int_inv, rp2.int_inv], q⟩
    · cases e
  | min =>
    intro pins s σ H xs us Q I r h
    obtain ⟨ds, d, v, sl, e, es, q⟩ := h
    unfold pbf at e
    split at e <;> rename_i hb <;> try (cases hb; done)
    · cases e; cases es
      obtain ⟨x, y, rfl, ⟨G, f, su, rp⟩, ⟨G2, f2, su2, rp2⟩⟩ := sl.two
      exact call_min2 hc pins s σ H _ us Q I r ⟨_, _, by rw [rp.int_inv, rp2.int_inv], q⟩
    · cases e
  | int =>
    intro pins s σ H xs us Q I r h
    obtain ⟨ds, d, v, sl, e, es, q⟩ := h
    unfold pbf at e
    split at e <;> rename_i hb <;> try (cases hb; done)
    · cases e; cases es
      obtain ⟨x, rfl, G, f, su, rp⟩ := sl.one
      exact call_int1 pins s σ H _ us Q I r (.inl ⟨_, by rw [rp.int_inv], q⟩)
    · cases e; cases es
      obtain ⟨x, rfl, G, f, su, rp⟩ := sl.one
      exact call_int1 pins s σ H _ us Q I r (.inr ⟨_, by rw [rp.bl_inv], q⟩)
    · cases e
  | _ =>
    intro pins s σ H xs us Q I r h
    obtain ⟨ds, d, v, sl, e, es, q⟩ := h
    unfold pbf at e
    split at e <;> rename_i hb <;> first | (cases hb; done) | cases e
end
end DPy
/-! the small terms tell the truth: one construct after another -/
namespace DPy
open PySem PySem.Spec L2
open PyProof.Rows hiding St

section
variable {cl : String → Option Addr} {c : Cfg} {W : WX} {X : Cx} {k : Nat} {e e1 e2 e3 : Expr} {pos : Pos} {m m1 m2 m3 : M R}
theorem RR.see' {K : PySem.W.Frag} {G H : Hp} {σ : St} {Γ : List D} {f : Fps} {v : V} {r : R} {fp : List Addr} (s : Sta K G H Γ σ f) (x : RR K G H σ v r fp) (h : (r.see Γ).here = true) : See K H v (r.see Γ) := by
  obtain ⟨f', r', _⟩ := x.sees s h
  exact ⟨G, f', s.sub, r'⟩
theorem snd_nm {i : Nat} {y : Str} (h : X.N[i]? = some y) (hv : Vis X.env.scope y) (ok : okName y = true) : PE X (.Name y pos) (tR X.K cl W (evR c (.nm i))) := by
  obtain ⟨o1, o2, _⟩ := okName_of ok
  refine (pe_var h hv o1 o2).imp fun σ H Q ⟨Γ, G, f, s, fin⟩ => ?_
  simp only [evR] at fin
  split at fin
  · rename_i d e1
    split at fin
    · rename_i hd
      obtain ⟨v, e2, r⟩ := s.there i d e1 hd
      refine ⟨v, e2, ?_⟩
      split at fin
      · rename_i hz
        exact fin.fz s (r.fzk hz (.refl G)) (Stp.refl _ _ _) fun a h => h
      · exact fin v G H f [] s ⟨e2, rfl⟩ (fun _ z => by cases z) ((Stp.refl _ _ _).B fun a h => h.elim (fun z => by cases z) id)
    · exact fin.elim
  · exact fin.elim
theorem noH_sub (G : Hp) : Sub noH G := fun _ _ h => by cases h
theorem snd_gl {x : String} (C : Ctx cl c W X k) (hg : Gl X (Str.ofString x)) (ok : okName (Str.ofString x) = true) : PE X (.Name (Str.ofString x) pos) (tR X.K cl W (evR c (.gl x))) := by
  cases e : c.gl x with
  | none =>
    refine PE.imp (t := fun _ _ _ => False) ⟨fun _ _ _ _ _ _ h => h.elim⟩ fun σ H Q ⟨Γ, G, f, s, fin⟩ => ?_
    simp only [evR, e, Option.map_none, ofO] at fin
    exact fin
  | some d =>
    obtain ⟨v, u, hm, r, rp, fz⟩ := C.gl.gls x d e
    refine (pe_glob hg hm r (okName_of ok).1).imp fun σ H Q ⟨Γ, G, f, s, fin⟩ => ?_
    simp only [evR, e, Option.map_some, ofO] at fin
    exact fin.fz s (rp.keep (noH_sub G) fun _ z => by cases z) (Stp.refl _ _ _) fun a h => h
theorem snd_con {v : V} {d : D} (hs : d.sv = some v) (ev : evR c = evR c) {a : Ex} (ea : evR c a = fun g => .ok (.val d) g) (h : PE X e (tC v)) : PE X e (tR X.K cl W (evR c a)) := by
  refine h.imp fun σ H Q ⟨Γ, G, f, s, fin⟩ => ?_
  rw [ea] at fin
  exact fin.fz s (Rp.sv hs) (Stp.refl _ _ _) fun a h => h
theorem sv_fin {K : PySem.W.Frag} {σ : St} {o : Option D} {Γ : List D} {G0 H0 : Hp} {A0 : Addr → Prop} {Q : VK} (fin : Fin K cl W (relR K σ) σ G0 H0 A0 (ofO (o.map R.val) Γ) Q) : ∃ d, o = some d ∧ Fin K cl W (relR K σ) σ G0 H0 A0 (.ok (.val d) Γ) Q := by
  cases o with
  | none => exact fin.elim
  | some d => exact ⟨d, rfl, fin⟩
theorem binop_here {op : Operator} {a b d : D} (h : binop op a b = some d) : a.here = true ∧ b.here = true ∧ ∃ v, d.sv = some v := by
  unfold binop at h
  split at h <;> first | (cases h; exact ⟨rfl, rfl, _, rfl⟩) | (split at h <;> cases h; exact ⟨rfl, rfl, _, rfl⟩) | cases h
theorem cmpop_here {op : CmpOp} {a b : D} {d : Bool} (h : cmpop op a b = some d) : a.here = true ∧ b.here = true := by
  unfold cmpop at h
  split at h <;> first | (cases h; exact ⟨rfl, rfl⟩) | (split at h <;> first | (rename_i hc; simp only [Bool.and_eq_true] at hc; exact ⟨hc.1.1.1, hc.1.1.2⟩) | cases h) | cases h
theorem snd_bin {op : Operator} (h1 : PE X e1 (tR X.K cl W m1)) (h2 : PE X e2 (tR X.K cl W m2)) :
    PE X (.BinOp e1 op e2 pos) (tR X.K cl W (fun g => (m1 g).bind fun r g => (m2 g).bind fun s g => ofO ((binop op (r.see g) (s.see g)).map R.val) g)) := by
  refine (pe_op op_binV h1 h2).imp fun σ H Q h => at1 h fun x H1 a1 => a1.snd fun y H2 a2 => ?_
  obtain ⟨G0, H0, A0, Γ, G, f, r, q, fx, fy, s, rx, ry, dx, dy, dxy, st, fin⟩ := a2.ex
  obtain ⟨d, e, fin⟩ := sv_fin fin
  obtain ⟨i1, i2, v, ev⟩ := binop_here e
  exact ⟨_, _, d, v, rx.see' s i1, ry.see' s i2, e, ev, fin.fz s (Rp.sv ev) st fun a h => .inr (.inr h)⟩
theorem snd_neg (h1 : PE X e1 (tR X.K cl W m1)) :
    PE X (.UnaryOp .USub e1 pos) (tR X.K cl W (fun g => (m1 g).bind fun r g => match r.see g with | .int i => .ok (.val (.int (-i))) g | _ => .stuck)) := by
  refine (pe_un un_neg h1).imp fun σ H Q h => at1 h fun x H1 a1 => ?_
  obtain ⟨G0, H0, A0, Γ, G, f, r, fx, s, rx, dx, st, fin⟩ := a1.ex
  split at fin
  · rename_i i e
    obtain ⟨G', f', su, rp⟩ := rx.see' s (by rw [e]; rfl)
    rw [e] at rp
    exact ⟨i, rp.int_inv, Fin.fz fin s (.int _) st fun a h => .inr h⟩
  · exact fin.elim
theorem snd_not (h1 : PE X e1 (tR X.K cl W m1)) :
    PE X (.UnaryOp .Not e1 pos) (tR X.K cl W (fun g => (m1 g).bind fun r g => match r.see g with | .bl i => .ok (.val (.bl (!i))) g | _ => .stuck)) := by
  refine (pe_not h1).imp fun σ H Q h => at1 h fun x H1 a1 => ?_
  obtain ⟨G0, H0, A0, Γ, G, f, r, fx, s, rx, dx, st, fin⟩ := a1.ex
  split at fin
  · rename_i i e
    obtain ⟨G', f', su, rp⟩ := rx.see' s (by rw [e]; rfl)
    rw [e] at rp
    exact ⟨i, rp.bl_inv, Fin.fz fin s (.bl _) st fun a h => .inr h⟩
  · exact fin.elim
theorem bl_fin {K : PySem.W.Frag} {σ : St} {o : Option Bool} {Γ : List D} {G0 H0 : Hp} {A0 : Addr → Prop} {Q : VK} (fin : Fin K cl W (relR K σ) σ G0 H0 A0 (ofO (o.map fun k => R.val (.bl k)) Γ) Q) : ∃ d, o = some d ∧ Fin K cl W (relR K σ) σ G0 H0 A0 (.ok (.val (.bl d)) Γ) Q := by
  cases o with
  | none => exact fin.elim
  | some d => exact ⟨d, rfl, fin⟩
theorem snd_cmp {op : CmpOp} (hu : X.A.units + 64 < cLine) (hm : behindInMarks op e2 = false) (h1 : PE X e1 (tR X.K cl W m1)) (h2 : PE X e2 (tR X.K cl W m2)) :
    PE X (.Compare e1 [op] [e2] pos) (tR X.K cl W (fun g => (m1 g).bind fun r g => (m2 g).bind fun s g => ofO ((cmpop op (r.see g) (s.see g)).map fun k => R.val (.bl k)) g)) := by
  refine (pe_cmpR (op_cmpV hu) h1 h2 hm).imp fun σ H Q h => at1 h fun x H1 a1 => a1.snd fun y H2 a2 => ?_
  obtain ⟨G0, H0, A0, Γ, G, f, r, q, fx, fy, s, rx, ry, dx, dy, dxy, st, fin⟩ := a2.ex
  obtain ⟨d, e, fin⟩ := bl_fin fin
  obtain ⟨i1, i2⟩ := cmpop_here e
  exact ⟨_, _, d, rx.see' s i1, ry.see' s i2, e, fin.fz s (.bl d) st fun a h => .inr (.inr h)⟩
theorem snd_chn {o p : CmpOp} (hu : X.A.units + 64 < cLine) (hm : lastMarks [o, p] [e2, e3] = false) (h1 : PE X e1 (tR X.K cl W m1)) (h2 : PE X e2 (tR X.K cl W m2)) (h3 : PE X e3 (tR X.K cl W m3)) :
    PE X (.Compare e1 [o, p] [e2, e3] pos) (tR X.K cl W (fun g => (m1 g).bind fun r g => (m2 g).bind fun s g => match cmpop o (r.see g) (s.see g) with
    | some true => (m3 g).bind fun t g => ofO ((cmpop p (s.see g) (t.see g)).map fun k => R.val (.bl k)) g
    | some false => .ok (.val (.bl false)) g
    | none => .stuck)) := by
  refine (pe_chain (op_cmpV hu) (op_cmpV hu) h1 h2 h3 hm).imp fun σ H Q h => at1 h fun x H1 a1 => a1.snd fun y H2 a2 => ?_
  obtain ⟨G0, H0, A0, Γ, G, f, r, q, fx, fy, s, rx, ry, dx, dy, dxy, st, fin⟩ := a2.ex
  split at fin
  · rename_i e
    obtain ⟨i1, i2⟩ := cmpop_here e
    refine ⟨_, _, true, rx.see' s i1, ry.see' s i2, e, true, rfl, ?_⟩
    rw [if_pos rfl]
    have a3 : At1 X.K cl W σ (relR X.K σ) (fun s g => (m3 g).bind fun t g => ofO ((cmpop p (s.see g) (t.see g)).map fun k => R.val (.bl k)) g) y H2 Q :=
      ⟨_, _, _, Γ, G, f, q, fy, s, ry, dy, st.B fun a h => .inr h, fin⟩
    refine a3.snd fun z H3 a4 => ?_
    obtain ⟨G0, H0, A0, Γ, G, f, r, q, fx, fy, s, rx, ry, dx, dy, dxy, st, fin⟩ := a4.ex
    obtain ⟨d, e, fin⟩ := bl_fin fin
    obtain ⟨i1, i2⟩ := cmpop_here e
    exact ⟨_, _, d, rx.see' s i1, ry.see' s i2, e, fin.fz s (.bl d) st fun a h => .inr (.inr h)⟩
  · rename_i e
    obtain ⟨i1, i2⟩ := cmpop_here e
    refine ⟨_, _, false, rx.see' s i1, ry.see' s i2, e, false, rfl, ?_⟩
    rw [if_neg (by decide)]
    exact Fin.fz fin s (.bl false) st fun a h => .inr (.inr h)
  · exact fin.elim
theorem snd_ite {c1 : Expr} {mt : M Bool} (h0 : PT X c1 (tT X.K cl W mt)) (h1 : PE X e1 (tR X.K cl W m1)) (h2 : PE X e2 (tR X.K cl W m2)) :
    PE X (.IfExp c1 e1 e2 pos) (tR X.K cl W (fun g => (mt g).bind fun k g => if k then m1 g else m2 g)) := by
  refine (pe_ifExp h0 h1 h2).imp fun σ H Q ⟨Γ, G, f, s, fin⟩ => ?_
  refine tM_stage (P := fun _ => False) s ((Stp.refl G H _).B fun a h => h.elim False.elim id) fin fun b Γ2 v G2 H2 f2 fp s2 r2 d st2 st3 fin2 => ?_
  obtain ⟨rfl, rfl⟩ := r2
  have st4 : Stp G H (Ow f) G2 H2 (Ow f2) := st3.B fun a h => .inr (.inr h)
  have go : ∀ {m : M R}, Fin X.K cl W (relR X.K σ) σ G H (Ow f) (m Γ2) Q → tR X.K cl W m σ H2 Q := fun {m} fin => by
    refine ⟨Γ2, G2, f2, s2, ?_⟩
    revert fin
    cases m Γ2 with
    | stuck => exact id
    | ok a g => exact fun fin v G' H' f' fp s' r' d' st' => fin v G' H' f' fp s' r' d' (st4.trans st')
    | exc x g => exact fun fin cv d G' H' f' s' x' st' => fin cv d G' H' f' s' x' (st4.trans st')
  cases v with
  | true => simp only [if_true] at fin2 ⊢; exact go fin2
  | false => simp only [Bool.false_eq_true, if_false] at fin2 ⊢; exact go fin2
theorem subD_here {a b d : D} (h : subD a b = some d) : a.here = true ∧ b.here = true := by
  unfold subD at h
  split at h <;> first | exact ⟨rfl, rfl⟩ | cases h
theorem snd_sub (hp : PlainIx e2) (h1 : PE X e1 (tR X.K cl W m1)) (h2 : PE X e2 (tR X.K cl W m2)) :
    PE X (.Subscript e1 e2 pos) (tR X.K cl W (fun g => (m1 g).bind fun r g => (m2 g).bind fun s g => ofO ((subD (r.see g) (s.see g)).map R.val) g)) := by
  refine (pe_ix ix_subV h1 h2 hp).imp fun σ H Q h => at1 h fun x H1 a1 => a1.snd fun y H2 a2 => ?_
  obtain ⟨G0, H0, A0, Γ, G, f, r, q, fx, fy, s, rx, ry, dx, dy, dxy, st, fin⟩ := a2.ex
  obtain ⟨d, e, fin⟩ := sv_fin fin
  obtain ⟨i1, i2⟩ := subD_here e
  obtain ⟨f', rp, _⟩ := rx.sees s i1
  exact ⟨G, f', _, _, d, s.sub, rp, ry.see' s i2, e, fun v rv fz => fin.fz s rv st fun a h => .inr (.inr h)⟩

/-! ### rows of things -/
theorem snd_nil : PA X [] (tRs X.K cl W (evRs c [])) := by
  refine pa_nil.imp fun σ H Q ⟨Γ, G, f, s, fin⟩ => ?_
  simp only [evRs] at fin
  exact fin [] G H f [] s .nil (fun _ z => by cases z) ((Stp.refl _ _ _).B fun a h => h.elim (fun z => by cases z) id)
theorem snd_cons {es : List Expr} {ms : M (List R)} (hs : noStarB [e] = true) (h1 : PE X e (tR X.K cl W m)) (h2 : PA X es (tRs X.K cl W ms)) :
    PA X (e :: es) (tRs X.K cl W (fun g => (m g).bind fun r g => (ms g).bind fun rs g => .ok (r :: rs) g)) := by
  refine (pa_cons h1 h2 (starEach_of hs)).imp fun σ H Q h => at1 h fun x H1 a1 => ?_
  obtain ⟨G0, H0, A0, Γ, G, f, r, fx, s, rx, dx, st, fin⟩ := a1.ex
  exact tM_stage (P := fun a => a ∈ fx) s st fin fun rs Γ2 vs G2 H2 f2 fp s2 r2 d st2 st3 fin2 => by
    obtain ⟨rx2, nx⟩ := rx.stay dx st2
    refine fin2 (x :: vs) G2 H2 f2 (fx ++ fp) s2 (.cons rx2 r2 fun a h z => nx a h (.inl z)) (fun a h z => ?_) (st3.B fun a h => ?_)
    · rcases List.mem_append.mp h with h | h
      · exact nx a h (.inr z)
      · exact d a h z
    · rcases h with h | h
      · rcases List.mem_append.mp h with h | h
        · exact .inl h
        · exact .inr (.inl h)
      · exact .inr (.inr h)
theorem items_inv {K : PySem.W.Frag} {G H : Hp} {v : V} {d : D} {xs : List D} {fp : List Addr} (su : Sub G H) (r : Rp K G H v d fp) (h : items d = some xs) : ∃ a vs, v = .ref a ∧ (SqT K H a vs ∨ SqL K H a vs) ∧ FzL K G H vs xs := by
  unfold items at h
  split at h
  · cases h; obtain ⟨a, vs, rfl, h1, h2⟩ := r.tup_inv; exact ⟨a, vs, rfl, .inl (su.sqT h1), h2⟩
  · cases h; obtain ⟨a, vs, rfl, h1, h2⟩ := r.lst_inv su; exact ⟨a, vs, rfl, .inr h1, h2⟩
  · cases h
theorem items_here {d : D} {xs : List D} (h : items d = some xs) : d.here = true := by
  unfold items at h; split at h <;> first | rfl | cases h
theorem snd_star {es : List Expr} {ms : M (List R)} {p : Pos} (h1 : PE X e (tR X.K cl W m)) (h2 : PA X es (tRs X.K cl W ms)) :
    PA X (.Starred e p :: es) (tRs X.K cl W (fun g => (m g).bind fun r g => match items (r.see g) with
    | some xs => (ms g).bind fun rs g => .ok (xs.map R.val ++ rs) g
    | none => .stuck)) := by
  refine (StX.pa_star h1 h2).imp fun σ H Q h => at1 h fun x H1 a1 => ?_
  obtain ⟨G0, H0, A0, Γ, G, f, r, fx, s, rx, dx, st, fin⟩ := a1.ex
  split at fin
  · rename_i xs e
    obtain ⟨f', rp, _⟩ := rx.sees s (items_here e)
    obtain ⟨a, vs, rfl, h1, h2⟩ := items_inv s.sub rp e
    refine ⟨a, vs, rfl, h1, ?_⟩
    exact tM_stage (P := fun a => False) s (st.B fun a h => .inr (h.elim False.elim id)) fin fun rs Γ2 us G2 H2 f2 fp s2 r2 d st2 st3 fin2 =>
      fin2 (vs ++ us) G2 H2 f2 ([] ++ fp) s2 (.app (.ofFz (h2.keep st2.g)) r2 fun a h => by cases h) d (st3.B fun a h => .inr h)
  · exact fin.elim
end
end DPy
/-! calls of defs -/
namespace DPy
open PySem PySem.Spec L2
open PyProof.Rows hiding St

section
variable {K : PySem.W.Frag} {cl : String → Option Addr} {σ : St} {G H G' H' : Hp} {Γ Γ' : List D} {f g : Fps}
/-- a state that others leave alone -/
theorem Sta.stay {A B : Addr → Prop} (s : Sta K G H Γ σ f) (n : ∀ a, Ow f a → ¬ A a) (st : Stp G H A G' H' B) (su : Sub G' H') : Sta K G' H' Γ σ f ∧ ∀ a, Ow f a → ¬ B a := by
  have k : ∀ a, Ow f a → H' a = H a ∧ G' a = none ∧ ¬ B a := fun a h => by
    obtain ⟨g, ob, e⟩ := s.ow h
    obtain ⟨e1, e2, e3⟩ := st.fr a ob e (n a h) g
    exact ⟨by rw [e1, e], e2, e3⟩
  exact ⟨⟨su, s.len, fun i d e h => by
    obtain ⟨v, e1, r⟩ := s.there i d e h
    exact ⟨v, e1, r.keep st.g fun a ha => ⟨(k a ⟨i, ha⟩).1, (k a ⟨i, ha⟩).2.1⟩⟩, s.noth, s.dis⟩, fun a h => (k a h).2.2⟩
def Fps.cons (l : List Addr) (g : Fps) : Fps
  | 0 => l
  | n + 1 => g n
theorem Ow.cons {l : List Addr} {a : Addr} : Ow (Fps.cons l g) a ↔ a ∈ l ∨ Ow g a := by
  constructor
  · rintro ⟨i, h⟩
    cases i with
    | zero => exact .inl h
    | succ n => exact .inr ⟨n, h⟩
  · rintro (h | ⟨i, h⟩)
    · exact ⟨0, h⟩
    · exact ⟨i + 1, h⟩
theorem Sta.nil (su : Sub G H) : Sta K G H [] [] (fun _ => []) := ⟨su, rfl, fun i d e => by simp at e, fun _ _ => rfl, fun _ _ _ h => by cases h⟩
theorem Sta.cons {v : V} {d : D} {l : List Addr} (r : Rp K G H v d l) (hd : d.here = true ∨ l = []) (s : Sta K G H Γ σ g) (n : ∀ a ∈ l, ¬ Ow g a) : Sta K G H (d :: Γ) (some v :: σ) (Fps.cons l g) := by
  refine ⟨s.sub, by simp [s.len], fun i d' e h => ?_, fun i h => ?_, fun i j a h1 h2 => ?_⟩
  · cases i with
    | zero => simp at e; subst e; exact ⟨v, rfl, r⟩
    | succ i =>
      obtain ⟨v', e1, r'⟩ := s.there i d' (by simpa using e) h
      exact ⟨v', by simpa using e1, r'⟩
  · cases i with
    | zero =>
      rcases hd with hd | hd
      · have := h d (by simp); rw [hd] at this; cases this
      · exact hd
    | succ i => exact s.noth i fun d' e => h d' (by simpa using e)
  · cases i with
    | zero =>
      cases j with
      | zero => rfl
      | succ j => exact absurd ⟨j, h2⟩ (n a h1)
    | succ i =>
      cases j with
      | zero => exact absurd ⟨i, h1⟩ (n a h2)
      | succ j => rw [s.dis i j a h1 h2]
/-- the head and the rest of a row of things -/
theorem Sta.uncons {v : V} {d : D} (s : Sta K G H (d :: Γ) (some v :: σ) f) : Rp K G H v d (f 0) ∧ Sta K G H Γ σ (fun n => f (n + 1)) ∧ (∀ n a, a ∈ f 0 → a ∉ f (n + 1)) := by
  refine ⟨?_, ⟨s.sub, by have := s.len; simpa using this, fun i d' e h => ?_, fun i h => ?_, fun i j a h1 h2 => ?_⟩, fun n a h1 h2 => ?_⟩
  · cases hd : d.here with
    | true =>
      obtain ⟨v', e, r⟩ := s.there 0 d rfl hd
      simp at e; subst e; exact r
    | false =>
      have e0 := s.noth 0 fun d' e => by simp at e; subst e; exact hd
      rw [e0]
      cases d <;> first | exact .gone v | (simp [D.here] at hd)
  · obtain ⟨v', e1, r⟩ := s.there (i + 1) d' (by simpa using e) h
    exact ⟨v', by simpa using e1, r⟩
  · exact s.noth (i + 1) fun d' e => h d' (by simpa using e)
  · exact Nat.succ.inj (s.dis _ _ a h1 h2)
  · exact absurd (s.dis _ _ a h1 h2) (by omega)
/-- slot i takes a thing back -/
theorem Sta.back1 (s : Sta K G H Γ σ f) {i : Nat} {d : D} {v : V} {l : List Addr} (e : σ[i]? = some (some v)) (r : Rp K G H v d l) (n : ∀ a ∈ l, ¬ Ow f a) : ∃ f', Sta K G H (Γ.set i d) σ f' ∧ ∀ a, Ow f' a → a ∈ l ∨ Ow f a := by
  cases hd : d.here with
  | true =>
    have hi : i < Γ.length := by rw [s.len]; exact (List.getElem?_eq_some_iff.mp e).1
    exact ⟨_, s.change (.refl G) s.sub (fun j a _ ha => ⟨rfl, (s.ow ⟨j, ha⟩).1⟩) hi e r hd fun j a hj ha z => n a z ⟨j, ha⟩, fun a h => h.put_sub⟩
  | false =>
    have : d = .gone := by cases d <;> first | rfl | (simp [D.here] at hd)
    subst this
    exact ⟨_, s.drop i, fun a h => .inr (h.put_sub.elim (fun z => by cases z) id)⟩
def Js (σ : St) : List (Option Nat) → List V → Prop
  | [], _ => True
  | some i :: js, v :: vs => σ[i]? = some (some v) ∧ Js σ js vs
  | none :: js, _ :: vs => Js σ js vs
  | _, [] => True
theorem back_ok : ∀ {js : List (Option Nat)} {vs : List V} {ios : List D} {Γ : List D} {f g : Fps}, Js σ js vs → Sta K G H ios (vs.map some) g → Sta K G H Γ σ f → (∀ a, Ow g a → ¬ Ow f a) →
    ∃ f', Sta K G H (back js ios Γ) σ f' ∧ ∀ a, Ow f' a → Ow g a ∨ Ow f a
  | [], _, ios, Γ, f, g, _, _, s, _ => ⟨f, by unfold back; exact s, fun a h => .inr h⟩
  | some i :: js, [], [], Γ, f, g, _, _, s, _ => ⟨f, by unfold back; exact s, fun a h => .inr h⟩
  | none :: js, [], [], Γ, f, g, _, _, s, _ => ⟨f, by unfold back; exact s, fun a h => .inr h⟩
  | _ :: _, [], _ :: _, _, _, _, _, t, _, _ => by have := t.len; simp at this
  | _ :: _, _ :: _, [], _, _, _, _, t, _, _ => by have := t.len; simp at this
  | some i :: js, v :: vs, d :: ds, Γ, f, g, ⟨e, hj⟩, t, s, n => by
    obtain ⟨r, t', dd⟩ := Sta.uncons (σ := vs.map some) t
    obtain ⟨f1, s1, h1⟩ := s.back1 e r fun a h => n a ⟨0, h⟩
    obtain ⟨f2, s2, h2⟩ := back_ok (js := js) hj t' s1 (fun a ⟨i, h⟩ z => by
      rcases h1 a z with z | z
      · exact dd i a z h
      · exact n a ⟨i + 1, h⟩ z)
    refine ⟨f2, by unfold back; exact s2, fun a h => ?_⟩
    rcases h2 a h with ⟨i, z⟩ | z
    · exact .inl ⟨i + 1, z⟩
    · rcases h1 a z with z | z
      · exact .inl ⟨0, z⟩
      · exact .inr z
  | none :: js, v :: vs, d :: ds, Γ, f, g, hj, t, s, n => by
    obtain ⟨r, t', dd⟩ := Sta.uncons (σ := vs.map some) t
    obtain ⟨f2, s2, h2⟩ := back_ok (js := js) hj t' s (fun a ⟨i, h⟩ => n a ⟨i + 1, h⟩)
    exact ⟨f2, by unfold back; exact s2, fun a h => (h2 a h).imp (fun ⟨i, z⟩ => ⟨i + 1, z⟩) id⟩
theorem passes_ok {rs : List R} : ∀ {io : List Bool} {G : Hp} {Γ Γ' : List D} {f : Fps} {vs : List V} {fp : List Addr} {ds : List D} {js : List (Option Nat)}, Sta K G H Γ σ f → RRL K G H σ vs rs fp → (∀ a ∈ fp, ¬ Ow f a) → passes io rs Γ = some (ds, js, Γ') →
    ∃ G' f' g, Sta K G' H Γ' σ f' ∧ Sta K G' H ds (vs.map some) g ∧ (∀ a, Ow g a → ¬ Ow f' a) ∧ Stp G H (fun a => a ∈ fp ∨ Ow f a) G' H (fun a => Ow g a ∨ Ow f' a) ∧ Js σ js vs := by
  induction rs with
  | nil =>
    intro io G Γ Γ' f vs fp ds js s x n h
    cases x
    simp only [passes, Option.some.injEq, Prod.mk.injEq] at h
    obtain ⟨rfl, rfl, rfl⟩ := h
    exact ⟨G, f, _, s, .nil s.sub, fun a ⟨i, z⟩ => (by cases z), (Stp.refl G H _).B fun a h => .inr (h.elim (fun ⟨i, z⟩ => by cases z) id), trivial⟩
  | cons r rs ih =>
    intro io G Γ Γ' f vs fp ds js s x n h
    cases x with
    | @cons v vs' _ _ f1 fs r1 t d =>
      -- the first is shared
      have share : ∀ {d1 : D} {Γ1 : List D} {q}, r.force Γ = some (d1, Γ1) → (passes io.tail rs Γ1).map (fun (ds, js, g') => (d1 :: ds, none :: js, g')) = some q → q = (ds, js, Γ') →
          ∃ G' f' g, Sta K G' H Γ' σ f' ∧ Sta K G' H ds ((v :: vs').map some) g ∧ (∀ a, Ow g a → ¬ Ow f' a) ∧ Stp G H (fun a => a ∈ f1 ++ fs ∨ Ow f a) G' H (fun a => Ow g a ∨ Ow f' a) ∧ Js σ js (v :: vs') := by
        intro d1 Γ1 q e hq e2
        obtain ⟨⟨ds', js', Γ2⟩, hp, e3⟩ := Option.map_eq_some_iff.mp hq
        rw [e2] at e3
        simp only [Prod.mk.injEq] at e3
        obtain ⟨rfl, rfl, rfl⟩ := e3
        obtain ⟨G1, f', s1, rp1, st1⟩ := r1.force s (fun a h => n a (List.mem_append_left _ h)) e
        obtain ⟨t1, n1⟩ := t.stay st1 fun a ha z => z.elim (fun z => d a z ha) (n a (List.mem_append_right _ ha))
        obtain ⟨G2, f2, g, s2, sg, dis, st2, hj⟩ := ih s1 t1 n1 hp
        refine ⟨G2, f2, Fps.cons [] g, s2, Sta.cons (rp1.keep st2.g fun _ z => by cases z) (.inr rfl) sg (fun a z => by cases z), fun a h => ?_, ?_, hj⟩
        · rcases Ow.cons.mp h with z | z
          · cases z
          · exact dis a z
        · have a1 := (st1.aside (fun a => a ∈ fs)).sub (A' := fun a => a ∈ f1 ++ fs ∨ Ow f a) (B' := fun a => a ∈ fs ∨ Ow f' a) (fun a h => by
            rcases h with h | h | h
            · exact .inl (List.mem_append_right _ h)
            · exact .inl (List.mem_append_left _ h)
            · exact .inr h) (fun a h => h)
          refine (a1.trans st2).B fun a h => ?_
          rcases h with h | h
          · rcases Ow.cons.mp h with z | z
            · cases z
            · exact .inl z
          · exact .inr h
      -- the first is handed over
      have hand : ∀ {d1 : D} {Γ1 : List D} {f2 : Fps} {l : List Addr} {ds' : List D} {js' : List (Option Nat)}, Sta K G H Γ1 σ f2 → Rp K G H v d1 l → d1.here = true → (∀ a ∈ l, ¬ Ow f2 a) → (∀ a ∈ l, a ∈ f1 ∨ Ow f a) → (∀ a, Ow f2 a → Ow f a) → (∀ a ∈ l, a ∉ fs) → passes io.tail rs Γ1 = some (ds', js', Γ') →
          ∃ G' f' g, Sta K G' H Γ' σ f' ∧ Sta K G' H (d1 :: ds') ((v :: vs').map some) g ∧ (∀ a, Ow g a → ¬ Ow f' a) ∧ Stp G H (fun a => a ∈ f1 ++ fs ∨ Ow f a) G' H (fun a => Ow g a ∨ Ow f' a) ∧ Js σ js' vs' := by
        intro d1 Γ1 f2 l ds' js' s1 rp hh nl hl1 hf2 nls hp
        obtain ⟨G2, f3, g, s2, sg, dis, st2, hj⟩ := ih s1 t (fun a ha z => n a (List.mem_append_right _ ha) (hf2 a z)) hp
        have ol := rp.ownG
        have kl : ∀ a ∈ l, G2 a = none ∧ ¬ (Ow g a ∨ Ow f3 a) := fun a ha => by
          obtain ⟨g0, ob, e⟩ := ol a ha
          obtain ⟨_, e2, e3⟩ := st2.fr a ob e (fun z => z.elim (nls a ha) (nl a ha)) g0
          exact ⟨e2, e3⟩
        refine ⟨G2, f3, Fps.cons l g, s2, Sta.cons (rp.keep st2.g fun a ha => ⟨rfl, (kl a ha).1⟩) (.inl hh) sg (fun a ha z => (kl a ha).2 (.inl z)), fun a h => ?_, ?_, hj⟩
        · rcases Ow.cons.mp h with z | z
          · exact fun w => (kl a z).2 (.inr w)
          · exact dis a z
        · refine ((st2.aside (fun a => a ∈ l)).sub (A' := fun a => a ∈ f1 ++ fs ∨ Ow f a) (fun a h => ?_) (fun a h => ?_))
          · rcases h with h | h | h
            · rcases hl1 a h with z | z
              · exact .inl (List.mem_append_left _ z)
              · exact .inr z
            · exact .inl (List.mem_append_right _ h)
            · exact .inr (hf2 a h)
          · rcases h with h | h
            · rcases Ow.cons.mp h with z | z
              · exact .inl z
              · exact .inr (.inl z)
            · exact .inr (.inr h)
      cases r with
      | «at» i =>
        simp only [passes] at h
        split at h
        · split at h
          · rename_i d1 e1
            split at h
            · rename_i hh
              obtain ⟨⟨ds', js', Γ2⟩, hp, e3⟩ := Option.map_eq_some_iff.mp h
              simp only [Prod.mk.injEq] at e3
              obtain ⟨rfl, rfl, rfl⟩ := e3
              obtain ⟨e0, rfl⟩ := r1
              obtain ⟨v', e2, r'⟩ := s.there i d1 e1 hh
              rw [e0] at e2; cases e2
              obtain ⟨G2, f3, g, a1, a2, a3, a4, a5⟩ := hand (s.drop i) r' hh (fun a ha z => by
                rcases z.put with z | ⟨_, j, hj, z⟩
                · cases z
                · exact hj (s.dis j i a z ha)) (fun a ha => .inr ⟨i, ha⟩) (fun a z => z.put_sub.elim (fun z => by cases z) id) (fun a ha z => n a (List.mem_append_right _ z) ⟨i, ha⟩) hp
              exact ⟨G2, f3, g, a1, a2, a3, a4, e0, a5⟩
            · cases h
          · cases h
        · split at h
          · rename_i e1
            exact share e1 h rfl
          · cases h
      | val d0 =>
        simp only [passes] at h
        split at h
        · split at h
          · rename_i hh
            obtain ⟨⟨ds', js', Γ2⟩, hp, e3⟩ := Option.map_eq_some_iff.mp h
            simp only [Prod.mk.injEq] at e3
            obtain ⟨rfl, rfl, rfl⟩ := e3
            exact hand s r1 hh (fun a ha => n a (List.mem_append_left _ ha)) (fun a ha => .inl ha) (fun a z => z) d hp
          · cases h
        · split at h
          · rename_i e1
            exact share e1 h rfl
          · cases h
end

section
variable {cl : String → Option Addr} {c : Cfg} {W : WX} {X : Cx} {k : Nat} {f : Addr} {fd : FuncData} {ps : List Str} {sp : Sp} {x : Str} {p pos : Pos} {e : Expr} {es : List Expr} {t : TA}
theorem run_fnG {pins : List (Addr × Obj)} {σ : St} {H : Hp} {s : Shared} {Q : VK} {us : List Value} {vs : List V} (F : FnG X.prog X.w X.K X.mg X.base k f fd ps sp) (hr : Room k X.A) (hg : X.A.guards = some []) (hb : Binds X.K fd ps []) (tk : Takes X W)
    (I : Inv X pins σ H s) (r : Vals vs us) (h : sp vs H Q fun cv d H' => W cv d σ H') : wpAny (model X.prog X.w) X.A (call (.ref f) us) (EP X pins σ Q) X.xe s := by
  have hl : us.length = ps.length := by rw [← r.length]; exact F.len _ _ _ _ h
  have b : BindsTo s fd ⟨us, []⟩ (ps.zip us) := by
    have q := hb s us I.kIn (by simpa using hl)
    simpa using q
  have run := F.run X.A X.stack s H ⟨us, []⟩ us vs Q _ hr hg I.env0 b r h
  refine wpAny_call (codeAny_mono run fun o s' hq => ?_)
  match o, hq with
  | .error e, hq => exact passAt tk σ pins H s e s' I hq
  | .ok (.ret u), hq => exact I.after hq
theorem pe_callG (F : FnG X.prog X.w X.K X.mg X.base k f fd ps sp) (hr : Room k X.A) (hgd : X.A.guards = some []) (hg : Gl X x) (hm : X.mg x = some (.ref f)) (hk : PySem.W.keepIn X.K (.ref f) = true) (hb : Binds X.K fd ps []) (tk : Takes X W)
    (ha : PA X (e :: es) t) (hdb : (x == ("__debug__" : Str)) = false) (hs : noStarB (e :: es) = true) :
    PE X (.Call (.Name x p) (e :: es) [] pos) (fun σ H Q => t σ H fun vs H1 => sp vs H1 Q fun cv d H' => W cv d σ H') := by
  obtain ⟨h1, h2⟩ := noStar_cons hs
  constructor
  intro pins s σ H Q I h
  apply wpAny_Call_Name_kw
  apply ld_glob I hg hm _ hdb
  apply PySem.W.callWith_K (h₀ := X.base) I.ok.mod.kin hk _ (starEach_of h1) (noStar_any h2)
  exact thn (ha.run pos pins s σ H _ I h) fun us s1 ⟨vs, H1, I1, r, q⟩ => ⟨I1.kIn, run_fnG F hr hgd hb tk I1 r q⟩
theorem pe_callG0 (F : FnG X.prog X.w X.K X.mg X.base k f fd ps sp) (hr : Room k X.A) (hgd : X.A.guards = some []) (hg : Gl X x) (hm : X.mg x = some (.ref f)) (hk : PySem.W.keepIn X.K (.ref f) = true) (hb : Binds X.K fd ps []) (tk : Takes X W)
    (hdb : (x == ("__debug__" : Str)) = false) : PE X (.Call (.Name x p) [] [] pos) (fun σ H Q => sp [] H Q fun cv d H' => W cv d σ H') := by
  constructor
  intro pins s σ H Q I h
  apply wpAny_Call_Name_kw
  apply ld_glob I hg hm _ hdb
  exact PySem.W.callWith_K0 I.kIn hk (run_fnG (us := []) F hr hgd hb tk I .nil h)
/-- what a call gives, from what the callee promises -/
theorem callF_ok {K : PySem.W.Frag} {F : Fn} {n : Nat} {σ : St} {G0 H0 G H : Hp} {A0 : Addr → Prop} {Γ : List D} {fr : Fps} {rs : List R} {vs : List V} {fp : List Addr} {Q : VK} (hn : vs.length = n) (s : Sta K G H Γ σ fr) (x : RRL K G H σ vs rs fp) (d : ∀ a ∈ fp, ¬ Ow fr a)
    (st : Stp G0 H0 A0 G H (fun a => a ∈ fp ∨ Ow fr a)) (fin : Fin K cl W (relR K σ) σ G0 H0 A0 (callF F rs Γ) Q) : spOf K cl n F.sem vs H Q fun cv d H' => W cv d σ H' := by
  unfold callF at fin
  cases e : passes F.io rs Γ with
  | none => rw [e] at fin; exact fin.elim
  | some q =>
    obtain ⟨ds, js, Γ1⟩ := q
    rw [e] at fin
    simp only at fin
    obtain ⟨G1, f1, g, s1, sg, dis, st1, hj⟩ := passes_ok s x d e
    refine ⟨hn, G1, ds, g, sg, ?_⟩
    have st01 := st.trans st1
    cases e2 : F.sem ds with
    | none => rw [e2] at fin; exact fin.elim
    | some o =>
      rw [e2] at fin
      cases o with
      | ret dd ios =>
        intro v G2 H2 g2 fv sg2 rv nv st2
        obtain ⟨s2, n2⟩ := s1.stay (fun a h z => dis a z h) st2 sg2.sub
        obtain ⟨f3, s3, h3⟩ := back_ok hj sg2 s2 (fun a h z => n2 a z (.inr h))
        refine fin v G2 H2 f3 fv s3 rv (fun a h z => ?_) ?_
        · rcases h3 a z with z | z
          · exact nv a h z
          · exact n2 a z (.inl h)
        · have a2 := (st2.aside (fun a => Ow f1 a)).sub (A' := fun a => Ow g a ∨ Ow f1 a) (B' := fun a => Ow f1 a ∨ a ∈ fv ∨ Ow g2 a) (fun a h => h.elim .inr .inl) fun a h => h
          refine (st01.trans a2).B fun a h => ?_
          rcases h with h | h
          · exact .inr (.inl h)
          · rcases h3 a h with z | z
            · exact .inr (.inr z)
            · exact .inl z
      | exc xx ios =>
        intro cv dd G2 H2 g2 sg2 xr st2
        obtain ⟨s2, n2⟩ := s1.stay (fun a h z => dis a z h) st2 sg2.sub
        obtain ⟨f3, s3, h3⟩ := back_ok hj sg2 s2 (fun a h z => n2 a z h)
        refine fin cv dd G2 H2 f3 s3 xr ?_
        have a2 := (st2.aside (fun a => Ow f1 a)).sub (A' := fun a => Ow g a ∨ Ow f1 a) (B' := fun a => Ow f1 a ∨ Ow g2 a) (fun a h => h.elim .inr .inl) fun a h => h
        refine (st01.trans a2).B fun a h => ?_
        rcases h3 a h with z | z
        · exact .inr z
        · exact .inl z
end
end DPy
/-! the small terms tell the truth: displays, slices, calls, tests -/
namespace DPy
open PySem PySem.Spec L2
open PyProof.Rows hiding St

theorem Out.bind_assoc {α β γ : Type} (o : Out α) (k : α → M β) (l : β → M γ) : (o.bind k).bind l = o.bind fun a g => (k a g).bind l := by cases o <;> rfl
section
variable {cl : String → Option Addr} {c : Cfg} {W : WX} {X : Cx} {k : Nat} {e e1 e2 e3 : Expr} {es : List Expr} {pos : Pos} {m m1 m2 m3 : M R} {ms : M (List R)}

/-- a row of values is at hand -/
theorem atL {K : PySem.W.Frag} {σ : St} {β ι : Type} {rel2 : St → Hp → Hp → ι → β → List Addr → Prop} {m : M (List R)} {k : List R → M β} {H : Hp} {Q : ι → Hp → Prop} (h : tM K cl W rel2 (fun g => (m g).bind k) σ H Q) {T : List V → Hp → Prop}
    (go : ∀ vs H1 G0 H0 A0 Γ G f rs fx, Sta K G H1 Γ σ f → RRL K G H1 σ vs rs fx → (∀ a ∈ fx, ¬ Ow f a) → Stp G0 H0 A0 G H1 (fun a => a ∈ fx ∨ Ow f a) → Fin K cl W (rel2 σ) σ G0 H0 A0 (k rs Γ) Q → T vs H1) : tRs K cl W m σ H T := by
  obtain ⟨Γ, G, f, s, fin⟩ := h
  exact tM_stage (P := fun _ => False) s ((Stp.refl G H _).B fun a h => h.elim False.elim id) fin fun rs Γ2 vs G2 H2 f2 fp s2 r2 d st2 st3 fin2 =>
    go vs H2 _ _ _ Γ2 G2 f2 rs fp s2 r2 d (st3.B fun a h => .inr h) fin2
/-- the same, of one value -/
theorem at1' {K : PySem.W.Frag} {σ : St} {β ι : Type} {rel2 : St → Hp → Hp → ι → β → List Addr → Prop} {m : M R} {k : R → M β} {H : Hp} {Q : ι → Hp → Prop} (h : tM K cl W rel2 (fun g => (m g).bind k) σ H Q) {T : V → Hp → Prop}
    (go : ∀ v H1 G0 H0 A0 Γ G f r fx, Sta K G H1 Γ σ f → RR K G H1 σ v r fx → (∀ a ∈ fx, ¬ Ow f a) → Stp G0 H0 A0 G H1 (fun a => a ∈ fx ∨ Ow f a) → Fin K cl W (rel2 σ) σ G0 H0 A0 (k r Γ) Q → T v H1) : tR K cl W m σ H T :=
  at1 h fun x H1 a1 => by
    obtain ⟨G0, H0, A0, Γ, G, f, r, fx, s, rx, dx, st, fin⟩ := a1.ex
    exact go x H1 _ _ _ _ _ _ _ _ s rx dx st fin
theorem force_fin {K : PySem.W.Frag} {σ : St} {β ι : Type} {rel2 : Hp → Hp → ι → β → List Addr → Prop} {r : R} {k : D → M β} {Γ : List D} {G0 H0 : Hp} {A0 : Addr → Prop} {Q : ι → Hp → Prop} (fin : Fin K cl W rel2 σ G0 H0 A0 ((forceM r Γ).bind k) Q) : ∃ d Γ', r.force Γ = some (d, Γ') ∧ Fin K cl W rel2 σ G0 H0 A0 (k d Γ') Q := by
  unfold forceM at fin
  cases e : r.force Γ with
  | none => rw [e] at fin; exact fin.elim
  | some q => obtain ⟨d, g⟩ := q; rw [e] at fin; exact ⟨d, g, rfl, fin⟩
theorem forceL_fin {K : PySem.W.Frag} {σ : St} {β ι : Type} {rel2 : Hp → Hp → ι → β → List Addr → Prop} {r : List R} {k : List D → M β} {Γ : List D} {G0 H0 : Hp} {A0 : Addr → Prop} {Q : ι → Hp → Prop} (fin : Fin K cl W rel2 σ G0 H0 A0 ((forceLM r Γ).bind k) Q) : ∃ d Γ', forceL r Γ = some (d, Γ') ∧ Fin K cl W rel2 σ G0 H0 A0 (k d Γ') Q := by
  unfold forceLM at fin
  cases e : forceL r Γ with
  | none => rw [e] at fin; exact fin.elim
  | some q => obtain ⟨d, g⟩ := q; rw [e] at fin; exact ⟨d, g, rfl, fin⟩
theorem if_fin {K : PySem.W.Frag} {σ : St} {β ι : Type} {rel2 : Hp → Hp → ι → β → List Addr → Prop} {p : Prop} [Decidable p] {o : Out β} {G0 H0 : Hp} {A0 : Addr → Prop} {Q : ι → Hp → Prop} (fin : Fin K cl W rel2 σ G0 H0 A0 (if p then o else .stuck) Q) : p ∧ Fin K cl W rel2 σ G0 H0 A0 o Q := by
  by_cases h : p
  · rw [if_pos h] at fin; exact ⟨h, fin⟩
  · rw [if_neg h] at fin; exact fin.elim
theorem snd_tup {kk : Nat} (h : PA X es (tRs X.K cl W ms)) : PE X (.Tuple es kk pos) (tR X.K cl W (fun g => (ms g).bind fun rs g => (forceLM rs g).bind fun ds g => if ds.length ≤ sizeLine then .ok (.val (.tup ds)) g else .stuck)) := by
  refine (pe_tup h).imp fun σ H Q h => atL h fun vs H1 G0 H0 A0 Γ G f rs fx s r d st fin => ?_
  obtain ⟨ds, Γ', e, fin⟩ := forceL_fin fin
  obtain ⟨hl, fin⟩ := if_fin fin
  obtain ⟨G', f', s', fz, st'⟩ := forceL_ok s r d e
  exact ⟨by rw [fz.length]; exact hl, fun p np => fin.tup s' np fz (st.trans st') fun a h => h⟩
theorem snd_lst (h : PA X es (tRs X.K cl W ms)) : PE X (.List es pos) (tR X.K cl W (fun g => (ms g).bind fun rs g => (forceLM rs g).bind fun ds g => if ds.length ≤ sizeLine then .ok (.val (.lst true ds)) g else .stuck)) := by
  refine (pe_lst h).imp fun σ H Q h => atL h fun vs H1 G0 H0 A0 Γ G f rs fx s r d st fin => ?_
  obtain ⟨ds, Γ', e, fin⟩ := forceL_fin fin
  obtain ⟨hl, fin⟩ := if_fin fin
  obtain ⟨G', f', s', fz, st'⟩ := forceL_ok s r d e
  exact ⟨by rw [fz.length]; exact hl, fun p np => fin.new s' np fz (st.trans st') fun a h => h⟩

/-! ### calls -/
theorem snd_call {f : String} {p : Pos} {F : Fn} (C : Ctx cl c W X k) (hg : Gl X (Str.ofString f)) (ok : okName (Str.ofString f) = true) (hs : noStarB (e :: es) = true) (hF : c.fn f = some F) (h : PA X (e :: es) (tRs X.K cl W ms)) :
    PE X (.Call (.Name (Str.ofString f) p) (e :: es) [] pos) (tR X.K cl W (fun g => (ms g).bind fun rs g => if rs.length = F.n then callF F rs g else .stuck)) := by
  obtain ⟨a, fd, ps, hG, hm, hk, hb⟩ := (C.gl.fns f F hF).ex
  refine (pe_callG hG C.room C.grd hg hm hk hb C.tk h (okName_of ok).1 hs).imp fun σ H Q h => atL h fun vs H1 G0 H0 A0 Γ G f rs fx s r d st fin => ?_
  obtain ⟨hl, fin⟩ := if_fin fin
  exact callF_ok (by rw [r.length]; exact hl) s r d st fin
theorem snd_call0 {f : String} {p : Pos} {F : Fn} (C : Ctx cl c W X k) (hg : Gl X (Str.ofString f)) (ok : okName (Str.ofString f) = true) (hF : c.fn f = some F) :
    PE X (.Call (.Name (Str.ofString f) p) [] [] pos) (tR X.K cl W (fun g => (evRs c [] g).bind fun rs g => if rs.length = F.n then callF F rs g else .stuck)) := by
  obtain ⟨a, fd, ps, hG, hm, hk, hb⟩ := (C.gl.fns f F hF).ex
  refine (pe_callG0 hG C.room C.grd hg hm hk hb C.tk (okName_of ok).1).imp fun σ H Q ⟨Γ, G, f, s, fin⟩ => ?_
  simp only [evRs, Out.bind] at fin
  obtain ⟨hl, fin⟩ := if_fin fin
  exact callF_ok (fp := []) hl s .nil (fun _ h => by cases h) ((Stp.refl _ _ _).B fun a h => h.elim (fun z => by cases z) id) fin
theorem stuck_pe {m : M R} (h : ∀ g, (m g).bind (fun r g => .ok r g) = (Out.stuck : Out R)) : PE X e (tR X.K cl W m) := by
  refine PE.imp (t := fun _ _ _ => False) ⟨fun _ _ _ _ _ _ h => h.elim⟩ fun σ H Q ⟨Γ, G, f, s, fin⟩ => ?_
  have := h Γ
  revert fin
  cases e : m Γ with
  | stuck => exact id
  | ok a g => rw [e] at this; cases this
  | exc x g => rw [e] at this; cases this
theorem pbf_here {b : Bf} {ds : List D} {d : D} (h : pbf b ds = some d) : (∀ x ∈ ds, x.here = true) ∧ ∃ v, d.sv = some v := by
  unfold pbf at h
  split at h <;> first
    | (cases h; exact ⟨by simp [D.here], _, rfl⟩)
    | (split at h
       · rename_i hc
         cases h
         simp only [showOk, Bool.and_eq_true] at hc
         exact ⟨by simp [hc.1.1.1], _, rfl⟩
       · cases h)
    | cases h
theorem RRL.seeL {K : PySem.W.Frag} {G H : Hp} {σ : St} {Γ : List D} {f : Fps} (s : Sta K G H Γ σ f) : ∀ {vs : List V} {rs : List R} {fp : List Addr}, RRL K G H σ vs rs fp → (∀ x ∈ rs.map (fun r => r.see Γ), x.here = true) → SeeL K H vs (rs.map fun r => r.see Γ)
  | _, _, _, .nil, _ => .nil
  | _, _, _, .cons x t _, h => .cons (x.see' s (h _ (by simp))) (RRL.seeL s t fun y hy => h y (by simp only [List.map_cons, List.mem_cons]; exact .inr hy))
theorem snd_cb {b : Bf} {p : Pos} (C : Ctx cl c W X k) (hg : Gl X (Str.ofString b.name)) (ok : okName (Str.ofString b.name) = true) (hs : noStarB (e :: es) = true) (h : PA X (e :: es) (tRs X.K cl W ms)) :
    PE X (.Call (.Name (Str.ofString b.name) p) (e :: es) [] pos) (tR X.K cl W (fun g => (ms g).bind fun rs g => ofO ((pbf b (rs.map fun r => r.see g)).map R.val) g)) := by
  have hu : X.A.units + 65 < cLine := by have := C.room.un; omega
  have hc := call_pbf b C.calm C.grd hu
  obtain ⟨h1, h2⟩ := noStar_cons hs
  obtain ⟨o1, _, o3⟩ := okName_of ok
  have ex : PE X (.Call (.Name (Str.ofString b.name) p) (e :: es) [] pos) (tCB (rPbf X.K b) (tRs X.K cl W ms)) := by
    have hb := Bf.boot b
    cases b <;> first
      | exact pe_callB hc hg (C.gl.bfs _) hb h o3 o1 (starEach_of h1) (noStar_any h2)
      | exact pe_callTy hc hg (C.gl.bfs _) hb h o3 o1 (starEach_of h1) (noStar_any h2)
  refine ex.imp fun σ H Q h => atL h fun vs H1 G0 H0 A0 Γ G f rs fx s r d st fin => ?_
  obtain ⟨d, e, fin⟩ := sv_fin fin
  obtain ⟨hh, v, ev⟩ := pbf_here e
  exact ⟨_, d, v, r.seeL s hh, e, ev, fin.fz s (Rp.sv ev) st fun a h => .inr h⟩

/-! ### slices -/
def relP (_ : St) (_ _ : Hp) (v : Option Int) (r : Option Int) (fp : List Addr) : Prop := v = r ∧ fp = []
theorem o_fin {K : PySem.W.Frag} {σ : St} {β ι : Type} {rel2 : Hp → Hp → ι → β → List Addr → Prop} {o : Option β} {Γ : List D} {G0 H0 : Hp} {A0 : Addr → Prop} {Q : ι → Hp → Prop} (fin : Fin K cl W rel2 σ G0 H0 A0 (ofO o Γ) Q) : ∃ d, o = some d ∧ Fin K cl W rel2 σ G0 H0 A0 (.ok d Γ) Q := by
  cases o with
  | none => exact fin.elim
  | some d => exact ⟨d, rfl, fin⟩
theorem snd_part0 : PO X none (tM X.K cl W relP (partM (evRs c []))) := by
  refine ⟨fun pins s σ H Q I ⟨Γ, G, f, st, fin⟩ => ?_⟩
  refine po_none.run pins s σ H Q I ?_
  simp only [partM, evRs, Out.bind, List.map_nil, part, ofO] at fin
  exact fin none G H f [] st ⟨rfl, rfl⟩ (fun _ h => by cases h) ((Stp.refl _ _ _).B fun a h => h.elim (fun z => by cases z) id)
theorem snd_part1 {a : Ex} (h : PE X e (tR X.K cl W (evR c a))) : PO X (some e) (tM X.K cl W relP (partM (evRs c [.e a]))) := by
  refine ⟨fun pins s σ H Q I hq => ?_⟩
  refine (po_some h).run pins s σ H Q I ?_
  have e1 : partM (evRs c [.e a]) = fun g => (evR c a g).bind fun r g => ofO (part [r.see g]) g := by
    funext g
    unfold partM
    have : evRs c [.e a] g = (evR c a g).bind fun r g => .ok [r] g := by
      simp only [evRs, Out.bind]
    rw [this, Out.bind_assoc]
    rfl
  rw [e1] at hq
  refine at1' (rel2 := relP) hq fun v H1 G0 H0 A0 Γ G f r fx s rx d st fin => ?_
  obtain ⟨u, e, fin⟩ := o_fin fin
  unfold part at e
  split at e
  · rename_i i e2
    cases e
    have e3 : r.see Γ = .int i := by simpa using e2
    obtain ⟨G', f', su, rp⟩ := rx.see' s (by rw [e3]; rfl)
    rw [e3] at rp
    exact ⟨i, rp.int_inv, fin (some i) G H1 f [] s ⟨rfl, rfl⟩ (fun _ h => by cases h) (st.B fun a h => .inr (h.elim (fun z => by cases z) id))⟩
  · rename_i e2; cases e2
  · cases e
theorem snd_slc {l h : Option Expr} {p2 : Pos} {ma mb : M (Option Int)} (h1 : PE X e1 (tR X.K cl W m1)) (h2 : PO X l (tM X.K cl W relP ma)) (h3 : PO X h (tM X.K cl W relP mb)) :
    PE X (.Subscript e1 (.Slice l h none p2) pos) (tR X.K cl W (fun g => (m1 g).bind fun r g => (ma g).bind fun u g => (mb g).bind fun v g => ofO ((slcD (r.see g) u v).map R.val) g)) := by
  refine (pe_slice sl_V h1 h2 h3).imp fun σ H Q h => at1' h fun x H1 G0 H0 A0 Γ G f r fx s rx dx st fin => ?_
  refine tM_stage (P := fun a => a ∈ fx) s st fin fun u Γ2 v G2 H2 f2 fp s2 r2 d st2 st3 fin2 => ?_
  obtain ⟨rfl, rfl⟩ := r2
  obtain ⟨rx2, nx⟩ := rx.stay dx st2
  have nx' : ∀ a ∈ fx, ¬ Ow f2 a := fun a h z => nx a h (.inr z)
  refine tM_stage (P := fun a => a ∈ fx) s2 (st3.B fun a h => by rcases h with h | h; exact .inl h; exact .inr (.inr h)) fin2 fun u' Γ3 v' G3 H3 f3 fp' s3 r3 d3 st4 st5 fin3 => ?_
  obtain ⟨rfl, rfl⟩ := r3
  obtain ⟨rx3, nx3⟩ := rx2.stay nx' st4
  obtain ⟨dd, e, fin4⟩ := sv_fin fin3
  have hh : (r.see Γ3).here = true := by
    unfold slcD at e
    split at e <;> first | (rename_i q; rw [q]; rfl) | cases e
  obtain ⟨f', rp, _⟩ := rx3.sees s3 hh
  refine ⟨G3, f', _, dd, s3.sub, rp, e, fun xs vs p q np fz => ?_, fun xs vs p q np fz => ?_⟩
  · subst q
    exact fin4.new s3 np fz st5 fun a h => .inr (.inr h)
  · subst q
    exact fin4.tup s3 np fz st5 fun a h => .inr (.inr h)

/-! ### and, or as values -/
theorem one_bl {K : PySem.W.Frag} {σ : St} {H : Hp} {Q : VK} {mk : Bool → M R} (h : tR K cl W (fun g => (m g).bind fun r g => match r.see g with | .bl b => mk b g | _ => .stuck) σ H Q) {T : VK}
    (go : ∀ b H1 G0 H0 A0 Γ G f, Sta K G H1 Γ σ f → Stp G0 H0 A0 G H1 (Ow f) → Fin K cl W (relR K σ) σ G0 H0 A0 (mk b Γ) Q → T (.bl b) H1) : tR K cl W m σ H T := by
  refine at1' h fun x H1 G0 H0 A0 Γ G f r fx s rx dx st fin => ?_
  split at fin
  · rename_i b e
    obtain ⟨G', f', su, rp⟩ := rx.see' s (by rw [e]; rfl)
    rw [e] at rp
    rw [rp.bl_inv]
    exact go b H1 G0 H0 A0 Γ G f s (st.B fun a h => .inr h) fin
  · exact fin.elim
theorem go_on {K : PySem.W.Frag} {σ : St} {α κ : Type} {rel : St → Hp → Hp → κ → α → List Addr → Prop} {m : M α} {G0 H0 G H : Hp} {A0 : Addr → Prop} {Γ : List D} {f : Fps} {Q : κ → Hp → Prop} (s : Sta K G H Γ σ f) (st : Stp G0 H0 A0 G H (Ow f)) (fin : Fin K cl W (rel σ) σ G0 H0 A0 (m Γ) Q) : tM K cl W rel m σ H Q := by
  refine ⟨Γ, G, f, s, ?_⟩
  revert fin
  cases m Γ with
  | stuck => exact id
  | ok a g => exact fun fin v G' H' f' fp s' r' d' st' => fin v G' H' f' fp s' r' d' (st.trans st')
  | exc x g => exact fun fin cv d G' H' f' s' x' st' => fin cv d G' H' f' s' x' (st.trans st')
theorem snd_and1 (h : PE X e (tR X.K cl W m)) : PE X (.BoolOp .And [e] pos) (tR X.K cl W (fun g => (m g).bind fun r g => match r.see g with | .bl b => .ok (.val (.bl b)) g | _ => .stuck)) := by
  refine (pe_one h).imp fun σ H Q h => one_bl (mk := fun b g => .ok (.val (.bl b)) g) h fun b H1 G0 H0 A0 Γ G f s st fin => fin.fz s (.bl b) st fun a h => h
theorem snd_and2 {m' : M R} (h : PE X e (tR X.K cl W m)) (h' : PE X (.BoolOp .And (e2 :: es) pos) (tR X.K cl W m')) : PE X (.BoolOp .And (e :: e2 :: es) pos) (tR X.K cl W (fun g => (m g).bind fun r g => match r.see g with | .bl b => (if b then m' g else .ok (.val (.bl false)) g) | _ => .stuck)) := by
  refine (pe_and h h').imp fun σ H Q h => one_bl (mk := fun b g => if b then m' g else .ok (.val (.bl false)) g) h fun b H1 G0 H0 A0 Γ G f s st fin => ⟨b, rfl, ?_⟩
  cases b with
  | true => rw [if_pos rfl]; simp only [if_true] at fin; exact go_on s st fin
  | false => rw [if_neg (by decide)]; simp only [Bool.false_eq_true, if_false] at fin; exact Fin.fz fin s (.bl false) st fun a h => h
theorem snd_or1 (h : PE X e (tR X.K cl W m)) : PE X (.BoolOp .Or [e] pos) (tR X.K cl W (fun g => (m g).bind fun r g => match r.see g with | .bl b => .ok (.val (.bl b)) g | _ => .stuck)) := by
  refine (pe_one h).imp fun σ H Q h => one_bl (mk := fun b g => .ok (.val (.bl b)) g) h fun b H1 G0 H0 A0 Γ G f s st fin => fin.fz s (.bl b) st fun a h => h
theorem snd_or2 {m' : M R} (h : PE X e (tR X.K cl W m)) (h' : PE X (.BoolOp .Or (e2 :: es) pos) (tR X.K cl W m')) : PE X (.BoolOp .Or (e :: e2 :: es) pos) (tR X.K cl W (fun g => (m g).bind fun r g => match r.see g with | .bl b => (if b then .ok (.val (.bl true)) g else m' g) | _ => .stuck)) := by
  refine (pe_or h h').imp fun σ H Q h => one_bl (mk := fun b g => if b then .ok (.val (.bl true)) g else m' g) h fun b H1 G0 H0 A0 Γ G f s st fin => ⟨b, rfl, ?_⟩
  cases b with
  | true => rw [if_pos rfl]; simp only [if_true] at fin; exact Fin.fz fin s (.bl true) st fun a h => h
  | false => rw [if_neg (by decide)]; simp only [Bool.false_eq_true, if_false] at fin; exact go_on s st fin

/-! ### tests -/
theorem fin_b {K : PySem.W.Frag} {σ : St} {b : Bool} {Γ : List D} {G0 H0 G H : Hp} {A0 B : Addr → Prop} {f : Fps} {Q : Bool → Hp → Prop} (fin : Fin K cl W (relB σ) σ G0 H0 A0 (.ok b Γ) Q) (s : Sta K G H Γ σ f) (st : Stp G0 H0 A0 G H B) (hB : ∀ a, Ow f a → B a) : Q b H :=
  fin b G H f [] s ⟨rfl, rfl⟩ (fun _ h => by cases h) (st.B fun a h => h.elim (fun z => by cases z) (hB a))
theorem sndT_ex (hp : plainTB e = true) (h : PE X e (tR X.K cl W m)) : PT X e (tT X.K cl W (fun g => (m g).bind fun r g => ofO (truth (r.see g)) g)) := by
  refine (pt_truth h (plainT_of hp)).imp fun σ H Q h => at1' (rel2 := relB) h fun x H1 G0 H0 A0 Γ G f r fx s rx dx st fin => ?_
  obtain ⟨b, e, fin⟩ := o_fin fin
  have hh : (r.see Γ).here = true := by
    unfold truth at e
    split at e <;> first | (rename_i q; rw [q]; rfl) | cases e
  exact ⟨b, truth_V (rx.see' s hh) e, fin_b fin s st fun a h => .inr h⟩
theorem sndT_cmp {op : CmpOp} (hu : X.A.units + 64 < cLine) (hm : behindInMarks op e2 = false) (h1 : PE X e1 (tR X.K cl W m1)) (h2 : PE X e2 (tR X.K cl W m2)) :
    PT X (.Compare e1 [op] [e2] pos) (tT X.K cl W (fun g => (m1 g).bind fun r g => (m2 g).bind fun s g => ofO (cmpop op (r.see g) (s.see g)) g)) := by
  refine (pt_cmpR (op_cmpV hu) h1 h2 hm).imp fun σ H Q h => ?_
  refine at1 (rel2 := relB) h fun x H1 a1 => a1.snd fun y H2 a2 => ?_
  obtain ⟨G0, H0, A0, Γ, G, f, r, q, fx, fy, s, rx, ry, dx, dy, dxy, st, fin⟩ := a2.ex
  obtain ⟨b, e, fin⟩ := o_fin fin
  obtain ⟨i1, i2⟩ := cmpop_here e
  exact ⟨_, _, b, rx.see' s i1, ry.see' s i2, e, b, rfl, fin_b (b := b) fin s st fun a h => .inr (.inr h)⟩
theorem sndT_chn {o p : CmpOp} (hu : X.A.units + 64 < cLine) (hm : lastMarks [o, p] [e2, e3] = false) (h1 : PE X e1 (tR X.K cl W m1)) (h2 : PE X e2 (tR X.K cl W m2)) (h3 : PE X e3 (tR X.K cl W m3)) :
    PT X (.Compare e1 [o, p] [e2, e3] pos) (tT X.K cl W (fun g => (m1 g).bind fun r g => (m2 g).bind fun s g => match cmpop o (r.see g) (s.see g) with
    | some true => (m3 g).bind fun t g => ofO (cmpop p (s.see g) (t.see g)) g
    | some false => .ok false g
    | none => .stuck)) := by
  refine (pt_chain (op_cmpV hu) (op_cmpV hu) h1 h2 h3 hm).imp fun σ H Q h => ?_
  refine at1 (rel2 := relB) h fun x H1 a1 => a1.snd fun y H2 a2 => ?_
  obtain ⟨G0, H0, A0, Γ, G, f, r, q, fx, fy, s, rx, ry, dx, dy, dxy, st, fin⟩ := a2.ex
  cases e : cmpop o (r.see Γ) (q.see Γ) with
  | none => rw [e] at fin; exact fin.elim
  | some b =>
    rw [e] at fin
    obtain ⟨i1, i2⟩ := cmpop_here e
    cases b with
    | true =>
      refine ⟨_, _, true, rx.see' s i1, ry.see' s i2, e, true, rfl, ?_⟩
      rw [if_pos rfl]
      have a3 : At1 X.K cl W σ (relB σ) (fun s g => (m3 g).bind fun t g => ofO (cmpop p (s.see g) (t.see g)) g) y H2 Q :=
        ⟨_, _, _, Γ, G, f, q, fy, s, ry, dy, st.B fun a h => .inr h, fin⟩
      refine a3.snd fun z H3 a4 => ?_
      obtain ⟨G0, H0, A0, Γ, G, f, r, q, fx, fy, s, rx, ry, dx, dy, dxy, st, fin⟩ := a4.ex
      obtain ⟨b, e, fin⟩ := o_fin fin
      obtain ⟨i1, i2⟩ := cmpop_here e
      exact ⟨_, _, b, rx.see' s i1, ry.see' s i2, e, b, rfl, fin_b (b := b) fin s st fun a h => .inr (.inr h)⟩
    | false =>
      refine ⟨_, _, false, rx.see' s i1, ry.see' s i2, e, false, rfl, ?_⟩
      rw [if_neg (by decide)]
      exact ⟨false, rfl, fin_b (b := false) fin s st fun a h => .inr (.inr h)⟩
variable {mt mt2 : M Bool}
theorem stage_b {K : PySem.W.Frag} {σ : St} {β ι : Type} {rel2 : St → Hp → Hp → ι → β → List Addr → Prop} {k : Bool → M β} {H : Hp} {Q : ι → Hp → Prop} (h : tM K cl W rel2 (fun g => (mt g).bind k) σ H Q) {T : Bool → Hp → Prop}
    (go : ∀ b H1 G0 H0 A0 Γ G f, Sta K G H1 Γ σ f → Stp G0 H0 A0 G H1 (Ow f) → Fin K cl W (rel2 σ) σ G0 H0 A0 (k b Γ) Q → T b H1) : tT K cl W mt σ H T := by
  obtain ⟨Γ, G, f, s, fin⟩ := h
  refine tM_stage (P := fun _ => False) s ((Stp.refl G H _).B fun a h => h.elim False.elim id) fin fun b Γ2 v G2 H2 f2 fp s2 r2 d st2 st3 fin2 => ?_
  obtain ⟨rfl, rfl⟩ := r2
  exact go v H2 _ _ _ Γ2 G2 f2 s2 (st3.B fun a h => .inr (.inr h)) fin2
theorem sndT_not (h : PT X e (tT X.K cl W mt)) : PT X (.UnaryOp .Not e pos) (tT X.K cl W (fun g => (mt g).bind fun b g => .ok (!b) g)) := by
  refine (pt_not h).imp fun σ H Q h => stage_b (rel2 := relB) h fun b H1 G0 H0 A0 Γ G f s st fin => ?_
  exact fin_b (b := !b) fin s st fun a h => h
theorem sndT_and1 (h : PT X e (tT X.K cl W mt)) : PW X (.BoolOp .And [e] pos) (tT X.K cl W (fun g => (mt g).bind fun b g => if b then .ok true g else .ok false g)) := by
  have q := pw_and1 (pos := pos) h
  refine ⟨fun wh pins s σ H Q I hq => q.run wh pins s σ H Q I (stage_b (rel2 := relB) hq fun b H1 G0 H0 A0 Γ G f s st fin => ?_)⟩
  cases b
  · exact fin_b (b := false) fin s st fun a h => h
  · exact fin_b (b := true) fin s st fun a h => h
theorem sndT_or1 (h : PT X e (tT X.K cl W mt)) : PW X (.BoolOp .Or [e] pos) (tT X.K cl W (fun g => (mt g).bind fun b g => if b then .ok true g else .ok false g)) := by
  have q := pw_or1 (pos := pos) h
  refine ⟨fun wh pins s σ H Q I hq => q.run wh pins s σ H Q I (stage_b (rel2 := relB) hq fun b H1 G0 H0 A0 Γ G f s st fin => ?_)⟩
  cases b
  · exact fin_b (b := false) fin s st fun a h => h
  · exact fin_b (b := true) fin s st fun a h => h
theorem sndT_and2 (h : PT X e (tT X.K cl W mt)) (h2 : PW X (.BoolOp .And (e2 :: es) pos) (tT X.K cl W mt2)) : PW X (.BoolOp .And (e :: e2 :: es) pos) (tT X.K cl W (fun g => (mt g).bind fun b g => if b then mt2 g else .ok false g)) := by
  have q := pw_and (pos := pos) h h2
  refine ⟨fun wh pins s σ H Q I hq => q.run wh pins s σ H Q I (stage_b (rel2 := relB) hq fun b H1 G0 H0 A0 Γ G f s st fin => ?_)⟩
  cases b with
  | true => rw [if_pos rfl]; exact go_on (rel := relB) s st fin
  | false => rw [if_neg (by decide)]; exact fin_b (b := false) fin s st fun a h => h
theorem sndT_or2 (h : PT X e (tT X.K cl W mt)) (h2 : PW X (.BoolOp .Or (e2 :: es) pos) (tT X.K cl W mt2)) : PW X (.BoolOp .Or (e :: e2 :: es) pos) (tT X.K cl W (fun g => (mt g).bind fun b g => if b then .ok true g else mt2 g)) := by
  have q := pw_or (pos := pos) h h2
  refine ⟨fun wh pins s σ H Q I hq => q.run wh pins s σ H Q I (stage_b (rel2 := relB) hq fun b H1 G0 H0 A0 Γ G f s st fin => ?_)⟩
  cases b with
  | true => rw [if_pos rfl]; exact fin_b (b := true) fin s st fun a h => h
  | false => rw [if_neg (by decide)]; exact go_on (rel := relB) s st fin
end
end DPy
/-! the small terms tell the truth: what is walked, comprehensions -/
namespace DPy
open PySem PySem.Spec L2
open PyProof.Rows hiding St

/-- what a walk yields at a turn -/
def YD (K : PySem.W.Frag) (G : Hp) (xs : List D) : Nat → Hp → V → Hp → Prop := fun i H v H' => ∃ d, xs[i]? = some d ∧ d.fz = true ∧
  ((H' = H ∧ Rp K G H v d []) ∨ ∃ T o, H T = none ∧ H' = upd H T o ∧ ∀ G1, Sub G G1 → Sub G1 H → Rp K (upd G1 T o) H' v d [])
def Gives (K : PySem.W.Frag) (G : Hp) (J : L2.It) (xs : List D) : Prop := Walk J xs.length (fun H => Sub G H) (YD K G xs)
def relI (K : PySem.W.Frag) (_ : St) (G _ : Hp) (J : L2.It) (xs : List D) (fp : List Addr) : Prop := Gives K G J xs ∧ fp = []
abbrev tI (K : PySem.W.Frag) (cl : String → Option Addr) (W : WX) (m : M (List D)) : TI := tM K cl W (relI K) m

section
variable {K : PySem.W.Frag} {cl : String → Option Addr} {σ : St} {G G1 H H' : Hp} {Γ : List D} {f : Fps}
/-- behind a yield -/
theorem YD.go {xs : List D} {i : Nat} {v : V} (y : YD K G xs i H v H') (su : Sub G G1) (s : Sta K G1 H Γ σ f) : ∃ d G2, xs[i]? = some d ∧ d.fz = true ∧ Sta K G2 H' Γ σ f ∧ Rp K G2 H' v d [] ∧ Stp G1 H (Ow f) G2 H' (Ow f) := by
  obtain ⟨d, e, fz, ⟨rfl, r⟩ | ⟨T, o, n, rfl, r⟩⟩ := y
  · exact ⟨d, G1, e, fz, s, r.keep su fun _ z => (by cases z), Stp.refl _ _ _⟩
  · exact ⟨d, upd G1 T o, e, fz, s.newS n o, r G1 su s.sub, Stp.newS n (s.sub.none n) o⟩
theorem gives_list {a : Addr} {vs : List V} {xs : List D} (h : SqL K G a vs) (z : FzL K G H vs xs) : Gives K G (Itl K a) xs := by
  unfold Gives
  rw [← z.length]
  refine (walk_list (K := K) (a := a) (xs := vs)).mono (fun H s => s.sqL h) fun i H v H' _ _ ⟨e1, e2⟩ => ?_
  obtain ⟨d, e3, r, fz⟩ := z.getV e2
  exact ⟨d, e3, fz, .inl ⟨e1, r.keep (.refl G) fun _ z => by cases z⟩⟩
theorem gives_tup {a : Addr} {vs : List V} {xs : List D} (h : SqT K G a vs) (z : FzL K G H vs xs) : Gives K G (Itt K a) xs := by
  unfold Gives
  rw [← z.length]
  refine (walk_tup (K := K) (a := a) (xs := vs)).mono (fun H s => s.sqT h) fun i H v H' _ _ ⟨e1, e2⟩ => ?_
  obtain ⟨d, e3, r, fz⟩ := z.getV e2
  exact ⟨d, e3, fz, .inl ⟨e1, r.keep (.refl G) fun _ z => by cases z⟩⟩
theorem gives_rng {lo : Int} {n : Nat} : Gives K G (Itr lo n) ((List.range n).map fun k => D.int (lo + (k : Nat))) := by
  unfold Gives
  rw [List.length_map, List.length_range]
  refine (walk_range (lo := lo) (n := n)).mono (fun H s => trivial) fun i H v H' hi _ ⟨e1, e2⟩ => ?_
  refine ⟨.int (lo + (i : Nat)), ?_, rfl, .inl ⟨e1, ?_⟩⟩
  · rw [List.getElem?_map, List.getElem?_range hi]; rfl
  · rw [e2]; exact .int _
theorem zipD_get : ∀ {xs ys : List D} {i : Nat} {d e : D}, xs[i]? = some d → ys[i]? = some e → (zipD xs ys)[i]? = some (.tup [d, e])
  | [], _, _, _, _, h, _ => by simp at h
  | _ :: _, [], _, _, _, _, h => by simp at h
  | x :: xs, y :: ys, 0, d, e, h1, h2 => by simp at h1 h2; subst h1; subst h2; rfl
  | x :: xs, y :: ys, i + 1, d, e, h1, h2 => by
    have := zipD_get (xs := xs) (ys := ys) (i := i) (d := d) (e := e) (by simpa using h1) (by simpa using h2)
    simpa [zipD] using this
theorem gives_pair {J : L2.It} {vs us : List V} {xs ys : List D} (z : FzL K G H vs xs) (z2 : FzL K G H us ys) {C : Hp → Prop} (w : Walk J (min vs.length us.length) C (YPair (fun i => vs[i]?) (fun i => us[i]?))) (hC : ∀ H, Sub G H → C H) : Gives K G J (zipD xs ys) := by
  unfold Gives
  have hl : (zipD xs ys).length = min vs.length us.length := by unfold zipD; rw [List.length_zipWith, z.length, z2.length]
  rw [hl]
  refine w.mono hC fun i H v H' hi _ ⟨T, x, y, e1, e2, e3, e4, e5⟩ => ?_
  obtain ⟨d, e6, r, fz⟩ := z.getV e4
  obtain ⟨e, e7, r2, fz2⟩ := z2.getV e5
  refine ⟨_, zipD_get e6 e7, rfl, .inr ⟨T, _, e2, e3, fun G1 su su1 => ?_⟩⟩
  subst e1
  have gt := su1.none e2
  have s2 : Sub G (upd G1 T (.tup [x, y])) := fun a u q => by rw [upd_ne (ne_of_none (su a u q) gt)]; exact su a u q
  exact .tup (.inl (.inl upd_same)) (.cons (r.keep s2 fun _ z => by cases z) fz (.cons (r2.keep s2 fun _ z => by cases z) fz2 .nil))
end

section
variable {cl : String → Option Addr} {c : Cfg} {W : WX} {X : Cx} {k : Nat} {tg e e1 e2 e3 : Expr} {es : List Expr} {pos : Pos} {m m1 m2 m3 : M R} {ms : M (List R)}
theorem _root_.L2.PI.imp {t t' : TI} (h : PI X tg e t) (i : ∀ σ H Q, t' σ H Q → t σ H Q) : PI X tg e t' := ⟨fun pins s σ H Q I q => h.run pins s σ H Q I (i _ _ _ q)⟩
theorem _root_.L2.PI.or {t t' : TI} (h : PI X tg e t) (h' : PI X tg e t') : PI X tg e (fun σ H R => t σ H R ∨ t' σ H R) := ⟨fun pins s σ H Q I q => q.elim (h.run pins s σ H Q I) (h'.run pins s σ H Q I)⟩
theorem _root_.L2.PG.or {t t' : TG} (h : PG X tg t) (h' : PG X tg t') : PG X tg (fun v σ H R => t v σ H R ∨ t' v σ H R) := ⟨fun pins s σ H v u Q I r q => q.elim (h.run pins s σ H v u Q I r) (h'.run pins s σ H v u Q I r)⟩
theorem _root_.L2.PG.imp {t t' : TG} (h : PG X tg t) (i : ∀ v σ H Q, t' v σ H Q → t v σ H Q) : PG X tg t' := ⟨fun pins s σ H v u Q I r q => h.run pins s σ H v u Q I r (i _ _ _ _ q)⟩
theorem _root_.L2.PGs.imp {t t' : TGs} (h : PGs X es t) (i : ∀ v σ H Q, t' v σ H Q → t v σ H Q) : PGs X es t' := ⟨fun pins s σ H v u Q I r q => h.run pins s σ H v u Q I r (i _ _ _ _ q)⟩
/-- the wish at the end of a walk's making -/
theorem fin_i {K : PySem.W.Frag} {σ : St} {xs : List D} {Γ : List D} {G0 H0 G H : Hp} {A0 B : Addr → Prop} {f : Fps} {J : L2.It} {Q : L2.It → Hp → Prop} (fin : Fin K cl W (relI K σ) σ G0 H0 A0 (.ok xs Γ) Q) (s : Sta K G H Γ σ f) (g : Gives K G J xs) (st : Stp G0 H0 A0 G H B) (hB : ∀ a, Ow f a → B a) : Q J H :=
  fin J G H f [] s ⟨g, rfl⟩ (fun _ h => by cases h) (st.B fun a h => h.elim (fun z => by cases z) (hB a))
theorem snd_iter (h : PE X e (tR X.K cl W m)) : PI X tg e (tI X.K cl W (fun g => (m g).bind fun r g => (forceM r g).bind fun d g => ofO (items d) g)) := by
  refine ((pi_list (tg := tg) h).or (pi_tup h)).imp fun σ H Q h => ?_
  obtain ⟨Γ, G, f, s, fin⟩ := h
  -- which of both it is, is known
  simp only [] at fin
  cases em : m Γ with
  | stuck => rw [em] at fin; exact fin.elim
  | exc x Γ2 =>
    rw [em] at fin
    exact .inl ⟨Γ, G, f, s, by rw [em]; exact fin⟩
  | ok r Γ2 =>
    rw [em] at fin
    simp only [Out.bind] at fin
    obtain ⟨d, Γ3, e1, fin⟩ := force_fin fin
    obtain ⟨xs, e2, fin⟩ := o_fin fin
    unfold items at e2
    split at e2
    · cases e2
      refine .inr ⟨Γ, G, f, s, ?_⟩
      rw [em]
      intro v G2 H2 f2 fp s2 rr dd st2
      obtain ⟨G3, f3, s3, rp, st3⟩ := RR.force s2 rr dd e1
      obtain ⟨a, vs, rfl, h1, h2⟩ := rp.tup_inv
      exact ⟨a, rfl, ⟨vs, s3.sub.sqT h1⟩, fin_i fin s3 (gives_tup h1 h2) (st2.trans st3) fun a h => h⟩
    · cases e2
      refine .inl ⟨Γ, G, f, s, ?_⟩
      rw [em]
      intro v G2 H2 f2 fp s2 rr dd st2
      have hz := force_fz e1
      obtain ⟨G3, f3, s3, rp, st3⟩ := RR.force s2 rr dd e1
      cases rp with
      | lst h1 h2 => exact ⟨_, rfl, ⟨_, s3.sub.sqL h1⟩, fin_i fin s3 (gives_list h1 h2) (st2.trans st3) fun a h => h⟩
    · cases e2
theorem rngD_inv {ds xs : List D} (h : rngD ds = some xs) : (∃ j : Int, ds = [.int j] ∧ -(2 ^ 62) ≤ j ∧ j < 2 ^ 62 ∧ xs = (List.range j.toNat).map fun k => .int (0 + (k : Nat))) ∨
    ∃ i j : Int, ds = [.int i, .int j] ∧ (-(2 ^ 62) ≤ i ∧ i < 2 ^ 62 ∧ -(2 ^ 62) ≤ j ∧ j < 2 ^ 62) ∧ xs = (List.range (j - i).toNat).map fun k => .int (i + (k : Nat)) := by
  unfold rngD at h
  split at h
  · split at h
    · rename_i j hb
      cases h
      exact .inl ⟨j, rfl, by omega, by omega, by simp⟩
    · cases h
  · split at h
    · rename_i i j hb
      cases h
      exact .inr ⟨i, j, rfl, ⟨by omega, by omega, by omega, by omega⟩, rfl⟩
    · cases h
  · cases h
theorem snd_rng1 {p : Pos} (C : Ctx cl c W X k) (hg : Gl X "range") (hs : noStarB [e] = true) (h : PE X e (tR X.K cl W m)) : PI X tg (.Call (.Name "range" p) [e] [] pos) (tI X.K cl W (fun g => (m g).bind fun r g => ofO (rngD [r.see g]) g)) := by
  refine (pi_range1 hg C.gl.rng (pa_cons h pa_nil (starEach_of hs)) (starEach_of hs)).imp fun σ H Q h => at1' (rel2 := relI X.K) h fun x H1 G0 H0 A0 Γ G f r fx s rx dx st fin => ?_
  obtain ⟨xs, e, fin⟩ := o_fin fin
  rcases rngD_inv e with ⟨j, e1, b1, b2, rfl⟩ | ⟨i, j, e1, _, _⟩
  · have e2 : r.see Γ = .int j := by simpa using e1
    obtain ⟨G', f', su, rp⟩ := rx.see' s (by rw [e2]; rfl)
    rw [e2] at rp
    exact ⟨j, by rw [rp.int_inv], b1, b2, fin_i fin s gives_rng st fun a h => .inr h⟩
  · simp at e1
theorem snd_rng2 {p : Pos} (C : Ctx cl c W X k) (hg : Gl X "range") (hs : noStarB [e1, e2] = true) (h1 : PE X e1 (tR X.K cl W m1)) (h2 : PE X e2 (tR X.K cl W m2)) :
    PI X tg (.Call (.Name "range" p) [e1, e2] [] pos) (tI X.K cl W (fun g => (m1 g).bind fun r g => (m2 g).bind fun s g => ofO (rngD [r.see g, s.see g]) g)) := by
  obtain ⟨n1, n2⟩ := noStar_cons hs
  have s12 : starEach [e1, e2] X.env = [(false, eval e1 X.env), (false, eval e2 X.env)] := by rw [starEach_of n1, starEach_of n2]; rfl
  refine (pi_range2 hg C.gl.rng (pa_cons h1 (pa_cons h2 pa_nil (starEach_of n2)) (starEach_of n1)) s12 (starEach_of n2)).imp fun σ H Q h => at1 (rel2 := relI X.K) h fun x H1 a1 => a1.snd fun y H2 a2 => ?_
  obtain ⟨G0, H0, A0, Γ, G, f, r, q, fx, fy, s, rx, ry, dx, dy, dxy, st, fin⟩ := a2.ex
  obtain ⟨xs, e, fin⟩ := o_fin fin
  rcases rngD_inv e with ⟨j, e1, b1, b2, rfl⟩ | ⟨i, j, e1, b, rfl⟩
  · simp at e1
  · simp only [List.cons.injEq, and_true] at e1
    obtain ⟨ea, eb⟩ := e1
    obtain ⟨G', f', su, rp⟩ := rx.see' s (by rw [ea]; rfl)
    obtain ⟨G', f', su, rp2⟩ := ry.see' s (by rw [eb]; rfl)
    rw [ea] at rp
    rw [eb] at rp2
    exact ⟨i, j, by rw [rp.int_inv, rp2.int_inv], b, fin_i fin s gives_rng st fun a h => .inr (.inr h)⟩
theorem snd_zip {p tp : Pos} {elts : List Expr} {kk : Nat} (C : Ctx cl c W X k) (hg : Gl X "zip") (hs : noStarB [e1, e2] = true) (h1 : PE X e1 (tR X.K cl W m1)) (h2 : PE X e2 (tR X.K cl W m2)) :
    PI X (.Tuple elts kk tp) (.Call (.Name "zip" p) [e1, e2] [] pos) (tI X.K cl W (fun g => (m1 g).bind fun r g => (m2 g).bind fun s g => (forceM r g).bind fun d g => (forceM s g).bind fun e g => ofO (zip2D d e) g)) := by
  obtain ⟨n1, n2⟩ := noStar_cons hs
  refine (RZ.pi_zipA hg C.gl.zip (pa_cons h1 (pa_cons h2 pa_nil (starEach_of n2)) (starEach_of n1)) (starEach_of n1) (noStar_any n2)).imp fun σ H Q h => at1 (rel2 := relI X.K) h fun x H1 a1 => a1.snd fun y H2 a2 => ?_
  obtain ⟨G0, H0, A0, Γ, G, f, r, q, fx, fy, s, rx, ry, dx, dy, dxy, st, fin⟩ := a2.ex
  obtain ⟨d, Γ3, e1, fin⟩ := force_fin fin
  obtain ⟨d', Γ4, e2, fin⟩ := force_fin fin
  obtain ⟨xs, e3, fin⟩ := o_fin fin
  obtain ⟨G3, f3, s3, rp, st3⟩ := RR.force s rx dx e1
  obtain ⟨ry3, ny⟩ := ry.stay (A := fun a => a ∈ fx ∨ Ow f a) (fun a h z => z.elim (fun z => dxy a z h) (dy a h)) st3
  obtain ⟨G4, f4, s4, rp2, st4⟩ := RR.force s3 ry3 ny e2
  have st' : Stp G0 H0 A0 G4 H2 (Ow f4) := by
    have a1 := (st3.aside (fun a => a ∈ fy)).sub (A' := fun a => a ∈ fx ∨ a ∈ fy ∨ Ow f a) (B' := fun a => a ∈ fy ∨ Ow f3 a) (fun a h => by
      rcases h with h | h | h
      · exact .inr (.inl h)
      · exact .inl h
      · exact .inr (.inr h)) fun a h => h
    exact (st.trans a1).trans st4
  unfold zip2D at e3
  split at e3
  · cases e3
    have z1 := rp.keep (G' := G4) (H' := H2) st4.g fun _ z => by cases z
    cases z1 with
    | lst h1 h2 =>
      cases rp2 with
      | lst h3 h4 => exact ⟨_, _, _, _, rfl, .inl ⟨s4.sub.sqL h1, s4.sub.sqL h3, fin_i fin s4 (gives_pair h2 h4 (walk_zip rfl) fun H s => ⟨s.sqL h1, s.sqL h3⟩) st' fun a h => h⟩⟩
  · cases e3
    have z1 := rp.keep (G' := G4) (H' := H2) st4.g fun _ z => by cases z
    obtain ⟨a, vs, rfl, h1, h2⟩ := z1.tup_inv
    obtain ⟨b, us, rfl, h3, h4⟩ := rp2.tup_inv
    refine ⟨_, _, _, _, rfl, .inr ⟨s4.sub.sqT h1, s4.sub.sqT h3, fin_i fin s4 (gives_pair h2 h4 (C := fun H => SqT X.K H a vs ∧ SqT X.K H b us) ⟨fun i H hi q => ?_, fun H q => ⟨vs, us, q.1, q.2, by omega⟩, fun i H v H' _ q y => ?_⟩ fun H s => ⟨s.sqT h1, s.sqT h3⟩) st' fun a h => h⟩⟩
    · have h1 : i < vs.length := by omega
      have h2 : i < us.length := by omega
      exact ⟨vs, us, vs[i], us[i], q.1, q.2, by simp [h1], by simp [h2]⟩
    · obtain ⟨T, x, z, g1, g2, g3, g4, g5⟩ := y
      exact ⟨T, x, z, g1, g2, g3, g4 vs q.1, g5 us q.2⟩
  · cases e3
end
end DPy
/-! the small terms tell the truth: targets, comprehensions -/
namespace DPy
open PySem PySem.Spec L2
open PyProof.Rows hiding St

def Kept (keep : List Nat) (σ σ' : St) : Prop := ∀ i ∈ keep, σ'[i]? = σ[i]?
def Off (sl : List Nat) (σ σ' : St) : Prop := σ'.length = σ.length ∧ ∀ i, i ∉ sl → σ'[i]? = σ[i]?
theorem Kept.refl (keep : List Nat) (σ : St) : Kept keep σ σ := fun _ _ => rfl
theorem Kept.trans {keep : List Nat} {a b d : St} (x : Kept keep a b) (y : Kept keep b d) : Kept keep a d := fun i h => (y i h).trans (x i h)
theorem Off.trans {sl sl' : List Nat} {a b d : St} (x : Off sl a b) (y : Off sl' b d) : Off (sl ++ sl') a d :=
  ⟨y.1.trans x.1, fun i h => (y.2 i fun z => h (List.mem_append_right _ z)).trans (x.2 i fun z => h (List.mem_append_left _ z))⟩
def tG (K : PySem.W.Frag) (keep sl : List Nat) (F : D → List D → Option (List D)) : TG := fun v σ H Q => ∃ Γ G f d fp Γ', Sta K G H Γ σ f ∧ Rp K G H v d fp ∧ (∀ a ∈ fp, ¬ Ow f a) ∧ F d Γ = some Γ' ∧
  ∀ σ' f', Sta K G H Γ' σ' f' → Kept keep σ σ' → Off sl σ σ' → (∀ a, Ow f' a → a ∈ fp ∨ Ow f a) → Q σ' H
def tGs (K : PySem.W.Frag) (keep sl : List Nat) (F : List D → List D → Option (List D)) : TGs := fun vs σ H Q => ∃ Γ G f ds Γ', Sta K G H Γ σ f ∧ FzL K G H vs ds ∧ F ds Γ = some Γ' ∧
  ∀ σ' f', Sta K G H Γ' σ' f' → Kept keep σ σ' → Off sl σ σ' → (∀ a, Ow f' a → Ow f a) → Q σ' H
theorem assignEach_len {env : Env} : ∀ {es : List Expr}, (assignEach es env).length = es.length
  | [] => rfl
  | e :: es => by cases e <;> simp [assignEach, assignEach_len (es := es)]
theorem chkGs_star {N : List Str} {sc : Scope} {env : Env} : ∀ {ts : List Tg} {es : List Expr}, chkGs N sc ts es = true → (assignEach es env).findIdx? (·.1) = none
  | [], [], _ => rfl
  | [], _ :: _, h => by simp [chkGs] at h
  | _ :: _, [], h => by simp [chkGs] at h
  | t :: ts, e :: es, h => by
    simp only [chkGs, Bool.and_eq_true] at h
    have ih := chkGs_star (env := env) h.2
    cases t <;> cases e <;> simp [chkG] at h <;> simp [assignEach, List.findIdx?_cons, ih]
theorem tgsD_len {c : Cfg} : ∀ {ts : List Tg} {ds : List D} {g g' : List D}, tgsD c ts ds g = some g' → ds.length = ts.length
  | [], [], _, _, _ => rfl
  | [], _ :: _, _, _, h => by simp [tgsD] at h
  | _ :: _, [], _, _, h => by simp [tgsD] at h
  | t :: ts, d :: ds, g, g', h => by
    simp only [tgsD] at h
    obtain ⟨g1, _, h2⟩ := Option.bind_eq_some_iff.mp h
    simp [tgsD_len h2]
theorem chkGs_len {N : List Str} {sc : Scope} : ∀ {ts : List Tg} {es : List Expr}, chkGs N sc ts es = true → es.length = ts.length
  | [], [], _ => rfl
  | [], _ :: _, h => by simp [chkGs] at h
  | _ :: _, [], h => by simp [chkGs] at h
  | t :: ts, e :: es, h => by
    simp only [chkGs, Bool.and_eq_true] at h
    simp [chkGs_len h.2]
section
variable {X : Cx} {c : Cfg}
mutual
theorem sndG (hc : X.calm = true) (nd : X.N.Nodup) {scT : Scope} (hT : ∀ y, locB scT y = true → Loc X.env.scope y ∧ (X.fn y = true ∨ X.env.scope.names.lookup y = some .local)) : ∀ (t : Tg) (e : Expr), chkG X.N scT t e = true → PG X e (tG X.K c.keep t.slots (tgD c t))
  | .nm i, e, h => by
    cases e <;> simp only [chkG, Bool.and_eq_true, decide_eq_true_eq, Bool.false_eq_true] at h
    rename_i y p
    obtain ⟨hl, hf⟩ := hT y h.2
    refine (pg_name nd h.1 hl hf).imp fun v σ H Q ⟨Γ, G, f, d, fp, Γ', s, r, n, e, q⟩ => ?_
    simp only [tgD, storeD] at e
    split at e
    · rename_i hb
      cases e
      obtain ⟨b1, b2, b3⟩ := hb
      refine q _ _ (s.store r b2 b1 n) (fun j hj => ?_) ⟨by simp, fun j hj => ?_⟩ fun a ha => ha.put_sub
      · exact List.getElem?_set_ne fun z => b3 (by rw [z]; exact hj)
      · exact List.getElem?_set_ne fun z => hj (by simp [Tg.slots, z])
    · cases e
  | .tup ts, e, h => by
    cases e <;> simp only [chkG, Bool.false_eq_true] at h
    rename_i es kk p
    have hs := sndGs hc nd hT ts es h
    have hn : (assignEach es X.env).length = es.length := assignEach_len
    have hst := chkGs_star (env := X.env) h
    refine ((pg_tup (pos := p) (k := kk) hc hs hn hst).or (pg_lst hc hs hn hst)).imp fun v σ H Q ⟨Γ, G, f, d, fp, Γ', s, r, n, e, q⟩ => ?_
    simp only [tgD] at e
    split at e
    · rename_i xs ei
      obtain ⟨a, vs, rfl, h1, h2⟩ := items_inv s.sub r ei
      have hl : vs.length = es.length := by rw [h2.length, tgsD_len e, chkGs_len h]
      have rd : tGs X.K c.keep (Tg.slotsL ts) (tgsD c ts) vs σ H Q := ⟨Γ, G, f, xs, Γ', s, h2, e, fun σ' f' s' k o w => q σ' f' s' k (by simpa [Tg.slots] using o) fun a h => .inr (w a h)⟩
      rcases h1 with h1 | h1
      · exact .inl ⟨a, vs, rfl, h1, hl, rd⟩
      · exact .inr ⟨a, vs, rfl, h1, hl, rd⟩
    · cases e
theorem sndGs (hc : X.calm = true) (nd : X.N.Nodup) {scT : Scope} (hT : ∀ y, locB scT y = true → Loc X.env.scope y ∧ (X.fn y = true ∨ X.env.scope.names.lookup y = some .local)) : ∀ (ts : List Tg) (es : List Expr), chkGs X.N scT ts es = true → PGs X es (tGs X.K c.keep (Tg.slotsL ts) (tgsD c ts))
  | [], es, h => by
    cases es <;> simp only [chkGs, Bool.false_eq_true] at h
    refine pgs_nil.imp fun vs σ H Q ⟨Γ, G, f, ds, Γ', s, r, e, q⟩ => ?_
    cases r with
    | nil => simp only [tgsD, Option.some.injEq] at e; subst e; exact ⟨rfl, q σ f s (Kept.refl _ _) ⟨rfl, fun _ _ => rfl⟩ fun a h => h⟩
    | cons _ _ _ => simp [tgsD] at e
  | t :: ts, es, h => by
    cases es with
    | nil => simp [chkGs] at h
    | cons e es =>
      simp only [chkGs, Bool.and_eq_true] at h
      have h1 := sndG hc nd hT t e h.1
      have h2 := sndGs hc nd hT ts es h.2
      have hs : (assignEach (e :: es) X.env).map (·.2) = assign e X.env :: (assignEach es X.env).map (·.2) := by
        have := h.1
        cases t <;> cases e <;> first | rfl | (simp [chkG] at this)
      refine (pgs_cons h1 h2 hs).imp fun vs σ H Q ⟨Γ, G, f, ds, Γ', s, r, e, q⟩ => ?_
      cases r with
      | nil => simp [tgsD] at e
      | @cons v vs d ds r fz t' =>
        simp only [tgsD] at e
        obtain ⟨Γ1, e1, e2⟩ := Option.bind_eq_some_iff.mp e
        refine ⟨v, vs, rfl, Γ, G, f, d, [], Γ1, s, r, (fun _ z => by cases z), e1, fun σ1 f1 s1 k1 o1 w1 => ?_⟩
        exact ⟨Γ1, G, f1, ds, Γ', s1, t', e2, fun σ2 f2 s2 k2 o2 w2 => q σ2 f2 s2 (k1.trans k2) (by simpa [Tg.slotsL] using o1.trans o2) fun a h => (w1 a (w2 a h)).elim (fun z => by cases z) id⟩
end
end

/-! ### the names of a comprehension -/
theorem wipeD_len : ∀ {own : List Nat} {g : List D}, (wipeD g own).length = g.length
  | [], _ => rfl
  | i :: r, g => by rw [wipeD, wipeD_len]; simp
theorem wipeD_out {i : Nat} : ∀ {own : List Nat} {g : List D}, i ∉ own → (wipeD g own)[i]? = g[i]?
  | [], _, _ => rfl
  | j :: r, g, h => by
    rw [wipeD, wipeD_out fun z => h (List.mem_cons_of_mem _ z)]
    exact List.getElem?_set_ne fun z => h (by simp [z])
theorem wipeD_in {i : Nat} : ∀ {own : List Nat} {g : List D} {d : D}, i ∈ own → (wipeD g own)[i]? = some d → d = .gone
  | [], _, _, h, _ => by cases h
  | j :: r, g, d, h, e => by
    rw [wipeD] at e
    by_cases hr : i ∈ r
    · exact wipeD_in hr e
    · have hj : i = j := by
        rcases List.mem_cons.mp h with z | z
        · exact z
        · exact absurd z hr
      subst hj
      rw [wipeD_out hr] at e
      by_cases hl : i < g.length
      · rw [List.getElem?_set_self hl] at e; exact (Option.some.inj e).symm
      · rw [List.getElem?_eq_none (by simpa using hl)] at e; cases e
theorem unwipe_len {g0 : List D} : ∀ {own : List Nat} {g : List D}, (unwipe g0 g own).length = g.length
  | [], _ => rfl
  | i :: r, g => by rw [unwipe, unwipe_len]; simp
theorem unwipe_out {g0 : List D} {i : Nat} : ∀ {own : List Nat} {g : List D}, i ∉ own → (unwipe g0 g own)[i]? = g[i]?
  | [], _, _ => rfl
  | j :: r, g, h => by
    rw [unwipe, unwipe_out fun z => h (List.mem_cons_of_mem _ z)]
    exact List.getElem?_set_ne fun z => h (by simp [z])
theorem unwipe_in {g0 : List D} {i : Nat} : ∀ {own : List Nat} {g : List D} {d : D}, i ∈ own → (unwipe g0 g own)[i]? = some d → d = g0[i]?.getD .gone
  | [], _, _, h, _ => by cases h
  | j :: r, g, d, h, e => by
    rw [unwipe] at e
    by_cases hr : i ∈ r
    · exact unwipe_in hr e
    · have hj : i = j := by
        rcases List.mem_cons.mp h with z | z
        · exact z
        · exact absurd z hr
      subst hj
      rw [unwipe_out hr] at e
      by_cases hl : i < g.length
      · rw [List.getElem?_set_self hl] at e; exact (Option.some.inj e).symm
      · rw [List.getElem?_eq_none (by simpa using hl)] at e; cases e
theorem wipe_in {σ : St} {i : Nat} : ∀ {own : List Nat}, i ∈ own → (wipe σ own)[i]? = if i < σ.length then some none else none
  | [], h => by cases h
  | j :: r, h => by
    unfold wipe
    by_cases hj : j = i
    · subst hj
      by_cases hl : j < σ.length
      · rw [List.getElem?_set_self (by rw [wipe_length]; exact hl), if_pos hl]
      · rw [List.getElem?_eq_none (by simpa [wipe_length] using hl), if_neg hl]
    · rw [List.getElem?_set_ne hj]
      exact wipe_in (by rcases List.mem_cons.mp h with z | z; exact absurd z.symm hj; exact z)
theorem wipe_eq {own : List Nat} {σ σ2 : St} (hl : σ2.length = σ.length) (h : ∀ i, i ∉ own → σ2[i]? = σ[i]?) : wipe σ2 own = wipe σ own := by
  refine List.ext_getElem? fun i => ?_
  by_cases hi : i ∈ own
  · rw [wipe_in hi, wipe_in hi, hl]
  · rw [wipe_out hi, wipe_out hi, h i hi]
section
variable {K : PySem.W.Frag} {σ : St} {G H G1 H1 : Hp} {Γ Γ1 Γn : List D} {f f1 fn : Fps} {own : List Nat}
theorem mayWipe_at (h : mayWipe Γ own = true) {i : Nat} (hi : i ∈ own) : ∃ d, Γ[i]? = some d ∧ (d.fz = true ∨ d.here = false) := by
  unfold mayWipe at h
  have := List.all_eq_true.mp h i hi
  split at this
  · rename_i d e
    simp only [Bool.or_eq_true, Bool.not_eq_true'] at this
    exact ⟨d, e, this⟩
  · cases this
theorem Sta.wiped (s : Sta K G H Γ σ f) (h : mayWipe Γ own = true) : Sta K G H (wipeD Γ own) (wipe σ own) f := by
  refine ⟨s.sub, by rw [wipeD_len, wipe_length]; exact s.len, fun i d e hd => ?_, fun i q => ?_, s.dis⟩
  · have hi : i ∉ own := fun z => by rw [wipeD_in z e] at hd; simp [D.here] at hd
    rw [wipeD_out hi] at e
    obtain ⟨v, e1, r⟩ := s.there i d e hd
    exact ⟨v, by rw [wipe_out hi]; exact e1, r⟩
  · by_cases hi : i ∈ own
    · obtain ⟨d, e, hd⟩ := mayWipe_at h hi
      rcases hd with hd | hd
      · obtain ⟨v, e1, r⟩ := s.there i d e (D.fz_here hd)
        exact r.fz_nil hd
      · exact s.noth i fun d' e' => by rw [e] at e'; cases e'; exact hd
    · exact s.noth i fun d e => q d (by rw [wipeD_out hi]; exact e)
theorem drops : ∀ (own : List Nat) {Γ : List D} {f : Fps}, Sta K G H Γ σ f → ∃ f', Sta K G H (wipeD Γ own) σ f' ∧ ∀ a, Ow f' a → Ow f a
  | [], Γ, f, s => ⟨f, s, fun _ h => h⟩
  | i :: r, Γ, f, s => by
    obtain ⟨f', s', h⟩ := drops r (s.drop i)
    exact ⟨f', s', fun a z => (h a z).put_sub.elim (fun z => by cases z) id⟩
/-- a turn's end: the comprehension's names are let go -/
theorem Sta.rewipe {σ2 : St} (s : Sta K G H Γ σ2 f) (hw : wipe σ2 own = wipe σ own) : ∃ f', Sta K G H (wipeD Γ own) (wipe σ own) f' ∧ ∀ a, Ow f' a → Ow f a := by
  obtain ⟨f', s', h⟩ := drops own s
  refine ⟨f', ⟨s'.sub, by rw [← hw, wipe_length]; exact s'.len, fun i d e hd => ?_, s'.noth, s'.dis⟩, h⟩
  have hi : i ∉ own := fun z => by rw [wipeD_in z e] at hd; simp [D.here] at hd
  obtain ⟨v, e1, r⟩ := s'.there i d e hd
  exact ⟨v, by rw [← hw, wipe_out hi]; exact e1, r⟩
theorem Sta.unwiped (s1 : Sta K G1 H1 Γ1 σ f1) (h : mayWipe Γ1 own = true) (su : Sub G1 G) (s : Sta K G H (wipeD Γn own) (wipe σ own) fn) : Sta K G H (unwipe Γ1 Γn own) σ fn := by
  have hl : Γn.length = σ.length := by have := s.len; rw [wipeD_len, wipe_length] at this; exact this
  refine ⟨s.sub, by rw [unwipe_len]; exact hl, fun i d e hd => ?_, fun i q => ?_, s.dis⟩
  · by_cases hi : i ∈ own
    · have e0 := unwipe_in hi e
      obtain ⟨d', e', hd'⟩ := mayWipe_at h hi
      rw [e'] at e0
      have e1 : d = d' := e0
      subst e1
      rcases hd' with hd' | hd'
      · obtain ⟨v, e2, r⟩ := s1.there i d e' hd
        have fi : fn i = [] := s.noth i fun d2 q2 => by rw [wipeD_in hi q2]; rfl
        exact ⟨v, e2, by rw [fi]; exact r.fzk hd' su⟩
      · rw [hd] at hd'; cases hd'
    · rw [unwipe_out hi] at e
      obtain ⟨v, e1, r⟩ := s.there i d (by rw [wipeD_out hi]; exact e) hd
      exact ⟨v, by rw [wipe_out hi] at e1; exact e1, r⟩
  · by_cases hi : i ∈ own
    · exact s.noth i fun d2 q2 => by rw [wipeD_in hi q2]; rfl
    · exact s.noth i fun d2 q2 => q d2 (by rw [unwipe_out hi]; rw [wipeD_out hi] at q2; exact q2)

variable {cl : String → Option Addr} {W : WX}
/-- no exception is wished -/
abbrev noW : WX := fun _ _ _ _ => False
/-- from a computation that lets nothing out -/
theorem calm_tM {α β κ : Type} {rel : St → Hp → Hp → κ → α → List Addr → Prop} {σ' : St} {m : M α} {k : α → M β} {l : β → M R} {G0 H0 : Hp} {A0 : Addr → Prop} {Q : V → Hp → Prop} {T : κ → Hp → Prop}
    (s : Sta K G H Γ σ' f) (fin : Fin K cl W (relR K σ) σ G0 H0 A0 ((((m Γ).bind k).calm).bind l) Q)
    (go : ∀ a Γ2 v G2 H2 f2 fp, Sta K G2 H2 Γ2 σ' f2 → rel σ' G2 H2 v a fp → (∀ a ∈ fp, ¬ Ow f2 a) → Stp G H (Ow f) G2 H2 (fun a => a ∈ fp ∨ Ow f2 a) → Fin K cl W (relR K σ) σ G0 H0 A0 (((k a Γ2).calm).bind l) Q → T v H2) : tM K cl noW rel m σ' H T := by
  refine ⟨Γ, G, f, s, ?_⟩
  revert fin
  cases m Γ with
  | stuck => exact fun fin => fin
  | exc x g => exact fun fin => False.elim fin
  | ok a g => exact fun fin v G2 H2 f2 fp s2 r2 d st2 => go a g v G2 H2 f2 fp s2 r2 d st2 fin
theorem lc_read {mi : M (List D)} {keep sl : List Nat} {F : D → List D → Option (List D)} {mt : M Bool} {me : M R} {Q : VK} (hsl : ∀ i ∈ sl, i ∈ own)
    (h : tR K cl W (fun g0 => (mi g0).bind fun xs g => if mayWipe g own then
      (compL (fun x g => match F x (wipeD g own) with
        | some g => ((mt g).bind fun k g => if k then (me g).bind fun r g => (forceM r g).bind fun d g => .ok (some d) g else .ok none g).calm
        | none => .stuck) xs [] g).bind fun ys g' => .ok (.val (.lst true ys)) (unwipe g g' own)
    else .stuck) σ H Q) : tLc (tI K cl W mi) (tG K keep sl F) (tT K cl noW mt) (tR K cl noW me) own σ H Q := by
  obtain ⟨Γ0, G00, f0, s0, fin⟩ := h
  refine tM_stage (rel := relI K) (P := fun _ => False) s0 ((Stp.refl G00 H _).B fun a h => h.elim False.elim id) fin fun xs Γ1 J G1 H1 f1 fp s1 r1 d1 st1 st0 fin1 => ?_
  obtain ⟨gv, rfl⟩ := r1
  obtain ⟨mw, fin1⟩ := if_fin fin1
  have st01 : Stp G00 H (Ow f0) G1 H1 (Ow f1) := st0.B fun a h => .inr (.inr h)
  intro Dd hD
  generalize hstep : (fun (x : D) (g : List D) => match F x (wipeD g own) with
        | some g => ((mt g).bind fun k g => if k then (me g).bind fun r g => (forceM r g).bind fun d g => .ok (some d) g else .ok none g).calm
        | none => .stuck) = step at fin1
  refine lc_it gv (fun i H' => ∃ Γi Gi fi acc accV, Sta K Gi H' (wipeD Γi own) (wipe σ own) fi ∧ H' Dd = some (.lst accV) ∧ Gi Dd = none ∧ ¬ Ow fi Dd ∧ FzL K Gi H' accV acc ∧ Stp G1 H1 (Ow f1) Gi H' (fun a => a = Dd ∨ Ow fi a) ∧
    Fin K cl W (relR K σ) σ G00 H (Ow f0) ((compL step (xs.drop i) acc Γi).bind fun ys g' => .ok (.val (.lst true ys)) (unwipe Γ1 g' own)) Q) ?_ ?_ ?_ ?_
  · exact ⟨Γ1, G1, f1, [], [], (s1.newO hD _).wiped mw, upd_same, s1.sub.none hD, s1.fresh hD, .nil, Stp.newO hD _, fin1⟩
  · rintro i H' _ ⟨Γi, Gi, fi, acc, accV, si, _, _, _, _, st, _⟩
    exact st.g.trans si.sub
  · rintro i v H' H'' hi ⟨Γi, Gi, fi, acc, accV, si, hDi, gDi, nDi, fz, st, fin2⟩ y
    obtain ⟨d, G2, e, dz, s2, r2, st2⟩ := y.go st.g si
    rw [List.drop_eq_getElem_cons hi] at fin2
    have ed : xs[i] = d := by rw [List.getElem?_eq_getElem hi] at e; exact Option.some.inj e
    rw [ed] at fin2
    simp only [compL] at fin2
    rw [← hstep] at fin2
    simp only [] at fin2
    rw [hstep] at fin2
    cases eF : F d (wipeD Γi own) with
    | none => rw [eF] at fin2; exact fin2.elim
    | some Γ2 =>
      rw [eF] at fin2
      simp only [] at fin2
      have D2 := st2.fr Dd _ hDi nDi gDi
      refine ⟨wipeD Γi own, G2, fi, d, [], Γ2, s2, r2, (fun _ z => by cases z), eF, fun σ2 f2 s3 _ off w => ?_⟩
      have hw : wipe σ2 own = wipe σ own := by
        refine wipe_eq (by rw [off.1, wipe_length]) fun j hj => ?_
        rw [off.2 j fun z => hj (hsl j z), wipe_out hj]
      have w' : ∀ a, Ow f2 a → Ow fi a := fun a h => (w a h).elim (fun z => by cases z) id
      refine ⟨hw.trans (by
        refine List.ext_getElem? fun j => ?_
        by_cases hj : j ∈ own
        · simp only [wipe_in hj, wipe_length]
        · simp only [wipe_out hj]), ?_⟩
      rw [Out.bind_assoc] at fin2
      refine calm_tM (rel := relB) s3 fin2 fun b Γ3 bv G3 H3 f3 fp3 s4 r4 d4 st4 fin3 => ?_
      obtain ⟨rfl, rfl⟩ := r4
      have D3 := st4.fr Dd _ D2.1 (fun z => nDi (w' _ z)) D2.2.1
      have nD3 : ¬ Ow f3 Dd := fun z => D3.2.2 (.inr z)
      have stA : Stp Gi H' (Ow fi) G3 H3 (Ow f3) := (st2.trans ((st4.sub (A' := Ow fi) w' fun _ h => h))).B fun a h => .inr h
      have stB : Stp G1 H1 (Ow f1) G3 H3 (fun a => a = Dd ∨ Ow f3 a) := st.trans (stA.aside fun a => a = Dd)
      cases bv with
      | false =>
        rw [if_neg (by decide)]
        simp only [Bool.false_eq_true, if_false, Out.calm, Out.bind] at fin3
        obtain ⟨f5, s5, w5⟩ := s4.rewipe hw
        exact ⟨Γ3, G3, f5, acc, accV, s5, D3.1, D3.2.1, fun z => nD3 (w5 _ z), fz.keep stA.g, stB.B fun a h => h.imp id (w5 a), fin3⟩
      | true =>
        rw [if_pos rfl]
        simp only [if_true] at fin3
        refine calm_tM (rel := relR K) s4 fin3 fun r Γ4 v4 G4 H4 f4 fp4 s5 r5 d5 st5 fin4 => ?_
        have D4 := st5.fr Dd _ D3.1 nD3 D3.2.1
        cases ef : r.force Γ4 with
        | none => simp only [forceM, ef, Out.bind, Out.calm] at fin4; exact fin4.elim
        | some q =>
          obtain ⟨dd, Γ5⟩ := q
          simp only [forceM, ef, Out.bind, Out.calm] at fin4
          obtain ⟨G6, f6, s6, rp, st6⟩ := RR.force s5 r5 d5 ef
          have D6 := st6.fr Dd _ D4.1 (fun z => D4.2.2 z) D4.2.1
          by_cases hl : acc.length < sizeLine
          case neg => rw [if_neg hl] at fin4; exact fin4.elim
          rw [if_pos hl] at fin4
          have fin5 := fin4
          have stC : Stp Gi H' (Ow fi) G6 H4 (Ow f6) := (stA.trans st5).trans st6
          have fz6 := fz.keep (H' := H4) stC.g
          have neD : ∀ a, Ow f6 a → a ≠ Dd := fun a h z => D6.2.2 (z ▸ h)
          refine ⟨accV, D6.1, by rw [fz6.length]; exact hl, ?_⟩
          obtain ⟨f7, s7, w7⟩ := Sta.rewipe (G := G6) (H := upd H4 Dd (.lst (accV ++ [v4]))) (f := f6) ⟨fun a o h => by
              have ne : a ≠ Dd := fun z => by rw [z, D6.2.1] at h; cases h
              rw [upd_ne ne]; exact s6.sub a o h, s6.len, fun j dj ej hj => by
              obtain ⟨vj, e1, rj⟩ := s6.there j dj ej hj
              exact ⟨vj, e1, rj.keep (.refl _) fun a ha => ⟨upd_ne (neD a ⟨j, ha⟩), (s6.ow ⟨j, ha⟩).1⟩⟩, s6.noth, s6.dis⟩ hw
          refine ⟨Γ5, G6, f7, acc ++ [dd], accV ++ [v4], s7, upd_same, D6.2.1, fun z => neD Dd (w7 _ z) rfl, (fz6.keep (.refl _)).snoc (rp.keep (.refl _) fun _ z => by cases z) (force_fz ef), ?_, fin5⟩
          have stD : Stp G1 H1 (Ow f1) G6 H4 (fun a => a = Dd ∨ Ow f6 a) := st.trans (stC.aside fun a => a = Dd)
          refine ⟨stD.g, fun a o h n g => ?_⟩
          obtain ⟨q1, q2, q3⟩ := stD.fr a o h n g
          have ne : a ≠ Dd := fun z => q3 (.inl z)
          exact ⟨by rw [upd_ne ne]; exact q1, q2, fun z => z.elim ne fun z => q3 (.inr (w7 a z))⟩
  · rintro H' ⟨Γi, Gi, fi, acc, accV, si, hDi, gDi, nDi, fz, st, fin2⟩
    rw [List.drop_of_length_le (Nat.le_refl _)] at fin2
    simp only [compL, Out.bind] at fin2
    have su := st.g
    have s9 := Sta.unwiped s1 mw su si
    refine fin2 (.ref Dd) Gi H' fi [Dd] s9 (.own gDi hDi fz) (fun a h z => ?_) ((st01.trans st).B fun a h => ?_)
    · simp at h; subst h; exact nDi z
    · rcases h with h | h
      · simp at h; exact .inl h
      · exact .inr h
end
end DPy
/-! the small terms tell the truth: expressions -/
namespace DPy
open PySem PySem.Spec L2
open PyProof.Rows hiding St

section
variable {cl : String → Option Addr} {c : Cfg}
theorem Ctx.blk {W : WX} {X : Cx} {k : Nat} (C : Ctx cl c W X k) (s : Shared) (H : Hp) (scope : Scope) (C' : Addr) (l : List (Str × Addr)) (fp : List Addr) : Ctx cl c noW (X.blk s H scope (compEnvC scope l C' X.env) fp) k :=
  ⟨C.calm, C.nd, C.room, C.grd, PassesOwn.never, takes_none5, C.gl⟩
theorem Ctx.hu {W : WX} {X : Cx} {k : Nat} (C : Ctx cl c W X k) : X.A.units + 64 < cLine := C.room.units
theorem blk_loc {X : Cx} {scope : Scope} {s : Shared} {H : Hp} {C' : Addr} {l : List (Str × Addr)} {fp : List Addr} : ∀ y, locB scope y = true → Loc (X.blk s H scope (compEnvC scope l C' X.env) fp).env.scope y ∧ ((X.blk s H scope (compEnvC scope l C' X.env) fp).fn y = true ∨ (X.blk s H scope (compEnvC scope l C' X.env) fp).env.scope.names.lookup y = some .local) := by
  intro y h
  rcases loc_of h with q | q
  · have e : (relS scope X.env.scope).names.lookup y = some .local := lookup_relS_keep (by decide) q
    exact ⟨.inl e, .inr e⟩
  · have e : (relS scope X.env.scope).names.lookup y = some .cell := lookup_relS_keep (by decide) q
    exact ⟨.inr e, .inl (by show (scope.names.lookup y == some .cell) = true; rw [q]; rfl)⟩
theorem noStar_all {e : Expr} {es : List Expr} (h1 : noStarB [e] = true) (h2 : noStarB es = true) : noStarB (e :: es) = true := by
  cases e <;> first | exact h2 | (simp [noStarB] at h1)
/-- what append asks of the syntax -/
theorem app_few {v : Expr} {env : Env} {cp : Pos} (h : noStarB [v] = true) : ((backTo cp (starEach (v :: []) env)).all (fun x => !x.1) && (backToKw cp (keywordEach [] env)).all (fun x => x.1.isSome)
      && decide ((v :: ([] : List Expr)).length + ([] : List Keyword).length + (if ([] : List Keyword).isEmpty then 0 else 1) < 30)) = true := by
  rw [starEach_of h]; rfl
theorem snd_app {W : WX} {X : Cx} {k : Nat} {y m : Str} {p ap cp : Pos} {v : Expr} {ma mb : M R} (C : Ctx cl c W X k) (hm : m = ("append" : Str)) (hl : (ap.endLine == cp.line) = true) (hs : noStarB [v] = true) (h1 : PE X (.Name y p) (tR X.K cl W ma)) (h2 : PE X v (tR X.K cl W mb)) :
    PE X (.Call (.Attribute (.Name y p) m ap) [v] [] cp) (tR X.K cl W (fun g => (ma g).bind fun r g => match r with
    | .val _ => .stuck
    | .at i => if isOwnL g i then (mb g).bind fun s g => (forceM s g).bind fun d g => ofA (g[i]?.bind (appD d)) i g else .stuck)) := by
  subst hm
  refine (pe_bm PySem.F.plainAttrs_list PySem.F.slot_list_append PySem.F.type_list_append mt_append h1 (pa_cons h2 pa_nil (starEach_of hs)) rfl (app_few hs) hl (starEach_of hs) rfl).imp fun σ H Q h => at1' (rel2 := relR X.K) h fun x H1 G0 H0 A0 Γ G f r fx s rx dx st fin => ?_
  cases r with
  | val d => exact fin.elim
  | «at» i =>
    obtain ⟨ex, rfl⟩ := rx
    obtain ⟨ho, fin⟩ := if_fin (p := isOwnL Γ i = true) fin
    have own : ∀ {G H Γ f}, Sta X.K G H Γ σ f → isOwnL Γ i = true → ∃ a vs xs, x = .ref a ∧ Γ[i]? = some (.lst true xs) ∧ G a = none ∧ H a = some (.lst vs) ∧ FzL X.K G H vs xs ∧ f i = [a] := fun {G H Γ f} s ho => by
      unfold isOwnL at ho
      split at ho
      · rename_i xs e1
        obtain ⟨v', e2, rp⟩ := s.there i _ e1 rfl
        rw [ex] at e2; cases e2
        revert rp
        generalize hfi : f i = l
        intro rp
        cases rp with
        | own q1 q2 q3 => exact ⟨_, _, xs, rfl, e1, q1, q2, q3, rfl⟩
      · cases ho
    obtain ⟨a, vs, xs, rfl, e1, q1, q2, q3, q4⟩ := own s ho
    refine ⟨.inl ⟨rfl, vs, .inl (.inl q2)⟩, ?_⟩
    refine tM_stage (rel := relR X.K) (P := fun _ => False) s (st.B fun a h => .inr (h.elim False.elim id)) fin fun t Γ2 w G2 H2 f2 fp s2 r2 d st2 st3 fin2 => ?_
    obtain ⟨dd, Γ3, ef, fin3⟩ := force_fin fin2
    obtain ⟨G3, f3, s3, rp, st4⟩ := RR.force s2 r2 d ef
    have st5 : Stp G0 H0 A0 G3 H2 (Ow f3) := (st3.B fun a h => .inr h).trans st4
    cases e4 : Γ3[i]?.bind (appD dd) with
    | none => rw [e4] at fin3; exact fin3.elim
    | some d4 =>
      rw [e4] at fin3
      obtain ⟨d5, e5, e6⟩ := Option.bind_eq_some_iff.mp e4
      unfold appD at e6
      split at e6
      · rename_i ys
        split at e6
        · rename_i hlen
          cases e6
          obtain ⟨a', us, ys', e7, e8, p1, p2, p3, p4⟩ := own s3 (by unfold isOwnL; rw [e5])
          cases e7
          rw [e5] at e8; cases e8
          refine ⟨a, us, w, rfl, rfl, p2, by rw [p3.length]; exact hlen, ?_⟩
          have ne : ∀ {b o}, G3 b = some o → b ≠ a := fun {b o} e z => by rw [z, p1] at e; cases e
          have hi : i < Γ3.length := (List.getElem?_eq_some_iff.mp e5).1
          have s4 : Sta X.K G3 (upd H2 a (.lst (us ++ [w]))) (Γ3.set i (.lst true (ys ++ [dd]))) σ (f3.put i [a]) :=
            s3.change (.refl _) (fun b o e => by rw [upd_ne (ne e)]; exact s3.sub b o e)
              (fun j b hj hb => ⟨upd_ne fun z => hj (s3.dis j i b hb (by rw [p4]; simp [z])), (s3.ow ⟨j, hb⟩).1⟩)
              hi ex (.own p1 upd_same ((p3.keep (.refl _)).snoc (rp.keep (.refl _) fun _ z => by cases z) (force_fz ef))) rfl
              fun j b hj hb hz => hj (s3.dis j i b hb (by rw [p4]; exact hz))
          refine Fin.fz fin3 s4 .non (B := Ow f3) ⟨st5.g, fun b o h n g => ?_⟩ fun b hb => ?_
          · obtain ⟨t1, t2, t3⟩ := st5.fr b o h n g
            refine ⟨by rw [upd_ne fun z => t3 ⟨i, by rw [p4]; simp [z]⟩]; exact t1, t2, t3⟩
          · rcases hb.put_sub with z | z
            · exact ⟨i, by rw [p4]; exact z⟩
            · exact z
        · cases e6
      · cases e6
mutual
theorem sndR : ∀ (a : Ex) {W : WX} {X : Cx} {k : Nat} {e : Expr}, Ctx cl c W X k → chkE X.N X.env.scope a e = true → PE X e (tR X.K cl W (evR c a))
  | .nm i, W, X, k, e, C, h => by
    unfold chkE at h
    split at h <;> first | (cases h; done) | (rename_i q; cases q)
    simp only [Bool.and_eq_true, decide_eq_true_eq] at h
    exact snd_nm h.1.1 (vis_of h.1.2) h.2
  | .gl x, W, X, k, e, C, h => by
    unfold chkE at h
    split at h <;> first | (cases h; done) | (rename_i q; cases q)
    simp only [Bool.and_eq_true, decide_eq_true_eq] at h
    obtain ⟨⟨rfl, h2⟩, h3⟩ := h
    exact snd_gl C (glb_of h2) h3
  | .int n, W, X, k, e, C, h => by
    unfold chkE at h
    split at h <;> first | (cases h; done) | (rename_i q; cases q)
    obtain rfl := of_decide_eq_true h
    exact snd_con (v := .int n) (d := .int n) rfl rfl (by funext g; simp only [evR]) pe_int
  | .bl n, W, X, k, e, C, h => by
    unfold chkE at h
    split at h <;> first | (cases h; done) | (rename_i q; cases q)
    obtain rfl := of_decide_eq_true h
    exact snd_con (v := .bl n) (d := .bl n) rfl rfl (by funext g; simp only [evR]) pe_bl
  | .non, W, X, k, e, C, h => by
    unfold chkE at h
    split at h <;> first | (cases h; done) | (rename_i q; cases q)
    exact snd_con (v := .non) (d := .non) rfl rfl (by funext g; simp only [evR]) pe_non
  | .str n, W, X, k, e, C, h => by
    unfold chkE at h
    split at h <;> first | (cases h; done) | (rename_i q; cases q)
    obtain rfl := of_decide_eq_true h
    exact snd_con (v := .str n) (d := .str n) rfl rfl (by funext g; simp only [evR]) pe_str
  | .bin op a b, W, X, k, e, C, h => by
    unfold chkE at h
    split at h <;> first | (cases h; done) | (rename_i q; cases q)
    simp only [Bool.and_eq_true, decide_eq_true_eq] at h
    obtain ⟨⟨rfl, h2⟩, h3⟩ := h
    simp only [evR]
    exact snd_bin (sndR a C h2) (sndR b C h3)
  | .neg a, W, X, k, e, C, h => by
    unfold chkE at h
    split at h <;> first | (cases h; done) | (rename_i q; cases q)
    simp only [evR]
    exact snd_neg (sndR a C h)
  | .cmp op a b, W, X, k, e, C, h => by
    unfold chkE at h
    split at h <;> first | (cases h; done) | (rename_i q; cases q)
    simp only [Bool.and_eq_true, decide_eq_true_eq, Bool.not_eq_true'] at h
    obtain ⟨⟨⟨rfl, h2⟩, h3⟩, h4⟩ := h
    simp only [evR]
    exact snd_cmp C.hu h4 (sndR a C h2) (sndR b C h3)
  | .chn o p a b d, W, X, k, e, C, h => by
    unfold chkE at h
    split at h <;> first | (cases h; done) | (rename_i q; cases q)
    simp only [Bool.and_eq_true, decide_eq_true_eq, Bool.not_eq_true'] at h
    obtain ⟨⟨⟨⟨⟨rfl, rfl⟩, h2⟩, h3⟩, h4⟩, h5⟩ := h
    simp only [evR]
    exact snd_chn C.hu h5 (sndR a C h2) (sndR b C h3) (sndR d C h4)
  | .and es, W, X, k, e, C, h => by
    unfold chkE at h
    split at h <;> first | (cases h; done) | (rename_i q; cases q)
    simp only [Bool.and_eq_true, decide_eq_true_eq] at h
    simp only [evR]
    exact sndAndV es C h.1 (by intro z; simp [z] at h)
  | .or es, W, X, k, e, C, h => by
    unfold chkE at h
    split at h <;> first | (cases h; done) | (rename_i q; cases q)
    simp only [Bool.and_eq_true, decide_eq_true_eq] at h
    simp only [evR]
    exact sndOrV es C h.1 (by intro z; simp [z] at h)
  | .not a, W, X, k, e, C, h => by
    unfold chkE at h
    split at h <;> first | (cases h; done) | (rename_i q; cases q)
    simp only [evR]
    exact snd_not (sndR a C h)
  | .ite t a b, W, X, k, e, C, h => by
    unfold chkE at h
    split at h <;> first | (cases h; done) | (rename_i q; cases q)
    simp only [Bool.and_eq_true] at h
    simp only [evR]
    exact snd_ite (sndT t C h.1.1) (sndR a C h.1.2) (sndR b C h.2)
  | .tup es, W, X, k, e, C, h => by
    unfold chkE at h
    split at h <;> first | (cases h; done) | (rename_i q; cases q)
    simp only [evR]
    exact snd_tup (sndRs es C h)
  | .lst es, W, X, k, e, C, h => by
    unfold chkE at h
    split at h <;> first | (cases h; done) | (rename_i q; cases q)
    simp only [evR]
    exact snd_lst (sndRs es C h)
  | .sub a b, W, X, k, e, C, h => by
    unfold chkE at h
    split at h <;> first | (cases h; done) | (rename_i q; cases q)
    simp only [Bool.and_eq_true] at h
    simp only [evR]
    exact snd_sub (plainIx_of h.2) (sndR a C h.1.1) (sndR b C h.1.2)
  | .slc a lo hi, W, X, k, e, C, h => by
    unfold chkE at h
    split at h <;> first | (cases h; done) | (rename_i q; cases q)
    simp only [Bool.and_eq_true] at h
    simp only [evR]
    exact snd_slc (sndR a C h.1.1) (sndP lo C h.1.2) (sndP hi C h.2)
  | .rev a, W, X, k, e, C, h => by
    unfold chkE at h
    cases h
  | .call f es, W, X, k, e, C, h => by
    cases hF : c.fn f with
    | none =>
      simp only [evR, hF]
      exact stuck_pe fun g => rfl
    | some F =>
      unfold chkE at h
      split at h <;> first | (cases h; done) | (rename_i q; cases q)
      · simp only [Bool.and_eq_true, decide_eq_true_eq] at h
        obtain ⟨⟨⟨⟨rfl, h2⟩, h3⟩, h4⟩, h5⟩ := h
        simp only [evR, hF]
        exact snd_call C (glb_of h2) h3 h5 hF (sndRs es C h4)
      · simp only [Bool.and_eq_true, decide_eq_true_eq] at h
        obtain ⟨⟨rfl, h2⟩, h3⟩ := h
        simp only [evR, hF]
        exact snd_call0 C (glb_of h2) h3 hF
  | .cb f es, W, X, k, e, C, h => by
    unfold chkE at h
    split at h <;> first | (cases h; done) | (rename_i q; cases q)
    simp only [Bool.and_eq_true, decide_eq_true_eq] at h
    obtain ⟨⟨⟨⟨rfl, h2⟩, h3⟩, h4⟩, h5⟩ := h
    simp only [evR]
    exact snd_cb C (glb_of h2) h3 h5 (sndRs es C h4)
  | .app a b, W, X, k, e, C, h => by
    unfold chkE at h
    split at h <;> first | (cases h; done) | (rename_i q; cases q)
    simp only [Bool.and_eq_true, decide_eq_true_eq] at h
    obtain ⟨⟨⟨⟨h1, h2⟩, h3⟩, h4⟩, h5⟩ := h
    simp only [evR]
    exact snd_app C h1 h5 h4 (sndR a C h2) (sndR b C h3)
  | .lc b t it cs own, W, X, k, e, C, h => by
    unfold chkE at h
    split at h <;> first | (cases h; done) | (rename_i q; cases q)
    rename_i elt tg iter ifs scope p
    simp only [Bool.and_eq_true, List.all_eq_true, decide_eq_true_eq] at h
    obtain ⟨⟨⟨⟨⟨⟨h1, h2⟩, h3⟩, h4⟩, h5⟩, h6⟩, h7⟩ := h
    simp only [evR]
    have q := pe_lc (pos := p) (tt := tT X.K cl noW (evTs c cs)) (te := tR X.K cl noW (evR c b)) (g := tG X.K [] t.slots (tgD { c with keep := [] } t)) C.calm C.nd (sndI it C h4) (blkOk_by h1) (fun s H C' l fp => sndG (c := { c with keep := [] }) (X := X.blk s H scope (compEnvC scope l C' X.env) fp) C.calm C.nd blk_loc t tg h5)
      (fun s H C' l fp => sndTs cs (C.blk s H scope C' l fp) h6) (fun s H C' l fp => sndR b (C.blk s H scope C' l fp) h7) (fold_of h3)
    refine q.imp fun σ H Q hq => ?_
    have e1 : (own.map fun (x, i) => (Str.ofString x, i)).map (·.2) = own.map (·.2) := by rw [List.map_map]; rfl
    rw [e1]
    exact lc_read h2 hq
theorem sndRs : ∀ (as : List Ar) {W : WX} {X : Cx} {k : Nat} {es : List Expr}, Ctx cl c W X k → chkEs X.N X.env.scope as es = true → PA X es (tRs X.K cl W (evRs c as))
  | [], W, X, k, es, C, h => by
    cases es with
    | nil => exact snd_nil
    | cons e es => simp [chkEs] at h
  | .star a :: as, W, X, k, es, C, h => by
    unfold chkEs at h
    split at h <;> first | (cases h; done) | (rename_i q; cases q)
    simp only [Bool.and_eq_true] at h
    simp only [evRs]
    exact snd_star (sndR a C h.1) (sndRs as C h.2)
  | .e a :: as, W, X, k, es, C, h => by
    cases es with
    | nil => simp [chkEs] at h
    | cons e es =>
      simp only [chkEs, Bool.and_eq_true] at h
      simp only [evRs]
      exact snd_cons h.1.2 (sndR a C h.1.1) (sndRs as C h.2)
theorem sndP : ∀ (lo : List Ar) {W : WX} {X : Cx} {k : Nat} {l : Option Expr}, Ctx cl c W X k → (match l with | none => lo.isEmpty | some l => chkEs X.N X.env.scope lo [l] && noStarB [l]) = true → PO X l (tM X.K cl W relP (partM (evRs c lo)))
  | [], W, X, k, none, C, h => snd_part0
  | _ :: _, W, X, k, none, C, h => by simp at h
  | [], W, X, k, some l, C, h => by simp [chkEs] at h
  | .star a :: as, W, X, k, some l, C, h => by
    simp only [Bool.and_eq_true] at h
    obtain ⟨h, h2⟩ := h
    cases l <;> simp [chkEs] at h
    simp [noStarB] at h2
  | .e a :: [], W, X, k, some l, C, h => by
    simp only [Bool.and_eq_true, chkEs] at h
    exact snd_part1 (sndR a C h.1.1.1)
  | .e a :: b :: as, W, X, k, some l, C, h => by
    simp only [Bool.and_eq_true, chkEs] at h
    simp [chkEs] at h
theorem sndAndV : ∀ (as : List Ex) {W : WX} {X : Cx} {k : Nat} {es : List Expr} {p : Pos}, Ctx cl c W X k → chkXs X.N X.env.scope as es = true → as ≠ [] → PE X (.BoolOp .And es p) (tR X.K cl W (fun g => (evAndV c as g).bind fun b g => .ok (.val (.bl b)) g))
  | [], _, _, _, _, _, _, _, n => absurd rfl n
  | [a], W, X, k, es, p, C, h, _ => by
    cases es with
    | nil => simp [chkXs] at h
    | cons e es =>
      cases es with
      | cons _ _ => simp [chkXs] at h
      | nil =>
        simp only [chkXs, Bool.and_eq_true, and_true] at h
        refine (snd_and1 (sndR a C h)).imp fun σ H Q hq => ?_
        have key : (fun g => (evAndV c [a] g).bind fun b g => (.ok (.val (.bl b)) g : Out R)) = fun g => (evR c a g).bind fun r g => match r.see g with | .bl b => .ok (.val (.bl b)) g | _ => .stuck := by
          funext g
          simp only [evAndV, Out.bind_assoc]
          congr 1
          funext r g
          generalize r.see g = d
          cases d <;> rfl
        rw [key] at hq
        exact hq
  | a :: b :: as, W, X, k, es, p, C, h, _ => by
    cases es with
    | nil => simp [chkXs] at h
    | cons e es =>
      cases es with
      | nil => simp [chkXs] at h
      | cons e' es =>
        have h' := h
        simp only [chkXs, Bool.and_eq_true] at h
        have r := sndAndV (b :: as) (p := p) C (es := e' :: es) (by simp only [chkXs, Bool.and_eq_true]; exact h.2) (by simp)
        refine (snd_and2 (sndR a C h.1) r).imp fun σ H Q hq => ?_
        have key : (fun g => (evAndV c (a :: b :: as) g).bind fun b g => (.ok (.val (.bl b)) g : Out R)) = fun g => (evR c a g).bind fun r g => match r.see g with | .bl k => (if k then (evAndV c (b :: as) g).bind fun b g => .ok (.val (.bl b)) g else .ok (.val (.bl false)) g) | _ => .stuck := by
          funext g
          rw [evAndV, Out.bind_assoc]
          · congr 1
            funext r g
            generalize r.see g = d
            cases d <;> first | rfl | (rename_i k; cases k <;> rfl)
          · intro z; cases z
        rw [key] at hq
        exact hq
theorem sndOrV : ∀ (as : List Ex) {W : WX} {X : Cx} {k : Nat} {es : List Expr} {p : Pos}, Ctx cl c W X k → chkXs X.N X.env.scope as es = true → as ≠ [] → PE X (.BoolOp .Or es p) (tR X.K cl W (fun g => (evOrV c as g).bind fun b g => .ok (.val (.bl b)) g))
  | [], _, _, _, _, _, _, _, n => absurd rfl n
  | [a], W, X, k, es, p, C, h, _ => by
    cases es with
    | nil => simp [chkXs] at h
    | cons e es =>
      cases es with
      | cons _ _ => simp [chkXs] at h
      | nil =>
        simp only [chkXs, Bool.and_eq_true, and_true] at h
        refine (snd_or1 (sndR a C h)).imp fun σ H Q hq => ?_
        have key : (fun g => (evOrV c [a] g).bind fun b g => (.ok (.val (.bl b)) g : Out R)) = fun g => (evR c a g).bind fun r g => match r.see g with | .bl b => .ok (.val (.bl b)) g | _ => .stuck := by
          funext g
          simp only [evOrV, Out.bind_assoc]
          congr 1
          funext r g
          generalize r.see g = d
          cases d <;> rfl
        rw [key] at hq
        exact hq
  | a :: b :: as, W, X, k, es, p, C, h, _ => by
    cases es with
    | nil => simp [chkXs] at h
    | cons e es =>
      cases es with
      | nil => simp [chkXs] at h
      | cons e' es =>
        simp only [chkXs, Bool.and_eq_true] at h
        have r := sndOrV (b :: as) (p := p) C (es := e' :: es) (by simp only [chkXs, Bool.and_eq_true]; exact h.2) (by simp)
        refine (snd_or2 (sndR a C h.1) r).imp fun σ H Q hq => ?_
        have key : (fun g => (evOrV c (a :: b :: as) g).bind fun b g => (.ok (.val (.bl b)) g : Out R)) = fun g => (evR c a g).bind fun r g => match r.see g with | .bl k => (if k then .ok (.val (.bl true)) g else (evOrV c (b :: as) g).bind fun b g => .ok (.val (.bl b)) g) | _ => .stuck := by
          funext g
          rw [evOrV, Out.bind_assoc]
          · congr 1
            funext r g
            generalize r.see g = d
            cases d <;> first | rfl | (rename_i k; cases k <;> rfl)
          · intro z; cases z
        rw [key] at hq
        exact hq
theorem sndT : ∀ (t : Tx) {W : WX} {X : Cx} {k : Nat} {e : Expr}, Ctx cl c W X k → chkT X.N X.env.scope t e = true → PT X e (tT X.K cl W (evT c t))
  | .not t, W, X, k, e, C, h => by
    unfold chkT at h
    split at h <;> first | (cases h; done) | (rename_i q; cases q)
    simp only [evT]
    exact sndT_not (sndT t C h)
  | .and ts, W, X, k, e, C, h => by
    unfold chkT at h
    split at h <;> first | (cases h; done) | (rename_i q; cases q)
    simp only [Bool.and_eq_true, decide_eq_true_eq] at h
    simp only [evT]
    exact (sndAnd ts C h.1 (by intro z; simp [z] at h)).pt
  | .or ts, W, X, k, e, C, h => by
    unfold chkT at h
    split at h <;> first | (cases h; done) | (rename_i q; cases q)
    simp only [Bool.and_eq_true, decide_eq_true_eq] at h
    simp only [evT]
    exact (sndOr ts C h.1 (by intro z; simp [z] at h)).pt
  | .cmp op a b, W, X, k, e, C, h => by
    unfold chkT at h
    split at h <;> first | (cases h; done) | (rename_i q; cases q)
    simp only [Bool.and_eq_true, decide_eq_true_eq, Bool.not_eq_true'] at h
    obtain ⟨⟨⟨rfl, h2⟩, h3⟩, h4⟩ := h
    simp only [evT]
    exact sndT_cmp C.hu h4 (sndR a C h2) (sndR b C h3)
  | .chn o p a b d, W, X, k, e, C, h => by
    unfold chkT at h
    split at h <;> first | (cases h; done) | (rename_i q; cases q)
    simp only [Bool.and_eq_true, decide_eq_true_eq, Bool.not_eq_true'] at h
    obtain ⟨⟨⟨⟨⟨rfl, rfl⟩, h2⟩, h3⟩, h4⟩, h5⟩ := h
    simp only [evT]
    exact sndT_chn C.hu h5 (sndR a C h2) (sndR b C h3) (sndR d C h4)
  | .ex a, W, X, k, e, C, h => by
    unfold chkT at h
    simp only [Bool.and_eq_true] at h
    simp only [evT]
    exact sndT_ex h.2 (sndR a C h.1)
theorem sndAnd : ∀ (ts : List Tx) {W : WX} {X : Cx} {k : Nat} {es : List Expr} {p : Pos}, Ctx cl c W X k → chkTs X.N X.env.scope ts es = true → ts ≠ [] → PW X (.BoolOp .And es p) (tT X.K cl W (evAnd c ts))
  | [], _, _, _, _, _, _, _, n => absurd rfl n
  | [t], W, X, k, es, p, C, h, _ => by
    cases es with
    | nil => simp [chkTs] at h
    | cons e es =>
      cases es with
      | cons _ _ => simp [chkTs] at h
      | nil =>
        simp only [chkTs, Bool.and_eq_true, and_true] at h
        simp only [evAnd]
        exact sndT_and1 (sndT t C h)
  | t :: u :: ts, W, X, k, es, p, C, h, _ => by
    cases es with
    | nil => simp [chkTs] at h
    | cons e es =>
      cases es with
      | nil => simp [chkTs] at h
      | cons e' es =>
        simp only [chkTs, Bool.and_eq_true] at h
        have r := sndAnd (u :: ts) (p := p) C (es := e' :: es) (by simp only [chkTs, Bool.and_eq_true]; exact h.2) (by simp)
        have q := sndT_and2 (pos := p) (sndT t C h.1) r
        unfold evAnd
        exact q
theorem sndOr : ∀ (ts : List Tx) {W : WX} {X : Cx} {k : Nat} {es : List Expr} {p : Pos}, Ctx cl c W X k → chkTs X.N X.env.scope ts es = true → ts ≠ [] → PW X (.BoolOp .Or es p) (tT X.K cl W (evOr c ts))
  | [], _, _, _, _, _, _, _, n => absurd rfl n
  | [t], W, X, k, es, p, C, h, _ => by
    cases es with
    | nil => simp [chkTs] at h
    | cons e es =>
      cases es with
      | cons _ _ => simp [chkTs] at h
      | nil =>
        simp only [chkTs, Bool.and_eq_true, and_true] at h
        simp only [evOr]
        exact sndT_or1 (sndT t C h)
  | t :: u :: ts, W, X, k, es, p, C, h, _ => by
    cases es with
    | nil => simp [chkTs] at h
    | cons e es =>
      cases es with
      | nil => simp [chkTs] at h
      | cons e' es =>
        simp only [chkTs, Bool.and_eq_true] at h
        have r := sndOr (u :: ts) (p := p) C (es := e' :: es) (by simp only [chkTs, Bool.and_eq_true]; exact h.2) (by simp)
        have q := sndT_or2 (pos := p) (sndT t C h.1) r
        unfold evOr
        exact q
theorem sndTs : ∀ (ts : List Tx) {W : WX} {X : Cx} {k : Nat} {es : List Expr}, Ctx cl c W X k → chkTs X.N X.env.scope ts es = true → PTs X es (tT X.K cl W (evTs c ts))
  | [], W, X, k, es, C, h => by
    cases es with
    | cons _ _ => simp [chkTs] at h
    | nil =>
      refine ⟨fun pins s σ H Q I ⟨Γ, G, f, st, fin⟩ => pts_nil.run pins s σ H Q I ?_⟩
      simp only [evTs] at fin
      exact fin_b (b := true) fin st (Stp.refl _ _ _) fun a h => h
  | [t], W, X, k, es, C, h => by
    cases es with
    | nil => simp [chkTs] at h
    | cons e es =>
      cases es with
      | cons _ _ => simp [chkTs] at h
      | nil =>
        simp only [chkTs, Bool.and_eq_true, and_true] at h
        simp only [evTs]
        exact pts_one (sndT t C h)
  | _ :: _ :: _, W, X, k, es, C, h => by
    simp only [evTs]
    exact ⟨fun pins s σ H Q I ⟨Γ, G, f, st, fin⟩ => fin.elim⟩
theorem sndI : ∀ (t : It) {W : WX} {X : Cx} {k : Nat} {tg e : Expr}, Ctx cl c W X k → chkI X.N X.env.scope t tg e = true → PI X tg e (tI X.K cl W (evI c t))
  | .ex a, W, X, k, tg, e, C, h => by
    unfold chkI at h
    simp only [Bool.and_eq_true] at h
    simp only [evI]
    exact snd_iter (sndR a C h.1)
  | .rng1 a, W, X, k, tg, e, C, h => by
    unfold chkI at h
    split at h <;> first | (cases h; done) | (rename_i q; cases q)
    simp only [Bool.and_eq_true, decide_eq_true_eq] at h
    obtain ⟨⟨⟨rfl, h2⟩, h3⟩, h4⟩ := h
    simp only [evI]
    exact snd_rng1 C (glb_of h2) h4 (sndR a C h3)
  | .rng2 a b, W, X, k, tg, e, C, h => by
    unfold chkI at h
    split at h <;> first | (cases h; done) | (rename_i q; cases q)
    simp only [Bool.and_eq_true, decide_eq_true_eq] at h
    obtain ⟨⟨⟨⟨rfl, h2⟩, h3⟩, h4⟩, h5⟩ := h
    simp only [evI]
    exact snd_rng2 C (glb_of h2) h5 (sndR a C h3) (sndR b C h4)
  | .zip a b, W, X, k, tg, e, C, h => by
    unfold chkI at h
    split at h <;> first | (cases h; done) | (rename_i q; cases q)
    simp only [Bool.and_eq_true, decide_eq_true_eq] at h
    obtain ⟨⟨⟨⟨rfl, h2⟩, h3⟩, h4⟩, h5⟩ := h
    simp only [evI]
    exact snd_zip C (glb_of h2) h5 (sndR a C h3) (sndR b C h4)
  | .enm a, W, X, k, tg, e, C, h => by
    unfold chkI at h
    cases h
end
end
end DPy
/-! the small terms tell the truth: statements -/
namespace DPy
open PySem PySem.Spec L2
open PyProof.Rows hiding St

def FinS (K : PySem.W.Frag) (cl : String → Option Addr) (W : WX) (keep : List Nat) (E : Ends) (σ0 : St) (G0 H0 : Hp) (A0 : Addr → Prop) (o : SOut) : Prop :=
  match o with
  | .stuck => False
  | .nx Γ' => ∀ σ' G' H' f', Sta K G' H' Γ' σ' f' → Kept keep σ0 σ' → Stp G0 H0 A0 G' H' (Ow f') → E.nx σ' H'
  | .brk Γ' => ∀ σ' G' H' f', Sta K G' H' Γ' σ' f' → Kept keep σ0 σ' → Stp G0 H0 A0 G' H' (Ow f') → E.bk σ' H'
  | .cnt Γ' => ∀ σ' G' H' f', Sta K G' H' Γ' σ' f' → Kept keep σ0 σ' → Stp G0 H0 A0 G' H' (Ow f') → E.ct σ' H'
  | .ret d Γ' => ∀ v σ' G' H' f' fp, Sta K G' H' Γ' σ' f' → Rp K G' H' v d fp → (∀ a ∈ fp, ¬ Ow f' a) → Kept keep σ0 σ' → Stp G0 H0 A0 G' H' (fun a => a ∈ fp ∨ Ow f' a) → E.rt v H'
  | .exc x Γ' => ∀ cv d σ' G' H' f', Sta K G' H' Γ' σ' f' → XR K cl x cv d G' H' → Kept keep σ0 σ' → Stp G0 H0 A0 G' H' (Ow f') → W cv d σ' H'
def tS (K : PySem.W.Frag) (cl : String → Option Addr) (W : WX) (keep : List Nat) (m : List D → SOut) : TS := fun E σ H => ∃ Γ G f, Sta K G H Γ σ f ∧ FinS K cl W keep E σ G H (Ow f) (m Γ)

section
variable {K : PySem.W.Frag} {cl : String → Option Addr} {W : WX} {keep : List Nat} {E : Ends}
/-- from the middle on -/
theorem FinS.from {σ0 σ : St} {G0 H0 G H : Hp} {A0 : Addr → Prop} {f : Fps} {o : SOut} (kp : Kept keep σ0 σ) (st : Stp G0 H0 A0 G H (Ow f)) (fin : FinS K cl W keep E σ0 G0 H0 A0 o) : FinS K cl W keep E σ G H (Ow f) o := by
  cases o with
  | stuck => exact fin
  | nx g => exact fun σ' G' H' f' s k t => fin σ' G' H' f' s (kp.trans k) (st.trans t)
  | brk g => exact fun σ' G' H' f' s k t => fin σ' G' H' f' s (kp.trans k) (st.trans t)
  | cnt g => exact fun σ' G' H' f' s k t => fin σ' G' H' f' s (kp.trans k) (st.trans t)
  | ret d g => exact fun v σ' G' H' f' fp s r n k t => fin v σ' G' H' f' fp s r n (kp.trans k) (st.trans t)
  | exc x g => exact fun cv d σ' G' H' f' s x k t => fin cv d σ' G' H' f' s x (kp.trans k) (st.trans t)
theorem tS_stage {α κ : Type} {rel : St → Hp → Hp → κ → α → List Addr → Prop} {m : M α} {k : α → List D → SOut} {σ0 σ : St} {G0 H0 G1 H1 : Hp} {A0 : Addr → Prop} {Γ1 : List D} {f1 : Fps} {P : Addr → Prop} {T : κ → Hp → Prop}
    (s : Sta K G1 H1 Γ1 σ f1) (kp : Kept keep σ0 σ) (st : Stp G0 H0 A0 G1 H1 (fun a => P a ∨ Ow f1 a)) (fin : FinS K cl W keep E σ0 G0 H0 A0 (toS (m Γ1) k))
    (go : ∀ a Γ2 v G2 H2 f2 fp, Sta K G2 H2 Γ2 σ f2 → rel σ G2 H2 v a fp → (∀ a ∈ fp, ¬ Ow f2 a) → Stp G1 H1 (Ow f1) G2 H2 (fun a => a ∈ fp ∨ Ow f2 a) →
      Stp G0 H0 A0 G2 H2 (fun a => P a ∨ a ∈ fp ∨ Ow f2 a) → FinS K cl W keep E σ0 G0 H0 A0 (k a Γ2) → T v H2) : tM K cl W rel m σ H1 T := by
  refine ⟨Γ1, G1, f1, s, ?_⟩
  cases e : m Γ1 with
  | stuck => rw [e] at fin; exact fin
  | ok a Γ2 =>
    rw [e] at fin
    exact fun v G2 H2 f2 fp s2 r d st2 => go a Γ2 v G2 H2 f2 fp s2 r d st2 (st.trans (st2.aside P)) fin
  | exc x Γ2 =>
    rw [e] at fin
    exact fun cv d G2 H2 f2 s2 x2 st2 => fin cv d σ G2 H2 f2 s2 x2 kp ((st.trans (st2.aside P)).B fun a h => .inr h)
theorem tS_first {α κ : Type} {rel : St → Hp → Hp → κ → α → List Addr → Prop} {m : M α} {k : α → List D → SOut} {σ : St} {H : Hp} {T : κ → Hp → Prop} (h : tS K cl W keep (fun g => toS (m g) k) E σ H)
    (go : ∀ G0 A0 a Γ2 v G2 H2 f2 fp, Sta K G2 H2 Γ2 σ f2 → rel σ G2 H2 v a fp → (∀ a ∈ fp, ¬ Ow f2 a) → Stp G0 H A0 G2 H2 (fun a => a ∈ fp ∨ Ow f2 a) → FinS K cl W keep E σ G0 H A0 (k a Γ2) → T v H2) : tM K cl W rel m σ H T := by
  obtain ⟨Γ, G, f, s, fin⟩ := h
  exact tS_stage (P := fun _ => False) s (Kept.refl _ _) ((Stp.refl G H _).B fun a h => h.elim False.elim id) fin fun a Γ2 v G2 H2 f2 fp s2 r2 d st2 st3 fin2 => go G (Ow f) a Γ2 v G2 H2 f2 fp s2 r2 d (st3.B fun a h => .inr h) fin2
theorem toS_force {r : R} {k : D → List D → SOut} {Γ : List D} {σ0 : St} {G0 H0 : Hp} {A0 : Addr → Prop} (fin : FinS K cl W keep E σ0 G0 H0 A0 (toS (forceM r Γ) k)) : ∃ d Γ', r.force Γ = some (d, Γ') ∧ FinS K cl W keep E σ0 G0 H0 A0 (k d Γ') := by
  unfold forceM at fin
  cases e : r.force Γ with
  | none => rw [e] at fin; exact fin.elim
  | some q => obtain ⟨d, g⟩ := q; rw [e] at fin; exact ⟨d, g, rfl, fin⟩
theorem nxO_inv {o : Option (List D)} {σ0 : St} {G0 H0 : Hp} {A0 : Addr → Prop} (fin : FinS K cl W keep E σ0 G0 H0 A0 (nxO o)) : ∃ g, o = some g ∧ FinS K cl W keep E σ0 G0 H0 A0 (.nx g) := by
  cases o with
  | none => exact fin.elim
  | some g => exact ⟨g, rfl, fin⟩
end

/-! ### syntax -/
def swB (sc : Scope) (y : Str) (py : Pos) (scope : Scope) (vp : Pos) : Bool :=
  decide (sc.names.lookup y = some .local) && (py.line == vp.line) && !(scope.names.any fun (n, k) => n == y && (k == .local || k == .cell))
theorem swB_of {elt : Expr} {gs : List Comprehension} {scope : Scope} {pos py : Pos} {y : Str} {l : Nat} {env : Env} (hk : env.scope.kind = .function) : swapsWith (.ListComp elt gs scope pos) (some (.Name y py)) l env = pure (swB env.scope y py scope pos) := by
  have hb : env.blockKind = .function := by unfold Env.blockKind; rw [hk]; rfl
  have e : (env.kindOf y == some .local) = decide (env.scope.names.lookup y = some .local) := by
    show (env.scope.names.lookup y == some .local) = _
    cases q : env.scope.names.lookup y with
    | none => rfl
    | some n => cases n <;> rfl
  unfold swapsWith swB
  simp only [hb, e, Expr.pos]
  rfl
def noSwap : Expr → Expr → Bool
  | .Tuple _ _ _, .Tuple _ _ _ => false
  | .List _ _, .Tuple _ _ _ => false
  | _, _ => true
theorem noSwap_of {t v : Expr} {env : Env} (h : noSwap t v = true) : swappedStores [t] v env = pure none := by
  cases t <;> cases v <;> first | rfl | (simp [noSwap] at h)
def oneTg : Expr → Bool
  | .Starred _ _ => false
  | _ => true
theorem oneTg_of {t : Expr} {env : Env} (h : oneTg t = true) : (assignEach [t] env).map (·.2) = [assign t env] := by
  cases t <;> first | rfl | (simp [oneTg] at h)
def isName : Expr → Bool
  | .Name _ _ => true
  | _ => false
theorem swap_tup {v t : Expr} {l : Nat} {env : Env} (h : swapB v = true ∨ isName t = false) : swapsWith v (some t) l env = pure false := by
  rcases h with h | h
  · exact swap_of h
  · cases v <;> cases t <;> first | rfl | (simp [isName] at h)
def isLc : Expr → Bool
  | .ListComp _ _ _ _ => true
  | _ => false
mutual
def chkS (N : List Str) (sc : Scope) : Sm → Stmt → Bool
  | .asg t e, .Assign [tg] v _ => chkG N sc t tg && chkE N sc e v && noSwap tg v && oneTg tg && (swapB v || !isName tg || isLc v)
  | .set a b e, .Assign [.Subscript o i _] v _ => chkE N sc a o && chkE N sc b i && plainIxB i && chkE N sc e v
  | .aug i op e, .AugAssign (.Name y _) op' v _ => decide (N[i]? = some y) && locB sc y && decide (op = op') && chkE N sc e v
  | .exp e, .Expr v _ => chkE N sc e v && swapB v
  | .ite t a b, .If d x y _ => chkT N sc t d && chkSs N sc a x && chkSs N sc b y
  | .for t it body, .For tg iter b [] _ => chkG N sc t tg && chkI N sc it tg iter && foldB iter && chkSs N sc body b
  | .whl t body, .While d b [] _ => chkT N sc t d && chkSs N sc body b
  | .ret e, .Return (some v) _ => chkE N sc e v
  | .retn, .Return none _ => true
  | .brk, .Break _ => true
  | .cnt, .Continue _ => true
  | .pass, .Pass _ => true
  | _, _ => false
def chkSs (N : List Str) (sc : Scope) : List Sm → List Stmt → Bool
  | [], [] => true
  | s :: ss, t :: ts => chkS N sc s t && chkSs N sc ss ts
  | _, _ => false
end

structure CtxS (cl : String → Option Addr) (c : Cfg) (W : WX) (X : Cx) (k : Nat) : Prop extends Ctx cl c W X k where
  fnT : ∀ y, X.fn y = true
  kind : X.env.scope.kind = .function
section
variable {cl : String → Option Addr} {c : Cfg} {W : WX} {X : Cx} {k : Nat} {e e1 e2 e3 tg : Expr} {es : List Expr} {pos : Pos} {m m1 m2 m3 : M R} {b b' : List Stmt}
theorem CtxS.tgt (C : CtxS cl c W X k) : ∀ y, locB X.env.scope y = true → Loc X.env.scope y ∧ (X.fn y = true ∨ X.env.scope.names.lookup y = some .local) := fun y h => ⟨loc_of h, .inl (C.fnT y)⟩
/-- a store to a target, at the end of an assignment -/
theorem tG_nx {K : PySem.W.Frag} {keep sl : List Nat} {F : D → List D → Option (List D)} {E : Ends} {σ : St} {G0 H0 G H : Hp} {A0 : Addr → Prop} {Γ : List D} {f : Fps} {d : D} {v : V} {fp : List Addr} (s : Sta K G H Γ σ f) (r : Rp K G H v d fp) (n : ∀ a ∈ fp, ¬ Ow f a)
    (st : Stp G0 H0 A0 G H (fun a => a ∈ fp ∨ Ow f a)) (fin : FinS K cl W keep E σ G0 H0 A0 (nxO (F d Γ))) : tG K keep sl F v σ H E.nx := by
  obtain ⟨g, e, fin⟩ := nxO_inv fin
  exact ⟨Γ, G, f, d, fp, g, s, r, n, e, fun σ' f' s' kp o w => fin σ' G H f' s' kp (st.B w)⟩
theorem asg_read {K : PySem.W.Frag} {t : Tg} {E : Ends} {σ : St} {G0 H0 G H : Hp} {A0 : Addr → Prop} {Γ : List D} {f : Fps} {r : R} {v : V} {fp : List Addr} (s : Sta K G H Γ σ f) (rr : RR K G H σ v r fp) (n : ∀ a ∈ fp, ¬ Ow f a)
    (st : Stp G0 H0 A0 G H (fun a => a ∈ fp ∨ Ow f a)) (fin : FinS K cl W c.keep E σ G0 H0 A0 (asgK c t r Γ)) : tG K c.keep t.slots (tgD c t) v σ H E.nx := by
  have shared : ∀ {r : R} {fp}, RR K G H σ v r fp → (∀ a ∈ fp, ¬ Ow f a) → Stp G0 H0 A0 G H (fun a => a ∈ fp ∨ Ow f a) → FinS K cl W c.keep E σ G0 H0 A0 (toS (forceM r Γ) fun d g => nxO (tgD c t d g)) → tG K c.keep t.slots (tgD c t) v σ H E.nx := fun {r fp} rr n st fin => by
    obtain ⟨d, Γ', e, fin⟩ := toS_force fin
    obtain ⟨G', f', s', rp, st'⟩ := RR.force s rr n e
    exact tG_nx s' rp (fun _ z => by cases z) ((st.trans st').B fun a h => h.elim (fun z => by cases z) id) fin
  cases t with
  | nm i =>
    cases r with
    | val d => exact tG_nx (F := tgD c (.nm i)) s rr n st (by simpa [asgK, tgD] using fin)
    | «at» j => exact shared rr n st (by simpa [asgK, tgD] using fin)
  | tup ts => exact shared rr n st (by simpa [asgK] using fin)
theorem sndS_asg {t : Tg} (C : CtxS cl c W X k) (hg : chkG X.N X.env.scope t tg = true) (hn : noSwap tg e = true) (ho : oneTg tg = true) (hs : swapsWith e (some tg) pos.line X.env = pure false) (h : PE X e (tR X.K cl W m)) :
    PS X (.Assign [tg] e pos) (tS X.K cl W c.keep fun g => toS (m g) fun r g => asgK c t r g) := by
  refine (ps_asg h (sndG (c := c) C.calm C.nd C.tgt t tg hg) hs (noSwap_of hn) (oneTg_of ho)).imp fun E σ H h => ?_
  exact tS_first (rel := relR X.K) h fun G0 A0 r Γ v G H2 f fp s rr n st fin => asg_read s rr n st fin
theorem sndS_ret (h : PE X e (tR X.K cl W m)) : PS X (.Return (some e) pos) (tS X.K cl W c.keep fun g => toS (m g) fun r g => match handOut r g with
    | some (d, g) => .ret d g
    | none => .stuck) := by
  refine (ps_ret h).imp fun E σ H h => tS_first (rel := relR X.K) h fun G0 A0 r Γ v G H2 f fp s rr n st fin => ?_
  cases eh : handOut r Γ with
  | none => rw [eh] at fin; exact fin.elim
  | some q =>
    obtain ⟨d, g⟩ := q
    rw [eh] at fin
    unfold handOut at eh
    cases r with
    | val d' =>
      simp only [] at eh
      split at eh
      · cases eh; exact fin v σ G H2 f fp s rr n (Kept.refl _ _) st
      · cases eh
    | «at» i =>
      simp only [] at eh
      obtain ⟨ex, rfl⟩ := rr
      split at eh
      · split at eh
        · rename_i d' e1 hh
          cases eh
          obtain ⟨v', e2, rp⟩ := s.there i _ e1 hh
          rw [ex] at e2; cases e2
          refine fin v σ G H2 _ (f i) (s.drop i) rp (fun a ha z => ?_) (Kept.refl _ _) (st.B fun a h => ?_)
          · rcases z.put with z | ⟨_, j, hj, z⟩
            · cases z
            · exact hj (s.dis j i a z ha)
          · rcases h with h | h
            · exact .inr ⟨i, h⟩
            · exact .inr (h.put_sub.elim (fun z => by cases z) id)
        · cases eh
      · cases eh
theorem sndS_exp (hs : swapB e = true) (h : PE X e (tR X.K cl W m)) : PS X (.Expr e pos) (tS X.K cl W c.keep fun g => toS (m g) fun _ g => .nx g) := by
  refine (ps_expr h (swap_of hs)).imp fun E σ H h => tS_first (rel := relR X.K) h fun G0 A0 r Γ v G H2 f fp s rr n st fin => ?_
  exact fin σ G H2 f s (Kept.refl _ _) (st.B fun a h => .inr h)
theorem sndS_ite {d : Expr} {mt : M Bool} {ma mb : List D → SOut} (h0 : PT X d (tT X.K cl W mt)) (h1 : PSs X b (tS X.K cl W c.keep ma)) (h2 : PSs X b' (tS X.K cl W c.keep mb)) :
    PS X (.If d b b' pos) (tS X.K cl W c.keep fun g => toS (mt g) fun k g => if k then ma g else mb g) := by
  refine (ps_if h0 h1 h2).imp fun E σ H h => tS_first (rel := relB) h fun G0 A0 r Γ v G H2 f fp s rr n st fin => ?_
  obtain ⟨rfl, rfl⟩ := rr
  have st' := st.B (B' := Ow f) fun a h => .inr h
  cases v with
  | true => rw [if_pos rfl]; simp only [if_true] at fin; exact ⟨Γ, G, f, s, fin.from (Kept.refl _ _) st'⟩
  | false => rw [if_neg (by decide)]; simp only [Bool.false_eq_true, if_false] at fin; exact ⟨Γ, G, f, s, fin.from (Kept.refl _ _) st'⟩
theorem sndS_for {iter : Expr} {t : Tg} {mi : M (List D)} {mb : List D → SOut} (C : CtxS cl c W X k) (hf : foldB iter = true) (hg : chkG X.N X.env.scope t tg = true) (hi : PI X tg iter (tI X.K cl W mi)) (hb : PSs X b (tS X.K cl W c.keep mb)) :
    PS X (.For tg iter b [] pos) (tS X.K cl W c.keep fun g => toS (mi g) fun xs g => forL (fun x g => match tgD c t x g with
      | some g => mb g
      | none => .stuck) xs g) := by
  refine (ps_for C.own C.calm hi (sndG (c := c) C.calm C.nd C.tgt t tg hg) hb (fold_of hf)).imp fun E σ H h => tS_first (rel := relI X.K) h fun G0 A0 xs Γ J G H1 f fp s gv n st fin => ?_
  obtain ⟨gv, rfl⟩ := gv
  have st' := st.B (B' := Ow f) fun a h => .inr h
  refine for_it gv (fun i σ' H' => ∃ Γi Gi fi, Sta X.K Gi H' Γi σ' fi ∧ Sub G Gi ∧ FinS X.K cl W c.keep E σ' Gi H' (Ow fi) (forL (fun x g => match tgD c t x g with
      | some g => mb g
      | none => .stuck) (xs.drop i) Γi)) ⟨Γ, G, f, s, .refl G, fin.from (Kept.refl _ _) st'⟩ (fun i σ' H' _ ⟨Γi, Gi, fi, si, su, _⟩ => su.trans si.sub) ?_ ?_
  · rintro i v σ' H' H'' hi ⟨Γi, Gi, fi, si, su, fin⟩ y
    obtain ⟨d, G2, e, dz, s2, r2, st2⟩ := y.go su si
    rw [List.drop_eq_getElem_cons hi] at fin
    have ed : xs[i] = d := by rw [List.getElem?_eq_getElem hi] at e; exact Option.some.inj e
    rw [ed] at fin
    simp only [forL] at fin
    cases eF : tgD c t d Γi with
    | none => rw [eF] at fin; exact fin.elim
    | some Γ2 =>
      rw [eF] at fin
      simp only [] at fin
      refine ⟨Γi, G2, fi, d, [], Γ2, s2, r2, (fun _ z => by cases z), eF, fun σ2 f2 s3 kp off w => ?_⟩
      have w' : ∀ a, Ow f2 a → Ow fi a := fun a h => (w a h).elim (fun z => by cases z) id
      have stA : Stp Gi H' (Ow fi) G2 H'' (Ow f2) := st2.B w'
      refine ⟨Γ2, G2, f2, s3, ?_⟩
      cases eb : mb Γ2 with
      | stuck => rw [eb] at fin; exact fin
      | nx g =>
        rw [eb] at fin
        intro σ3 G3 H3 f3 s4 kp2 st4
        exact ⟨g, G3, f3, s4, su.trans (stA.g.trans st4.g), FinS.from (kp.trans kp2) (stA.trans st4) fin⟩
      | cnt g =>
        rw [eb] at fin
        intro σ3 G3 H3 f3 s4 kp2 st4
        exact ⟨g, G3, f3, s4, su.trans (stA.g.trans st4.g), FinS.from (kp.trans kp2) (stA.trans st4) fin⟩
      | brk g =>
        rw [eb] at fin
        intro σ3 G3 H3 f3 s4 kp2 st4
        exact fin σ3 G3 H3 f3 s4 (kp.trans kp2) (stA.trans st4)
      | ret dd g =>
        rw [eb] at fin
        intro v3 σ3 G3 H3 f3 fp3 s4 r4 n4 kp2 st4
        exact fin v3 σ3 G3 H3 f3 fp3 s4 r4 n4 (kp.trans kp2) (stA.trans st4)
      | exc xx g =>
        rw [eb] at fin
        intro cv dd σ3 G3 H3 f3 s4 x4 kp2 st4
        exact fin cv dd σ3 G3 H3 f3 s4 x4 (kp.trans kp2) (stA.trans st4)
  · rintro σ' H' ⟨Γi, Gi, fi, si, su, fin⟩
    rw [List.drop_of_length_le (Nat.le_refl _)] at fin
    exact fin σ' Gi H' fi si (Kept.refl _ _) (Stp.refl _ _ _)
theorem sndS_whl {d : Expr} {mt : M Bool} {mb : List D → SOut} {fuel : Nat} (C : CtxS cl c W X k) (h0 : PT X d (tT X.K cl W mt)) (hb : PSs X b (tS X.K cl W c.keep mb)) :
    PS X (.While d b [] pos) (tS X.K cl W c.keep (whlL mt mb fuel)) := by
  refine (ps_while C.own h0 hb).imp fun E σ H ⟨Γ, G, f, s, fin⟩ => ?_
  refine ⟨fun m σ' H' => ∃ Γi Gi fi, Sta X.K Gi H' Γi σ' fi ∧ FinS X.K cl W c.keep E σ' Gi H' (Ow fi) (whlL mt mb m Γi), ⟨fuel, Γ, G, f, s, fin⟩, ?_⟩
  rintro m σ' H' ⟨Γi, Gi, fi, si, fin⟩
  cases m with
  | zero => exact fin.elim
  | succ m =>
    simp only [whlL] at fin
    refine tS_stage (rel := relB) (P := fun _ => False) si (Kept.refl c.keep σ') ((Stp.refl Gi H' (Ow fi)).B fun a h => h.elim False.elim id) fin fun r Γ2 v G2 H2 f2 fp s2 rr n st _ fin => ?_
    obtain ⟨rfl, rfl⟩ := rr
    have stA := st.B (B' := Ow f2) fun a h => .inr h
    cases v with
    | false =>
      rw [if_neg (by decide)]
      simp only [Bool.false_eq_true, if_false] at fin
      exact fin σ' G2 H2 f2 s2 (Kept.refl _ _) stA
    | true =>
      rw [if_pos rfl]
      simp only [if_true] at fin
      refine ⟨fun σ3 H3 => ∃ Γi Gi fi, Sta X.K Gi H3 Γi σ3 fi ∧ FinS X.K cl W c.keep E σ3 Gi H3 (Ow fi) (whlL mt mb m Γi), fun σ3 H3 q => ⟨m, Nat.lt_succ_self m, q⟩, Γ2, G2, f2, s2, ?_⟩
      cases eb : mb Γ2 with
      | stuck => rw [eb] at fin; exact fin
      | nx g =>
        rw [eb] at fin
        intro σ3 G3 H3 f3 s4 kp2 st4
        exact ⟨g, G3, f3, s4, FinS.from kp2 (stA.trans st4) fin⟩
      | cnt g =>
        rw [eb] at fin
        intro σ3 G3 H3 f3 s4 kp2 st4
        exact ⟨g, G3, f3, s4, FinS.from kp2 (stA.trans st4) fin⟩
      | brk g =>
        rw [eb] at fin
        intro σ3 G3 H3 f3 s4 kp2 st4
        exact fin σ3 G3 H3 f3 s4 kp2 (stA.trans st4)
      | ret dd g =>
        rw [eb] at fin
        intro v3 σ3 G3 H3 f3 fp3 s4 r4 n4 kp2 st4
        exact fin v3 σ3 G3 H3 f3 fp3 s4 r4 n4 kp2 (stA.trans st4)
      | exc xx g =>
        rw [eb] at fin
        intro cv dd σ3 G3 H3 f3 s4 x4 kp2 st4
        exact fin cv dd σ3 G3 H3 f3 s4 x4 kp2 (stA.trans st4)
/-- in place -/
def rInV (K : PySem.W.Frag) (op : Operator) : TIp := fun x y H Q => ∃ d1 d2 d v, See K H x d1 ∧ See K H y d2 ∧ inop op d1 d2 = some d ∧ d.sv = some v ∧ Q v H
theorem ip_V {op : Operator} : PIp X op (rInV X.K op) := by
  intro pins s σ H x y v u Q I rx ry h
  obtain ⟨d1, d2, d, w, ⟨G1, f1, s1, r1⟩, ⟨G2, f2, s2, r2⟩, e, es, q⟩ := h
  unfold inop at e
  split at e
  · cases e; cases es; exact ip_add pins s σ H x y v u Q I rx ry ⟨_, _, r1.int_inv, r2.int_inv, q⟩
  · cases e; cases es; exact ip_sub pins s σ H x y v u Q I rx ry ⟨_, _, r1.int_inv, r2.int_inv, q⟩
  · cases e
theorem sndS_aug {i : Nat} {y : Str} {p : Pos} {op : Operator} (C : CtxS cl c W X k) (hi : X.N[i]? = some y) (hl : locB X.env.scope y = true) (h : PE X e (tR X.K cl W m)) :
    PS X (.AugAssign (.Name y p) op e pos) (tS X.K cl W c.keep fun g => toS (evR c (.nm i) g) fun r g => toS (m g) fun s g => match inop op (r.see g) (s.see g) with
      | some d => nxO (storeD c i d g)
      | none => .stuck) := by
  refine (ps_aug C.nd hi (loc_of hl) h (ip_V (op := op)) (.inl (C.fnT y))).imp fun E σ H ⟨Γ, G, f, s, fin⟩ => ?_
  simp only [evR] at fin
  have go : ∀ {r : R} {x : V} {fx : List Addr}, σ[i]? = some (some x) → RR X.K G H σ x r fx → (∀ a ∈ fx, ¬ Ow f a) → Stp G H (Ow f) G H (fun a => a ∈ fx ∨ Ow f a) → FinS X.K cl W c.keep E σ G H (Ow f) (toS (m Γ) fun s g => match inop op (r.see g) (s.see g) with
      | some d => nxO (storeD c i d g)
      | none => .stuck) → tAug i (tR X.K cl W m) (rInV X.K op) E σ H := fun {r x fx} ex rx dx st fin => by
    refine ⟨x, ex, ?_⟩
    refine tS_stage (rel := relR X.K) (P := fun a => a ∈ fx) s (Kept.refl _ _) st fin fun q Γ2 v G2 H2 f2 fp s2 r2 d st2 st3 fin2 => ?_
    obtain ⟨rx2, nx⟩ := rx.stay dx st2
    cases e1 : inop op (r.see Γ2) (q.see Γ2) with
    | none => rw [e1] at fin2; exact fin2.elim
    | some dd =>
      rw [e1] at fin2
      obtain ⟨g, e2, fin3⟩ := nxO_inv fin2
      have hh : (r.see Γ2).here = true ∧ (q.see Γ2).here = true ∧ ∃ w, dd.sv = some w := by
        unfold inop at e1
        split at e1 <;> first | (cases e1; done) | (cases e1; simp_all [D.here, D.sv])
      obtain ⟨h1, h2, w, hw⟩ := hh
      refine ⟨_, _, dd, w, rx2.see' s2 h1, RR.see' s2 r2 h2, e1, hw, ?_⟩
      unfold storeD at e2
      split at e2
      · rename_i hb
        cases e2
        refine fin3 _ G2 H2 _ (s2.store (Rp.sv hw) hb.2.1 hb.1 fun _ z => by cases z) (fun j hj => List.getElem?_set_ne fun z => hb.2.2 (by rw [z]; exact hj)) (st3.B fun a h => ?_)
        exact .inr (.inr (h.put_sub.elim (fun z => by cases z) id))
      · cases e2
  split at fin
  · rename_i d e1
    split at fin
    · rename_i hd
      obtain ⟨v, e2, r⟩ := s.there i d e1 hd
      split at fin
      · rename_i hz
        exact go e2 (r := .val d) (r.fzk hz (.refl G)) (fun _ z => by cases z) ((Stp.refl _ _ _).B fun a h => h.elim (fun z => by cases z) id) fin
      · exact go e2 (r := .at i) (fx := []) ⟨e2, rfl⟩ (fun _ z => by cases z) ((Stp.refl _ _ _).B fun a h => h.elim (fun z => by cases z) id) fin
    · exact fin.elim
  · exact fin.elim

theorem own_at {K : PySem.W.Frag} {G H : Hp} {Γ : List D} {σ : St} {f : Fps} (s : Sta K G H Γ σ f) {i : Nat} {xs : List D} {x : V} (e1 : Γ[i]? = some (.lst true xs)) (ex : σ[i]? = some (some x)) : ∃ a vs, x = .ref a ∧ G a = none ∧ H a = some (.lst vs) ∧ FzL K G H vs xs ∧ f i = [a] := by
  obtain ⟨v', e2, rp⟩ := s.there i _ e1 rfl
  rw [ex] at e2; cases e2
  revert rp
  generalize f i = l
  intro rp
  cases rp with
  | own q1 q2 q3 => exact ⟨_, _, rfl, q1, q2, q3, rfl⟩
/-- slot i's list is another one now -/
theorem Sta.relist {K : PySem.W.Frag} {G H : Hp} {Γ : List D} {σ : St} {f : Fps} (s : Sta K G H Γ σ f) {i : Nat} {a : Addr} {xs : List D} {us : List V} (hi : i < Γ.length) (ex : σ[i]? = some (some (.ref a))) (ga : G a = none) (ef : f i = [a]) (z : FzL K G H us xs) :
    Sta K G (upd H a (.lst us)) (Γ.set i (.lst true xs)) σ (f.put i [a]) := by
  have ne : ∀ {b o}, G b = some o → b ≠ a := fun {b o} e z => by rw [z, ga] at e; cases e
  exact s.change (.refl _) (fun b o e => by rw [upd_ne (ne e)]; exact s.sub b o e)
    (fun j b hj hb => ⟨upd_ne fun z => hj (s.dis j i b hb (by rw [ef]; simp [z])), (s.ow ⟨j, hb⟩).1⟩)
    hi ex (.own ga upd_same (z.keep (.refl _))) rfl
    fun j b hj hb hz => hj (s.dis j i b hb (by rw [ef]; exact hz))
theorem Stp.relist {G0 H0 G H : Hp} {A0 : Addr → Prop} {f : Fps} (st : Stp G0 H0 A0 G H (Ow f)) {i : Nat} {a : Addr} {o : HO} (ef : f i = [a]) : Stp G0 H0 A0 G (upd H a o) (Ow (f.put i [a])) := by
  refine ⟨st.g, fun b ob h n g => ?_⟩
  obtain ⟨t1, t2, t3⟩ := st.fr b ob h n g
  refine ⟨by rw [upd_ne fun z => t3 ⟨i, by rw [ef]; simp [z]⟩]; exact t1, t2, fun z => ?_⟩
  rcases z.put_sub with z | z
  · exact t3 ⟨i, by rw [ef]; exact z⟩
  · exact t3 z
theorem sub_asg {o i : Expr} {env : Env} (h : plainIxB i = true) : ∀ v, assign (.Subscript o i pos) env v = (do
      let ov ← holding [v] (eval o env)
      let iv ← holding [v, ov] (eval i env)
      standAt pos
      holding [v, ov, iv] (setItem ov iv v)
      release [v, ov, iv] []) := by
  cases i <;> first | exact fun _ => rfl | (simp [plainIxB] at h)
theorem setK_inv {d t y : D} {x : D} (h : setK d t x = some y) : ∃ xs k j, x = .lst true xs ∧ t = .int k ∧ ixN xs.length k = some j ∧ y = .lst true (xs.set j d) := by
  unfold setK at h
  split at h
  · split at h
    · rename_i xs _ k
      obtain ⟨ys, e, rfl⟩ := Option.map_eq_some_iff.mp h
      unfold setAt at e
      obtain ⟨j, e2, rfl⟩ := Option.map_eq_some_iff.mp e
      exact ⟨xs, k, j, rfl, rfl, e2, rfl⟩
    · cases h
  · cases h
theorem sndS_set {o i : Expr} {p : Pos} (hp : plainIxB i = true) (h : PE X e (tR X.K cl W m)) (h1 : PE X o (tR X.K cl W m1)) (h2 : PE X i (tR X.K cl W m2)) :
    PS X (.Assign [.Subscript o i p] e pos) (tS X.K cl W c.keep fun g => toS (m g) fun r g => toS (m1 g) fun s g => match s with
    | .val _ => .stuck
    | .at i => toS (m2 g) fun t g => toS (forceM r g) fun d g => nxO ((g[i]?.bind (setK d (t.see g))).map fun y => g.set i y)) := by
  refine (ps_asg h (pg_sub h1 h2 set_list (sub_asg hp)) (swap_tup (t := .Subscript o i p) (l := pos.line) (env := X.env) (.inr rfl)) (noSwap_of (t := .Subscript o i p) (env := X.env) (by cases e <;> rfl)) rfl).imp fun E σ H h => ?_
  refine tS_first (rel := relR X.K) h fun G0 A0 r Γ v G H2 f fp s rr n st fin => ?_
  refine tS_stage (rel := relR X.K) (P := fun a => a ∈ fp) s (Kept.refl _ _) st fin fun q Γ2 w G2 H3 f2 fp2 s2 r2 d2 st2 st3 fin2 => ?_
  obtain ⟨rr2, n2⟩ := rr.stay n st2
  cases q with
  | val _ => exact fin2.elim
  | «at» i =>
    obtain ⟨ex, rfl⟩ := r2
    have n2' : ∀ a ∈ fp, ¬ Ow f2 a := fun a h z => n2 a h (.inr z)
    refine tS_stage (rel := relR X.K) (P := fun a => a ∈ fp) s2 (Kept.refl _ _) (st3.B fun a h => h.elim .inl fun z => .inr (.inr z)) fin2 fun t Γ3 z G3 H4 f3 fp3 s3 r3 d3 st4 st5 fin3 => ?_
    obtain ⟨rr3, n3⟩ := RR.stay rr2 n2' st4
    obtain ⟨d, Γ4, ef, fin4⟩ := toS_force fin3
    obtain ⟨r3', n3'⟩ := RR.stay (A := fun a => a ∈ fp ∨ Ow f3 a) (B := fun a => a ∈ fp ∨ Ow f3 a) r3 (fun a h z => z.elim (fun z => n3 a z (.inl h)) (d3 a h)) (Stp.refl _ _ _)
    obtain ⟨G5, f5, s5, rp, st6⟩ := RR.force s3 rr3 (fun a h z => n3 a h (.inr z)) ef
    obtain ⟨r5, n5⟩ := RR.stay (A := fun a => a ∈ fp ∨ Ow f3 a) r3 (fun a h z => z.elim (fun z => n3 a z (.inl h)) (d3 a h)) st6
    obtain ⟨g, e7, fin5⟩ := nxO_inv fin4
    obtain ⟨y, e8, rfl⟩ := Option.map_eq_some_iff.mp e7
    obtain ⟨x0, e9, e10⟩ := Option.bind_eq_some_iff.mp e8
    obtain ⟨xs, kk, j, rfl, et, ej, rfl⟩ := setK_inv e10
    obtain ⟨a, vs, rfl, g1, g2, g3, g4⟩ := own_at s5 e9 ex
    obtain ⟨Gz, fz, sz, rz⟩ := r5.see' s5 (by rw [et]; rfl)
    rw [et] at rz
    have hi : i < Γ4.length := (List.getElem?_eq_some_iff.mp e9).1
    refine ⟨a, vs, kk, j, rfl, rz.int_inv, g2, by rw [g3.length]; exact ej, ?_⟩
    have stF : Stp G0 H (A0) G5 H4 (Ow f5) := by
      have a1 := st6.aside (fun a => a ∈ fp3)
      have a0 := st5.B (B' := fun a => a ∈ fp3 ∨ a ∈ fp ∨ Ow f3 a) fun a h => by
        rcases h with h | h | h
        · exact .inr (.inl h)
        · exact .inl h
        · exact .inr (.inr h)
      exact (a0.trans a1).B fun a h => .inr h
    exact fin5 σ G5 _ _ (s5.relist hi ex g1 g4 (g3.set rp (force_fz ef) j)) (Kept.refl _ _) (stF.relist g4)

/-! ### all of it -/
theorem sndS_lc {i : Nat} {y : Str} {py p : Pos} {b : Ex} {t : Tg} {it : It} {cs : List Tx} {own : List (String × Nat)} {elt : Expr} {gs : List Comprehension} {scope : Scope} (C : CtxS cl c W X k) (hi : X.N[i]? = some y) (hl : locB X.env.scope y = true)
    (h : chkE X.N X.env.scope (.lc b t it cs own) (.ListComp elt gs scope p) = true) : PS X (.Assign [.Name y py] (.ListComp elt gs scope p) pos) (tS X.K cl W c.keep fun g => toS (evR c (.lc b t it cs own) g) fun r g => asgK c (.nm i) r g) := by
  cases hs : swB X.env.scope y py scope p with
  | false =>
    have hg : chkG X.N X.env.scope (.nm i) (.Name y py) = true := by simp [chkG, hi, hl]
    exact sndS_asg C hg rfl rfl (by rw [swB_of C.kind, hs]) (sndR _ C.toCtx h)
  | true =>
    unfold chkE at h
    split at h <;> first | (cases h; done) | (rename_i q1 q; first | (cases q; done) | (cases q; cases q1))
    rename_i tg iter ifs
    simp only [Bool.and_eq_true, List.all_eq_true, decide_eq_true_eq] at h
    obtain ⟨⟨⟨⟨⟨⟨h1, h2⟩, h3⟩, h4⟩, h5⟩, h6⟩, h7⟩ := h
    have hy : X.env.scope.names.lookup y = some .local := by
      simp only [swB, Bool.and_eq_true, decide_eq_true_eq] at hs
      exact hs.1.1
    have q := ps_setLc (pos := p) (spos := pos) (py := py) (tt := tT X.K cl noW (evTs c cs)) (te := tR X.K cl noW (evR c b)) (g := tG X.K [] t.slots (tgD { c with keep := [] } t)) C.calm C.nd hi hy (by rw [swB_of C.kind, hs]) (sndI it C.toCtx h4) (blkOk_by h1)
      (fun s H C' l fp => sndG (c := { c with keep := [] }) (X := X.blk s H scope (compEnvC scope l C' X.env) fp) C.calm C.nd blk_loc t tg h5) (fun s H C' l fp => sndTs cs (C.blk s H scope C' l fp) h6) (fun s H C' l fp => sndR b (C.blk s H scope C' l fp) h7) (fold_of h3)
    refine q.imp fun E σ H hq => ?_
    have e1 : (own.map fun (x, i) => (Str.ofString x, i)).map (·.2) = own.map (·.2) := by rw [List.map_map]; rfl
    rw [e1]
    have rd : tR X.K cl W (evR c (.lc b t it cs own)) σ H (fun x H1 => gName i x σ H1 E.nx) := by
      refine tS_first (rel := relR X.K) hq fun G0 A0 r Γ v G H2 f fp s rr n st fin => ?_
      have tg := asg_read (W := W) (t := .nm i) s rr n st fin
      obtain ⟨Γ', G', f', d', fp', Γ2, s', r', n', ef, q'⟩ := tg
      simp only [tgD, storeD] at ef
      split at ef
      · rename_i hb
        cases ef
        exact q' _ _ (s'.store r' hb.2.1 hb.1 n') (fun j hj => List.getElem?_set_ne fun z => hb.2.2 (by rw [z]; exact hj)) ⟨by simp, fun j hj => List.getElem?_set_ne fun z => hj (by simp [Tg.slots, z])⟩ fun a ha => ha.put_sub
      · cases ef
    simp only [evR] at rd
    exact lc_read h2 rd
mutual
theorem sndS : ∀ (a : Sm) {W : WX} {X : Cx} {k : Nat} {st : Stmt}, CtxS cl c W X k → chkS X.N X.env.scope a st = true → PS X st (tS X.K cl W c.keep (evS c a))
  | .asg t a, W, X, k, st, C, h => by
    unfold chkS at h
    split at h <;> first | (cases h; done) | (rename_i q; cases q)
    rename_i tg v pos
    simp only [Bool.and_eq_true] at h
    obtain ⟨⟨⟨⟨h1, h2⟩, h3⟩, h4⟩, h5⟩ := h
    by_cases hs : swapB v = true ∨ isName tg = false
    · unfold evS
      exact sndS_asg C h1 h3 h4 (swap_tup hs) (sndR a C.toCtx h2)
    · simp only [not_or, Bool.not_eq_true, Bool.not_eq_false] at hs
      cases tg with
      | Name y py =>
        cases t with
        | tup _ => simp [chkG] at h1
        | nm i =>
          simp only [chkG, Bool.and_eq_true, decide_eq_true_eq] at h1
          cases v with
          | ListComp elt gs scope p =>
            cases a with
            | lc b t it cs own => unfold evS; exact sndS_lc C h1.1 h1.2 h2
            | _ =>
              exfalso
              unfold chkE at h2
              first | (cases h2; done) | (split at h2 <;> first | (cases h2; done) | (rename_i q1 q2; cases q2; done) | (rename_i q1 q2; cases q1; done))
          | _ => first | (simp [swapB] at hs; done) | (simp [isLc, swapB, isName] at h5; done)
      | _ => simp [isName] at hs
  | .set a b e, W, X, k, st, C, h => by
    unfold chkS at h
    split at h <;> first | (cases h; done) | (rename_i q; cases q)
    simp only [Bool.and_eq_true] at h
    unfold evS
    exact sndS_set h.1.2 (sndR e C.toCtx h.2) (sndR a C.toCtx h.1.1.1) (sndR b C.toCtx h.1.1.2)
  | .aug i op e, W, X, k, st, C, h => by
    unfold chkS at h
    split at h <;> first | (cases h; done) | (rename_i q; cases q)
    simp only [Bool.and_eq_true, decide_eq_true_eq] at h
    obtain ⟨⟨⟨h1, h2⟩, rfl⟩, h4⟩ := h
    unfold evS
    exact sndS_aug C h1 h2 (sndR e C.toCtx h4)
  | .exp e, W, X, k, st, C, h => by
    unfold chkS at h
    split at h <;> first | (cases h; done) | (rename_i q; cases q)
    simp only [Bool.and_eq_true] at h
    unfold evS
    exact sndS_exp h.2 (sndR e C.toCtx h.1)
  | .ite t a b, W, X, k, st, C, h => by
    unfold chkS at h
    split at h <;> first | (cases h; done) | (rename_i q; cases q)
    simp only [Bool.and_eq_true] at h
    unfold evS
    exact sndS_ite (sndT t C.toCtx h.1.1) (sndSs a C h.1.2) (sndSs b C h.2)
  | .for t it body, W, X, k, st, C, h => by
    unfold chkS at h
    split at h <;> first | (cases h; done) | (rename_i q; cases q)
    simp only [Bool.and_eq_true] at h
    unfold evS
    exact sndS_for C h.1.2 h.1.1.1 (sndI it C.toCtx h.1.1.2) (sndSs body C h.2)
  | .whl t body, W, X, k, st, C, h => by
    unfold chkS at h
    split at h <;> first | (cases h; done) | (rename_i q; cases q)
    simp only [Bool.and_eq_true] at h
    unfold evS
    exact sndS_whl C (sndT t C.toCtx h.1) (sndSs body C h.2)
  | .ret e, W, X, k, st, C, h => by
    unfold chkS at h
    split at h <;> first | (cases h; done) | (rename_i q; cases q)
    unfold evS
    exact sndS_ret (sndR e C.toCtx h)
  | .retn, W, X, k, st, C, h => by
    unfold chkS at h
    split at h <;> first | (cases h; done) | (rename_i q; cases q)
    refine ps_retN.imp fun E σ H ⟨Γ, G, f, s, fin⟩ => ?_
    unfold evS at fin
    exact fin .non σ G H f [] s .non (fun _ z => by cases z) (Kept.refl _ _) ((Stp.refl _ _ _).B fun a h => h.elim (fun z => by cases z) id)
  | .brk, W, X, k, st, C, h => by
    unfold chkS at h
    split at h <;> first | (cases h; done) | (rename_i q; cases q)
    refine ps_break.imp fun E σ H ⟨Γ, G, f, s, fin⟩ => ?_
    unfold evS at fin
    exact fin σ G H f s (Kept.refl _ _) (Stp.refl _ _ _)
  | .cnt, W, X, k, st, C, h => by
    unfold chkS at h
    split at h <;> first | (cases h; done) | (rename_i q; cases q)
    refine ps_continue.imp fun E σ H ⟨Γ, G, f, s, fin⟩ => ?_
    unfold evS at fin
    exact fin σ G H f s (Kept.refl _ _) (Stp.refl _ _ _)
  | .pass, W, X, k, st, C, h => by
    unfold chkS at h
    split at h <;> first | (cases h; done) | (rename_i q; cases q)
    refine ps_pass.imp fun E σ H ⟨Γ, G, f, s, fin⟩ => ?_
    unfold evS at fin
    exact fin σ G H f s (Kept.refl _ _) (Stp.refl _ _ _)
theorem sndSs : ∀ (as : List Sm) {W : WX} {X : Cx} {k : Nat} {sts : List Stmt}, CtxS cl c W X k → chkSs X.N X.env.scope as sts = true → PSs X sts (tS X.K cl W c.keep (evSs c as))
  | [], W, X, k, sts, C, h => by
    cases sts with
    | cons _ _ => simp [chkSs] at h
    | nil =>
      refine ⟨fun pins s σ H E I ⟨Γ, G, f, st, fin⟩ => pss_nil.run pins s σ H E I ?_⟩
      simp only [evSs] at fin
      exact fin σ G H f st (Kept.refl _ _) (Stp.refl _ _ _)
  | a :: as, W, X, k, sts, C, h => by
    cases sts with
    | nil => simp [chkSs] at h
    | cons st sts =>
      simp only [chkSs, Bool.and_eq_true] at h
      refine ⟨fun pins s σ H E I ⟨Γ, G, f, sta, fin⟩ => (pss_cons (sndS a C h.1) (sndSs as C h.2)).run pins s σ H E I ⟨Γ, G, f, sta, ?_⟩⟩
      simp only [evSs] at fin
      cases ea : evS c a Γ with
      | stuck => rw [ea] at fin; exact fin
      | nx g =>
        rw [ea] at fin
        intro σ' G' H' f' s' kp st'
        exact ⟨g, G', f', s', FinS.from kp st' fin⟩
      | brk g => rw [ea] at fin; exact fin
      | cnt g => rw [ea] at fin; exact fin
      | ret d g => rw [ea] at fin; exact fin
      | exc x g => rw [ea] at fin; exact fin
end
end
end DPy
/-! a def, by its small body; the law -/
namespace DPy
open PySem PySem.Spec L2
open PyProof.Rows hiding St

section
variable {K : PySem.W.Frag} {cl : String → Option Addr} {G H : Hp} {σ : St} {Γ ds : List D} {f : Fps} {vs : List V}
theorem Sta.pad (s : Sta K G H ds (vs.map some) f) (n m : Nat) (hm : m = n) : Sta K G H (ds ++ List.replicate n .gone) (vs.map some ++ List.replicate m none) f := by
  subst hm
  have hl : ds.length = vs.length := by simpa using s.len
  refine ⟨s.sub, by simp [hl], fun i d e hd => ?_, fun i h => ?_, s.dis⟩
  · by_cases hi : i < ds.length
    · rw [List.getElem?_append_left hi] at e
      obtain ⟨v, e1, r⟩ := s.there i d e hd
      exact ⟨v, by rw [List.getElem?_append_left (by simpa [← hl] using hi)]; exact e1, r⟩
    · rw [List.getElem?_append_right (by omega), List.getElem?_replicate] at e
      split at e
      · cases e; simp [D.here] at hd
      · cases e
  · refine s.noth i fun d e => h d ?_
    rw [List.getElem?_append_left (List.getElem?_eq_some_iff.mp e).1]; exact e
theorem Sta.ios {keep : List Nat} {n k : Nat} (hn : vs.length = n) (s : Sta K G H Γ σ f) (kp : Kept keep (vs.map some ++ List.replicate k none) σ) : ∃ f', Sta K G H (iosOf keep n Γ) (vs.map some) f' ∧ ∀ a, Ow f' a → Ow f a := by
  have at_ : ∀ i d, (iosOf keep n Γ)[i]? = some d → d.here = true → i < n ∧ i ∈ keep ∧ Γ[i]? = some d := fun i d e hd => by
    unfold iosOf at e
    rw [List.getElem?_map] at e
    by_cases hi : i < n
    · rw [List.getElem?_range hi] at e
      simp only [Option.map_some, Option.some.injEq] at e
      by_cases hk : i ∈ keep
      · rw [if_pos hk] at e
        refine ⟨hi, hk, ?_⟩
        cases q : Γ[i]? with
        | none => rw [q] at e; subst e; simp [D.here] at hd
        | some d' => rw [q] at e; simpa using e
      · rw [if_neg hk] at e; subst e; simp [D.here] at hd
    · rw [List.getElem?_eq_none (by simp; omega)] at e; cases e
  refine ⟨fun i => if ∃ d, (iosOf keep n Γ)[i]? = some d ∧ d.here = true then f i else [], ⟨s.sub, by simp [iosOf, hn], fun i d e hd => ?_, fun i h => ?_, fun i j a h1 h2 => ?_⟩, fun a ⟨i, h⟩ => ?_⟩
  · obtain ⟨hi, hk, e2⟩ := at_ i d e hd
    obtain ⟨v, e3, r⟩ := s.there i d e2 hd
    refine ⟨v, ?_, by rw [if_pos ⟨d, e, hd⟩]; exact r⟩
    rw [kp i hk, List.getElem?_append_left (by simpa [hn] using hi)] at e3
    exact e3
  · refine if_neg fun ⟨d, e, hd⟩ => ?_
    rw [h d e] at hd; cases hd
  · by_cases q1 : ∃ d, (iosOf keep n Γ)[i]? = some d ∧ d.here = true
    · by_cases q2 : ∃ d, (iosOf keep n Γ)[j]? = some d ∧ d.here = true
      · simp only [if_pos q1, if_pos q2] at h1 h2
        exact s.dis i j a h1 h2
      · simp only [if_neg q2] at h2; cases h2
    · simp only [if_neg q1] at h1; cases h1
  · by_cases q1 : ∃ d, (iosOf keep n Γ)[i]? = some d ∧ d.here = true
    · simp only [if_pos q1] at h; exact ⟨i, h⟩
    · simp only [if_neg q1] at h; cases h
end

section
variable {P : Program} {w : World} {K : PySem.W.Frag} {mg : Str → Option Value} {base : Heap} {cl : String → Option Addr} {c : Cfg} {k : Nat} {f : Addr} {name qual : Str} {params : Arguments} {body : List Stmt} {scope : Scope} {dV kV doc pm cdv ct oc : Value}
  {an od : Option Addr} {osl : Array (Option Value)} {N ps : List Str} {mini : List Sm} {sem : List D → Option FOut}
/-- the wish of a def's body about exceptions -/
def wE (E : XK) : WX := fun cv d _ H => E cv d H
/-- a def keeps the promise of its small body -/
theorem fnG_body (lk : K.lookup f = some ⟨oc, od, .func (PySem.W.fnOf name qual params body scope dV kV doc pm an cdv ct), osl⟩) (hcd : PySem.W.codeIn K cdv qual = true) (S : FnScope N ps scope) (Gl : ∀ n, Glob cl { c with fuel := n } P w K mg base k)
    (hchk : chkSs N scope mini body = true) (hsem : ∀ ds out, sem ds = some out → ∃ n, bodyF { c with fuel := n } ps.length N.length mini ds = some out) :
    FnG P w K mg base (k + 1) f (PySem.W.fnOf name qual params body scope dV kV doc pm an cdv ct) ps (spOf K cl ps.length sem) := by
  constructor
  · exact fun vs H Q E h => h.len
  intro A outer s H args us vs Q E hr hg e0 hb r hsp
  have lenV : vs.length = ps.length := hsp.1
  have KX : K.In s.heap := e0.mod.kin.keeps fun b o e => (e0.bs b o e).1
  have local_ : ∀ z ∈ ps.zip us, scope.names.lookup z.1 = some .local ∨ (scope.names.lookup z.1 = some .cell ∧ ((cellsFrom (s.heap.objs.size + 1) scope.names []).lookup z.1).isSome = true) := by
    rintro ⟨x, v⟩ hz
    exact (S.par x (List.of_mem_zip hz).1).imp id fun q => ⟨q, PySem.W.cellsFrom_some _ _ _ (.inl q)⟩
  apply codeAny_call_function hr.depth (KX _ _ lk) rfl S.co S.gen rfl (PySem.W.codeRec_of KX hcd)
  apply hb
  apply wpAny_newFunctionEnv_cells S.kind local_
  intro env he s1 x
  subst he
  refine ⟨(e0.mod.nolimit.keeps fun b o e => (e0.bs b o e).1).keeps x.toInCall.keep, codeAny_func ?_⟩
  -- the body
  obtain ⟨G, ds, fp, st, hout⟩ := hsp.2
  have hdl : ds.length = ps.length := by have := st.len; simp at this; omega
  cases hs : sem ds with
  | none => rw [hs] at hout; exact hout.elim
  | some out =>
    rw [hs] at hout
    obtain ⟨n, hbody⟩ := hsem ds out hs
    have hN : ps.length ≤ N.length := by have := congrArg List.length S.pre; rw [List.length_take] at this; omega
    have C : CtxS cl { c with fuel := n } (wE E) (cxOf (L2.CX P w) P w K mg base N qual scope f cdv A outer s H E) k :=
      { calm := rfl, nd := S.nd, room := hr.deeper _, grd := hg, own := passes_of rfl, tk := takes_of rfl rfl rfl rfl, gl := Gl n, fnT := fun _ => rfl, kind := S.kind }
    have snd := sndSs (c := { c with fuel := n }) mini C hchk
    have I := inv_start (CX := L2.CX P w) (E := E) S hr.hd e0 lenV r x
    have body_ := snd.run [] s1 (L2.start N vs) H { nx := fun _ H' => Q .non H', rt := Q } I (by
      have pd := st.pad (N.length - ps.length) (N.length - vs.length) (by rw [lenV])
      refine ⟨ds ++ List.replicate (N.length - ps.length) D.gone, G, fp, pd, ?_⟩
      unfold bodyF at hbody
      rw [if_pos hdl] at hbody
      cases ev : evSs { c with fuel := n } mini (ds ++ List.replicate (N.length - ps.length) .gone) with
      | stuck => rw [ev] at hbody; cases hbody
      | brk g => rw [ev] at hbody; cases hbody
      | cnt g => rw [ev] at hbody; cases hbody
      | nx g =>
        rw [ev] at hbody
        cases hbody
        intro σ' G' H' f' s' kp st'
        obtain ⟨f2, s2, w2⟩ := s'.ios lenV kp
        exact hout .non G' H' f2 [] s2 .non (fun _ z => by cases z) (st'.B fun a h => h.elim (fun z => by cases z) (w2 a))
      | ret d g =>
        rw [ev] at hbody
        cases hbody
        intro v σ' G' H' f' fp' s' rp n' kp st'
        obtain ⟨f2, s2, w2⟩ := s'.ios lenV kp
        exact hout v G' H' f2 fp' s2 rp (fun a h z => n' a h (w2 a z)) (st'.B fun a h => h.imp id (w2 a))
      | exc xx g =>
        rw [ev] at hbody
        cases hbody
        intro cv d σ' G' H' f' s' xr kp st'
        obtain ⟨f2, s2, w2⟩ := s'.ios lenV kp
        exact hout cv d G' H' f2 s2 xr (st'.B w2))
    have done : ∀ {σ' : St} {H' : Hp} {v : V} {u : Value} {s' : Shared}, L2.Inv (cxOf (L2.CX P w) P w K mg base N qual scope f cdv A outer s H E) [] σ' H' s' → RelV v u → Q v H' → CE outer P w H s Q u s' :=
      fun {σ' H' v u s'} J rv q => ⟨v, H', J.os, J.bare, J.base, J.hok, rv, q⟩
    refine wpAny_mono body_ (fun fl s' h => ?_) fun _ _ h => h
    cases fl with
    | brk => exact h.elim fun _ h => h.elim fun _ h => h.2.elim
    | cont => exact h.elim fun _ h => h.elim fun _ h => h.2.elim
    | next =>
      obtain ⟨_, H', J, q⟩ := h
      exact done (v := V.non) (u := Value.none) J rfl q
    | ret u =>
      obtain ⟨v, _, H', J, rv, q⟩ := h
      exact done J rv q
/-- a def as a def of the table -/
theorem fnIn_body {x : String} {F : Fn} {st : Stmt} {fd : FuncData} (hF : L2.Fun K (Str.ofString x) (Str.ofString x) st f fd) (hm : mg (Str.ofString x) = some (.ref f)) (hb : Binds K fd ps []) (S : FnScope N ps (defScope st)) (Gl : ∀ n, Glob cl { c with fuel := n } P w K mg base k)
    (hn : F.n = ps.length) (hchk : chkSs N (defScope st) mini (defBody st) = true) (hsem : ∀ ds out, F.sem ds = some out → ∃ n, bodyF { c with fuel := n } ps.length N.length mini ds = some out) : FnIn cl P w K mg base (k + 1) x F := by
  obtain ⟨oc, od, kV, doc, pm, an, cdv, ct, osl, rfl, lk, hcd⟩ := hF.ex
  exact ⟨f, _, ps, by rw [hn]; exact fnG_body lk hcd S Gl hchk hsem, hm, hF.kp, hb⟩
theorem FnIn.mono {j : Nat} {x : String} {F : Fn} (h : FnIn cl P w K mg base j x F) (hj : j ≤ k) : FnIn cl P w K mg base k x F := by
  obtain ⟨a, fd, ps, g, m, kp, b⟩ := h.ex
  exact ⟨a, fd, ps, ⟨g.len, fun A outer s H args us vs Q E hr => g.run A outer s H args us vs Q E (hr.mono hj)⟩, m, kp, b⟩
end

/-! ### the law -/
theorem law_run {P : Program} {w : World} {K : PySem.W.Frag} {mg mb : Str → Option Value} {k : Nat} {fa a : Addr} {fd : FuncData} {x : Str} {cl : String → Option Addr} {sem : List D → Option FOut} {s₁ : Shared} {vs : List Value} {ns : List Int}
    (KX : K.In s₁.heap) (hns : s₁.heap.Ns mainGlobals mg) (hb : s₁.heap.Ns builtinsNs mb) (hbb : ∀ x : Str, x ≠ "__name__" → mb x = bootBuiltins x) (hlim : s₁.heap.NoLimit) (hg : s₁.gens = #[])
    (ha : s₁.heap.get? a = some { cls := .type "list", data := .seq vs.toArray }) (hi : IntsAre vs ns) (hl : ns.length ≤ sizeLine) (hr : Room k callerA)
    (F : ∀ base : Heap, K.In base → base.Ns mainGlobals mg → FnG P w K mg base k fa fd [x] (spOf K cl 1 sem)) (hbind : ∀ (s : Shared) (u : Value), BindsTo s fd ⟨[u], []⟩ [(x, u)])
    (hsem : sem [.lst false (ns.map D.int)] = some (.ret (.bl true) [.gone])) :
    codeAny (model P w) callerA (.call (.ref fa) ⟨[.ref a], []⟩) (fun r s' => r = .ok (.ret (.bool true)) ∧ OldK s₁.heap s'.heap ∧ s'.os = s₁.os ∧ AllBare s'.gens) s₁ := by
  have rv := vals_ints hi
  have lenV := hi.length
  have fzi : ∀ (ns : List Int) (G H : Hp), FzL K G H (ns.map V.int) (ns.map D.int) := fun ns G H => by
    induction ns with
    | nil => exact .nil
    | cons n r ih => exact .cons (.int n) rfl ih
  have core : ∀ H : Hp, Only H → SqL K H a (ns.map V.int) → HOk P w H s₁.heap → (∀ b, H b ≠ none → b = a) → (H a ≠ none → K.lookup a = none) →
      codeAny (model P w) callerA (.call (.ref fa) ⟨[.ref a], []⟩) (fun r s' => r = .ok (.ret (.bool true)) ∧ OldK s₁.heap s'.heap ∧ s'.os = s₁.os ∧ AllBare s'.gens) s₁ := by
    intro H hO hS hok hA hK
    have notDict : ∀ {b : Addr} {o : Obj} {es : Array DictEntry} {ep : Nat}, s₁.heap.get? b = some o → o.data = .dict es ep → H b = none := by
      intro b o es ep e d
      cases q : H b with
      | none => rfl
      | some u =>
        obtain rfl := hA b (by simp [q])
        rw [ha] at e
        cases e
        cases (show Data.seq vs.toArray _ = Data.dict es ep from d)
    have ground : ∀ {b : Addr} {m : Str → Option Value}, s₁.heap.Ns b m → (hidT s₁.heap H).Ns b m := by
      rintro b m ⟨o, es, ep, e, d, q⟩
      exact ⟨o, es, ep, hidT_get e (notDict e d), d, q⟩
    have hKb : K.In (hidT s₁.heap H) := by
      intro b o e
      refine hidT_get (KX b o e) ?_
      cases q : H b with
      | none => rfl
      | some u =>
        obtain rfl := hA b (by simp [q])
        rw [hK (by simp [q])] at e
        cases e
    obtain ⟨mc, l1, l2⟩ := hlim
    have e0 : Env0 P w K mg (hidT s₁.heap H) callerA [] s₁ H :=
      { frames := rfl, mod := ⟨hKb, ground hns, ⟨mb, ground hb, hbb⟩, ⟨mc, ground l1, l2⟩⟩, bs := fun b o e => of_hidT e, bsz := by rw [hidT_size]; exact Nat.le_refl _, funs := trivial, frf := fun b z => (by cases z), hok := hok, bare := .of_eq hg }
    have sta : Sta K H H [.lst false (ns.map D.int)] (([.ref a] : List V).map some) (fun _ => []) := by
      refine ⟨.refl H, rfl, fun i d e hd => ?_, fun _ _ => rfl, fun _ _ _ z => by cases z⟩
      cases i with
      | zero => simp at e; subst e; exact ⟨.ref a, rfl, .lst hS (fzi ns H H)⟩
      | succ i => simp at e
    have run := (F _ hKb (ground hns)).run callerA [] s₁ H ⟨[.ref a], []⟩ [.ref a] [.ref a] (fun v H' => v = .bl true) (fun _ _ _ => False) hr rfl e0 (hbind s₁ (.ref a)) (.cons rfl .nil)
      ⟨rfl, H, _, _, sta, by rw [hsem]; exact fun v G' H' f' fp s' r' n' st' => r'.bl_inv⟩
    refine codeAny_mono run fun o s' h => ?_
    match o, h with
    | .error e, ⟨_, _, _, _, _, _, _, _, _, _, _, _, z⟩ => exact z.elim
    | .ok (.ret u), ⟨v, H', os, bare, un, hok', r', q⟩ =>
      obtain rfl : v = .bl true := q
      obtain rfl : u = Value.bool true := r'
      refine ⟨rfl, OldK.of_keep fun b o e => ?_, os, bare⟩
      rcases hO b with z | ⟨ob, xs, z⟩
      · exact un.keep b o e z (fun y => by cases y) (fun y => by cases y)
      · obtain ⟨e1, _⟩ := hok b _ z
        obtain ⟨e2, _⟩ := hok' b _ (un.frzs b ob _ z)
        rw [e] at e1
        cases e1
        exact e2
  by_cases hk : K.lookup a = none
  · have at_a : ∀ {u : HO} {b : Addr}, (if b = a then some (.frz { cls := .type "list", data := .seq vs.toArray } (.lst (ns.map V.int))) else none : Option HO) = some u → b = a ∧ u = .frz { cls := .type "list", data := .seq vs.toArray } (.lst (ns.map V.int)) := by
      intro u b e
      by_cases q : b = a
      · rw [if_pos q] at e; exact ⟨q, (Option.some.inj e).symm⟩
      · rw [if_neg q] at e; cases e
    apply core (fun b => if b = a then some (.frz { cls := .type "list", data := .seq vs.toArray } (.lst (ns.map V.int))) else none)
    · intro b
      by_cases q : b = a
      · exact .inr ⟨_, _, if_pos q⟩
      · exact .inl (if_neg q)
    · exact .inl (.inr ⟨_, if_pos rfl⟩)
    · intro b u e
      obtain ⟨rfl, rfl⟩ := at_a e
      exact ⟨ha, by simpa using hl, vs, _, rv, ha⟩
    · intro b z
      by_cases q : b = a
      · exact q
      · exact absurd (if_neg q) z
    · exact fun _ => hk
  · cases hk' : K.lookup a with
    | none => exact absurd hk' hk
    | some o =>
      have e := KX a o hk'
      rw [ha] at e
      cases e
      apply core (fun _ => none)
      · exact fun _ => .inl rfl
      · exact .inr ⟨_, vs.toArray, _, hk', rfl, rfl, rfl, by rw [List.size_toArray, lenV]; exact hl, rv⟩
      · exact fun b u z => by cases z
      · exact fun b z => absurd rfl z
      · exact fun z => absurd rfl z
/-- what the head leaves, from the law's small body -/
theorem walkG {l : PySem.W.OpenLaw} {n k : Nat} {q : Program} {loose : List Str} {XP : (Str → Option Value) → Heap → Prop} {YP : World → Heap → Prop} {d : DefRec} {K : Params → PySem.W.Frag} {sem : List D → Option FOut} {x : Str}
    (hn : l.most = some n) (hn2 : n ≤ sizeLine) (hdf : d.params.defaults = []) (hr : Room k callerA) (hY : ∀ (w : World) (h : Heap), YP w h → (K w.params).In h)
    (F : ∀ (w : World) (mg : Str → Option Value) (fa : Addr) (h : Heap), (K w.params).In h → h.Ns mainGlobals mg → mg d.name = some (.ref fa) →
      ∃ (fd : FuncData) (cl : String → Option Addr), (∀ (s : Shared) (u : Value), BindsTo s fd ⟨[u], []⟩ [(x, u)]) ∧ ∀ base : Heap, (K w.params).In base → base.Ns mainGlobals mg → FnG l.prog w (K w.params) mg base k fa fd [x] (spOf (K w.params) cl 1 sem))
    (hsem : ∀ ns : List Int, ns.length ≤ n → sem [.lst false (ns.map D.int)] = some (.ret (.bl true) [.gone])) : PySem.W.WalkO q loose XP YP l.row.toRowW d [] (fun f vs => PySem.call f vs) := by
  apply Att.attach_call hn hdf
  intro w s₀ s₁ mg mb fa o pm cd doc a vs ns G Y ho hd hcd hmg hobj hints hlen hg
  obtain ⟨fd, cl, hb, hF⟩ := F w mg fa _ (hY w _ Y) G.T.g hmg
  exact law_run (hY w _ Y) G.T.g G.T.b G.T.builtins G.T.nolimit hg hobj hints (Nat.le_trans hlen hn2) hr hF hb (hsem ns hlen)
end DPy
/-! tables of a law's defs -/
namespace DPy
open PySem PySem.Spec L2
open PyProof.Rows hiding St

def look {α : Type} : List (String × α) → String → Option α
  | [], _ => none
  | p :: l, x => if p.1 = x then some p.2 else look l x
theorem look_nil {α : Type} {R : String → α → Prop} : ∀ x a, look ([] : List (String × α)) x = some a → R x a := fun _ _ h => by cases h
theorem look_cons {α : Type} {R : String → α → Prop} {y : String} {b : α} {l : List (String × α)} (h : R y b) (t : ∀ x a, look l x = some a → R x a) : ∀ x a, look ((y, b) :: l) x = some a → R x a := fun x a e => by
  unfold look at e
  by_cases q : y = x
  · rw [if_pos q] at e; cases e; subst q; exact h
  · rw [if_neg q] at e; exact t x a e
def noCl : String → Option Addr := fun _ => none
def bigFuel : Nat := 1000000000000
def D.kids : D → List D
  | .tup xs => xs
  | .lst _ xs => xs
  | _ => []
section
variable {P : Program} {w : World} {K : PySem.W.Frag} {mg : Str → Option Value} {base : Heap} {cl : String → Option Addr} {c : Cfg} {k : Nat} {f : Addr} {N ps : List Str} {mini : List Sm}
theorem fnIn_fn {x : String} {F : Fn} {st : Stmt} {fd : FuncData} (hF : L2.Fun K (Str.ofString x) (Str.ofString x) st f fd) (S : FnScope N ps (defScope st)) (Gl : ∀ n, Glob cl { c with fuel := n } P w K mg base k)
    (hn : F.n = ps.length) (hchk : chkSs N (defScope st) mini (defBody st) = true) (hsem : ∀ ds out, F.sem ds = some out → ∃ n, bodyF { c with fuel := n } ps.length N.length mini ds = some out) : FnG P w K mg base (k + 1) f fd ps (spOf K cl ps.length F.sem) := by
  obtain ⟨oc, od, kV, doc, pm, an, cdv, ct, osl, rfl, lk, hcd⟩ := hF.ex
  exact fnG_body lk hcd S Gl hchk hsem
end
end DPy
/-! what the plain laws lean on -/
namespace DPy
open PySem PySem.Spec L2
open PyProof.Rows hiding St

/-! ### showing -/
mutual
def D.small : D → Bool
  | .int i => decide (-999999999999 ≤ i) && decide (i ≤ 999999999999)
  | .str x => x.cps.toList.all fun c => decide (c < 16 ^ 8)
  | .tup xs | .lst _ xs => D.smallL xs
  | _ => true
def D.smallL : List D → Bool
  | [] => true
  | d :: ds => d.small && D.smallL ds
end
mutual
theorem D.small_short : ∀ d : D, d.small = true → d.py.leavesShort 13 = true ∧ d.py.showable = true
  | .gone, _ => ⟨rfl, rfl⟩
  | .non, _ => ⟨rfl, rfl⟩
  | .bl _, _ => ⟨rfl, rfl⟩
  | .int i, h => by
    simp only [D.small, Bool.and_eq_true, decide_eq_true_eq] at h
    refine ⟨by simp only [D.py, PyData.leavesShort, decide_eq_true_eq]; exact PyData.shown_int_le2 h.1 h.2, ?_⟩
    simp only [D.py, PyData.showable, decide_eq_true_eq]
    by_cases z : i.natAbs = 0
    · rw [z]; decide
    · exact (Nat.log2_lt z).mpr (Nat.lt_of_lt_of_le (show i.natAbs < 2 ^ 40 by omega) (Nat.pow_le_pow_right (by decide) (by decide)))
  | .str x, h => by
    simp only [D.small] at h
    exact ⟨by simp only [D.py, PyData.leavesShort]; exact h, rfl⟩
  | .tup xs, h => by
    simp only [D.small] at h
    have := D.smallL_short xs h
    exact ⟨by simp only [D.py, PyData.leavesShort]; exact this.1, by simp only [D.py, PyData.showable]; exact this.2⟩
  | .lst o xs, h => by
    simp only [D.small] at h
    have := D.smallL_short xs h
    exact ⟨by simp only [D.py, PyData.leavesShort]; exact this.1, by simp only [D.py, PyData.showable]; exact this.2⟩
theorem D.smallL_short : ∀ ds : List D, D.smallL ds = true → PyData.leavesShortAll 13 (D.pys ds) = true ∧ PyData.showableAll (D.pys ds) = true
  | [], _ => ⟨rfl, rfl⟩
  | d :: ds, h => by
    simp only [D.smallL, Bool.and_eq_true] at h
    have a := D.small_short d h.1
    have b := D.smallL_short ds h.2
    exact ⟨by simp only [D.pys, PyData.leavesShortAll, a.1, b.1, Bool.and_self], by simp only [D.pys, PyData.showableAll, a.2, b.2, Bool.and_self]⟩
end
theorem showOk_of {d : D} (h : d.here = true) (s : d.small = true) (b : d.py.bulk ≤ 1000000) (t : d.py.depth ≤ 64) : showOk d = true := by
  have q := D.small_short d s
  have l := PyData.shown_le_bulk 13 (by decide) d.py q.1
  have l2 : d.py.shown.length ≤ sizeLine := by
    have : sizeLine = 16777216 := rfl
    omega
  simp only [showOk, h, q.2, Bool.true_and, Bool.and_eq_true, decide_eq_true_eq]
  exact ⟨l2, t⟩

/-! ### loops -/
/-- a loop that keeps a promise, item by item -/
theorem forL_inv {step : D → List D → SOut} (Inv : Nat → List D → Prop) : ∀ (xs : List D) (i : Nat) (g : List D), Inv i g →
    (∀ j x g, xs[j]? = some x → Inv (i + j) g → ∃ g', (step x g = .nx g' ∨ step x g = .cnt g') ∧ Inv (i + j + 1) g') → ∃ g', forL step xs g = .nx g' ∧ Inv (i + xs.length) g'
  | [], i, g, h, _ => ⟨g, rfl, h⟩
  | x :: xs, i, g, h, k => by
    obtain ⟨g1, e, h1⟩ := k 0 x g rfl h
    obtain ⟨g2, e2, h2⟩ := forL_inv Inv xs (i + 1) g1 h1 fun j x g hx hg => by
      have q := k (j + 1) x g (by simpa using hx) (by rw [show i + (j + 1) = i + 1 + j by omega]; exact hg)
      rw [show i + (j + 1) + 1 = i + 1 + j + 1 by omega] at q
      exact q
    refine ⟨g2, ?_, by rw [List.length_cons, show i + (xs.length + 1) = i + 1 + xs.length by omega]; exact h2⟩
    unfold forL
    rcases e with e | e <;> rw [e] <;> exact e2
/-- the same, of a loop that may be left -/
theorem forL_brk {step : D → List D → SOut} (Inv : Nat → List D → Prop) (Post : List D → Prop) : ∀ (xs : List D) (i : Nat) (g : List D), Inv i g →
    (∀ j x g, xs[j]? = some x → Inv (i + j) g → ∃ g', ((step x g = .nx g' ∨ step x g = .cnt g') ∧ Inv (i + j + 1) g') ∨ (step x g = .brk g' ∧ Post g')) → (∀ g, Inv (i + xs.length) g → Post g) → ∃ g', forL step xs g = .nx g' ∧ Post g'
  | [], i, g, h, _, p => ⟨g, rfl, p g h⟩
  | x :: xs, i, g, h, k, p => by
    obtain ⟨g1, e⟩ := k 0 x g rfl h
    rcases e with ⟨e, h1⟩ | ⟨e, h1⟩
    · obtain ⟨g2, e2, h2⟩ := forL_brk Inv Post xs (i + 1) g1 h1 (fun j x g hx hg => by
        have q := k (j + 1) x g (by simpa using hx) (by rw [show i + (j + 1) = i + 1 + j by omega]; exact hg)
        rw [show i + (j + 1) + 1 = i + 1 + j + 1 by omega] at q
        exact q) (fun g hg => p g (by rw [List.length_cons, show i + (xs.length + 1) = i + 1 + xs.length by omega]; exact hg))
      refine ⟨g2, ?_, h2⟩
      unfold forL
      rcases e with e | e <;> rw [e] <;> exact e2
    · exact ⟨g1, by unfold forL; rw [e], h1⟩
theorem atI_nat {xs : List D} {j : Nat} {d : D} (h : xs[j]? = some d) : atI xs (j : Int) = some d := by
  have l := (List.getElem?_eq_some_iff.mp h).1
  unfold atI ixN
  rw [if_pos (by omega), if_pos (by omega)]
  exact h
theorem atI_int {xs : List D} {i : Int} (h0 : 0 ≤ i) {d : D} (h : xs[i.toNat]? = some d) : atI xs i = some d := by
  have := atI_nat h
  rwa [Int.toNat_of_nonneg h0] at this

/-! ### what waits: simp does not look into it -/
inductive Tag {α : Type} (k : α) : Type
  | mk
def Out.bindD {α β : Type} (o : Out α) (k : α → M β) (t : Tag k := .mk) : Out β := o.bind k
def toD {α : Type} (o : Out α) (k : α → List D → SOut) (t : Tag k := .mk) : SOut := toS o k
def SOut.seqD (o : SOut) (k : List D → SOut) (t : Tag k := .mk) : SOut := o.seq k
/-! ### steps of the evaluator, as rewriting -/
section
variable {α β : Type} {a : α} {g : List D} {x : Exc} {d e : D} {i j : Int} {xs ys : List D} {o : Bool}
@[simp] theorem v_bind_ok {k : α → M β} {t : Tag k} : (Out.ok a g).bindD k t = k a g := (rfl)
@[simp ↓] theorem v_bind_ok' {k : α → M β} {t : Tag k} : (Out.ok a g).bindD k t = k a g := (rfl)
@[simp] theorem v_bind_exc {k : α → M β} {t : Tag k} : (Out.exc x g : Out α).bindD k t = .exc x g := (rfl)
@[simp ↓] theorem v_bind_exc' {k : α → M β} {t : Tag k} : (Out.exc x g : Out α).bindD k t = .exc x g := (rfl)
@[simp] theorem v_calm_ok : (Out.ok a g).calm = .ok a g := (rfl)
@[simp] theorem v_ofO_some : ofO (some a) g = .ok a g := (rfl)
@[simp] theorem v_toS_ok {k : α → List D → SOut} {t : Tag k} : toD (.ok a g) k t = k a g := (rfl)
@[simp ↓] theorem v_toS_ok' {k : α → List D → SOut} {t : Tag k} : toD (.ok a g) k t = k a g := (rfl)
@[simp] theorem v_toS_exc {k : α → List D → SOut} {t : Tag k} : toD (.exc x g) k t = .exc x g := (rfl)
@[simp ↓] theorem v_toS_exc' {k : α → List D → SOut} {t : Tag k} : toD (.exc x g) k t = .exc x g := (rfl)
@[simp] theorem v_seq_nx {k : List D → SOut} {t : Tag k} : (SOut.nx g).seqD k t = k g := (rfl)
@[simp ↓] theorem v_seq_nx' {k : List D → SOut} {t : Tag k} : (SOut.nx g).seqD k t = k g := (rfl)
@[simp] theorem v_seq_ret {k : List D → SOut} {t : Tag k} : (SOut.ret d g).seqD k t = .ret d g := (rfl)
@[simp ↓] theorem v_seq_ret' {k : List D → SOut} {t : Tag k} : (SOut.ret d g).seqD k t = .ret d g := (rfl)
@[simp] theorem v_seq_brk {k : List D → SOut} {t : Tag k} : (SOut.brk g).seqD k t = .brk g := (rfl)
@[simp ↓] theorem v_seq_brk' {k : List D → SOut} {t : Tag k} : (SOut.brk g).seqD k t = .brk g := (rfl)
@[simp] theorem v_seq_cnt {k : List D → SOut} {t : Tag k} : (SOut.cnt g).seqD k t = .cnt g := (rfl)
@[simp ↓] theorem v_seq_cnt' {k : List D → SOut} {t : Tag k} : (SOut.cnt g).seqD k t = .cnt g := (rfl)
@[simp] theorem v_seq_exc {k : List D → SOut} {t : Tag k} : (SOut.exc x g).seqD k t = .exc x g := (rfl)
@[simp ↓] theorem v_seq_exc' {k : List D → SOut} {t : Tag k} : (SOut.exc x g).seqD k t = .exc x g := (rfl)
@[simp] theorem v_nxO : nxO (some g) = .nx g := (rfl)
@[simp] theorem v_see_val : (R.val d).see g = d := (rfl)
@[simp] theorem v_see_at {n : Nat} : (R.at n).see g = g[n]?.getD .gone := (rfl)
@[simp] theorem v_add : binop .Add (.int i) (.int j) = some (.int (i + j)) := (rfl)
@[simp] theorem v_sub : binop .Sub (.int i) (.int j) = some (.int (i - j)) := (rfl)
@[simp] theorem v_iadd : inop .Add (.int i) (.int j) = some (.int (i + j)) := (rfl)
@[simp] theorem v_isub : inop .Sub (.int i) (.int j) = some (.int (i - j)) := (rfl)
theorem v_mul (h : (-18446744073709551616 < i ∧ i < 18446744073709551616) ∨ (-18446744073709551616 < j ∧ j < 18446744073709551616)) : binop .Mult (.int i) (.int j) = some (.int (i * j)) := by simp only [binop]; rw [if_pos h]
@[simp] theorem v_mulL (h : -18446744073709551616 < i) (h2 : i < 18446744073709551616) : binop .Mult (.int i) (.int j) = some (.int (i * j)) := v_mul (.inl ⟨h, h2⟩)
@[simp] theorem v_mulR (h : -18446744073709551616 < j) (h2 : j < 18446744073709551616) : binop .Mult (.int i) (.int j) = some (.int (i * j)) := v_mul (.inr ⟨h, h2⟩)
@[simp] theorem v_fdiv (h : j ≠ 0) (h2 : j.natAbs < 1073741824) : binop .FloorDiv (.int i) (.int j) = some (.int (i.fdiv j)) := by simp only [binop]; rw [if_pos ⟨h, h2⟩]
@[simp] theorem v_fmod (h : j ≠ 0) : binop .Mod (.int i) (.int j) = some (.int (i.fmod j)) := by simp only [binop]; rw [if_pos h]
@[simp] theorem v_lt : cmpop .Lt (.int i) (.int j) = some (decide (i < j)) := (rfl)
@[simp] theorem v_le : cmpop .LtE (.int i) (.int j) = some (decide (i ≤ j)) := (rfl)
@[simp] theorem v_gt : cmpop .Gt (.int i) (.int j) = some (decide (j < i)) := (rfl)
@[simp] theorem v_ge : cmpop .GtE (.int i) (.int j) = some (decide (j ≤ i)) := (rfl)
@[simp] theorem v_eq_int : cmpop .Eq (.int i) (.int j) = some (decide (i = j)) := by simp [cmpop, D.here, SeqAt.shaped, D.py, PyData.eqv, PyData.canLay0, PyData.depth, Bool.beq_eq_decide_eq]
@[simp] theorem v_ne_int : cmpop .NotEq (.int i) (.int j) = some (!decide (i = j)) := by simp [cmpop, D.here, SeqAt.shaped, D.py, PyData.eqv, PyData.canLay0, PyData.depth, Bool.beq_eq_decide_eq]
theorem v_eq_str {p q : Str} : cmpop .Eq (.str p) (.str q) = some (decide (p = q)) := (rfl)
theorem v_ne_str {p q : Str} : cmpop .NotEq (.str p) (.str q) = some (!decide (p = q)) := (rfl)
@[simp] theorem v_sub_tup : subD (.tup xs) (.int i) = atI xs i := (rfl)
@[simp] theorem v_sub_lst : subD (.lst o xs) (.int i) = atI xs i := (rfl)
@[simp] theorem v_at0 : atI (d :: xs) 0 = some d := by simp [atI, ixN]
theorem v_atS {n : Nat} : atI (d :: xs) ((n + 1 : Nat) : Int) = atI xs (n : Int) := by
  simp only [atI, ixN, List.length_cons]
  have h1 : (0 : Int) ≤ ((n + 1 : Nat) : Int) := by omega
  have h2 : (0 : Int) ≤ ((n : Nat) : Int) := by omega
  rw [if_pos h1, if_pos h2]
  by_cases h : n < xs.length
  · have h3 : ((n + 1 : Nat) : Int) < ((xs.length + 1 : Nat) : Int) := by omega
    have h4 : ((n : Nat) : Int) < ((xs.length : Nat) : Int) := by omega
    rw [if_pos h3, if_pos h4]; rfl
  · have h3 : ¬ ((n + 1 : Nat) : Int) < ((xs.length + 1 : Nat) : Int) := by omega
    have h4 : ¬ ((n : Nat) : Int) < ((xs.length : Nat) : Int) := by omega
    rw [if_neg h3, if_neg h4]; rfl
@[simp] theorem v_at1 : atI (d :: xs) 1 = atI xs 0 := v_atS (n := 0)
@[simp] theorem v_at2 : atI (d :: xs) 2 = atI xs 1 := v_atS (n := 1)
@[simp] theorem v_at3 : atI (d :: xs) 3 = atI xs 2 := v_atS (n := 2)
@[simp] theorem v_at4 : atI (d :: xs) 4 = atI xs 3 := v_atS (n := 3)
@[simp] theorem v_at5 : atI (d :: xs) 5 = atI xs 4 := v_atS (n := 4)
@[simp] theorem v_at6 : atI (d :: xs) 6 = atI xs 5 := v_atS (n := 5)
@[simp] theorem v_at7 : atI (d :: xs) 7 = atI xs 6 := v_atS (n := 6)
@[simp] theorem v_items_tup : items (.tup xs) = some xs := (rfl)
@[simp] theorem v_items_lst : items (.lst o xs) = some xs := (rfl)
@[simp] theorem v_truth_bl {b : Bool} : truth (.bl b) = some b := (rfl)
@[simp] theorem v_truth_int : truth (.int i) = some (i != 0) := (rfl)
@[simp] theorem v_truth_lst : truth (.lst o xs) = some (!xs.isEmpty) := (rfl)
@[simp] theorem v_truth_tup : truth (.tup xs) = some (!xs.isEmpty) := (rfl)
@[simp] theorem v_len_tup : pbf .len [.tup xs] = some (.int xs.length) := (rfl)
@[simp] theorem v_len_lst : pbf .len [.lst o xs] = some (.int xs.length) := (rfl)
@[simp] theorem v_int_int : pbf .int [.int i] = some (.int i) := (rfl)
@[simp] theorem v_int_bl {b : Bool} : pbf .int [.bl b] = some (.int (if b = true then 1 else 0)) := (rfl)
@[simp] theorem v_abs : pbf .abs [.int i] = some (.int (if i < 0 then -i else i)) := (rfl)
@[simp] theorem v_max : pbf .max [.int i, .int j] = some (.int (if j > i then j else i)) := (rfl)
@[simp] theorem v_min : pbf .min [.int i, .int j] = some (.int (if j < i then j else i)) := (rfl)
@[simp] theorem v_repr (h : showOk d = true) : pbf .repr [d] = some (.str d.py.shown) := by simp only [pbf]; rw [if_pos h]
@[simp] theorem v_here_int : (D.int i).here = true := (rfl)
@[simp] theorem v_here_bl {b : Bool} : (D.bl b).here = true := (rfl)
@[simp] theorem v_here_non : D.non.here = true := (rfl)
@[simp] theorem v_here_gone : D.gone.here = false := (rfl)
@[simp] theorem v_here_str {p : Str} : (D.str p).here = true := (rfl)
@[simp] theorem v_here_tup : (D.tup xs).here = true := (rfl)
@[simp] theorem v_here_lst : (D.lst o xs).here = true := (rfl)
@[simp] theorem v_fz_int : (D.int i).fz = true := (rfl)
@[simp] theorem v_fz_bl {b : Bool} : (D.bl b).fz = true := (rfl)
@[simp] theorem v_fz_non : D.non.fz = true := (rfl)
@[simp] theorem v_fz_gone : D.gone.fz = false := (rfl)
@[simp] theorem v_fz_str {p : Str} : (D.str p).fz = true := (rfl)
@[simp] theorem v_fz_tup : (D.tup xs).fz = true := (rfl)
@[simp] theorem v_fz_lst : (D.lst o xs).fz = !o := (rfl)
@[simp] theorem v_share_int : (D.int i).share = .int i := (rfl)
@[simp] theorem v_share_bl {b : Bool} : (D.bl b).share = .bl b := (rfl)
@[simp] theorem v_share_non : D.non.share = .non := (rfl)
@[simp] theorem v_share_str {p : Str} : (D.str p).share = .str p := (rfl)
@[simp] theorem v_share_tup : (D.tup xs).share = .tup xs := (rfl)
@[simp] theorem v_share_lst : (D.lst o xs).share = .lst false xs := by cases o <;> rfl
@[simp] theorem v_force_val : (R.val d).force g = if d.here = true then some (d.share, g) else none := (rfl)
@[simp] theorem v_forceL_nil : forceL [] g = some ([], g) := (rfl)
@[simp] theorem v_app (h : xs.length < sizeLine) : appD d (.lst true xs) = some (.lst true (xs ++ [d])) := by simp only [appD]; rw [if_pos h]
@[simp] theorem v_setK : setK d (.int i) (.lst true xs) = (setAt xs i d).map fun ys => .lst true ys := by simp only [setK]
@[simp] theorem v_force_at {n : Nat} : (R.at n).force g = match g[n]? with
    | some d => if d.here then some (d.share, if d.fz then g else g.set n d.share) else none
    | none => none := (rfl)
@[simp] theorem v_ofA {n : Nat} : ofA (some d) n g = .ok (.val .non) (g.set n d) := (rfl)
@[simp] theorem v_part_int : part [.int i] = some (some i) := (rfl)
@[simp] theorem v_part_nil : part [] = some none := (rfl)
@[simp] theorem v_g0 {d0 : D} {l : List D} : (d0 :: l)[0]? = some d0 := (rfl)
@[simp] theorem v_s0 {d0 : D} {l : List D} : (d0 :: l).set 0 e = e :: l := (rfl)
@[simp] theorem v_g1 {d0 d1 : D} {l : List D} : (d0 :: d1 :: l)[1]? = some d1 := (rfl)
@[simp] theorem v_s1 {d0 d1 : D} {l : List D} : (d0 :: d1 :: l).set 1 e = d0 :: e :: l := (rfl)
@[simp] theorem v_g2 {d0 d1 d2 : D} {l : List D} : (d0 :: d1 :: d2 :: l)[2]? = some d2 := (rfl)
@[simp] theorem v_s2 {d0 d1 d2 : D} {l : List D} : (d0 :: d1 :: d2 :: l).set 2 e = d0 :: d1 :: e :: l := (rfl)
@[simp] theorem v_g3 {d0 d1 d2 d3 : D} {l : List D} : (d0 :: d1 :: d2 :: d3 :: l)[3]? = some d3 := (rfl)
@[simp] theorem v_s3 {d0 d1 d2 d3 : D} {l : List D} : (d0 :: d1 :: d2 :: d3 :: l).set 3 e = d0 :: d1 :: d2 :: e :: l := (rfl)
@[simp] theorem v_g4 {d0 d1 d2 d3 d4 : D} {l : List D} : (d0 :: d1 :: d2 :: d3 :: d4 :: l)[4]? = some d4 := (rfl)
@[simp] theorem v_s4 {d0 d1 d2 d3 d4 : D} {l : List D} : (d0 :: d1 :: d2 :: d3 :: d4 :: l).set 4 e = d0 :: d1 :: d2 :: d3 :: e :: l := (rfl)
@[simp] theorem v_g5 {d0 d1 d2 d3 d4 d5 : D} {l : List D} : (d0 :: d1 :: d2 :: d3 :: d4 :: d5 :: l)[5]? = some d5 := (rfl)
@[simp] theorem v_s5 {d0 d1 d2 d3 d4 d5 : D} {l : List D} : (d0 :: d1 :: d2 :: d3 :: d4 :: d5 :: l).set 5 e = d0 :: d1 :: d2 :: d3 :: d4 :: e :: l := (rfl)
@[simp] theorem v_g6 {d0 d1 d2 d3 d4 d5 d6 : D} {l : List D} : (d0 :: d1 :: d2 :: d3 :: d4 :: d5 :: d6 :: l)[6]? = some d6 := (rfl)
@[simp] theorem v_s6 {d0 d1 d2 d3 d4 d5 d6 : D} {l : List D} : (d0 :: d1 :: d2 :: d3 :: d4 :: d5 :: d6 :: l).set 6 e = d0 :: d1 :: d2 :: d3 :: d4 :: d5 :: e :: l := (rfl)
@[simp] theorem v_g7 {d0 d1 d2 d3 d4 d5 d6 d7 : D} {l : List D} : (d0 :: d1 :: d2 :: d3 :: d4 :: d5 :: d6 :: d7 :: l)[7]? = some d7 := (rfl)
@[simp] theorem v_s7 {d0 d1 d2 d3 d4 d5 d6 d7 : D} {l : List D} : (d0 :: d1 :: d2 :: d3 :: d4 :: d5 :: d6 :: d7 :: l).set 7 e = d0 :: d1 :: d2 :: d3 :: d4 :: d5 :: d6 :: e :: l := (rfl)
@[simp] theorem v_g8 {d0 d1 d2 d3 d4 d5 d6 d7 d8 : D} {l : List D} : (d0 :: d1 :: d2 :: d3 :: d4 :: d5 :: d6 :: d7 :: d8 :: l)[8]? = some d8 := (rfl)
@[simp] theorem v_s8 {d0 d1 d2 d3 d4 d5 d6 d7 d8 : D} {l : List D} : (d0 :: d1 :: d2 :: d3 :: d4 :: d5 :: d6 :: d7 :: d8 :: l).set 8 e = d0 :: d1 :: d2 :: d3 :: d4 :: d5 :: d6 :: d7 :: e :: l := (rfl)
@[simp] theorem v_g9 {d0 d1 d2 d3 d4 d5 d6 d7 d8 d9 : D} {l : List D} : (d0 :: d1 :: d2 :: d3 :: d4 :: d5 :: d6 :: d7 :: d8 :: d9 :: l)[9]? = some d9 := (rfl)
@[simp] theorem v_s9 {d0 d1 d2 d3 d4 d5 d6 d7 d8 d9 : D} {l : List D} : (d0 :: d1 :: d2 :: d3 :: d4 :: d5 :: d6 :: d7 :: d8 :: d9 :: l).set 9 e = d0 :: d1 :: d2 :: d3 :: d4 :: d5 :: d6 :: d7 :: d8 :: e :: l := (rfl)
@[simp] theorem v_g10 {d0 d1 d2 d3 d4 d5 d6 d7 d8 d9 d10 : D} {l : List D} : (d0 :: d1 :: d2 :: d3 :: d4 :: d5 :: d6 :: d7 :: d8 :: d9 :: d10 :: l)[10]? = some d10 := (rfl)
@[simp] theorem v_s10 {d0 d1 d2 d3 d4 d5 d6 d7 d8 d9 d10 : D} {l : List D} : (d0 :: d1 :: d2 :: d3 :: d4 :: d5 :: d6 :: d7 :: d8 :: d9 :: d10 :: l).set 10 e = d0 :: d1 :: d2 :: d3 :: d4 :: d5 :: d6 :: d7 :: d8 :: d9 :: e :: l := (rfl)
@[simp] theorem v_g11 {d0 d1 d2 d3 d4 d5 d6 d7 d8 d9 d10 d11 : D} {l : List D} : (d0 :: d1 :: d2 :: d3 :: d4 :: d5 :: d6 :: d7 :: d8 :: d9 :: d10 :: d11 :: l)[11]? = some d11 := (rfl)
@[simp] theorem v_s11 {d0 d1 d2 d3 d4 d5 d6 d7 d8 d9 d10 d11 : D} {l : List D} : (d0 :: d1 :: d2 :: d3 :: d4 :: d5 :: d6 :: d7 :: d8 :: d9 :: d10 :: d11 :: l).set 11 e = d0 :: d1 :: d2 :: d3 :: d4 :: d5 :: d6 :: d7 :: d8 :: d9 :: d10 :: e :: l := (rfl)
@[simp] theorem v_g12 {d0 d1 d2 d3 d4 d5 d6 d7 d8 d9 d10 d11 d12 : D} {l : List D} : (d0 :: d1 :: d2 :: d3 :: d4 :: d5 :: d6 :: d7 :: d8 :: d9 :: d10 :: d11 :: d12 :: l)[12]? = some d12 := (rfl)
@[simp] theorem v_s12 {d0 d1 d2 d3 d4 d5 d6 d7 d8 d9 d10 d11 d12 : D} {l : List D} : (d0 :: d1 :: d2 :: d3 :: d4 :: d5 :: d6 :: d7 :: d8 :: d9 :: d10 :: d11 :: d12 :: l).set 12 e = d0 :: d1 :: d2 :: d3 :: d4 :: d5 :: d6 :: d7 :: d8 :: d9 :: d10 :: d11 :: e :: l := (rfl)
@[simp] theorem v_g13 {d0 d1 d2 d3 d4 d5 d6 d7 d8 d9 d10 d11 d12 d13 : D} {l : List D} : (d0 :: d1 :: d2 :: d3 :: d4 :: d5 :: d6 :: d7 :: d8 :: d9 :: d10 :: d11 :: d12 :: d13 :: l)[13]? = some d13 := (rfl)
@[simp] theorem v_s13 {d0 d1 d2 d3 d4 d5 d6 d7 d8 d9 d10 d11 d12 d13 : D} {l : List D} : (d0 :: d1 :: d2 :: d3 :: d4 :: d5 :: d6 :: d7 :: d8 :: d9 :: d10 :: d11 :: d12 :: d13 :: l).set 13 e = d0 :: d1 :: d2 :: d3 :: d4 :: d5 :: d6 :: d7 :: d8 :: d9 :: d10 :: d11 :: d12 :: e :: l := (rfl)
@[simp] theorem v_g14 {d0 d1 d2 d3 d4 d5 d6 d7 d8 d9 d10 d11 d12 d13 d14 : D} {l : List D} : (d0 :: d1 :: d2 :: d3 :: d4 :: d5 :: d6 :: d7 :: d8 :: d9 :: d10 :: d11 :: d12 :: d13 :: d14 :: l)[14]? = some d14 := (rfl)
@[simp] theorem v_s14 {d0 d1 d2 d3 d4 d5 d6 d7 d8 d9 d10 d11 d12 d13 d14 : D} {l : List D} : (d0 :: d1 :: d2 :: d3 :: d4 :: d5 :: d6 :: d7 :: d8 :: d9 :: d10 :: d11 :: d12 :: d13 :: d14 :: l).set 14 e = d0 :: d1 :: d2 :: d3 :: d4 :: d5 :: d6 :: d7 :: d8 :: d9 :: d10 :: d11 :: d12 :: d13 :: e :: l := (rfl)
@[simp] theorem v_g15 {d0 d1 d2 d3 d4 d5 d6 d7 d8 d9 d10 d11 d12 d13 d14 d15 : D} {l : List D} : (d0 :: d1 :: d2 :: d3 :: d4 :: d5 :: d6 :: d7 :: d8 :: d9 :: d10 :: d11 :: d12 :: d13 :: d14 :: d15 :: l)[15]? = some d15 := (rfl)
@[simp] theorem v_s15 {d0 d1 d2 d3 d4 d5 d6 d7 d8 d9 d10 d11 d12 d13 d14 d15 : D} {l : List D} : (d0 :: d1 :: d2 :: d3 :: d4 :: d5 :: d6 :: d7 :: d8 :: d9 :: d10 :: d11 :: d12 :: d13 :: d14 :: d15 :: l).set 15 e = d0 :: d1 :: d2 :: d3 :: d4 :: d5 :: d6 :: d7 :: d8 :: d9 :: d10 :: d11 :: d12 :: d13 :: d14 :: e :: l := (rfl)
@[simp] theorem v_g16 {d0 d1 d2 d3 d4 d5 d6 d7 d8 d9 d10 d11 d12 d13 d14 d15 d16 : D} {l : List D} : (d0 :: d1 :: d2 :: d3 :: d4 :: d5 :: d6 :: d7 :: d8 :: d9 :: d10 :: d11 :: d12 :: d13 :: d14 :: d15 :: d16 :: l)[16]? = some d16 := (rfl)
@[simp] theorem v_s16 {d0 d1 d2 d3 d4 d5 d6 d7 d8 d9 d10 d11 d12 d13 d14 d15 d16 : D} {l : List D} : (d0 :: d1 :: d2 :: d3 :: d4 :: d5 :: d6 :: d7 :: d8 :: d9 :: d10 :: d11 :: d12 :: d13 :: d14 :: d15 :: d16 :: l).set 16 e = d0 :: d1 :: d2 :: d3 :: d4 :: d5 :: d6 :: d7 :: d8 :: d9 :: d10 :: d11 :: d12 :: d13 :: d14 :: d15 :: e :: l := (rfl)
@[simp] theorem v_g17 {d0 d1 d2 d3 d4 d5 d6 d7 d8 d9 d10 d11 d12 d13 d14 d15 d16 d17 : D} {l : List D} : (d0 :: d1 :: d2 :: d3 :: d4 :: d5 :: d6 :: d7 :: d8 :: d9 :: d10 :: d11 :: d12 :: d13 :: d14 :: d15 :: d16 :: d17 :: l)[17]? = some d17 := (rfl)
@[simp] theorem v_s17 {d0 d1 d2 d3 d4 d5 d6 d7 d8 d9 d10 d11 d12 d13 d14 d15 d16 d17 : D} {l : List D} : (d0 :: d1 :: d2 :: d3 :: d4 :: d5 :: d6 :: d7 :: d8 :: d9 :: d10 :: d11 :: d12 :: d13 :: d14 :: d15 :: d16 :: d17 :: l).set 17 e = d0 :: d1 :: d2 :: d3 :: d4 :: d5 :: d6 :: d7 :: d8 :: d9 :: d10 :: d11 :: d12 :: d13 :: d14 :: d15 :: d16 :: e :: l := (rfl)
@[simp] theorem v_g18 {d0 d1 d2 d3 d4 d5 d6 d7 d8 d9 d10 d11 d12 d13 d14 d15 d16 d17 d18 : D} {l : List D} : (d0 :: d1 :: d2 :: d3 :: d4 :: d5 :: d6 :: d7 :: d8 :: d9 :: d10 :: d11 :: d12 :: d13 :: d14 :: d15 :: d16 :: d17 :: d18 :: l)[18]? = some d18 := (rfl)
@[simp] theorem v_s18 {d0 d1 d2 d3 d4 d5 d6 d7 d8 d9 d10 d11 d12 d13 d14 d15 d16 d17 d18 : D} {l : List D} : (d0 :: d1 :: d2 :: d3 :: d4 :: d5 :: d6 :: d7 :: d8 :: d9 :: d10 :: d11 :: d12 :: d13 :: d14 :: d15 :: d16 :: d17 :: d18 :: l).set 18 e = d0 :: d1 :: d2 :: d3 :: d4 :: d5 :: d6 :: d7 :: d8 :: d9 :: d10 :: d11 :: d12 :: d13 :: d14 :: d15 :: d16 :: d17 :: e :: l := (rfl)
@[simp] theorem v_g19 {d0 d1 d2 d3 d4 d5 d6 d7 d8 d9 d10 d11 d12 d13 d14 d15 d16 d17 d18 d19 : D} {l : List D} : (d0 :: d1 :: d2 :: d3 :: d4 :: d5 :: d6 :: d7 :: d8 :: d9 :: d10 :: d11 :: d12 :: d13 :: d14 :: d15 :: d16 :: d17 :: d18 :: d19 :: l)[19]? = some d19 := (rfl)
@[simp] theorem v_s19 {d0 d1 d2 d3 d4 d5 d6 d7 d8 d9 d10 d11 d12 d13 d14 d15 d16 d17 d18 d19 : D} {l : List D} : (d0 :: d1 :: d2 :: d3 :: d4 :: d5 :: d6 :: d7 :: d8 :: d9 :: d10 :: d11 :: d12 :: d13 :: d14 :: d15 :: d16 :: d17 :: d18 :: d19 :: l).set 19 e = d0 :: d1 :: d2 :: d3 :: d4 :: d5 :: d6 :: d7 :: d8 :: d9 :: d10 :: d11 :: d12 :: d13 :: d14 :: d15 :: d16 :: d17 :: d18 :: e :: l := (rfl)
@[simp] theorem v_g20 {d0 d1 d2 d3 d4 d5 d6 d7 d8 d9 d10 d11 d12 d13 d14 d15 d16 d17 d18 d19 d20 : D} {l : List D} : (d0 :: d1 :: d2 :: d3 :: d4 :: d5 :: d6 :: d7 :: d8 :: d9 :: d10 :: d11 :: d12 :: d13 :: d14 :: d15 :: d16 :: d17 :: d18 :: d19 :: d20 :: l)[20]? = some d20 := (rfl)
@[simp] theorem v_s20 {d0 d1 d2 d3 d4 d5 d6 d7 d8 d9 d10 d11 d12 d13 d14 d15 d16 d17 d18 d19 d20 : D} {l : List D} : (d0 :: d1 :: d2 :: d3 :: d4 :: d5 :: d6 :: d7 :: d8 :: d9 :: d10 :: d11 :: d12 :: d13 :: d14 :: d15 :: d16 :: d17 :: d18 :: d19 :: d20 :: l).set 20 e = d0 :: d1 :: d2 :: d3 :: d4 :: d5 :: d6 :: d7 :: d8 :: d9 :: d10 :: d11 :: d12 :: d13 :: d14 :: d15 :: d16 :: d17 :: d18 :: d19 :: e :: l := (rfl)
@[simp] theorem v_g21 {d0 d1 d2 d3 d4 d5 d6 d7 d8 d9 d10 d11 d12 d13 d14 d15 d16 d17 d18 d19 d20 d21 : D} {l : List D} : (d0 :: d1 :: d2 :: d3 :: d4 :: d5 :: d6 :: d7 :: d8 :: d9 :: d10 :: d11 :: d12 :: d13 :: d14 :: d15 :: d16 :: d17 :: d18 :: d19 :: d20 :: d21 :: l)[21]? = some d21 := (rfl)
@[simp] theorem v_s21 {d0 d1 d2 d3 d4 d5 d6 d7 d8 d9 d10 d11 d12 d13 d14 d15 d16 d17 d18 d19 d20 d21 : D} {l : List D} : (d0 :: d1 :: d2 :: d3 :: d4 :: d5 :: d6 :: d7 :: d8 :: d9 :: d10 :: d11 :: d12 :: d13 :: d14 :: d15 :: d16 :: d17 :: d18 :: d19 :: d20 :: d21 :: l).set 21 e = d0 :: d1 :: d2 :: d3 :: d4 :: d5 :: d6 :: d7 :: d8 :: d9 :: d10 :: d11 :: d12 :: d13 :: d14 :: d15 :: d16 :: d17 :: d18 :: d19 :: d20 :: e :: l := (rfl)
@[simp] theorem v_g22 {d0 d1 d2 d3 d4 d5 d6 d7 d8 d9 d10 d11 d12 d13 d14 d15 d16 d17 d18 d19 d20 d21 d22 : D} {l : List D} : (d0 :: d1 :: d2 :: d3 :: d4 :: d5 :: d6 :: d7 :: d8 :: d9 :: d10 :: d11 :: d12 :: d13 :: d14 :: d15 :: d16 :: d17 :: d18 :: d19 :: d20 :: d21 :: d22 :: l)[22]? = some d22 := (rfl)
@[simp] theorem v_s22 {d0 d1 d2 d3 d4 d5 d6 d7 d8 d9 d10 d11 d12 d13 d14 d15 d16 d17 d18 d19 d20 d21 d22 : D} {l : List D} : (d0 :: d1 :: d2 :: d3 :: d4 :: d5 :: d6 :: d7 :: d8 :: d9 :: d10 :: d11 :: d12 :: d13 :: d14 :: d15 :: d16 :: d17 :: d18 :: d19 :: d20 :: d21 :: d22 :: l).set 22 e = d0 :: d1 :: d2 :: d3 :: d4 :: d5 :: d6 :: d7 :: d8 :: d9 :: d10 :: d11 :: d12 :: d13 :: d14 :: d15 :: d16 :: d17 :: d18 :: d19 :: d20 :: d21 :: e :: l := (rfl)
@[simp] theorem v_g23 {d0 d1 d2 d3 d4 d5 d6 d7 d8 d9 d10 d11 d12 d13 d14 d15 d16 d17 d18 d19 d20 d21 d22 d23 : D} {l : List D} : (d0 :: d1 :: d2 :: d3 :: d4 :: d5 :: d6 :: d7 :: d8 :: d9 :: d10 :: d11 :: d12 :: d13 :: d14 :: d15 :: d16 :: d17 :: d18 :: d19 :: d20 :: d21 :: d22 :: d23 :: l)[23]? = some d23 := (rfl)
@[simp] theorem v_s23 {d0 d1 d2 d3 d4 d5 d6 d7 d8 d9 d10 d11 d12 d13 d14 d15 d16 d17 d18 d19 d20 d21 d22 d23 : D} {l : List D} : (d0 :: d1 :: d2 :: d3 :: d4 :: d5 :: d6 :: d7 :: d8 :: d9 :: d10 :: d11 :: d12 :: d13 :: d14 :: d15 :: d16 :: d17 :: d18 :: d19 :: d20 :: d21 :: d22 :: d23 :: l).set 23 e = d0 :: d1 :: d2 :: d3 :: d4 :: d5 :: d6 :: d7 :: d8 :: d9 :: d10 :: d11 :: d12 :: d13 :: d14 :: d15 :: d16 :: d17 :: d18 :: d19 :: d20 :: d21 :: d22 :: e :: l := (rfl)
@[simp] theorem v_g24 {d0 d1 d2 d3 d4 d5 d6 d7 d8 d9 d10 d11 d12 d13 d14 d15 d16 d17 d18 d19 d20 d21 d22 d23 d24 : D} {l : List D} : (d0 :: d1 :: d2 :: d3 :: d4 :: d5 :: d6 :: d7 :: d8 :: d9 :: d10 :: d11 :: d12 :: d13 :: d14 :: d15 :: d16 :: d17 :: d18 :: d19 :: d20 :: d21 :: d22 :: d23 :: d24 :: l)[24]? = some d24 := (rfl)
@[simp] theorem v_s24 {d0 d1 d2 d3 d4 d5 d6 d7 d8 d9 d10 d11 d12 d13 d14 d15 d16 d17 d18 d19 d20 d21 d22 d23 d24 : D} {l : List D} : (d0 :: d1 :: d2 :: d3 :: d4 :: d5 :: d6 :: d7 :: d8 :: d9 :: d10 :: d11 :: d12 :: d13 :: d14 :: d15 :: d16 :: d17 :: d18 :: d19 :: d20 :: d21 :: d22 :: d23 :: d24 :: l).set 24 e = d0 :: d1 :: d2 :: d3 :: d4 :: d5 :: d6 :: d7 :: d8 :: d9 :: d10 :: d11 :: d12 :: d13 :: d14 :: d15 :: d16 :: d17 :: d18 :: d19 :: d20 :: d21 :: d22 :: d23 :: e :: l := (rfl)
@[simp] theorem v_g25 {d0 d1 d2 d3 d4 d5 d6 d7 d8 d9 d10 d11 d12 d13 d14 d15 d16 d17 d18 d19 d20 d21 d22 d23 d24 d25 : D} {l : List D} : (d0 :: d1 :: d2 :: d3 :: d4 :: d5 :: d6 :: d7 :: d8 :: d9 :: d10 :: d11 :: d12 :: d13 :: d14 :: d15 :: d16 :: d17 :: d18 :: d19 :: d20 :: d21 :: d22 :: d23 :: d24 :: d25 :: l)[25]? = some d25 := (rfl)
@[simp] theorem v_s25 {d0 d1 d2 d3 d4 d5 d6 d7 d8 d9 d10 d11 d12 d13 d14 d15 d16 d17 d18 d19 d20 d21 d22 d23 d24 d25 : D} {l : List D} : (d0 :: d1 :: d2 :: d3 :: d4 :: d5 :: d6 :: d7 :: d8 :: d9 :: d10 :: d11 :: d12 :: d13 :: d14 :: d15 :: d16 :: d17 :: d18 :: d19 :: d20 :: d21 :: d22 :: d23 :: d24 :: d25 :: l).set 25 e = d0 :: d1 :: d2 :: d3 :: d4 :: d5 :: d6 :: d7 :: d8 :: d9 :: d10 :: d11 :: d12 :: d13 :: d14 :: d15 :: d16 :: d17 :: d18 :: d19 :: d20 :: d21 :: d22 :: d23 :: d24 :: e :: l := (rfl)
@[simp] theorem v_setAt0 : setAt (d :: xs) 0 e = some (e :: xs) := by simp [setAt, ixN]
@[simp] theorem v_setAt1 {d2 : D} : setAt (d :: d2 :: xs) 1 e = some (d :: e :: xs) := by
  simp only [setAt, ixN, List.length_cons]
  have h1 : (1 : Int) < ((xs.length + 1 + 1 : Nat) : Int) := by omega
  rw [if_pos (by decide), if_pos h1]; rfl

/-! statements, one step each -/
def stepF (c : Cfg) (t : Tg) (body : List Sm) (x : D) (g : List D) : SOut :=
  match tgD c t x g with
  | some g => evSs c body g
  | none => .stuck
def stepC (c : Cfg) (e : Ex) (t : Tg) (cs : List Tx) (own : List Nat) (x : D) (g : List D) : Out (Option D) :=
  match tgD { c with keep := [] } t x (wipeD g own) with
  | some g => ((evTs c cs g).bindD fun k g => if k then (evR c e g).bindD fun r g => (forceM r g).bindD fun d g => .ok (some d) g else .ok none g).calm
  | none => .stuck
section
variable {c : Cfg} {g : List D} {t : Tg} {e a b : Ex} {it : It} {u : Tx} {s : Sm} {ss tt : List Sm} {n : Nat} {op : Operator}
@[simp] theorem e_nil : evSs c [] g = .nx g := by simp only [evSs]
@[simp] theorem e_cons : evSs c (s :: ss) g = (evS c s g).seqD (evSs c ss) := by simp only [evSs]; rfl
@[simp] theorem e_asg : evS c (.asg t e) g = toD (evR c e g) fun r g => asgK c t r g := by simp only [evS]; rfl
@[simp] theorem e_exp : evS c (.exp e) g = toD (evR c e g) fun _ g => .nx g := by simp only [evS]; rfl
@[simp] theorem e_ite : evS c (.ite u ss tt) g = toD (evT c u g) fun k g => if k then evSs c ss g else evSs c tt g := by simp only [evS]; rfl
@[simp] theorem e_for : evS c (.for t it ss) g = toD (evI c it g) fun xs g => forL (stepF c t ss) xs g := by simp only [evS]; rfl
@[simp] theorem e_whl : evS c (.whl u ss) g = whlL (evT c u) (evSs c ss) c.fuel g := by simp only [evS]
@[simp] theorem e_retn : evS c .retn g = .ret .non g := by simp only [evS]
@[simp] theorem e_brk : evS c .brk g = .brk g := by simp only [evS]
@[simp] theorem e_cnt : evS c .cnt g = .cnt g := by simp only [evS]
@[simp] theorem e_pass : evS c .pass g = .nx g := by simp only [evS]
@[simp] theorem e_lc {cs : List Tx} {own : List (String × Nat)} : evR c (.lc e t it cs own) g = (evI c it g).bindD fun xs g => if mayWipe g (own.map (·.2)) then
      (compL (stepC c e t cs (own.map (·.2))) xs [] g).bindD fun ys g' => .ok (.val (.lst true ys)) (unwipe g g' (own.map (·.2)))
    else .stuck := by simp only [evR]; rfl
end
end

/-! expressions, one step each -/
def callJ (o : Option FOut) (js : List (Option Nat)) (g1 : List D) : Out R :=
  match o with
  | none => .stuck
  | some (.ret d ios) => .ok (.val d) (back js ios g1)
  | some (.exc x ios) => .exc x (back js ios g1)
def callK (F : Fn) (p : Option (List D × List (Option Nat) × List D)) : Out R :=
  match p with
  | none => .stuck
  | some (ds, js, g1) => callJ (F.sem ds) js g1
def callG (F : Option Fn) (m : M (List R)) (g : List D) : Out R :=
  match F with
  | some F => (m g).bindD fun rs g => if rs.length = F.n then callF F rs g else .stuck
  | none => .stuck
def starK (o : Option (List D)) (m : M (List R)) (g : List D) : Out (List R) :=
  match o with
  | some xs => (m g).bindD fun rs g => .ok (xs.map R.val ++ rs) g
  | none => .stuck
def forceK {α : Type} (o : Option (α × List D)) : Out α :=
  match o with
  | some (d, g1) => .ok d g1
  | none => .stuck
def forceJ (d : D) (o : Option (List D × List D)) : Option (List D × List D) := o.map fun p => (d :: p.1, p.2)
def forceI (o : Option (D × List D)) (rs : List R) : Option (List D × List D) :=
  match o with
  | some (d, g1) => forceJ d (forceL rs g1)
  | none => none
def negK (d : D) (g : List D) : Out R :=
  match d with
  | .int i => .ok (.val (.int (-i))) g
  | _ => .stuck
def notK (d : D) (g : List D) : Out R :=
  match d with
  | .bl b => .ok (.val (.bl (!b))) g
  | _ => .stuck
def chnK (o : Option Bool) (m : M R) (k : List D → D → Option Bool) (g : List D) : Out R :=
  match o with
  | some true => (m g).bindD fun t g => ofO ((k g (t.see g)).map fun k => R.val (.bl k)) g
  | some false => .ok (.val (.bl false)) g
  | none => .stuck
def chnT (o : Option Bool) (m : M R) (k : List D → D → Option Bool) (g : List D) : Out Bool :=
  match o with
  | some true => (m g).bindD fun t g => ofO (k g (t.see g)) g
  | some false => .ok false g
  | none => .stuck
def appK (c : Cfg) (r : R) (e : Ex) (g : List D) : Out R :=
  match r with
  | .val _ => .stuck
  | .at i => if isOwnL g i then (evR c e g).bindD fun s g => (forceM s g).bindD fun d g => ofA (g[i]?.bind (appD d)) i g else .stuck
def asgJ (c : Cfg) (i : Nat) (r : R) (g : List D) : SOut :=
  match r with
  | .val d => nxO (storeD c i d g)
  | .at j => toD (forceM (.at j) g) fun d g => nxO (storeD c i d g)
def setJ (c : Cfg) (b : Ex) (r s : R) (g : List D) : SOut :=
  match s with
  | .val _ => .stuck
  | .at i => toD (evR c b g) fun t g => toD (forceM r g) fun d g => nxO ((g[i]?.bind (setK d (t.see g))).map fun y => g.set i y)
def augJ (c : Cfg) (n : Nat) (o : Option D) (g : List D) : SOut :=
  match o with
  | some d => nxO (storeD c n d g)
  | none => .stuck
def retJ (o : Option (D × List D)) : SOut :=
  match o with
  | some (d, g) => .ret d g
  | none => .stuck
def bodyJ (keep : List Nat) (n : Nat) (o : SOut) : Option FOut :=
  match o with
  | .ret d g => some (.ret d (iosOf keep n g))
  | .nx g => some (.ret .non (iosOf keep n g))
  | .exc x g => some (.exc x (iosOf keep n g))
  | _ => none
section
variable {c : Cfg} {g : List D} {t : Tg} {e a b b' : Ex} {it : It} {u : Tx} {us : List Tx} {s : Sm} {ss tt : List Sm} {n i : Nat} {op p : Operator} {cp cq : CmpOp} {es : List Ar} {xs : List Ex} {d d' : D} {ds ios : List D} {js : List (Option Nat)} {F : Fn} {r : R} {rs : List R} {x : String}
@[simp] theorem x_gl : evR c (.gl x) g = ofO ((c.gl x).map R.val) g := by simp only [evR]
@[simp] theorem x_int {n : Int} : evR c (.int n) g = .ok (.val (.int n)) g := by simp only [evR]
@[simp] theorem x_bl {n : Bool} : evR c (.bl n) g = .ok (.val (.bl n)) g := by simp only [evR]
@[simp] theorem x_non : evR c .non g = .ok (.val .non) g := by simp only [evR]
@[simp] theorem x_str {n : Str} : evR c (.str n) g = .ok (.val (.str n)) g := by simp only [evR]
@[simp] theorem x_bin : evR c (.bin op a b) g = (evR c a g).bindD fun r g => (evR c b g).bindD fun s g => ofO ((binop op (r.see g) (s.see g)).map R.val) g := by simp only [evR]; rfl
@[simp] theorem x_neg : evR c (.neg a) g = (evR c a g).bindD fun r g => negK (r.see g) g := by simp only [evR]; rfl
@[simp] theorem x_cmp : evR c (.cmp cp a b) g = (evR c a g).bindD fun r g => (evR c b g).bindD fun s g => ofO ((cmpop cp (r.see g) (s.see g)).map fun k => R.val (.bl k)) g := by simp only [evR]; rfl
@[simp] theorem x_chn : evR c (.chn cp cq a b b') g = (evR c a g).bindD fun r g => (evR c b g).bindD fun s g => chnK (cmpop cp (r.see g) (s.see g)) (evR c b') (fun g t => cmpop cq (s.see g) t) g := by simp only [evR]; rfl
@[simp] theorem x_and : evR c (.and xs) g = (evAndV c xs g).bindD fun b g => .ok (.val (.bl b)) g := by simp only [evR]; rfl
@[simp] theorem x_or : evR c (.or xs) g = (evOrV c xs g).bindD fun b g => .ok (.val (.bl b)) g := by simp only [evR]; rfl
@[simp] theorem x_not : evR c (.not a) g = (evR c a g).bindD fun r g => notK (r.see g) g := by simp only [evR]; rfl
@[simp] theorem x_ite : evR c (.ite u a b) g = (evT c u g).bindD fun k g => if k then evR c a g else evR c b g := by simp only [evR]; rfl
@[simp] theorem x_tup : evR c (.tup es) g = (evRs c es g).bindD fun rs g => (forceLM rs g).bindD fun ds g => if ds.length ≤ sizeLine then .ok (.val (.tup ds)) g else .stuck := by simp only [evR]; rfl
@[simp] theorem x_lst : evR c (.lst es) g = (evRs c es g).bindD fun rs g => (forceLM rs g).bindD fun ds g => if ds.length ≤ sizeLine then .ok (.val (.lst true ds)) g else .stuck := by simp only [evR]; rfl
@[simp] theorem x_sub : evR c (.sub a b) g = (evR c a g).bindD fun r g => (evR c b g).bindD fun s g => ofO ((subD (r.see g) (s.see g)).map R.val) g := by simp only [evR]; rfl
@[simp] theorem x_slc {lo hi : List Ar} : evR c (.slc a lo hi) g = (evR c a g).bindD fun r g => (partM (evRs c lo) g).bindD fun u g => (partM (evRs c hi) g).bindD fun v g => ofO ((slcD (r.see g) u v).map R.val) g := by simp only [evR]; rfl
@[simp] theorem x_part {m : M (List R)} : DPy.partM m g = (m g).bindD fun rs g => ofO (DPy.part (rs.map fun r => r.see g)) g := (rfl)
@[simp] theorem x_call : evR c (.call x es) g = callG (c.fn x) (evRs c es) g := by simp only [evR]; unfold callG; cases c.fn x <;> rfl
@[simp] theorem x_callG {m : M (List R)} : callG (some F) m g = (m g).bindD fun rs g => if rs.length = F.n then callF F rs g else .stuck := (rfl)
@[simp] theorem x_callF : callF F rs g = callK F (passes F.io rs g) := by
  unfold callF callK callJ
  cases passes F.io rs g with
  | none => rfl
  | some p => rfl
@[simp] theorem x_callK {g1 : List D} : callK F (some (ds, js, g1)) = callJ (F.sem ds) js g1 := (rfl)
@[simp] theorem x_callJ_ret : callJ (some (.ret d ios)) js g = .ok (.val d) (back js ios g) := (rfl)
@[simp] theorem x_callJ_exc {y : Exc} : callJ (some (.exc y ios)) js g = .exc y (back js ios g) := (rfl)
@[simp] theorem x_cb {f : Bf} : evR c (.cb f es) g = (evRs c es g).bindD fun rs g => ofO ((pbf f (rs.map fun r => r.see g)).map R.val) g := by simp only [evR]; rfl
@[simp] theorem x_app : evR c (.app a e) g = (evR c a g).bindD fun r g => appK c r e g := by simp only [evR]; rfl
@[simp] theorem x_appK : appK c (.at i) e g = if isOwnL g i then (evR c e g).bindD fun s g => (forceM s g).bindD fun d g => ofA (g[i]?.bind (appD d)) i g else .stuck := (rfl)
@[simp] theorem x_rs_nil : evRs c [] g = .ok [] g := by simp only [evRs]
@[simp] theorem x_rs_e : evRs c (.e e :: es) g = (evR c e g).bindD fun r g => (evRs c es g).bindD fun rs g => .ok (r :: rs) g := by simp only [evRs]; rfl
@[simp] theorem x_rs_star : evRs c (.star e :: es) g = (evR c e g).bindD fun r g => starK (items (r.see g)) (evRs c es) g := by simp only [evRs]; rfl
@[simp] theorem x_starK {m : M (List R)} : starK (some ds) m g = (m g).bindD fun rs g => .ok (ds.map R.val ++ rs) g := (rfl)
@[simp] theorem x_forceM : forceM r g = forceK (r.force g) := by unfold forceM forceK; cases r.force g <;> rfl
@[simp] theorem x_forceLM : forceLM rs g = forceK (forceL rs g) := by unfold forceLM forceK; cases forceL rs g <;> rfl
@[simp] theorem x_forceK {α : Type} {a : α} : forceK (some (a, g)) = .ok a g := (rfl)
@[simp] theorem x_forceL : forceL (r :: rs) g = forceI (r.force g) rs := by
  simp only [forceL]; unfold forceI forceJ; cases r.force g <;> rfl
@[simp] theorem x_forceI : forceI (some (d, g)) rs = forceJ d (forceL rs g) := (rfl)
@[simp] theorem x_forceJ {g1 : List D} : forceJ d (some (ds, g1)) = some (d :: ds, g1) := (rfl)
@[simp] theorem x_negK {i : Int} : negK (.int i) g = .ok (.val (.int (-i))) g := (rfl)
@[simp] theorem x_notK {b : Bool} : notK (.bl b) g = .ok (.val (.bl (!b))) g := (rfl)
@[simp] theorem x_chnK {m : M R} {k : List D → D → Option Bool} {q : Bool} : chnK (some q) m k g = if q then (m g).bindD fun t g => ofO ((k g (t.see g)).map fun k => R.val (.bl k)) g else .ok (.val (.bl false)) g := by cases q <;> rfl
@[simp] theorem x_chnT {m : M R} {k : List D → D → Option Bool} {q : Bool} : chnT (some q) m k g = if q then (m g).bindD fun t g => ofO (k g (t.see g)) g else .ok false g := by cases q <;> rfl
@[simp] theorem t_ex : evT c (.ex e) g = (evR c e g).bindD fun r g => ofO (truth (r.see g)) g := by simp only [evT]; rfl
@[simp] theorem t_cmp : evT c (.cmp cp a b) g = (evR c a g).bindD fun r g => (evR c b g).bindD fun s g => ofO (cmpop cp (r.see g) (s.see g)) g := by simp only [evT]; rfl
@[simp] theorem t_chn : evT c (.chn cp cq a b b') g = (evR c a g).bindD fun r g => (evR c b g).bindD fun s g => chnT (cmpop cp (r.see g) (s.see g)) (evR c b') (fun g t => cmpop cq (s.see g) t) g := by simp only [evT]; rfl
@[simp] theorem t_not : evT c (.not u) g = (evT c u g).bindD fun b g => .ok (!b) g := by simp only [evT]; rfl
@[simp] theorem t_and : evT c (.and us) g = evAnd c us g := by simp only [evT]
@[simp] theorem t_or : evT c (.or us) g = evOr c us g := by simp only [evT]
@[simp] theorem t_and0 : evAnd c [] g = .ok true g := by simp only [evAnd]
@[simp] theorem t_and1 : evAnd c (u :: us) g = (evT c u g).bindD fun b g => if b then evAnd c us g else .ok false g := by simp only [evAnd]; rfl
@[simp] theorem t_or0 : evOr c [] g = .ok false g := by simp only [evOr]
@[simp] theorem t_or1 : evOr c (u :: us) g = (evT c u g).bindD fun b g => if b then .ok true g else evOr c us g := by simp only [evOr]; rfl
@[simp] theorem t_ts0 : evTs c [] g = .ok true g := by simp only [evTs]
@[simp] theorem t_ts1 : evTs c [u] g = evT c u g := by simp only [evTs]
@[simp] theorem i_ex : evI c (.ex e) g = (evR c e g).bindD fun r g => (forceM r g).bindD fun d g => ofO (items d) g := by simp only [evI]; rfl
@[simp] theorem i_rng1 : evI c (.rng1 e) g = (evR c e g).bindD fun r g => ofO (rngD [r.see g]) g := by simp only [evI]; rfl
@[simp] theorem i_rng2 : evI c (.rng2 a b) g = (evR c a g).bindD fun r g => (evR c b g).bindD fun s g => ofO (rngD [r.see g, s.see g]) g := by simp only [evI]; rfl
@[simp] theorem i_zip : evI c (.zip a b) g = (evR c a g).bindD fun r g => (evR c b g).bindD fun s g => (forceM r g).bindD fun d g => (forceM s g).bindD fun e g => ofO (zip2D d e) g := by simp only [evI]; rfl
@[simp] theorem s_set : evS c (.set a b e) g = toD (evR c e g) fun r g => toD (evR c a g) fun s g => setJ c b r s g := by simp only [evS]; rfl
@[simp] theorem s_setJ : setJ c b r (.at i) g = toD (evR c b g) fun t g => toD (forceM r g) fun d g => nxO ((g[i]?.bind (setK d (t.see g))).map fun y => g.set i y) := (rfl)
@[simp] theorem s_aug : evS c (.aug n op e) g = toD (evR c (.nm n) g) fun r g => toD (evR c e g) fun s g => augJ c n (inop op (r.see g) (s.see g)) g := by simp only [evS]; rfl
@[simp] theorem s_augJ : augJ c n (some d) g = nxO (storeD c n d g) := (rfl)
@[simp] theorem s_ret : evS c (.ret e) g = toD (evR c e g) fun r g => retJ (handOut r g) := by simp only [evS]; rfl
@[simp] theorem s_retJ : retJ (some (d, g)) = .ret d g := (rfl)
@[simp] theorem s_hand_val : handOut (.val d) g = if d.here then some (d, g) else none := (rfl)
@[simp] theorem s_hand_at : handOut (.at i) g = match g[i]? with
    | some d => if d.here then some (d, g.set i .gone) else none
    | none => none := (rfl)
@[simp] theorem s_asg_nm : asgK c (.nm i) r g = asgJ c i r g := (rfl)
@[simp] theorem s_asg_val : asgJ c i (.val d) g = nxO (storeD c i d g) := (rfl)
@[simp] theorem s_asg_at {j : Nat} : asgJ c i (.at j) g = toD (forceM (.at j) g) fun d g => nxO (storeD c i d g) := (rfl)
@[simp] theorem s_asg_tup {ts : List Tg} : asgK c (.tup ts) r g = toD (forceM r g) fun d g => nxO (tgD c (.tup ts) d g) := (rfl)
@[simp] theorem s_store : storeD c i d g = if i < g.length ∧ d.here = true ∧ i ∉ c.keep then some (g.set i d) else none := (rfl)
@[simp] theorem s_tg_nm : tgD c (.nm i) d g = storeD c i d g := by simp only [tgD]
@[simp] theorem s_tg_tup {ts : List Tg} {ys : List D} : tgD c (.tup ts) (.tup ys) g = tgsD c ts ys g := by simp only [tgD, items]
@[simp] theorem s_tgs0 : tgsD c [] [] g = some g := by simp only [tgsD]
@[simp] theorem s_tgs1 {ts : List Tg} {ys : List D} : tgsD c (t :: ts) (d :: ys) g = (tgD c t d g).bind fun g' => tgsD c ts ys g' := by simp only [tgsD]
@[simp] theorem s_bodyJ_ret {keep : List Nat} : bodyJ keep n (.ret d g) = some (.ret d (iosOf keep n g)) := (rfl)
@[simp] theorem s_bodyJ_nx {keep : List Nat} : bodyJ keep n (.nx g) = some (.ret .non (iosOf keep n g)) := (rfl)
@[simp] theorem s_body {m : Nat} {body : List Sm} : bodyF c n m body ds = if ds.length = n then bodyJ c.keep n (evSs c body (ds ++ List.replicate (m - n) .gone)) else none := by
  unfold bodyF bodyJ
  by_cases h : ds.length = n
  · (first | rw [if_pos h, if_pos h] | rw [if_pos h]) <;> cases evSs c body (ds ++ List.replicate (m - n) D.gone) <;> rfl
  · first | (rw [if_neg h, if_neg h]; done) | (rw [if_neg h]; done) | (simp only [if_neg h]; done)
@[simp] theorem s_isOwn {l : List D} {o : Bool} (h : g[i]? = some (.lst o l)) : isOwnL g i = o := by unfold isOwnL; rw [h]; cases o <;> rfl
@[simp] theorem k_back0 : back [] ds g = g := by cases ds <;> rfl
@[simp] theorem k_back1 {js : List (Option Nat)} : back (some i :: js) (d :: ds) g = back js ds (g.set i d) := (rfl)
@[simp] theorem k_back2 {js : List (Option Nat)} : back (none :: js) (d :: ds) g = back js ds g := (rfl)
def passJ (d : D) (j : Option Nat) (o : Option (List D × List (Option Nat) × List D)) : Option (List D × List (Option Nat) × List D) := o.map fun p => (d :: p.1, j :: p.2.1, p.2.2)
def passK (io : List Bool) (rs : List R) (o : Option (D × List D)) : Option (List D × List (Option Nat) × List D) :=
  match o with
  | some (d, g1) => passJ d none (passes io rs g1)
  | none => none
def passO (io : List Bool) (rs : List R) (i : Nat) (g : List D) (o : Option D) : Option (List D × List (Option Nat) × List D) :=
  match o with
  | some d => if d.here then passJ d (some i) (passes io rs (g.set i .gone)) else none
  | none => none
@[simp] theorem k_passJ {j : Option Nat} {g1 : List D} : passJ d j (some (ds, js, g1)) = some (d :: ds, j :: js, g1) := (rfl)
@[simp] theorem k_passK {io : List Bool} : passK io rs (some (d, g)) = passJ d none (passes io rs g) := (rfl)
@[simp] theorem k_passO {io : List Bool} : passO io rs i g (some d) = if d.here then passJ d (some i) (passes io rs (g.set i .gone)) else none := (rfl)
@[simp] theorem k_pass0 {io : List Bool} : passes io [] g = some ([], [], g) := by simp only [passes]
@[simp] theorem k_pass1 {io : List Bool} : passes (true :: io) (.at i :: rs) g = passO io rs i g g[i]? := by simp only [passes, List.headD_cons, List.tail_cons, if_true]; unfold passO passJ; rfl
@[simp] theorem k_pass2 {io : List Bool} : passes (false :: io) (r :: rs) g = passK io rs (r.force g) := by
  cases r <;> simp only [passes, List.headD_cons, List.tail_cons] <;> unfold passK passJ <;> rfl
@[simp] theorem k_pass3 : passes [] (r :: rs) g = passK [] rs (r.force g) := by
  cases r <;> simp only [passes, List.headD_nil, List.tail_nil] <;> unfold passK passJ <;> rfl
@[simp] theorem k_pass4 {io : List Bool} : passes (true :: io) (.val d :: rs) g = if d.here then passJ d none (passes io rs g) else none := by simp only [passes, List.headD_cons, List.tail_cons, if_true]; unfold passJ; rfl
@[simp] theorem x_nm0 {d0 : D} {l : List D} : evR c (.nm 0) (d0 :: l) = if d0.here then (if d0.fz then .ok (.val d0) (d0 :: l) else .ok (.at 0) (d0 :: l)) else .stuck := by simp only [evR]; rfl
@[simp] theorem s_own0 {l ys : List D} {o : Bool} : isOwnL (.lst o ys :: l) 0 = o := by cases o <;> rfl
@[simp] theorem x_nm1 {d0 d1 : D} {l : List D} : evR c (.nm 1) (d0 :: d1 :: l) = if d1.here then (if d1.fz then .ok (.val d1) (d0 :: d1 :: l) else .ok (.at 1) (d0 :: d1 :: l)) else .stuck := by simp only [evR]; rfl
@[simp] theorem s_own1 {d0 : D} {l ys : List D} {o : Bool} : isOwnL (d0 :: .lst o ys :: l) 1 = o := by cases o <;> rfl
@[simp] theorem x_nm2 {d0 d1 d2 : D} {l : List D} : evR c (.nm 2) (d0 :: d1 :: d2 :: l) = if d2.here then (if d2.fz then .ok (.val d2) (d0 :: d1 :: d2 :: l) else .ok (.at 2) (d0 :: d1 :: d2 :: l)) else .stuck := by simp only [evR]; rfl
@[simp] theorem s_own2 {d0 d1 : D} {l ys : List D} {o : Bool} : isOwnL (d0 :: d1 :: .lst o ys :: l) 2 = o := by cases o <;> rfl
@[simp] theorem x_nm3 {d0 d1 d2 d3 : D} {l : List D} : evR c (.nm 3) (d0 :: d1 :: d2 :: d3 :: l) = if d3.here then (if d3.fz then .ok (.val d3) (d0 :: d1 :: d2 :: d3 :: l) else .ok (.at 3) (d0 :: d1 :: d2 :: d3 :: l)) else .stuck := by simp only [evR]; rfl
@[simp] theorem s_own3 {d0 d1 d2 : D} {l ys : List D} {o : Bool} : isOwnL (d0 :: d1 :: d2 :: .lst o ys :: l) 3 = o := by cases o <;> rfl
@[simp] theorem x_nm4 {d0 d1 d2 d3 d4 : D} {l : List D} : evR c (.nm 4) (d0 :: d1 :: d2 :: d3 :: d4 :: l) = if d4.here then (if d4.fz then .ok (.val d4) (d0 :: d1 :: d2 :: d3 :: d4 :: l) else .ok (.at 4) (d0 :: d1 :: d2 :: d3 :: d4 :: l)) else .stuck := by simp only [evR]; rfl
@[simp] theorem s_own4 {d0 d1 d2 d3 : D} {l ys : List D} {o : Bool} : isOwnL (d0 :: d1 :: d2 :: d3 :: .lst o ys :: l) 4 = o := by cases o <;> rfl
@[simp] theorem x_nm5 {d0 d1 d2 d3 d4 d5 : D} {l : List D} : evR c (.nm 5) (d0 :: d1 :: d2 :: d3 :: d4 :: d5 :: l) = if d5.here then (if d5.fz then .ok (.val d5) (d0 :: d1 :: d2 :: d3 :: d4 :: d5 :: l) else .ok (.at 5) (d0 :: d1 :: d2 :: d3 :: d4 :: d5 :: l)) else .stuck := by simp only [evR]; rfl
@[simp] theorem s_own5 {d0 d1 d2 d3 d4 : D} {l ys : List D} {o : Bool} : isOwnL (d0 :: d1 :: d2 :: d3 :: d4 :: .lst o ys :: l) 5 = o := by cases o <;> rfl
@[simp] theorem x_nm6 {d0 d1 d2 d3 d4 d5 d6 : D} {l : List D} : evR c (.nm 6) (d0 :: d1 :: d2 :: d3 :: d4 :: d5 :: d6 :: l) = if d6.here then (if d6.fz then .ok (.val d6) (d0 :: d1 :: d2 :: d3 :: d4 :: d5 :: d6 :: l) else .ok (.at 6) (d0 :: d1 :: d2 :: d3 :: d4 :: d5 :: d6 :: l)) else .stuck := by simp only [evR]; rfl
@[simp] theorem s_own6 {d0 d1 d2 d3 d4 d5 : D} {l ys : List D} {o : Bool} : isOwnL (d0 :: d1 :: d2 :: d3 :: d4 :: d5 :: .lst o ys :: l) 6 = o := by cases o <;> rfl
@[simp] theorem x_nm7 {d0 d1 d2 d3 d4 d5 d6 d7 : D} {l : List D} : evR c (.nm 7) (d0 :: d1 :: d2 :: d3 :: d4 :: d5 :: d6 :: d7 :: l) = if d7.here then (if d7.fz then .ok (.val d7) (d0 :: d1 :: d2 :: d3 :: d4 :: d5 :: d6 :: d7 :: l) else .ok (.at 7) (d0 :: d1 :: d2 :: d3 :: d4 :: d5 :: d6 :: d7 :: l)) else .stuck := by simp only [evR]; rfl
@[simp] theorem s_own7 {d0 d1 d2 d3 d4 d5 d6 : D} {l ys : List D} {o : Bool} : isOwnL (d0 :: d1 :: d2 :: d3 :: d4 :: d5 :: d6 :: .lst o ys :: l) 7 = o := by cases o <;> rfl
@[simp] theorem x_nm8 {d0 d1 d2 d3 d4 d5 d6 d7 d8 : D} {l : List D} : evR c (.nm 8) (d0 :: d1 :: d2 :: d3 :: d4 :: d5 :: d6 :: d7 :: d8 :: l) = if d8.here then (if d8.fz then .ok (.val d8) (d0 :: d1 :: d2 :: d3 :: d4 :: d5 :: d6 :: d7 :: d8 :: l) else .ok (.at 8) (d0 :: d1 :: d2 :: d3 :: d4 :: d5 :: d6 :: d7 :: d8 :: l)) else .stuck := by simp only [evR]; rfl
@[simp] theorem s_own8 {d0 d1 d2 d3 d4 d5 d6 d7 : D} {l ys : List D} {o : Bool} : isOwnL (d0 :: d1 :: d2 :: d3 :: d4 :: d5 :: d6 :: d7 :: .lst o ys :: l) 8 = o := by cases o <;> rfl
@[simp] theorem x_nm9 {d0 d1 d2 d3 d4 d5 d6 d7 d8 d9 : D} {l : List D} : evR c (.nm 9) (d0 :: d1 :: d2 :: d3 :: d4 :: d5 :: d6 :: d7 :: d8 :: d9 :: l) = if d9.here then (if d9.fz then .ok (.val d9) (d0 :: d1 :: d2 :: d3 :: d4 :: d5 :: d6 :: d7 :: d8 :: d9 :: l) else .ok (.at 9) (d0 :: d1 :: d2 :: d3 :: d4 :: d5 :: d6 :: d7 :: d8 :: d9 :: l)) else .stuck := by simp only [evR]; rfl
@[simp] theorem s_own9 {d0 d1 d2 d3 d4 d5 d6 d7 d8 : D} {l ys : List D} {o : Bool} : isOwnL (d0 :: d1 :: d2 :: d3 :: d4 :: d5 :: d6 :: d7 :: d8 :: .lst o ys :: l) 9 = o := by cases o <;> rfl
@[simp] theorem x_nm10 {d0 d1 d2 d3 d4 d5 d6 d7 d8 d9 d10 : D} {l : List D} : evR c (.nm 10) (d0 :: d1 :: d2 :: d3 :: d4 :: d5 :: d6 :: d7 :: d8 :: d9 :: d10 :: l) = if d10.here then (if d10.fz then .ok (.val d10) (d0 :: d1 :: d2 :: d3 :: d4 :: d5 :: d6 :: d7 :: d8 :: d9 :: d10 :: l) else .ok (.at 10) (d0 :: d1 :: d2 :: d3 :: d4 :: d5 :: d6 :: d7 :: d8 :: d9 :: d10 :: l)) else .stuck := by simp only [evR]; rfl
@[simp] theorem s_own10 {d0 d1 d2 d3 d4 d5 d6 d7 d8 d9 : D} {l ys : List D} {o : Bool} : isOwnL (d0 :: d1 :: d2 :: d3 :: d4 :: d5 :: d6 :: d7 :: d8 :: d9 :: .lst o ys :: l) 10 = o := by cases o <;> rfl
@[simp] theorem x_nm11 {d0 d1 d2 d3 d4 d5 d6 d7 d8 d9 d10 d11 : D} {l : List D} : evR c (.nm 11) (d0 :: d1 :: d2 :: d3 :: d4 :: d5 :: d6 :: d7 :: d8 :: d9 :: d10 :: d11 :: l) = if d11.here then (if d11.fz then .ok (.val d11) (d0 :: d1 :: d2 :: d3 :: d4 :: d5 :: d6 :: d7 :: d8 :: d9 :: d10 :: d11 :: l) else .ok (.at 11) (d0 :: d1 :: d2 :: d3 :: d4 :: d5 :: d6 :: d7 :: d8 :: d9 :: d10 :: d11 :: l)) else .stuck := by simp only [evR]; rfl
@[simp] theorem s_own11 {d0 d1 d2 d3 d4 d5 d6 d7 d8 d9 d10 : D} {l ys : List D} {o : Bool} : isOwnL (d0 :: d1 :: d2 :: d3 :: d4 :: d5 :: d6 :: d7 :: d8 :: d9 :: d10 :: .lst o ys :: l) 11 = o := by cases o <;> rfl
@[simp] theorem x_nm12 {d0 d1 d2 d3 d4 d5 d6 d7 d8 d9 d10 d11 d12 : D} {l : List D} : evR c (.nm 12) (d0 :: d1 :: d2 :: d3 :: d4 :: d5 :: d6 :: d7 :: d8 :: d9 :: d10 :: d11 :: d12 :: l) = if d12.here then (if d12.fz then .ok (.val d12) (d0 :: d1 :: d2 :: d3 :: d4 :: d5 :: d6 :: d7 :: d8 :: d9 :: d10 :: d11 :: d12 :: l) else .ok (.at 12) (d0 :: d1 :: d2 :: d3 :: d4 :: d5 :: d6 :: d7 :: d8 :: d9 :: d10 :: d11 :: d12 :: l)) else .stuck := by simp only [evR]; rfl
@[simp] theorem s_own12 {d0 d1 d2 d3 d4 d5 d6 d7 d8 d9 d10 d11 : D} {l ys : List D} {o : Bool} : isOwnL (d0 :: d1 :: d2 :: d3 :: d4 :: d5 :: d6 :: d7 :: d8 :: d9 :: d10 :: d11 :: .lst o ys :: l) 12 = o := by cases o <;> rfl
@[simp] theorem x_nm13 {d0 d1 d2 d3 d4 d5 d6 d7 d8 d9 d10 d11 d12 d13 : D} {l : List D} : evR c (.nm 13) (d0 :: d1 :: d2 :: d3 :: d4 :: d5 :: d6 :: d7 :: d8 :: d9 :: d10 :: d11 :: d12 :: d13 :: l) = if d13.here then (if d13.fz then .ok (.val d13) (d0 :: d1 :: d2 :: d3 :: d4 :: d5 :: d6 :: d7 :: d8 :: d9 :: d10 :: d11 :: d12 :: d13 :: l) else .ok (.at 13) (d0 :: d1 :: d2 :: d3 :: d4 :: d5 :: d6 :: d7 :: d8 :: d9 :: d10 :: d11 :: d12 :: d13 :: l)) else .stuck := by simp only [evR]; rfl
@[simp] theorem s_own13 {d0 d1 d2 d3 d4 d5 d6 d7 d8 d9 d10 d11 d12 : D} {l ys : List D} {o : Bool} : isOwnL (d0 :: d1 :: d2 :: d3 :: d4 :: d5 :: d6 :: d7 :: d8 :: d9 :: d10 :: d11 :: d12 :: .lst o ys :: l) 13 = o := by cases o <;> rfl
@[simp] theorem x_nm14 {d0 d1 d2 d3 d4 d5 d6 d7 d8 d9 d10 d11 d12 d13 d14 : D} {l : List D} : evR c (.nm 14) (d0 :: d1 :: d2 :: d3 :: d4 :: d5 :: d6 :: d7 :: d8 :: d9 :: d10 :: d11 :: d12 :: d13 :: d14 :: l) = if d14.here then (if d14.fz then .ok (.val d14) (d0 :: d1 :: d2 :: d3 :: d4 :: d5 :: d6 :: d7 :: d8 :: d9 :: d10 :: d11 :: d12 :: d13 :: d14 :: l) else .ok (.at 14) (d0 :: d1 :: d2 :: d3 :: d4 :: d5 :: d6 :: d7 :: d8 :: d9 :: d10 :: d11 :: d12 :: d13 :: d14 :: l)) else .stuck := by simp only [evR]; rfl
@[simp] theorem s_own14 {d0 d1 d2 d3 d4 d5 d6 d7 d8 d9 d10 d11 d12 d13 : D} {l ys : List D} {o : Bool} : isOwnL (d0 :: d1 :: d2 :: d3 :: d4 :: d5 :: d6 :: d7 :: d8 :: d9 :: d10 :: d11 :: d12 :: d13 :: .lst o ys :: l) 14 = o := by cases o <;> rfl
@[simp] theorem x_nm15 {d0 d1 d2 d3 d4 d5 d6 d7 d8 d9 d10 d11 d12 d13 d14 d15 : D} {l : List D} : evR c (.nm 15) (d0 :: d1 :: d2 :: d3 :: d4 :: d5 :: d6 :: d7 :: d8 :: d9 :: d10 :: d11 :: d12 :: d13 :: d14 :: d15 :: l) = if d15.here then (if d15.fz then .ok (.val d15) (d0 :: d1 :: d2 :: d3 :: d4 :: d5 :: d6 :: d7 :: d8 :: d9 :: d10 :: d11 :: d12 :: d13 :: d14 :: d15 :: l) else .ok (.at 15) (d0 :: d1 :: d2 :: d3 :: d4 :: d5 :: d6 :: d7 :: d8 :: d9 :: d10 :: d11 :: d12 :: d13 :: d14 :: d15 :: l)) else .stuck := by simp only [evR]; rfl
@[simp] theorem s_own15 {d0 d1 d2 d3 d4 d5 d6 d7 d8 d9 d10 d11 d12 d13 d14 : D} {l ys : List D} {o : Bool} : isOwnL (d0 :: d1 :: d2 :: d3 :: d4 :: d5 :: d6 :: d7 :: d8 :: d9 :: d10 :: d11 :: d12 :: d13 :: d14 :: .lst o ys :: l) 15 = o := by cases o <;> rfl
@[simp] theorem x_nm16 {d0 d1 d2 d3 d4 d5 d6 d7 d8 d9 d10 d11 d12 d13 d14 d15 d16 : D} {l : List D} : evR c (.nm 16) (d0 :: d1 :: d2 :: d3 :: d4 :: d5 :: d6 :: d7 :: d8 :: d9 :: d10 :: d11 :: d12 :: d13 :: d14 :: d15 :: d16 :: l) = if d16.here then (if d16.fz then .ok (.val d16) (d0 :: d1 :: d2 :: d3 :: d4 :: d5 :: d6 :: d7 :: d8 :: d9 :: d10 :: d11 :: d12 :: d13 :: d14 :: d15 :: d16 :: l) else .ok (.at 16) (d0 :: d1 :: d2 :: d3 :: d4 :: d5 :: d6 :: d7 :: d8 :: d9 :: d10 :: d11 :: d12 :: d13 :: d14 :: d15 :: d16 :: l)) else .stuck := by simp only [evR]; rfl
@[simp] theorem s_own16 {d0 d1 d2 d3 d4 d5 d6 d7 d8 d9 d10 d11 d12 d13 d14 d15 : D} {l ys : List D} {o : Bool} : isOwnL (d0 :: d1 :: d2 :: d3 :: d4 :: d5 :: d6 :: d7 :: d8 :: d9 :: d10 :: d11 :: d12 :: d13 :: d14 :: d15 :: .lst o ys :: l) 16 = o := by cases o <;> rfl
@[simp] theorem x_nm17 {d0 d1 d2 d3 d4 d5 d6 d7 d8 d9 d10 d11 d12 d13 d14 d15 d16 d17 : D} {l : List D} : evR c (.nm 17) (d0 :: d1 :: d2 :: d3 :: d4 :: d5 :: d6 :: d7 :: d8 :: d9 :: d10 :: d11 :: d12 :: d13 :: d14 :: d15 :: d16 :: d17 :: l) = if d17.here then (if d17.fz then .ok (.val d17) (d0 :: d1 :: d2 :: d3 :: d4 :: d5 :: d6 :: d7 :: d8 :: d9 :: d10 :: d11 :: d12 :: d13 :: d14 :: d15 :: d16 :: d17 :: l) else .ok (.at 17) (d0 :: d1 :: d2 :: d3 :: d4 :: d5 :: d6 :: d7 :: d8 :: d9 :: d10 :: d11 :: d12 :: d13 :: d14 :: d15 :: d16 :: d17 :: l)) else .stuck := by simp only [evR]; rfl
@[simp] theorem s_own17 {d0 d1 d2 d3 d4 d5 d6 d7 d8 d9 d10 d11 d12 d13 d14 d15 d16 : D} {l ys : List D} {o : Bool} : isOwnL (d0 :: d1 :: d2 :: d3 :: d4 :: d5 :: d6 :: d7 :: d8 :: d9 :: d10 :: d11 :: d12 :: d13 :: d14 :: d15 :: d16 :: .lst o ys :: l) 17 = o := by cases o <;> rfl
@[simp] theorem x_nm18 {d0 d1 d2 d3 d4 d5 d6 d7 d8 d9 d10 d11 d12 d13 d14 d15 d16 d17 d18 : D} {l : List D} : evR c (.nm 18) (d0 :: d1 :: d2 :: d3 :: d4 :: d5 :: d6 :: d7 :: d8 :: d9 :: d10 :: d11 :: d12 :: d13 :: d14 :: d15 :: d16 :: d17 :: d18 :: l) = if d18.here then (if d18.fz then .ok (.val d18) (d0 :: d1 :: d2 :: d3 :: d4 :: d5 :: d6 :: d7 :: d8 :: d9 :: d10 :: d11 :: d12 :: d13 :: d14 :: d15 :: d16 :: d17 :: d18 :: l) else .ok (.at 18) (d0 :: d1 :: d2 :: d3 :: d4 :: d5 :: d6 :: d7 :: d8 :: d9 :: d10 :: d11 :: d12 :: d13 :: d14 :: d15 :: d16 :: d17 :: d18 :: l)) else .stuck := by simp only [evR]; rfl
@[simp] theorem s_own18 {d0 d1 d2 d3 d4 d5 d6 d7 d8 d9 d10 d11 d12 d13 d14 d15 d16 d17 : D} {l ys : List D} {o : Bool} : isOwnL (d0 :: d1 :: d2 :: d3 :: d4 :: d5 :: d6 :: d7 :: d8 :: d9 :: d10 :: d11 :: d12 :: d13 :: d14 :: d15 :: d16 :: d17 :: .lst o ys :: l) 18 = o := by cases o <;> rfl
@[simp] theorem x_nm19 {d0 d1 d2 d3 d4 d5 d6 d7 d8 d9 d10 d11 d12 d13 d14 d15 d16 d17 d18 d19 : D} {l : List D} : evR c (.nm 19) (d0 :: d1 :: d2 :: d3 :: d4 :: d5 :: d6 :: d7 :: d8 :: d9 :: d10 :: d11 :: d12 :: d13 :: d14 :: d15 :: d16 :: d17 :: d18 :: d19 :: l) = if d19.here then (if d19.fz then .ok (.val d19) (d0 :: d1 :: d2 :: d3 :: d4 :: d5 :: d6 :: d7 :: d8 :: d9 :: d10 :: d11 :: d12 :: d13 :: d14 :: d15 :: d16 :: d17 :: d18 :: d19 :: l) else .ok (.at 19) (d0 :: d1 :: d2 :: d3 :: d4 :: d5 :: d6 :: d7 :: d8 :: d9 :: d10 :: d11 :: d12 :: d13 :: d14 :: d15 :: d16 :: d17 :: d18 :: d19 :: l)) else .stuck := by simp only [evR]; rfl
@[simp] theorem s_own19 {d0 d1 d2 d3 d4 d5 d6 d7 d8 d9 d10 d11 d12 d13 d14 d15 d16 d17 d18 : D} {l ys : List D} {o : Bool} : isOwnL (d0 :: d1 :: d2 :: d3 :: d4 :: d5 :: d6 :: d7 :: d8 :: d9 :: d10 :: d11 :: d12 :: d13 :: d14 :: d15 :: d16 :: d17 :: d18 :: .lst o ys :: l) 19 = o := by cases o <;> rfl
@[simp] theorem x_nm20 {d0 d1 d2 d3 d4 d5 d6 d7 d8 d9 d10 d11 d12 d13 d14 d15 d16 d17 d18 d19 d20 : D} {l : List D} : evR c (.nm 20) (d0 :: d1 :: d2 :: d3 :: d4 :: d5 :: d6 :: d7 :: d8 :: d9 :: d10 :: d11 :: d12 :: d13 :: d14 :: d15 :: d16 :: d17 :: d18 :: d19 :: d20 :: l) = if d20.here then (if d20.fz then .ok (.val d20) (d0 :: d1 :: d2 :: d3 :: d4 :: d5 :: d6 :: d7 :: d8 :: d9 :: d10 :: d11 :: d12 :: d13 :: d14 :: d15 :: d16 :: d17 :: d18 :: d19 :: d20 :: l) else .ok (.at 20) (d0 :: d1 :: d2 :: d3 :: d4 :: d5 :: d6 :: d7 :: d8 :: d9 :: d10 :: d11 :: d12 :: d13 :: d14 :: d15 :: d16 :: d17 :: d18 :: d19 :: d20 :: l)) else .stuck := by simp only [evR]; rfl
@[simp] theorem s_own20 {d0 d1 d2 d3 d4 d5 d6 d7 d8 d9 d10 d11 d12 d13 d14 d15 d16 d17 d18 d19 : D} {l ys : List D} {o : Bool} : isOwnL (d0 :: d1 :: d2 :: d3 :: d4 :: d5 :: d6 :: d7 :: d8 :: d9 :: d10 :: d11 :: d12 :: d13 :: d14 :: d15 :: d16 :: d17 :: d18 :: d19 :: .lst o ys :: l) 20 = o := by cases o <;> rfl
@[simp] theorem x_nm21 {d0 d1 d2 d3 d4 d5 d6 d7 d8 d9 d10 d11 d12 d13 d14 d15 d16 d17 d18 d19 d20 d21 : D} {l : List D} : evR c (.nm 21) (d0 :: d1 :: d2 :: d3 :: d4 :: d5 :: d6 :: d7 :: d8 :: d9 :: d10 :: d11 :: d12 :: d13 :: d14 :: d15 :: d16 :: d17 :: d18 :: d19 :: d20 :: d21 :: l) = if d21.here then (if d21.fz then .ok (.val d21) (d0 :: d1 :: d2 :: d3 :: d4 :: d5 :: d6 :: d7 :: d8 :: d9 :: d10 :: d11 :: d12 :: d13 :: d14 :: d15 :: d16 :: d17 :: d18 :: d19 :: d20 :: d21 :: l) else .ok (.at 21) (d0 :: d1 :: d2 :: d3 :: d4 :: d5 :: d6 :: d7 :: d8 :: d9 :: d10 :: d11 :: d12 :: d13 :: d14 :: d15 :: d16 :: d17 :: d18 :: d19 :: d20 :: d21 :: l)) else .stuck := by simp only [evR]; rfl
@[simp] theorem s_own21 {d0 d1 d2 d3 d4 d5 d6 d7 d8 d9 d10 d11 d12 d13 d14 d15 d16 d17 d18 d19 d20 : D} {l ys : List D} {o : Bool} : isOwnL (d0 :: d1 :: d2 :: d3 :: d4 :: d5 :: d6 :: d7 :: d8 :: d9 :: d10 :: d11 :: d12 :: d13 :: d14 :: d15 :: d16 :: d17 :: d18 :: d19 :: d20 :: .lst o ys :: l) 21 = o := by cases o <;> rfl
@[simp] theorem x_nm22 {d0 d1 d2 d3 d4 d5 d6 d7 d8 d9 d10 d11 d12 d13 d14 d15 d16 d17 d18 d19 d20 d21 d22 : D} {l : List D} : evR c (.nm 22) (d0 :: d1 :: d2 :: d3 :: d4 :: d5 :: d6 :: d7 :: d8 :: d9 :: d10 :: d11 :: d12 :: d13 :: d14 :: d15 :: d16 :: d17 :: d18 :: d19 :: d20 :: d21 :: d22 :: l) = if d22.here then (if d22.fz then .ok (.val d22) (d0 :: d1 :: d2 :: d3 :: d4 :: d5 :: d6 :: d7 :: d8 :: d9 :: d10 :: d11 :: d12 :: d13 :: d14 :: d15 :: d16 :: d17 :: d18 :: d19 :: d20 :: d21 :: d22 :: l) else .ok (.at 22) (d0 :: d1 :: d2 :: d3 :: d4 :: d5 :: d6 :: d7 :: d8 :: d9 :: d10 :: d11 :: d12 :: d13 :: d14 :: d15 :: d16 :: d17 :: d18 :: d19 :: d20 :: d21 :: d22 :: l)) else .stuck := by simp only [evR]; rfl
@[simp] theorem s_own22 {d0 d1 d2 d3 d4 d5 d6 d7 d8 d9 d10 d11 d12 d13 d14 d15 d16 d17 d18 d19 d20 d21 : D} {l ys : List D} {o : Bool} : isOwnL (d0 :: d1 :: d2 :: d3 :: d4 :: d5 :: d6 :: d7 :: d8 :: d9 :: d10 :: d11 :: d12 :: d13 :: d14 :: d15 :: d16 :: d17 :: d18 :: d19 :: d20 :: d21 :: .lst o ys :: l) 22 = o := by cases o <;> rfl
@[simp] theorem x_nm23 {d0 d1 d2 d3 d4 d5 d6 d7 d8 d9 d10 d11 d12 d13 d14 d15 d16 d17 d18 d19 d20 d21 d22 d23 : D} {l : List D} : evR c (.nm 23) (d0 :: d1 :: d2 :: d3 :: d4 :: d5 :: d6 :: d7 :: d8 :: d9 :: d10 :: d11 :: d12 :: d13 :: d14 :: d15 :: d16 :: d17 :: d18 :: d19 :: d20 :: d21 :: d22 :: d23 :: l) = if d23.here then (if d23.fz then .ok (.val d23) (d0 :: d1 :: d2 :: d3 :: d4 :: d5 :: d6 :: d7 :: d8 :: d9 :: d10 :: d11 :: d12 :: d13 :: d14 :: d15 :: d16 :: d17 :: d18 :: d19 :: d20 :: d21 :: d22 :: d23 :: l) else .ok (.at 23) (d0 :: d1 :: d2 :: d3 :: d4 :: d5 :: d6 :: d7 :: d8 :: d9 :: d10 :: d11 :: d12 :: d13 :: d14 :: d15 :: d16 :: d17 :: d18 :: d19 :: d20 :: d21 :: d22 :: d23 :: l)) else .stuck := by simp only [evR]; rfl
@[simp] theorem s_own23 {d0 d1 d2 d3 d4 d5 d6 d7 d8 d9 d10 d11 d12 d13 d14 d15 d16 d17 d18 d19 d20 d21 d22 : D} {l ys : List D} {o : Bool} : isOwnL (d0 :: d1 :: d2 :: d3 :: d4 :: d5 :: d6 :: d7 :: d8 :: d9 :: d10 :: d11 :: d12 :: d13 :: d14 :: d15 :: d16 :: d17 :: d18 :: d19 :: d20 :: d21 :: d22 :: .lst o ys :: l) 23 = o := by cases o <;> rfl
@[simp] theorem x_nm24 {d0 d1 d2 d3 d4 d5 d6 d7 d8 d9 d10 d11 d12 d13 d14 d15 d16 d17 d18 d19 d20 d21 d22 d23 d24 : D} {l : List D} : evR c (.nm 24) (d0 :: d1 :: d2 :: d3 :: d4 :: d5 :: d6 :: d7 :: d8 :: d9 :: d10 :: d11 :: d12 :: d13 :: d14 :: d15 :: d16 :: d17 :: d18 :: d19 :: d20 :: d21 :: d22 :: d23 :: d24 :: l) = if d24.here then (if d24.fz then .ok (.val d24) (d0 :: d1 :: d2 :: d3 :: d4 :: d5 :: d6 :: d7 :: d8 :: d9 :: d10 :: d11 :: d12 :: d13 :: d14 :: d15 :: d16 :: d17 :: d18 :: d19 :: d20 :: d21 :: d22 :: d23 :: d24 :: l) else .ok (.at 24) (d0 :: d1 :: d2 :: d3 :: d4 :: d5 :: d6 :: d7 :: d8 :: d9 :: d10 :: d11 :: d12 :: d13 :: d14 :: d15 :: d16 :: d17 :: d18 :: d19 :: d20 :: d21 :: d22 :: d23 :: d24 :: l)) else .stuck := by simp only [evR]; rfl
@[simp] theorem s_own24 {d0 d1 d2 d3 d4 d5 d6 d7 d8 d9 d10 d11 d12 d13 d14 d15 d16 d17 d18 d19 d20 d21 d22 d23 : D} {l ys : List D} {o : Bool} : isOwnL (d0 :: d1 :: d2 :: d3 :: d4 :: d5 :: d6 :: d7 :: d8 :: d9 :: d10 :: d11 :: d12 :: d13 :: d14 :: d15 :: d16 :: d17 :: d18 :: d19 :: d20 :: d21 :: d22 :: d23 :: .lst o ys :: l) 24 = o := by cases o <;> rfl
@[simp] theorem x_nm25 {d0 d1 d2 d3 d4 d5 d6 d7 d8 d9 d10 d11 d12 d13 d14 d15 d16 d17 d18 d19 d20 d21 d22 d23 d24 d25 : D} {l : List D} : evR c (.nm 25) (d0 :: d1 :: d2 :: d3 :: d4 :: d5 :: d6 :: d7 :: d8 :: d9 :: d10 :: d11 :: d12 :: d13 :: d14 :: d15 :: d16 :: d17 :: d18 :: d19 :: d20 :: d21 :: d22 :: d23 :: d24 :: d25 :: l) = if d25.here then (if d25.fz then .ok (.val d25) (d0 :: d1 :: d2 :: d3 :: d4 :: d5 :: d6 :: d7 :: d8 :: d9 :: d10 :: d11 :: d12 :: d13 :: d14 :: d15 :: d16 :: d17 :: d18 :: d19 :: d20 :: d21 :: d22 :: d23 :: d24 :: d25 :: l) else .ok (.at 25) (d0 :: d1 :: d2 :: d3 :: d4 :: d5 :: d6 :: d7 :: d8 :: d9 :: d10 :: d11 :: d12 :: d13 :: d14 :: d15 :: d16 :: d17 :: d18 :: d19 :: d20 :: d21 :: d22 :: d23 :: d24 :: d25 :: l)) else .stuck := by simp only [evR]; rfl
@[simp] theorem s_own25 {d0 d1 d2 d3 d4 d5 d6 d7 d8 d9 d10 d11 d12 d13 d14 d15 d16 d17 d18 d19 d20 d21 d22 d23 d24 : D} {l ys : List D} {o : Bool} : isOwnL (d0 :: d1 :: d2 :: d3 :: d4 :: d5 :: d6 :: d7 :: d8 :: d9 :: d10 :: d11 :: d12 :: d13 :: d14 :: d15 :: d16 :: d17 :: d18 :: d19 :: d20 :: d21 :: d22 :: d23 :: d24 :: .lst o ys :: l) 25 = o := by cases o <;> rfl
@[simp] theorem s_forL0 {step : D → List D → SOut} : forL step [] g = .nx g := (rfl)
def forJ (step : D → List D → SOut) (xs : List D) (o : SOut) : SOut :=
  match o with
  | .nx g => forL step xs g
  | .cnt g => forL step xs g
  | .brk g => .nx g
  | o => o
@[simp] theorem s_forL1 {step : D → List D → SOut} {ys : List D} : forL step (d :: ys) g = forJ step ys (step d g) := by
  unfold forJ; (simp only [forL]) <;> cases step d g <;> rfl
@[simp] theorem s_forJ_nx {step : D → List D → SOut} {ys : List D} : forJ step ys (.nx g) = forL step ys g := (rfl)
@[simp] theorem s_forJ_cnt {step : D → List D → SOut} {ys : List D} : forJ step ys (.cnt g) = forL step ys g := (rfl)
@[simp] theorem s_forJ_brk {step : D → List D → SOut} {ys : List D} : forJ step ys (.brk g) = .nx g := (rfl)
@[simp] theorem s_forJ_ret {step : D → List D → SOut} {ys : List D} : forJ step ys (.ret d g) = .ret d g := (rfl)
def stepJ (c : Cfg) (body : List Sm) (o : Option (List D)) : SOut :=
  match o with
  | some g => evSs c body g
  | none => .stuck
@[simp] theorem s_stepF {body : List Sm} : stepF c t body d g = stepJ c body (tgD c t d g) := (rfl)
@[simp] theorem s_stepJ {body : List Sm} : stepJ c body (some g) = evSs c body g := (rfl)
/-- the numbers from nought -/
def ups (n : Nat) : List D := (List.range n).map fun k => .int (k : Nat)
@[simp] theorem v_rng1 {j : Int} (h : j < 4611686018427387904) (h2 : -4611686018427387904 ≤ j) : rngD [.int j] = some (ups j.toNat) := by simp only [rngD]; rw [if_pos ⟨h2, h⟩]; rfl
theorem ups_get {n j : Nat} {d : D} (h : (ups n)[j]? = some d) : j < n ∧ d = .int (j : Int) := by
  unfold ups at h
  rw [List.getElem?_map] at h
  obtain ⟨k, e, rfl⟩ := Option.map_eq_some_iff.mp h
  have l : j < n := by have := (List.getElem?_eq_some_iff.mp e).1; simpa using this
  rw [List.getElem?_range l] at e
  cases e
  exact ⟨l, rfl⟩
theorem ups_len {n : Nat} : (ups n).length = n := by simp [ups]
@[simp] theorem v_slc_tup {ys : List D} {lo hi : Option Int} (h : ¬ (HT.sIx ys.length 0 lo = 0 ∧ HT.sIx ys.length ys.length hi = ys.length)) : slcD (.tup ys) lo hi = some (.tup (cutD ys lo hi)) := by simp only [slcD]; rw [if_neg h]
@[simp] theorem v_slc_lst {ys : List D} {o : Bool} {lo hi : Option Int} : slcD (.lst o ys) lo hi = some (.lst true (cutD ys lo hi)) := (rfl)
@[simp] theorem v_zip_tup {ys zs : List D} : zip2D (.tup ys) (.tup zs) = some (zipD ys zs) := (rfl)
@[simp] theorem v_zip_lst {ys zs : List D} {o p : Bool} : zip2D (.lst o ys) (.lst p zs) = some (zipD ys zs) := (rfl)
@[simp] theorem v_zipD0 {ys : List D} : zipD [] ys = [] := by cases ys <;> rfl
@[simp] theorem v_zipD1 {ys zs : List D} : zipD (d :: ys) (d' :: zs) = .tup [d, d'] :: zipD ys zs := (rfl)
theorem mul_bd {a b A B : Int} (a0 : 0 ≤ a) (a1 : a ≤ A) (b0 : 0 ≤ b) (b1 : b ≤ B) : 0 ≤ a * b ∧ a * b ≤ A * B := ⟨Int.mul_nonneg a0 b0, Int.mul_le_mul a1 b1 b0 (by omega)⟩
theorem fdiv_bd {x y : Int} (x0 : 0 ≤ x) (y0 : 0 < y) : 0 ≤ x.fdiv y ∧ x.fdiv y ≤ x := by
  rw [Int.fdiv_eq_ediv_of_nonneg _ (by omega)]
  exact ⟨Int.ediv_nonneg x0 (by omega), Int.ediv_le_self _ x0⟩
@[simp] theorem s_ios0 {keep : List Nat} : iosOf keep 0 g = [] := (rfl)
@[simp] theorem s_ios1 {keep : List Nat} : iosOf keep 1 g = [if 0 ∈ keep then g[0]?.getD .gone else .gone] := (rfl)
@[simp] theorem s_ios2 {keep : List Nat} : iosOf keep 2 g = [if 0 ∈ keep then g[0]?.getD .gone else .gone, if 1 ∈ keep then g[1]?.getD .gone else .gone] := (rfl)
@[simp] theorem s_ios3 {keep : List Nat} : iosOf keep 3 g = [if 0 ∈ keep then g[0]?.getD .gone else .gone, if 1 ∈ keep then g[1]?.getD .gone else .gone, if 2 ∈ keep then g[2]?.getD .gone else .gone] := (rfl)
@[simp] theorem s_ios4 {keep : List Nat} : iosOf keep 4 g = [if 0 ∈ keep then g[0]?.getD .gone else .gone, if 1 ∈ keep then g[1]?.getD .gone else .gone, if 2 ∈ keep then g[2]?.getD .gone else .gone, if 3 ∈ keep then g[3]?.getD .gone else .gone] := (rfl)
@[simp] theorem s_ios5 {keep : List Nat} : iosOf keep 5 g = [if 0 ∈ keep then g[0]?.getD .gone else .gone, if 1 ∈ keep then g[1]?.getD .gone else .gone, if 2 ∈ keep then g[2]?.getD .gone else .gone, if 3 ∈ keep then g[3]?.getD .gone else .gone, if 4 ∈ keep then g[4]?.getD .gone else .gone] := (rfl)
@[simp] theorem s_ios6 {keep : List Nat} : iosOf keep 6 g = [if 0 ∈ keep then g[0]?.getD .gone else .gone, if 1 ∈ keep then g[1]?.getD .gone else .gone, if 2 ∈ keep then g[2]?.getD .gone else .gone, if 3 ∈ keep then g[3]?.getD .gone else .gone, if 4 ∈ keep then g[4]?.getD .gone else .gone, if 5 ∈ keep then g[5]?.getD .gone else .gone] := (rfl)
@[simp] theorem s_ios7 {keep : List Nat} : iosOf keep 7 g = [if 0 ∈ keep then g[0]?.getD .gone else .gone, if 1 ∈ keep then g[1]?.getD .gone else .gone, if 2 ∈ keep then g[2]?.getD .gone else .gone, if 3 ∈ keep then g[3]?.getD .gone else .gone, if 4 ∈ keep then g[4]?.getD .gone else .gone, if 5 ∈ keep then g[5]?.getD .gone else .gone, if 6 ∈ keep then g[6]?.getD .gone else .gone] := (rfl)
@[simp] theorem s_ios8 {keep : List Nat} : iosOf keep 8 g = [if 0 ∈ keep then g[0]?.getD .gone else .gone, if 1 ∈ keep then g[1]?.getD .gone else .gone, if 2 ∈ keep then g[2]?.getD .gone else .gone, if 3 ∈ keep then g[3]?.getD .gone else .gone, if 4 ∈ keep then g[4]?.getD .gone else .gone, if 5 ∈ keep then g[5]?.getD .gone else .gone, if 6 ∈ keep then g[6]?.getD .gone else .gone, if 7 ∈ keep then g[7]?.getD .gone else .gone] := (rfl)
end
end DPy
namespace Law
open DPy PySem PySem.Spec L2
open PyProof.Rows hiding St
def g_MAX_LEVEL : D := .int 15
def g_CLEAR : D := .tup [.int 0, .int 0, .int 0, .int 0]
/-! _law_stream -/
def N__law_stream : List Str := ["script", "numbers", "cell", "rest", "k", "stirred"]
def b1__law_stream : List Sm :=
     [.exp (.app (.nm 1) (.bin .Mod (.cb .int [.e (.nm 3)]) (.int 1009))),
      .asg (.nm 3) (.bin .FloorDiv (.nm 3) (.int 1009)),
      .ite (.cmp .Eq (.nm 3) (.int 0)) [.brk] []]
def b2__law_stream : List Sm :=
     [.asg (.nm 5) (.bin .Mod (.cb .int [.e (.bin .Add (.bin .Add (.bin .Mult (.nm 5) (.int 48271)) (.bin .Mult (.int 7) (.nm 4))) (.int 11))]) (.int 2147483647)),
      .exp (.app (.nm 1) (.bin .Mod (.bin .Mod (.cb .int [.e (.bin .Add (.bin .Mult (.nm 5) (.int 69621)) (.nm 4))]) (.int 2147483629)) (.int 1009)))]
def b3__law_stream : List Sm :=
     [.asg (.nm 3) (.cb .abs [.e (.cb .int [.e (.nm 2)])]),
      .ite (.cmp .GtE (.nm 3) (.bin .Pow (.int 10) (.int 18))) [.for (.nm 4) (.rng1 (.int 60)) b1__law_stream] [.asg (.nm 5) (.bin .Mod (.cb .int [.e (.nm 3)]) (.int 2147483647)),
      .for (.nm 4) (.rng1 (.int 10)) b2__law_stream]]
def m__law_stream : List Sm :=
     [.asg (.nm 1) (.lst []),
      .for (.nm 2) (.ex (.slc (.nm 0) [] [.e (.int 63)])) b3__law_stream,
      .ite (.cmp .Eq (.cb .len [.e (.nm 1)]) (.int 0)) [.exp (.app (.nm 1) (.int 0))] [],
      .ret (.nm 1)]
def c__law_stream : Cfg := { fn := look [], gl := look [], keep := [], fuel := bigFuel }
def F__law_stream : Fn := { n := 1, io := [], sem := bodyF c__law_stream 1 6 m__law_stream }
@[simp] theorem ck__law_stream : c__law_stream.keep = [] := (rfl)
@[simp] theorem cf__law_stream : c__law_stream.fn = look [] := (rfl)
@[simp] theorem cg__law_stream : c__law_stream.gl = look [] := (rfl)
@[simp] theorem cu__law_stream : c__law_stream.fuel = bigFuel := (rfl)
@[simp] theorem n__law_stream : F__law_stream.n = 1 := (rfl)
@[simp] theorem io__law_stream : F__law_stream.io = [] := (rfl)
/-! _law_next -/
def N__law_next : List Str := ["state", "many", "turn"]
def m__law_next : List Sm :=
     [.set (.nm 0) (.int 1) (.bin .Add (.sub (.nm 0) (.int 1)) (.int 1)),
      .asg (.nm 2) (.bin .FloorDiv (.sub (.nm 0) (.int 1)) (.cb .len [.e (.sub (.nm 0) (.int 0))])),
      .ret (.bin .Mod (.cb .int [.e (.bin .Add (.bin .Add (.sub (.sub (.nm 0) (.int 0)) (.bin .Mod (.sub (.nm 0) (.int 1)) (.cb .len [.e (.sub (.nm 0) (.int 0))]))) (.bin .Mult (.nm 2) (.int 389))) (.bin .Mult (.bin .Mult (.sub (.nm 0) (.int 1)) (.nm 2)) (.int 17)))]) (.nm 1))]
def c__law_next : Cfg := { fn := look [], gl := look [], keep := [0], fuel := bigFuel }
def F__law_next : Fn := { n := 2, io := [true], sem := bodyF c__law_next 2 3 m__law_next }
@[simp] theorem ck__law_next : c__law_next.keep = [0] := (rfl)
@[simp] theorem cf__law_next : c__law_next.fn = look [] := (rfl)
@[simp] theorem cg__law_next : c__law_next.gl = look [] := (rfl)
@[simp] theorem cu__law_next : c__law_next.fuel = bigFuel := (rfl)
@[simp] theorem n__law_next : F__law_next.n = 2 := (rfl)
@[simp] theorem io__law_next : F__law_next.io = [true] := (rfl)
/-! _law_level -/
def N__law_level : List Str := ["state"]
def m__law_level : List Sm :=
     [.ret (.sub (.lst [.e (.call "_law_next" [.e (.nm 0), .e (.int 16)]), .e (.int 0), .e (.int 15), .e (.int 8)]) (.call "_law_next" [.e (.nm 0), .e (.int 4)]))]
def c__law_level : Cfg := { fn := look [("_law_next", F__law_next)], gl := look [], keep := [0], fuel := bigFuel }
def F__law_level : Fn := { n := 1, io := [true], sem := bodyF c__law_level 1 1 m__law_level }
@[simp] theorem ck__law_level : c__law_level.keep = [0] := (rfl)
@[simp] theorem cf__law_level : c__law_level.fn = look [("_law_next", F__law_next)] := (rfl)
@[simp] theorem cg__law_level : c__law_level.gl = look [] := (rfl)
@[simp] theorem cu__law_level : c__law_level.fuel = bigFuel := (rfl)
@[simp] theorem n__law_level : F__law_level.n = 1 := (rfl)
@[simp] theorem io__law_level : F__law_level.io = [true] := (rfl)
/-! _law_same -/
def N__law_same : List Str := ["told", "due"]
def m__law_same : List Sm :=
     [.ret (.cmp .Eq (.cb .repr [.e (.lst [.e (.nm 0)])]) (.cb .repr [.e (.lst [.e (.nm 1)])]))]
def c__law_same : Cfg := { fn := look [], gl := look [], keep := [], fuel := bigFuel }
def F__law_same : Fn := { n := 2, io := [], sem := bodyF c__law_same 2 2 m__law_same }
@[simp] theorem ck__law_same : c__law_same.keep = [] := (rfl)
@[simp] theorem cf__law_same : c__law_same.fn = look [] := (rfl)
@[simp] theorem cg__law_same : c__law_same.gl = look [] := (rfl)
@[simp] theorem cu__law_same : c__law_same.fuel = bigFuel := (rfl)
@[simp] theorem n__law_same : F__law_same.n = 2 := (rfl)
@[simp] theorem io__law_same : F__law_same.io = [] := (rfl)
/-! scaled -/
def N_scaled : List Str := ["first", "second"]
def m_scaled : List Sm :=
     [.ret (.bin .FloorDiv (.bin .Add (.bin .Mult (.nm 0) (.nm 1)) (.bin .FloorDiv (.gl "MAX_LEVEL") (.int 2))) (.gl "MAX_LEVEL"))]
def c_scaled : Cfg := { fn := look [], gl := look [("MAX_LEVEL", g_MAX_LEVEL)], keep := [], fuel := bigFuel }
def F_scaled : Fn := { n := 2, io := [], sem := bodyF c_scaled 2 2 m_scaled }
@[simp] theorem ck_scaled : c_scaled.keep = [] := (rfl)
@[simp] theorem cf_scaled : c_scaled.fn = look [] := (rfl)
@[simp] theorem cg_scaled : c_scaled.gl = look [("MAX_LEVEL", g_MAX_LEVEL)] := (rfl)
@[simp] theorem cu_scaled : c_scaled.fuel = bigFuel := (rfl)
@[simp] theorem n_scaled : F_scaled.n = 2 := (rfl)
@[simp] theorem io_scaled : F_scaled.io = [] := (rfl)
/-! mixed -/
def N_mixed : List Str := ["first", "second", "level"]
def m_mixed : List Sm :=
     [.ret (.bin .FloorDiv (.bin .Add (.bin .Add (.bin .Mult (.nm 0) (.bin .Sub (.gl "MAX_LEVEL") (.nm 2))) (.bin .Mult (.nm 1) (.nm 2))) (.bin .FloorDiv (.gl "MAX_LEVEL") (.int 2))) (.gl "MAX_LEVEL"))]
def c_mixed : Cfg := { fn := look [], gl := look [("MAX_LEVEL", g_MAX_LEVEL)], keep := [], fuel := bigFuel }
def F_mixed : Fn := { n := 3, io := [], sem := bodyF c_mixed 3 3 m_mixed }
@[simp] theorem ck_mixed : c_mixed.keep = [] := (rfl)
@[simp] theorem cf_mixed : c_mixed.fn = look [] := (rfl)
@[simp] theorem cg_mixed : c_mixed.gl = look [("MAX_LEVEL", g_MAX_LEVEL)] := (rfl)
@[simp] theorem cu_mixed : c_mixed.fuel = bigFuel := (rfl)
@[simp] theorem n_mixed : F_mixed.n = 3 := (rfl)
@[simp] theorem io_mixed : F_mixed.io = [] := (rfl)
/-! put_together -/
def N_put_together : List Str := ["mode", "below", "above"]
def m_put_together : List Sm :=
     [.ite (.cmp .Eq (.nm 0) (.str "darker")) [.ret (.cb .min [.e (.nm 1), .e (.nm 2)])] [],
      .ite (.cmp .Eq (.nm 0) (.str "lighter")) [.ret (.cb .max [.e (.nm 1), .e (.nm 2)])] [],
      .ite (.cmp .Eq (.nm 0) (.str "times")) [.ret (.call "scaled" [.e (.nm 1), .e (.nm 2)])] [],
      .ite (.cmp .Eq (.nm 0) (.str "screen")) [.ret (.bin .Sub (.gl "MAX_LEVEL") (.call "scaled" [.e (.bin .Sub (.gl "MAX_LEVEL") (.nm 1)), .e (.bin .Sub (.gl "MAX_LEVEL") (.nm 2))]))] [],
      .ret (.ite (.cmp .Eq (.nm 0) (.str "apart")) (.cb .abs [.e (.bin .Sub (.nm 1) (.nm 2))]) (.nm 2))]
def c_put_together : Cfg := { fn := look [("scaled", F_scaled)], gl := look [("MAX_LEVEL", g_MAX_LEVEL)], keep := [], fuel := bigFuel }
def F_put_together : Fn := { n := 3, io := [], sem := bodyF c_put_together 3 3 m_put_together }
@[simp] theorem ck_put_together : c_put_together.keep = [] := (rfl)
@[simp] theorem cf_put_together : c_put_together.fn = look [("scaled", F_scaled)] := (rfl)
@[simp] theorem cg_put_together : c_put_together.gl = look [("MAX_LEVEL", g_MAX_LEVEL)] := (rfl)
@[simp] theorem cu_put_together : c_put_together.fuel = bigFuel := (rfl)
@[simp] theorem n_put_together : F_put_together.n = 3 := (rfl)
@[simp] theorem io_put_together : F_put_together.io = [] := (rfl)
/-! normal -/
def N_normal : List Str := ["colours", "cover"]
def m_normal : List Sm :=
     [.ret (.ite (.cmp .Gt (.nm 1) (.int 0)) (.tup [.star (.nm 0), .e (.nm 1)]) (.gl "CLEAR"))]
def c_normal : Cfg := { fn := look [], gl := look [("CLEAR", g_CLEAR)], keep := [], fuel := bigFuel }
def F_normal : Fn := { n := 2, io := [], sem := bodyF c_normal 2 2 m_normal }
@[simp] theorem ck_normal : c_normal.keep = [] := (rfl)
@[simp] theorem cf_normal : c_normal.fn = look [] := (rfl)
@[simp] theorem cg_normal : c_normal.gl = look [("CLEAR", g_CLEAR)] := (rfl)
@[simp] theorem cu_normal : c_normal.fuel = bigFuel := (rfl)
@[simp] theorem n_normal : F_normal.n = 2 := (rfl)
@[simp] theorem io_normal : F_normal.io = [] := (rfl)
/-! blended -/
def N_blended : List Str := ["mode", "below", "above", "level", "cover", "rest", "whole", "found", "low", "high", "colour"]
def b1_blended : List Sm :=
     [.asg (.nm 10) (.call "mixed" [.e (.nm 9), .e (.call "put_together" [.e (.nm 0), .e (.nm 8), .e (.nm 9)]), .e (.sub (.nm 1) (.int 3))]),
      .exp (.app (.nm 7) (.bin .FloorDiv (.bin .Add (.bin .Add (.bin .Mult (.nm 8) (.nm 5)) (.bin .Mult (.nm 10) (.nm 4))) (.bin .FloorDiv (.nm 6) (.int 2))) (.nm 6)))]
def m_blended : List Sm :=
     [.asg (.nm 4) (.call "scaled" [.e (.sub (.nm 2) (.int 3)), .e (.nm 3)]),
      .asg (.nm 5) (.call "scaled" [.e (.sub (.nm 1) (.int 3)), .e (.bin .Sub (.gl "MAX_LEVEL") (.nm 4))]),
      .asg (.nm 6) (.bin .Add (.nm 4) (.nm 5)),
      .ite (.cmp .Eq (.nm 6) (.int 0)) [.ret (.gl "CLEAR")] [],
      .asg (.nm 7) (.lst []),
      .for (.tup [.nm 8, .nm 9]) (.zip (.slc (.nm 1) [] [.e (.int 3)]) (.slc (.nm 2) [] [.e (.int 3)])) b1_blended,
      .ret (.call "normal" [.e (.nm 7), .e (.nm 6)])]
def c_blended : Cfg := { fn := look [("scaled", F_scaled), ("mixed", F_mixed), ("put_together", F_put_together), ("normal", F_normal)], gl := look [("MAX_LEVEL", g_MAX_LEVEL), ("CLEAR", g_CLEAR)], keep := [], fuel := bigFuel }
def F_blended : Fn := { n := 4, io := [], sem := bodyF c_blended 4 11 m_blended }
@[simp] theorem ck_blended : c_blended.keep = [] := (rfl)
@[simp] theorem cf_blended : c_blended.fn = look [("scaled", F_scaled), ("mixed", F_mixed), ("put_together", F_put_together), ("normal", F_normal)] := (rfl)
@[simp] theorem cg_blended : c_blended.gl = look [("MAX_LEVEL", g_MAX_LEVEL), ("CLEAR", g_CLEAR)] := (rfl)
@[simp] theorem cu_blended : c_blended.fuel = bigFuel := (rfl)
@[simp] theorem n_blended : F_blended.n = 4 := (rfl)
@[simp] theorem io_blended : F_blended.io = [] := (rfl)
/-! _law_scaled -/
def N__law_scaled : List Str := ["first", "second"]
def m__law_scaled : List Sm :=
     [.ret (.bin .FloorDiv (.bin .Add (.bin .Mult (.nm 0) (.nm 1)) (.int 7)) (.int 15))]
def c__law_scaled : Cfg := { fn := look [], gl := look [], keep := [], fuel := bigFuel }
def F__law_scaled : Fn := { n := 2, io := [], sem := bodyF c__law_scaled 2 2 m__law_scaled }
@[simp] theorem ck__law_scaled : c__law_scaled.keep = [] := (rfl)
@[simp] theorem cf__law_scaled : c__law_scaled.fn = look [] := (rfl)
@[simp] theorem cg__law_scaled : c__law_scaled.gl = look [] := (rfl)
@[simp] theorem cu__law_scaled : c__law_scaled.fuel = bigFuel := (rfl)
@[simp] theorem n__law_scaled : F__law_scaled.n = 2 := (rfl)
@[simp] theorem io__law_scaled : F__law_scaled.io = [] := (rfl)
/-! _law_mixed -/
def N__law_mixed : List Str := ["first", "second", "level"]
def m__law_mixed : List Sm :=
     [.ret (.bin .FloorDiv (.bin .Add (.bin .Add (.bin .Mult (.nm 0) (.bin .Sub (.int 15) (.nm 2))) (.bin .Mult (.nm 1) (.nm 2))) (.int 7)) (.int 15))]
def c__law_mixed : Cfg := { fn := look [], gl := look [], keep := [], fuel := bigFuel }
def F__law_mixed : Fn := { n := 3, io := [], sem := bodyF c__law_mixed 3 3 m__law_mixed }
@[simp] theorem ck__law_mixed : c__law_mixed.keep = [] := (rfl)
@[simp] theorem cf__law_mixed : c__law_mixed.fn = look [] := (rfl)
@[simp] theorem cg__law_mixed : c__law_mixed.gl = look [] := (rfl)
@[simp] theorem cu__law_mixed : c__law_mixed.fuel = bigFuel := (rfl)
@[simp] theorem n__law_mixed : F__law_mixed.n = 3 := (rfl)
@[simp] theorem io__law_mixed : F__law_mixed.io = [] := (rfl)
/-! _law_made -/
def N__law_made : List Str := ["mode", "below", "above"]
def m__law_made : List Sm :=
     [.ite (.cmp .Eq (.nm 0) (.str "darker")) [.ret (.cb .min [.e (.nm 1), .e (.nm 2)])] [],
      .ite (.cmp .Eq (.nm 0) (.str "lighter")) [.ret (.cb .max [.e (.nm 1), .e (.nm 2)])] [],
      .ite (.cmp .Eq (.nm 0) (.str "times")) [.ret (.call "_law_scaled" [.e (.nm 1), .e (.nm 2)])] [],
      .ite (.cmp .Eq (.nm 0) (.str "screen")) [.ret (.bin .Sub (.int 15) (.call "_law_scaled" [.e (.bin .Sub (.int 15) (.nm 1)), .e (.bin .Sub (.int 15) (.nm 2))]))] [],
      .ite (.cmp .Eq (.nm 0) (.str "apart")) [.ret (.bin .Sub (.cb .max [.e (.nm 1), .e (.nm 2)]) (.cb .min [.e (.nm 1), .e (.nm 2)]))] [],
      .ret (.nm 2)]
def c__law_made : Cfg := { fn := look [("_law_scaled", F__law_scaled)], gl := look [], keep := [], fuel := bigFuel }
def F__law_made : Fn := { n := 3, io := [], sem := bodyF c__law_made 3 3 m__law_made }
@[simp] theorem ck__law_made : c__law_made.keep = [] := (rfl)
@[simp] theorem cf__law_made : c__law_made.fn = look [("_law_scaled", F__law_scaled)] := (rfl)
@[simp] theorem cg__law_made : c__law_made.gl = look [] := (rfl)
@[simp] theorem cu__law_made : c__law_made.fuel = bigFuel := (rfl)
@[simp] theorem n__law_made : F__law_made.n = 3 := (rfl)
@[simp] theorem io__law_made : F__law_made.io = [] := (rfl)
/-! _law_blended -/
def N__law_blended : List Str := ["mode", "below", "above", "level", "cover", "rest", "whole", "found", "k", "colour"]
def b1__law_blended : List Sm :=
     [.asg (.nm 9) (.call "_law_mixed" [.e (.sub (.nm 2) (.nm 8)), .e (.call "_law_made" [.e (.nm 0), .e (.sub (.nm 1) (.nm 8)), .e (.sub (.nm 2) (.nm 8))]), .e (.sub (.nm 1) (.int 3))]),
      .exp (.app (.nm 7) (.bin .FloorDiv (.bin .Add (.bin .Add (.bin .Mult (.sub (.nm 1) (.nm 8)) (.nm 5)) (.bin .Mult (.nm 9) (.nm 4))) (.bin .FloorDiv (.nm 6) (.int 2))) (.cb .max [.e (.int 1), .e (.nm 6)])))]
def m__law_blended : List Sm :=
     [.asg (.nm 4) (.call "_law_scaled" [.e (.sub (.nm 2) (.int 3)), .e (.nm 3)]),
      .asg (.nm 5) (.call "_law_scaled" [.e (.sub (.nm 1) (.int 3)), .e (.bin .Sub (.int 15) (.nm 4))]),
      .asg (.nm 6) (.bin .Add (.nm 4) (.nm 5)),
      .asg (.nm 7) (.lst []),
      .for (.nm 8) (.rng1 (.int 3)) b1__law_blended,
      .ret (.sub (.lst [.e (.tup [.e (.sub (.nm 7) (.int 0)), .e (.sub (.nm 7) (.int 1)), .e (.sub (.nm 7) (.int 2)), .e (.nm 6)]), .e (.tup [.e (.int 0), .e (.int 0), .e (.int 0), .e (.int 0)])]) (.cb .int [.e (.cmp .Eq (.nm 6) (.int 0))]))]
def c__law_blended : Cfg := { fn := look [("_law_scaled", F__law_scaled), ("_law_mixed", F__law_mixed), ("_law_made", F__law_made)], gl := look [], keep := [], fuel := bigFuel }
def F__law_blended : Fn := { n := 4, io := [], sem := bodyF c__law_blended 4 10 m__law_blended }
@[simp] theorem ck__law_blended : c__law_blended.keep = [] := (rfl)
@[simp] theorem cf__law_blended : c__law_blended.fn = look [("_law_scaled", F__law_scaled), ("_law_mixed", F__law_mixed), ("_law_made", F__law_made)] := (rfl)
@[simp] theorem cg__law_blended : c__law_blended.gl = look [] := (rfl)
@[simp] theorem cu__law_blended : c__law_blended.fuel = bigFuel := (rfl)
@[simp] theorem n__law_blended : F__law_blended.n = 4 := (rfl)
@[simp] theorem io__law_blended : F__law_blended.io = [] := (rfl)
/-! law -/
def N_law : List Str := ["script", "state", "mode", "level", "low", "high", "below", "above", "one", "other"]
def b1_law : List Sm :=
     [.asg (.nm 8) (.tup [.e (.nm 6), .e (.bin .Sub (.int 15) (.nm 6)), .e (.int 7), .e (.nm 4)]),
      .asg (.nm 9) (.tup [.e (.nm 7), .e (.nm 7), .e (.bin .Sub (.int 15) (.nm 7)), .e (.nm 5)]),
      .ite (.not (.ex (.call "_law_same" [.e (.call "blended" [.e (.nm 2), .e (.nm 8), .e (.nm 9), .e (.nm 3)]), .e (.call "_law_blended" [.e (.nm 2), .e (.nm 8), .e (.nm 9), .e (.nm 3)])]))) [.ret (.bl false)] [],
      .ite (.not (.ex (.call "_law_same" [.e (.call "put_together" [.e (.nm 2), .e (.nm 6), .e (.nm 7)]), .e (.call "_law_made" [.e (.nm 2), .e (.nm 6), .e (.nm 7)])]))) [.ret (.bl false)] []]
def b2_law : List Sm :=
     [.for (.nm 7) (.rng1 (.int 16)) b1_law]
def m_law : List Sm :=
     [.asg (.nm 1) (.lst [.e (.call "_law_stream" [.e (.nm 0)]), .e (.int 0)]),
      .asg (.nm 2) (.sub (.lst [.e (.str "plain"), .e (.str "darker"), .e (.str "lighter"), .e (.str "times"), .e (.str "screen"), .e (.str "apart")]) (.call "_law_next" [.e (.nm 1), .e (.int 6)])),
      .asg (.nm 3) (.call "_law_level" [.e (.nm 1)]),
      .asg (.nm 4) (.bin .Add (.int 1) (.call "_law_next" [.e (.nm 1), .e (.int 15)])),
      .asg (.nm 5) (.bin .Add (.int 1) (.call "_law_next" [.e (.nm 1), .e (.int 15)])),
      .for (.nm 6) (.rng1 (.int 16)) b2_law,
      .ret (.bl true)]
def c_law : Cfg := { fn := look [("_law_stream", F__law_stream), ("_law_next", F__law_next), ("_law_level", F__law_level), ("_law_same", F__law_same), ("blended", F_blended), ("_law_blended", F__law_blended), ("put_together", F_put_together), ("_law_made", F__law_made)], gl := look [], keep := [], fuel := bigFuel }
def F_law : Fn := { n := 1, io := [], sem := bodyF c_law 1 10 m_law }
@[simp] theorem ck_law : c_law.keep = [] := (rfl)
@[simp] theorem cf_law : c_law.fn = look [("_law_stream", F__law_stream), ("_law_next", F__law_next), ("_law_level", F__law_level), ("_law_same", F__law_same), ("blended", F_blended), ("_law_blended", F__law_blended), ("put_together", F_put_together), ("_law_made", F__law_made)] := (rfl)
@[simp] theorem cg_law : c_law.gl = look [] := (rfl)
@[simp] theorem cu_law : c_law.fuel = bigFuel := (rfl)
@[simp] theorem n_law : F_law.n = 1 := (rfl)
@[simp] theorem io_law : F_law.io = [] := (rfl)
end Law
namespace Law
open DPy PySem PySem.Spec L2
open PyProof.Rows hiding St
abbrev iL (L : List Int) : List D := L.map D.int
abbrev st_ (L : List Int) (k : Int) : D := .lst true [.lst false (iL L), .int k]
theorem s_next {L : List Int} {k m : Int} (h0 : 0 < L.length) (hL : L.length ≤ 100000) (hk : 0 ≤ k) (hk2 : k ≤ 100000) (hm : 0 < m) :
    ∃ r : Int, 0 ≤ r ∧ r < m ∧ F__law_next.sem [st_ L k, .int m] = some (.ret (.int r) [st_ L (k + 1), .gone]) := by
  have hl0 : ((L.length : Nat) : Int) ≠ 0 := by omega
  have hi : ((k + 1).fmod (L.length : Int)).toNat < L.length := by
    have := Int.fmod_lt_of_pos (k + 1) (show (0 : Int) < L.length by omega)
    have := Int.fmod_nonneg (show 0 ≤ k + 1 by omega) (show (0 : Int) ≤ L.length by omega)
    omega
  have hp : 0 ≤ (k + 1).fmod (L.length : Int) := Int.fmod_nonneg (by omega) (by omega)
  have hat : atI (iL L) ((k + 1).fmod (L.length : Int)) = some (.int L[((k + 1).fmod (L.length : Int)).toNat]) := atI_int hp (by simp [hi])
  have e : F__law_next.sem [.lst true [.lst false (iL L), .int k], .int m] = some (.ret (.int ((L[((k + 1).fmod (L.length : Int)).toNat] + (k + 1).fdiv (L.length : Int) * 389 + (k + 1) * (k + 1).fdiv (L.length : Int) * 17).fmod m)) [.lst true [.lst false (iL L), .int (k + 1)], .gone]) := by
    have ht : 0 ≤ (k + 1).fdiv (L.length : Int) := Int.fdiv_nonneg (by omega) (by omega)
    simp (disch := first | omega | assumption) [look, F__law_next, m__law_next, hat]
  exact ⟨_, Int.fmod_nonneg_of_pos _ hm, Int.fmod_lt_of_pos _ hm, e⟩
theorem s_level {L : List Int} {k : Int} (h0 : 0 < L.length) (hL : L.length ≤ 100000) (hk : 0 ≤ k) (hk2 : k ≤ 1000) :
    ∃ r : Int, 0 ≤ r ∧ r ≤ 15 ∧ F__law_level.sem [st_ L k] = some (.ret (.int r) [st_ L (k + 2)]) := by
  obtain ⟨r1, a1, b1, e1⟩ := s_next (m := 16) h0 hL hk (by omega) (by omega)
  obtain ⟨r2, a2, b2, e2⟩ := s_next (m := 4) (k := k + 1) h0 hL (by omega) (by omega) (by omega)
  have hn : F__law_next.n = 2 := rfl
  have hio : F__law_next.io = [true] := rfl
  have hs : (4 : Nat) ≤ sizeLine := by decide
  have hk : k + 1 + 1 = k + 2 := by omega
  have : r2 = 0 ∨ r2 = 1 ∨ r2 = 2 ∨ r2 = 3 := by omega
  rcases this with rfl | rfl | rfl | rfl
  · exact ⟨r1, a1, by omega, by simp (disch := first | omega | assumption) [look, F__law_level, m__law_level, e1, e2, hn, hio, hs, hk]⟩
  · exact ⟨0, by omega, by omega, by simp (disch := first | omega | assumption) [look, F__law_level, m__law_level, e1, e2, hn, hio, hs, hk]⟩
  · exact ⟨15, by omega, by omega, by simp (disch := first | omega | assumption) [look, F__law_level, m__law_level, e1, e2, hn, hio, hs, hk]⟩
  · exact ⟨8, by omega, by omega, by simp (disch := first | omega | assumption) [look, F__law_level, m__law_level, e1, e2, hn, hio, hs, hk]⟩
theorem s_scaled {a b : Int} (ha : 0 ≤ a) (ha2 : a ≤ 100) : F_scaled.sem [.int a, .int b] = some (.ret (.int ((a * b + 7).fdiv 15)) [.gone, .gone]) := by
  simp (disch := first | omega | assumption) [look, F_scaled, m_scaled, g_MAX_LEVEL]
theorem s_lscaled {a b : Int} (ha : 0 ≤ a) (ha2 : a ≤ 100) : F__law_scaled.sem [.int a, .int b] = some (.ret (.int ((a * b + 7).fdiv 15)) [.gone, .gone]) := by
  simp (disch := first | omega | assumption) [look, F__law_scaled, m__law_scaled]
theorem s_mixed {a b l : Int} (ha : 0 ≤ a) (ha2 : a ≤ 100) (hb : 0 ≤ b) (hb2 : b ≤ 100) : F_mixed.sem [.int a, .int b, .int l] = some (.ret (.int ((a * (15 - l) + b * l + 7).fdiv 15)) [.gone, .gone, .gone]) := by
  simp (disch := first | omega | assumption) [look, F_mixed, m_mixed, g_MAX_LEVEL]
theorem s_lmixed {a b l : Int} (ha : 0 ≤ a) (ha2 : a ≤ 100) (hb : 0 ≤ b) (hb2 : b ≤ 100) : F__law_mixed.sem [.int a, .int b, .int l] = some (.ret (.int ((a * (15 - l) + b * l + 7).fdiv 15)) [.gone, .gone, .gone]) := by
  simp (disch := first | omega | assumption) [look, F__law_mixed, m__law_mixed]
theorem q_plain_darker : cmpop .Eq (.str "plain") (.str "darker") = some false := by decide +kernel
theorem q_plain_lighter : cmpop .Eq (.str "plain") (.str "lighter") = some false := by decide +kernel
theorem q_plain_times : cmpop .Eq (.str "plain") (.str "times") = some false := by decide +kernel
theorem q_plain_screen : cmpop .Eq (.str "plain") (.str "screen") = some false := by decide +kernel
theorem q_plain_apart : cmpop .Eq (.str "plain") (.str "apart") = some false := by decide +kernel
theorem q_darker_darker : cmpop .Eq (.str "darker") (.str "darker") = some true := by decide +kernel
theorem q_darker_lighter : cmpop .Eq (.str "darker") (.str "lighter") = some false := by decide +kernel
theorem q_darker_times : cmpop .Eq (.str "darker") (.str "times") = some false := by decide +kernel
theorem q_darker_screen : cmpop .Eq (.str "darker") (.str "screen") = some false := by decide +kernel
theorem q_darker_apart : cmpop .Eq (.str "darker") (.str "apart") = some false := by decide +kernel
theorem q_lighter_darker : cmpop .Eq (.str "lighter") (.str "darker") = some false := by decide +kernel
theorem q_lighter_lighter : cmpop .Eq (.str "lighter") (.str "lighter") = some true := by decide +kernel
theorem q_lighter_times : cmpop .Eq (.str "lighter") (.str "times") = some false := by decide +kernel
theorem q_lighter_screen : cmpop .Eq (.str "lighter") (.str "screen") = some false := by decide +kernel
theorem q_lighter_apart : cmpop .Eq (.str "lighter") (.str "apart") = some false := by decide +kernel
theorem q_times_darker : cmpop .Eq (.str "times") (.str "darker") = some false := by decide +kernel
theorem q_times_lighter : cmpop .Eq (.str "times") (.str "lighter") = some false := by decide +kernel
theorem q_times_times : cmpop .Eq (.str "times") (.str "times") = some true := by decide +kernel
theorem q_times_screen : cmpop .Eq (.str "times") (.str "screen") = some false := by decide +kernel
theorem q_times_apart : cmpop .Eq (.str "times") (.str "apart") = some false := by decide +kernel
theorem q_screen_darker : cmpop .Eq (.str "screen") (.str "darker") = some false := by decide +kernel
theorem q_screen_lighter : cmpop .Eq (.str "screen") (.str "lighter") = some false := by decide +kernel
theorem q_screen_times : cmpop .Eq (.str "screen") (.str "times") = some false := by decide +kernel
theorem q_screen_screen : cmpop .Eq (.str "screen") (.str "screen") = some true := by decide +kernel
theorem q_screen_apart : cmpop .Eq (.str "screen") (.str "apart") = some false := by decide +kernel
theorem q_apart_darker : cmpop .Eq (.str "apart") (.str "darker") = some false := by decide +kernel
theorem q_apart_lighter : cmpop .Eq (.str "apart") (.str "lighter") = some false := by decide +kernel
theorem q_apart_times : cmpop .Eq (.str "apart") (.str "times") = some false := by decide +kernel
theorem q_apart_screen : cmpop .Eq (.str "apart") (.str "screen") = some false := by decide +kernel
theorem q_apart_apart : cmpop .Eq (.str "apart") (.str "apart") = some true := by decide +kernel
def Made (m : Str) : Prop := ∀ a b : Int, 0 ≤ a → a ≤ 15 → 0 ≤ b → b ≤ 15 → ∃ r : Int, 0 ≤ r ∧ r ≤ 15 ∧ F_put_together.sem [.str m, .int a, .int b] = some (.ret (.int r) [.gone, .gone, .gone]) ∧ F__law_made.sem [.str m, .int a, .int b] = some (.ret (.int r) [.gone, .gone, .gone])
theorem prod_le {a b : Int} (a0 : 0 ≤ a) (a1 : a ≤ 15) (b0 : 0 ≤ b) (b1 : b ≤ 15) : 0 ≤ (a * b + 7).fdiv 15 ∧ (a * b + 7).fdiv 15 ≤ 15 := by
  have h1 : 0 ≤ a * b := Int.mul_nonneg a0 b0
  have h2 : a * b ≤ 15 * 15 := Int.mul_le_mul a1 b1 b0 (by decide)
  rw [Int.fdiv_eq_ediv_of_nonneg _ (by decide)]
  omega
theorem made_plain : Made "plain" := fun a b a0 a1 b0 b1 => by
  have n1 : F_scaled.n = 2 := rfl
  have n2 : F_scaled.io = [] := rfl
  have n3 : F__law_scaled.n = 2 := rfl
  have n4 : F__law_scaled.io = [] := rfl
  refine ⟨b, by omega, by omega, ?_, ?_⟩
  · simp (disch := first | omega | assumption) [look, F_put_together, m_put_together, g_MAX_LEVEL, q_plain_darker, q_plain_lighter, q_plain_times, q_plain_screen, q_plain_apart]
  · simp (disch := first | omega | assumption) [look, F__law_made, m__law_made, q_plain_darker, q_plain_lighter, q_plain_times, q_plain_screen, q_plain_apart]
theorem made_darker : Made "darker" := fun a b a0 a1 b0 b1 => by
  have n1 : F_scaled.n = 2 := rfl
  have n2 : F_scaled.io = [] := rfl
  have n3 : F__law_scaled.n = 2 := rfl
  have n4 : F__law_scaled.io = [] := rfl
  refine ⟨if b < a then b else a, ?_, ?_, ?_, ?_⟩
  · split <;> omega
  · split <;> omega
  · simp (disch := first | omega | assumption) [look, F_put_together, m_put_together, g_MAX_LEVEL, q_darker_darker, q_darker_lighter, q_darker_times, q_darker_screen, q_darker_apart]
  · simp (disch := first | omega | assumption) [look, F__law_made, m__law_made, q_darker_darker, q_darker_lighter, q_darker_times, q_darker_screen, q_darker_apart]
theorem made_lighter : Made "lighter" := fun a b a0 a1 b0 b1 => by
  have n1 : F_scaled.n = 2 := rfl
  have n2 : F_scaled.io = [] := rfl
  have n3 : F__law_scaled.n = 2 := rfl
  have n4 : F__law_scaled.io = [] := rfl
  refine ⟨if b > a then b else a, ?_, ?_, ?_, ?_⟩
  · split <;> omega
  · split <;> omega
  · simp (disch := first | omega | assumption) [look, F_put_together, m_put_together, g_MAX_LEVEL, q_lighter_darker, q_lighter_lighter, q_lighter_times, q_lighter_screen, q_lighter_apart]
  · simp (disch := first | omega | assumption) [look, F__law_made, m__law_made, q_lighter_darker, q_lighter_lighter, q_lighter_times, q_lighter_screen, q_lighter_apart]
theorem made_times : Made "times" := fun a b a0 a1 b0 b1 => by
  have n1 : F_scaled.n = 2 := rfl
  have n2 : F_scaled.io = [] := rfl
  have n3 : F__law_scaled.n = 2 := rfl
  have n4 : F__law_scaled.io = [] := rfl
  have p := prod_le a0 a1 b0 b1
  have e1 := s_scaled (b := b) a0 (by omega); have e2 := s_lscaled (b := b) a0 (by omega)
  refine ⟨(a * b + 7).fdiv 15, by omega, by omega, ?_, ?_⟩
  · simp (disch := first | omega | assumption) [look, F_put_together, m_put_together, g_MAX_LEVEL, q_times_darker, q_times_lighter, q_times_times, q_times_screen, q_times_apart, e1, e2, n1, n2, n3, n4]
  · simp (disch := first | omega | assumption) [look, F__law_made, m__law_made, q_times_darker, q_times_lighter, q_times_times, q_times_screen, q_times_apart, e1, e2, n1, n2, n3, n4]
theorem made_screen : Made "screen" := fun a b a0 a1 b0 b1 => by
  have n1 : F_scaled.n = 2 := rfl
  have n2 : F_scaled.io = [] := rfl
  have n3 : F__law_scaled.n = 2 := rfl
  have n4 : F__law_scaled.io = [] := rfl
  have p := prod_le (a := 15 - a) (b := 15 - b) (by omega) (by omega) (by omega) (by omega)
  have e1 := s_scaled (a := 15 - a) (b := 15 - b) (by omega) (by omega); have e2 := s_lscaled (a := 15 - a) (b := 15 - b) (by omega) (by omega)
  refine ⟨15 - ((15 - a) * (15 - b) + 7).fdiv 15, by omega, by omega, ?_, ?_⟩
  · simp (disch := first | omega | assumption) [look, F_put_together, m_put_together, g_MAX_LEVEL, q_screen_darker, q_screen_lighter, q_screen_times, q_screen_screen, q_screen_apart, e1, e2, n1, n2, n3, n4]
  · simp (disch := first | omega | assumption) [look, F__law_made, m__law_made, q_screen_darker, q_screen_lighter, q_screen_times, q_screen_screen, q_screen_apart, e1, e2, n1, n2, n3, n4]
theorem made_apart : Made "apart" := fun a b a0 a1 b0 b1 => by
  have n1 : F_scaled.n = 2 := rfl
  have n2 : F_scaled.io = [] := rfl
  have n3 : F__law_scaled.n = 2 := rfl
  have n4 : F__law_scaled.io = [] := rfl
  refine ⟨if a - b < 0 then -(a - b) else a - b, ?_, ?_, ?_, ?_⟩
  · split <;> omega
  · split <;> omega
  · simp (disch := first | omega | assumption) [look, F_put_together, m_put_together, g_MAX_LEVEL, q_apart_darker, q_apart_lighter, q_apart_times, q_apart_screen, q_apart_apart]
  · simp (disch := first | omega | assumption) [look, F__law_made, m__law_made, q_apart_darker, q_apart_lighter, q_apart_times, q_apart_screen, q_apart_apart]
    split <;> split <;> split <;> omega
theorem s_same' {d : D} (h : d.here = true) (hf : d.fz = true) (hs : d.share = d) (q : showOk (.lst true [d]) = true) : F__law_same.sem [d, d] = some (.ret (.bl true) [.gone, .gone]) := by
  have hz : (1 : Nat) ≤ sizeLine := by decide
  simp (disch := first | omega | assumption) [look, F__law_same, m__law_same, h, hf, hs, q, hz, DPy.v_eq_str]
theorem s_normal {x y z w : Int} (hw : 0 < w) : F_normal.sem [.lst false [.int x, .int y, .int z], .int w] = some (.ret (.tup [.int x, .int y, .int z, .int w]) [.gone, .gone]) := by
  have hz : (4 : Nat) ≤ sizeLine := by decide
  simp (disch := first | omega | assumption) [look, F_normal, m_normal, g_CLEAR, hw, hz]
theorem cut3 (b0 b1 b2 b3 : D) : slcD (.tup [b0, b1, b2, b3]) none (some 3) = some (.tup [b0, b1, b2]) := rfl
theorem up3 : ups 3 = [.int 0, .int 1, .int 2] := rfl
def Bd (a : Int) : Prop := 0 ≤ a ∧ a ≤ 15
theorem small_int {i : Int} (h0 : 0 ≤ i) (h1 : i ≤ 100000) : showOk (.lst true [.int i]) = true := by
  refine showOk_of rfl ?_ (by simp [D.py, D.pys, PyData.bulk, PyData.bulkAll]) (by simp [D.py, D.pys, PyData.depth, PyData.depthAll])
  simp [D.small, D.smallL]; omega
theorem small_tup {x y z w : Int} (hx : 0 ≤ x ∧ x ≤ 100000) (hy : 0 ≤ y ∧ y ≤ 100000) (hz : 0 ≤ z ∧ z ≤ 100000) (hw : 0 ≤ w ∧ w ≤ 100000) : showOk (.lst true [.tup [.int x, .int y, .int z, .int w]]) = true := by
  refine showOk_of rfl ?_ (by simp [D.py, D.pys, PyData.bulk, PyData.bulkAll]) (by simp [D.py, D.pys, PyData.depth, PyData.depthAll])
  simp [D.small, D.smallL]; omega
theorem s_blend {m : Str} (M : Made m) {b0 b1 b2 b3 a0 a1 a2 a3 l : Int} (B0 : Bd b0) (B1 : Bd b1) (B2 : Bd b2) (B3 : Bd b3) (A0 : Bd a0) (A1 : Bd a1) (A2 : Bd a2) (A3 : Bd a3) (Lv : Bd l) :
    ∃ d, d.here = true ∧ d.fz = true ∧ d.share = d ∧ showOk (.lst true [d]) = true ∧
      F_blended.sem [.str m, .tup [.int b0, .int b1, .int b2, .int b3], .tup [.int a0, .int a1, .int a2, .int a3], .int l] = some (.ret d [.gone, .gone, .gone, .gone]) ∧
      F__law_blended.sem [.str m, .tup [.int b0, .int b1, .int b2, .int b3], .tup [.int a0, .int a1, .int a2, .int a3], .int l] = some (.ret d [.gone, .gone, .gone, .gone]) := by
  unfold Bd at *
  have h4 : (4 : Nat) ≤ sizeLine := by decide
  have h3 : (3 : Nat) ≤ sizeLine := by decide
  have h2 : (2 : Nat) ≤ sizeLine := by decide
  have h0 : (0 : Nat) ≤ sizeLine := by decide
  have g0 : (0 : Nat) < sizeLine := by decide
  have g1 : (1 : Nat) < sizeLine := by decide
  have g2 : (2 : Nat) < sizeLine := by decide
  obtain ⟨r0, p0, q0, u0, v0⟩ := M b0 a0 (by omega) (by omega) (by omega) (by omega)
  obtain ⟨r1, p1, q1, u1, v1⟩ := M b1 a1 (by omega) (by omega) (by omega) (by omega)
  obtain ⟨r2, p2, q2, u2, v2⟩ := M b2 a2 (by omega) (by omega) (by omega) (by omega)
  have c1 := prod_le (a := a3) (b := l) (by omega) (by omega) (by omega) (by omega)
  have e1 := s_scaled (a := a3) (b := l) (by omega) (by omega)
  have e2 := s_lscaled (a := a3) (b := l) (by omega) (by omega)
  generalize hcv : (a3 * l + 7).fdiv 15 = cv at c1 e1 e2
  have c2 := prod_le (a := b3) (b := 15 - cv) (by omega) (by omega) (by omega) (by omega)
  have e3 := s_scaled (a := b3) (b := 15 - cv) (by omega) (by omega)
  have e4 := s_lscaled (a := b3) (b := 15 - cv) (by omega) (by omega)
  generalize hrs : (b3 * (15 - cv) + 7).fdiv 15 = rs at c2 e3 e4
  have mx : ∀ {a r : Int}, 0 ≤ a → a ≤ 15 → 0 ≤ r → r ≤ 15 → ∃ q : Int, 0 ≤ q ∧ q ≤ 500 ∧ F_mixed.sem [.int a, .int r, .int b3] = some (.ret (.int q) [.gone, .gone, .gone]) ∧ F__law_mixed.sem [.int a, .int r, .int b3] = some (.ret (.int q) [.gone, .gone, .gone]) := by
    intro a r ha ha2 hr hr2
    have z1 := mul_bd (a := a) (b := 15 - b3) ha ha2 (by omega) (show 15 - b3 ≤ 15 by omega)
    have z2 := mul_bd (a := r) (b := b3) hr hr2 (by omega) (show b3 ≤ 15 by omega)
    have z3 := fdiv_bd (x := a * (15 - b3) + r * b3 + 7) (y := 15) (by omega) (by omega)
    exact ⟨_, z3.1, by omega, s_mixed ha (by omega) hr (by omega), s_lmixed ha (by omega) hr (by omega)⟩
  obtain ⟨x0, xa0, xb0, f0, k0⟩ := mx (a := a0) (by omega) (by omega) p0 q0
  obtain ⟨x1, xa1, xb1, f1, k1⟩ := mx (a := a1) (by omega) (by omega) p1 q1
  obtain ⟨x2, xa2, xb2, f2, k2⟩ := mx (a := a2) (by omega) (by omega) p2 q2
  by_cases hw : cv + rs = 0
  · refine ⟨.tup [.int 0, .int 0, .int 0, .int 0], rfl, rfl, rfl, small_tup (by omega) (by omega) (by omega) (by omega), ?_, ?_⟩
    · simp (disch := first | omega | assumption) [look, F_blended, m_blended, g_MAX_LEVEL, g_CLEAR, e1, e3, hw]
    · simp (disch := first | omega | assumption) [look, F__law_blended, m__law_blended, b1__law_blended, e2, e4, hw, up3, v0, v1, v2, k0, k1, k2, h4, h2, h3, h0, g0, g1, g2]
  · have hw0 : 0 < cv + rs := by omega
    have fb : ∀ {b x : Int}, 0 ≤ b → b ≤ 15 → 0 ≤ x → x ≤ 500 → 0 ≤ (b * rs + x * cv + (cv + rs).fdiv 2).fdiv (cv + rs) ∧ (b * rs + x * cv + (cv + rs).fdiv 2).fdiv (cv + rs) ≤ 100000 := by
      intro b x hb hb2 hx hx2
      have z1 := mul_bd (a := b) (b := rs) hb hb2 (by omega) (show rs ≤ 15 by omega)
      have z2 := mul_bd (a := x) (b := cv) hx hx2 (by omega) (show cv ≤ 15 by omega)
      have z4 := fdiv_bd (x := cv + rs) (y := 2) (by omega) (by omega)
      have z3 := fdiv_bd (x := b * rs + x * cv + (cv + rs).fdiv 2) (y := cv + rs) (by omega) hw0
      omega
    refine ⟨.tup [.int ((b0 * rs + x0 * cv + (cv + rs).fdiv 2).fdiv (cv + rs)), .int ((b1 * rs + x1 * cv + (cv + rs).fdiv 2).fdiv (cv + rs)), .int ((b2 * rs + x2 * cv + (cv + rs).fdiv 2).fdiv (cv + rs)), .int (cv + rs)], rfl, rfl, rfl, small_tup (fb (by omega) (by omega) xa0 xb0) (fb (by omega) (by omega) xa1 xb1) (fb (by omega) (by omega) xa2 xb2) (by omega), ?_, ?_⟩
    · have := s_normal (x := (b0 * rs + x0 * cv + (cv + rs).fdiv 2).fdiv (cv + rs)) (y := (b1 * rs + x1 * cv + (cv + rs).fdiv 2).fdiv (cv + rs)) (z := (b2 * rs + x2 * cv + (cv + rs).fdiv 2).fdiv (cv + rs)) hw0
      simp (disch := first | omega | assumption) [look, F_blended, m_blended, b1_blended, g_MAX_LEVEL, g_CLEAR, e1, e3, hw, cut3, u0, u1, u2, f0, f1, f2, this, h4, h2, h3, h0, g0, g1, g2]
    · have hm : (if cv + rs > 1 then cv + rs else 1) = cv + rs := by split <;> omega
      simp (disch := first | omega | assumption) [look, F__law_blended, m__law_blended, b1__law_blended, e2, e4, hw, up3, v0, v1, v2, k0, k1, k2, hm, h4, h2, h3, h0, g0, g1, g2]
theorem size_big : sizeLine = 16777216 := rfl
theorem pow18 : binop .Pow (.int 10) (.int 18) = some (.int 1000000000000000000) := by simp [binop]
theorem st_step1 {S k s : D} {L : List Int} {i r : Int} {j : Nat} (hl : L.length ≤ 100000) : stepF c__law_stream (.nm 4) b1__law_stream (.int (j : Int)) [S, .lst true (iL L), .int i, .int r, k, s] =
    if r.fdiv 1009 = 0 then .brk [S, .lst true (iL (L ++ [r.fmod 1009])), .int i, .int (r.fdiv 1009), .int (j : Int), s] else .nx [S, .lst true (iL (L ++ [r.fmod 1009])), .int i, .int (r.fdiv 1009), .int (j : Int), s] := by
  have hz : (iL L).length < sizeLine := by rw [size_big, List.length_map]; omega
  simp (disch := first | omega | assumption) [look, b1__law_stream]
  split <;> simp
theorem st_loop1 {S k s : D} {L : List Int} {i r : Int} (hl : L.length ≤ 90000) : ∃ g', forL (stepF c__law_stream (.nm 4) b1__law_stream) (ups 60) [S, .lst true (iL L), .int i, .int r, k, s] = .nx g' ∧
    ∃ (L' : List Int) (r' : Int) (k' : D), g' = [S, .lst true (iL L'), .int i, .int r', k', s] ∧ L'.length ≤ L.length + 60 := by
  refine forL_brk (fun j g => ∃ (L' : List Int) (r' : Int) (k' : D), g = [S, .lst true (iL L'), .int i, .int r', k', s] ∧ L'.length = L.length + j) _ (ups 60) 0 _ ⟨L, r, k, rfl, rfl⟩ ?_ ?_
  · rintro j x g hx ⟨L', r', k', rfl, hL'⟩
    obtain ⟨hj, rfl⟩ := ups_get hx
    rw [st_step1 (by omega)]
    by_cases h : r'.fdiv 1009 = 0
    · exact ⟨_, .inr ⟨if_pos h, _, _, _, rfl, by simp; omega⟩⟩
    · exact ⟨_, .inl ⟨.inl (if_neg h), _, _, _, rfl, by simp; omega⟩⟩
  · rintro g ⟨L', r', k', rfl, hL'⟩
    rw [ups_len] at hL'
    exact ⟨L', r', k', rfl, by omega⟩
theorem st_step2 {S k : D} {L : List Int} {i r s : Int} {j : Nat} (hl : L.length ≤ 100000) : ∃ y s' : Int, stepF c__law_stream (.nm 4) b2__law_stream (.int (j : Int)) [S, .lst true (iL L), .int i, .int r, k, .int s] =
    .nx [S, .lst true (iL (L ++ [y])), .int i, .int r, .int (j : Int), .int s'] := by
  have hz : (iL L).length < sizeLine := by rw [size_big, List.length_map]; omega
  refine ⟨((((s * 48271 + 7 * (j : Int) + 11).fmod 2147483647) * 69621 + (j : Int)).fmod 2147483629).fmod 1009, (s * 48271 + 7 * (j : Int) + 11).fmod 2147483647, ?_⟩
  simp (disch := first | omega | assumption) [look, b2__law_stream]
theorem st_loop2 {S k : D} {L : List Int} {i r s : Int} (hl : L.length ≤ 90000) : ∃ g', forL (stepF c__law_stream (.nm 4) b2__law_stream) (ups 10) [S, .lst true (iL L), .int i, .int r, k, .int s] = .nx g' ∧
    ∃ (L' : List Int) (s' : Int) (k' : D), g' = [S, .lst true (iL L'), .int i, .int r, k', .int s'] ∧ L'.length = L.length + (0 + (ups 10).length) := by
  refine forL_inv (fun j g => ∃ (L' : List Int) (s' : Int) (k' : D), g = [S, .lst true (iL L'), .int i, .int r, k', .int s'] ∧ L'.length = L.length + j) (ups 10) 0 _ ⟨L, s, k, rfl, rfl⟩ ?_
  rintro j x g hx ⟨L', s', k', rfl, hL'⟩
  obtain ⟨hj, rfl⟩ := ups_get hx
  obtain ⟨y, s2, e⟩ := st_step2 (S := S) (k := k') (L := L') (i := i) (r := r) (s := s') (j := j) (by omega)
  exact ⟨_, .inl e, _, _, _, rfl, by simp; omega⟩
theorem st_step3 {S c r k s : D} {L : List Int} {i : Int} (hl : L.length ≤ 80000) : ∃ (L' : List Int) (c' r' k' s' : D), stepF c__law_stream (.nm 2) b3__law_stream (.int i) [S, .lst true (iL L), c, r, k, s] = .nx [S, .lst true (iL L'), c', r', k', s'] ∧ L'.length ≤ L.length + 60 := by
  generalize hq : (if i < 0 then -i else i) = q
  by_cases h : 1000000000000000000 ≤ q
  · obtain ⟨g', e, L', r', k', rfl, hL'⟩ := st_loop1 (S := S) (k := k) (s := s) (L := L) (i := i) (r := q) (by omega)
    refine ⟨L', .int i, .int r', k', s, ?_, by omega⟩
    simp (disch := first | omega | assumption) [look, b3__law_stream, pow18, h, hq, e]
  · obtain ⟨g', e, L', s', k', rfl, hL'⟩ := st_loop2 (S := S) (k := k) (L := L) (i := i) (r := q) (s := q.fmod 2147483647) (by omega)
    refine ⟨L', .int i, .int q, k', .int s', ?_, by rw [ups_len] at hL'; omega⟩
    simp (disch := first | omega | assumption) [look, b3__law_stream, pow18, h, hq, e]
theorem st_loop3 {S c r k s : D} {xs : List D} (hx : ∀ x ∈ xs, ∃ i : Int, x = .int i) (hl : xs.length ≤ 63) : ∃ (L' : List Int) (c' r' k' s' : D), forL (stepF c__law_stream (.nm 2) b3__law_stream) xs [S, .lst true [], c, r, k, s] = .nx [S, .lst true (iL L'), c', r', k', s'] ∧ L'.length ≤ 3780 := by
  obtain ⟨g', e, L', c', r', k', s', rfl, h⟩ := forL_inv (step := stepF c__law_stream (.nm 2) b3__law_stream) (fun j g => ∃ (L' : List Int) (c' r' k' s' : D), g = [S, .lst true (iL L'), c', r', k', s'] ∧ L'.length ≤ 60 * j) xs 0 [S, .lst true [], c, r, k, s] ⟨[], c, r, k, s, rfl, by simp⟩ (by
    rintro j x g hxj ⟨L', c', r', k', s', rfl, hL'⟩
    obtain ⟨i, rfl⟩ := hx x (List.mem_of_getElem? hxj)
    have hj := (List.getElem?_eq_some_iff.mp hxj).1
    obtain ⟨L2, c2, r2, k2, s2, e, h2⟩ := st_step3 (S := S) (c := c') (r := r') (k := k') (s := s') (L := L') (i := i) (by omega)
    exact ⟨_, .inl e, L2, c2, r2, k2, s2, rfl, by omega⟩)
  exact ⟨L', c', r', k', s', e, by omega⟩
theorem s_stream {ns : List Int} (hn : ns.length ≤ 63) : ∃ L : List Int, 0 < L.length ∧ L.length ≤ 4000 ∧ F__law_stream.sem [.lst false (iL ns)] = some (.ret (.lst true (iL L)) [.gone]) := by
  have hc : ∃ xs, DPy.cutD (iL ns) none (some 63) = xs ∧ (∀ x ∈ xs, ∃ i : Int, x = .int i) ∧ xs.length ≤ 63 := by
    refine ⟨_, rfl, fun x hx => ?_, ?_⟩
    · have := List.mem_of_mem_drop (List.mem_of_mem_take hx)
      obtain ⟨i, _, rfl⟩ := List.mem_map.mp this
      exact ⟨i, rfl⟩
    · unfold DPy.cutD
      rw [List.length_take, List.length_drop, List.length_map]
      omega
  obtain ⟨xs, exs, hx, hl⟩ := hc
  obtain ⟨L', c', r', k', s', e, hL⟩ := st_loop3 (S := .lst false (iL ns)) (c := .gone) (r := .gone) (k := .gone) (s := .gone) hx hl
  have hz : (0 : Nat) < sizeLine := by decide
  by_cases h0 : L' = []
  · subst h0
    exact ⟨[0], by simp, by simp, by simp (disch := first | omega | assumption) [look, F__law_stream, m__law_stream, exs, e, hz]⟩
  · refine ⟨L', List.length_pos_iff.mpr h0, by omega, ?_⟩
    have h1 : ¬ L'.length = 0 := fun z => h0 (List.eq_nil_of_length_eq_zero z)
    simp (disch := first | omega | assumption) [look, F__law_stream, m__law_stream, exs, e, hz, h0]
theorem lw_step {S st x y : D} {m : Str} {lv lo hi b : Int} {j : Nat} (M : Made m) (Lv : Bd lv) (Lo : Bd lo) (Hi : Bd hi) (B : Bd b) (J : j < 16) : ∃ x' y' : D, stepF c_law (.nm 7) b1_law (.int (j : Int)) [S, st, .str m, .int lv, .int lo, .int hi, .int b, z, x, y] = .nx [S, st, .str m, .int lv, .int lo, .int hi, .int b, .int (j : Int), x', y'] := by
  have hz : (4 : Nat) ≤ sizeLine := by decide
  have b7 : Bd 7 := ⟨by omega, by omega⟩
  have bj : Bd (j : Int) := ⟨by omega, by omega⟩
  have b15 : Bd (15 - b) := by unfold Bd at *; omega
  have j15 : Bd (15 - (j : Int)) := by unfold Bd at *; omega
  obtain ⟨d, h1, h2, h3, h4, e1, e2⟩ := s_blend (l := lv) M B b15 b7 Lo bj bj j15 Hi Lv
  obtain ⟨r, r0, r1, e3, e4⟩ := M b j B.1 B.2 bj.1 bj.2
  have s1 := s_same' h1 h2 h3 h4
  have s2 := s_same' (d := .int r) rfl rfl rfl (small_int r0 (by omega))
  refine ⟨.tup [.int b, .int (15 - b), .int 7, .int lo], .tup [.int (j : Int), .int (j : Int), .int (15 - (j : Int)), .int hi], ?_⟩
  simp (disch := first | omega | assumption) [look, b1_law, hz, e1, e2, h1, h3, s1, e3, e4, s2]
theorem lw_loop1 {S st z x y : D} {m : Str} {lv lo hi b : Int} (M : Made m) (Lv : Bd lv) (Lo : Bd lo) (Hi : Bd hi) (B : Bd b) : ∃ z' x' y' : D, forL (stepF c_law (.nm 7) b1_law) (ups 16) [S, st, .str m, .int lv, .int lo, .int hi, .int b, z, x, y] = .nx [S, st, .str m, .int lv, .int lo, .int hi, .int b, z', x', y'] := by
  obtain ⟨g', e, z', x', y', rfl⟩ := forL_inv (step := stepF c_law (.nm 7) b1_law) (fun j g => ∃ z' x' y' : D, g = [S, st, .str m, .int lv, .int lo, .int hi, .int b, z', x', y']) (ups 16) 0 [S, st, .str m, .int lv, .int lo, .int hi, .int b, z, x, y] ⟨z, x, y, rfl⟩ (by
    rintro j x g hx ⟨z', x', y', rfl⟩
    obtain ⟨hj, rfl⟩ := ups_get hx
    obtain ⟨x2, y2, e⟩ := lw_step (S := S) (st := st) (z := z') (x := x') (y := y') M Lv Lo Hi B hj
    exact ⟨_, .inl e, _, _, _, rfl⟩)
  exact ⟨z', x', y', e⟩
theorem lw_loop2 {S st z x y w : D} {m : Str} {lv lo hi : Int} (M : Made m) (Lv : Bd lv) (Lo : Bd lo) (Hi : Bd hi) : ∃ w' z' x' y' : D, forL (stepF c_law (.nm 6) b2_law) (ups 16) [S, st, .str m, .int lv, .int lo, .int hi, w, z, x, y] = .nx [S, st, .str m, .int lv, .int lo, .int hi, w', z', x', y'] := by
  obtain ⟨g', e, w', z', x', y', rfl⟩ := forL_inv (step := stepF c_law (.nm 6) b2_law) (fun j g => ∃ w' z' x' y' : D, g = [S, st, .str m, .int lv, .int lo, .int hi, w', z', x', y']) (ups 16) 0 [S, st, .str m, .int lv, .int lo, .int hi, w, z, x, y] ⟨w, z, x, y, rfl⟩ (by
    rintro j x g hx ⟨w', z', x', y', rfl⟩
    obtain ⟨hj, rfl⟩ := ups_get hx
    obtain ⟨z2, x2, y2, e⟩ := lw_loop1 (S := S) (st := st) (z := z') (x := x') (y := y') (b := j) M Lv Lo Hi ⟨by omega, by omega⟩
    exact ⟨[S, st, .str m, .int lv, .int lo, .int hi, .int (j : Int), z2, x2, y2], .inl (by simp (disch := first | omega | assumption) [look, b2_law, e]), _, _, _, _, rfl⟩)
  exact ⟨w', z', x', y', e⟩
theorem law_holds : ∀ ns : List Int, ns.length ≤ 63 → F_law.sem [.lst false (ns.map D.int)] = some (.ret (.bl true) [.gone]) := by
  intro ns hn
  obtain ⟨L, l0, l1, e0⟩ := s_stream hn
  obtain ⟨r1, a1, b1, e1⟩ := s_next (L := L) (k := 0) (m := 6) l0 (by omega) (by omega) (by omega) (by omega)
  obtain ⟨r2, a2, b2, e2⟩ := s_level (L := L) (k := 1) l0 (by omega) (by omega) (by omega)
  obtain ⟨r3, a3, b3, e3⟩ := s_next (L := L) (k := 3) (m := 15) l0 (by omega) (by omega) (by omega) (by omega)
  obtain ⟨r4, a4, b4, e4⟩ := s_next (L := L) (k := 4) (m := 15) l0 (by omega) (by omega) (by omega) (by omega)
  have e1' : F__law_next.sem [st_ L 0, .int 6] = some (.ret (.int r1) [st_ L 1, .gone]) := e1
  have e2' : F__law_level.sem [st_ L 1] = some (.ret (.int r2) [st_ L 3]) := e2
  have e3' : F__law_next.sem [st_ L 3, .int 15] = some (.ret (.int r3) [st_ L 4, .gone]) := e3
  have e4' : F__law_next.sem [st_ L 4, .int 15] = some (.ret (.int r4) [st_ L 5, .gone]) := e4
  have hm : ∃ m, Made m ∧ atI [D.str "plain", .str "darker", .str "lighter", .str "times", .str "screen", .str "apart"] r1 = some (.str m) := by
    have : r1 = 0 ∨ r1 = 1 ∨ r1 = 2 ∨ r1 = 3 ∨ r1 = 4 ∨ r1 = 5 := by omega
    rcases this with rfl | rfl | rfl | rfl | rfl | rfl
    · exact ⟨_, made_plain, by simp⟩
    · exact ⟨_, made_darker, by simp⟩
    · exact ⟨_, made_lighter, by simp⟩
    · exact ⟨_, made_times, by simp⟩
    · exact ⟨_, made_screen, by simp⟩
    · exact ⟨_, made_apart, by simp⟩
  obtain ⟨m, M, em⟩ := hm
  have h6 : (6 : Nat) ≤ sizeLine := by decide
  have h2 : (2 : Nat) ≤ sizeLine := by decide
  obtain ⟨w', z', x', y', e5⟩ := lw_loop2 (S := .lst false (iL ns)) (st := st_ L 5) (z := .gone) (x := .gone) (y := .gone) (w := .gone) (lv := r2) (lo := 1 + r3) (hi := 1 + r4) M ⟨a2, by omega⟩ ⟨by omega, by omega⟩ ⟨by omega, by omega⟩
  simp (disch := first | omega | assumption) [look, F_law, m_law, e0, e1', e2', e3', e4', em, e5, h6, h2]

end Law
namespace Law
open DPy PySem PySem.Spec L2
open PyProof.Rows hiding St
def topS (i : Nat) : Stmt := PySem.Challenge.pw_paintershouse_k01_all_blends.main.body.getD i (.Pass ⟨0, 0, 0, 0⟩)
abbrev stm__law_stream : Stmt := topS 10
theorem sc__law_stream : FnScope N__law_stream ["script"] (defScope stm__law_stream) := ⟨rfl, rfl, rfl, by decide +kernel, rfl, by decide +kernel, by decide +kernel⟩
theorem chk__law_stream : chkSs N__law_stream (defScope stm__law_stream) m__law_stream (defBody stm__law_stream) = true := by decide +kernel
abbrev stm__law_next : Stmt := topS 11
theorem sc__law_next : FnScope N__law_next ["state", "many"] (defScope stm__law_next) := ⟨rfl, rfl, rfl, by decide +kernel, rfl, by decide +kernel, by decide +kernel⟩
theorem chk__law_next : chkSs N__law_next (defScope stm__law_next) m__law_next (defBody stm__law_next) = true := by decide +kernel
abbrev stm__law_level : Stmt := topS 12
theorem sc__law_level : FnScope N__law_level ["state"] (defScope stm__law_level) := ⟨rfl, rfl, rfl, by decide +kernel, rfl, by decide +kernel, by decide +kernel⟩
theorem chk__law_level : chkSs N__law_level (defScope stm__law_level) m__law_level (defBody stm__law_level) = true := by decide +kernel
abbrev stm__law_same : Stmt := topS 9
theorem sc__law_same : FnScope N__law_same ["told", "due"] (defScope stm__law_same) := ⟨rfl, rfl, rfl, by decide +kernel, rfl, by decide +kernel, by decide +kernel⟩
theorem chk__law_same : chkSs N__law_same (defScope stm__law_same) m__law_same (defBody stm__law_same) = true := by decide +kernel
abbrev stm_scaled : Stmt := topS 3
theorem sc_scaled : FnScope N_scaled ["first", "second"] (defScope stm_scaled) := ⟨rfl, rfl, rfl, by decide +kernel, rfl, by decide +kernel, by decide +kernel⟩
theorem chk_scaled : chkSs N_scaled (defScope stm_scaled) m_scaled (defBody stm_scaled) = true := by decide +kernel
abbrev stm_mixed : Stmt := topS 4
theorem sc_mixed : FnScope N_mixed ["first", "second", "level"] (defScope stm_mixed) := ⟨rfl, rfl, rfl, by decide +kernel, rfl, by decide +kernel, by decide +kernel⟩
theorem chk_mixed : chkSs N_mixed (defScope stm_mixed) m_mixed (defBody stm_mixed) = true := by decide +kernel
abbrev stm_put_together : Stmt := topS 5
theorem sc_put_together : FnScope N_put_together ["mode", "below", "above"] (defScope stm_put_together) := ⟨rfl, rfl, rfl, by decide +kernel, rfl, by decide +kernel, by decide +kernel⟩
theorem chk_put_together : chkSs N_put_together (defScope stm_put_together) m_put_together (defBody stm_put_together) = true := by decide +kernel
abbrev stm_normal : Stmt := topS 6
theorem sc_normal : FnScope N_normal ["colours", "cover"] (defScope stm_normal) := ⟨rfl, rfl, rfl, by decide +kernel, rfl, by decide +kernel, by decide +kernel⟩
theorem chk_normal : chkSs N_normal (defScope stm_normal) m_normal (defBody stm_normal) = true := by decide +kernel
abbrev stm_blended : Stmt := topS 7
theorem sc_blended : FnScope N_blended ["mode", "below", "above", "level"] (defScope stm_blended) := ⟨rfl, rfl, rfl, by decide +kernel, rfl, by decide +kernel, by decide +kernel⟩
theorem chk_blended : chkSs N_blended (defScope stm_blended) m_blended (defBody stm_blended) = true := by decide +kernel
abbrev stm__law_scaled : Stmt := topS 13
theorem sc__law_scaled : FnScope N__law_scaled ["first", "second"] (defScope stm__law_scaled) := ⟨rfl, rfl, rfl, by decide +kernel, rfl, by decide +kernel, by decide +kernel⟩
theorem chk__law_scaled : chkSs N__law_scaled (defScope stm__law_scaled) m__law_scaled (defBody stm__law_scaled) = true := by decide +kernel
abbrev stm__law_mixed : Stmt := topS 14
theorem sc__law_mixed : FnScope N__law_mixed ["first", "second", "level"] (defScope stm__law_mixed) := ⟨rfl, rfl, rfl, by decide +kernel, rfl, by decide +kernel, by decide +kernel⟩
theorem chk__law_mixed : chkSs N__law_mixed (defScope stm__law_mixed) m__law_mixed (defBody stm__law_mixed) = true := by decide +kernel
abbrev stm__law_made : Stmt := topS 15
theorem sc__law_made : FnScope N__law_made ["mode", "below", "above"] (defScope stm__law_made) := ⟨rfl, rfl, rfl, by decide +kernel, rfl, by decide +kernel, by decide +kernel⟩
theorem chk__law_made : chkSs N__law_made (defScope stm__law_made) m__law_made (defBody stm__law_made) = true := by decide +kernel
abbrev stm__law_blended : Stmt := topS 16
theorem sc__law_blended : FnScope N__law_blended ["mode", "below", "above", "level"] (defScope stm__law_blended) := ⟨rfl, rfl, rfl, by decide +kernel, rfl, by decide +kernel, by decide +kernel⟩
theorem chk__law_blended : chkSs N__law_blended (defScope stm__law_blended) m__law_blended (defBody stm__law_blended) = true := by decide +kernel
abbrev stm_law : Stmt := topS 17
theorem sc_law : FnScope N_law ["script"] (defScope stm_law) := ⟨rfl, rfl, rfl, by decide +kernel, rfl, by decide +kernel, by decide +kernel⟩
theorem chk_law : chkSs N_law (defScope stm_law) m_law (defBody stm_law) = true := by decide +kernel
section
variable {P : Program} {w : World} {K : PySem.W.Frag} {mg : Str → Option Value} {base : Heap}
structure Blt (mg : Str → Option Value) : Prop where
  b_abs : mg "abs" = none
  b_all : mg "all" = none
  b_any : mg "any" = none
  b_bool : mg "bool" = none
  b_int : mg "int" = none
  b_len : mg "len" = none
  b_list : mg "list" = none
  b_max : mg "max" = none
  b_min : mg "min" = none
  b_repr : mg "repr" = none
  b_sorted : mg "sorted" = none
  b_str : mg "str" = none
  b_sum : mg "sum" = none
  b_tuple : mg "tuple" = none
  b_range : mg "range" = none
  b_zip : mg "zip" = none
  b_enumerate : mg "enumerate" = none
theorem Blt.bfs {mg : Str → Option Value} (B : Blt mg) : ∀ b : Bf, mg (Str.ofString b.name) = none := fun b => by cases b <;> first | exact B.b_abs | exact B.b_all | exact B.b_any | exact B.b_bool | exact B.b_int | exact B.b_len | exact B.b_list | exact B.b_max | exact B.b_min | exact B.b_repr | exact B.b_sorted | exact B.b_str | exact B.b_sum | exact B.b_tuple
structure Gls (K : PySem.W.Frag) (mg : Str → Option Value) : Prop where
  g_MAX_LEVEL : ∃ v u, mg "MAX_LEVEL" = some u ∧ RelV v u ∧ Rp K noH noH v g_MAX_LEVEL [] ∧ D.fz g_MAX_LEVEL = true
  g_CLEAR : ∃ v u, mg "CLEAR" = some u ∧ RelV v u ∧ Rp K noH noH v g_CLEAR [] ∧ D.fz g_CLEAR = true
theorem in__law_stream {f : Addr} {fd : FuncData} (B : Blt mg) (Gs : Gls K mg) (F : L2.Fun K "_law_stream" "_law_stream" stm__law_stream f fd) (m : mg "_law_stream" = some (.ref f)) (b : Binds K fd ["script"] [])  : FnIn noCl P w K mg base 1 "_law_stream" F__law_stream :=
  fnIn_body (c := c__law_stream) (k := 0) F m b sc__law_stream (fun _ => ⟨(look_nil), (look_nil), B.bfs, B.b_range, B.b_zip, B.b_enumerate⟩) rfl chk__law_stream (fun ds out h => ⟨bigFuel, h⟩)
theorem in__law_next {f : Addr} {fd : FuncData} (B : Blt mg) (Gs : Gls K mg) (F : L2.Fun K "_law_next" "_law_next" stm__law_next f fd) (m : mg "_law_next" = some (.ref f)) (b : Binds K fd ["state", "many"] [])  : FnIn noCl P w K mg base 1 "_law_next" F__law_next :=
  fnIn_body (c := c__law_next) (k := 0) F m b sc__law_next (fun _ => ⟨(look_nil), (look_nil), B.bfs, B.b_range, B.b_zip, B.b_enumerate⟩) rfl chk__law_next (fun ds out h => ⟨bigFuel, h⟩)
theorem in__law_level {f : Addr} {fd : FuncData} (B : Blt mg) (Gs : Gls K mg) (F : L2.Fun K "_law_level" "_law_level" stm__law_level f fd) (m : mg "_law_level" = some (.ref f)) (b : Binds K fd ["state"] []) (h__law_next : FnIn noCl P w K mg base 1 "_law_next" F__law_next) : FnIn noCl P w K mg base 2 "_law_level" F__law_level :=
  fnIn_body (c := c__law_level) (k := 1) F m b sc__law_level (fun _ => ⟨(look_cons (h__law_next.mono (by decide)) (look_nil)), (look_nil), B.bfs, B.b_range, B.b_zip, B.b_enumerate⟩) rfl chk__law_level (fun ds out h => ⟨bigFuel, h⟩)
theorem in__law_same {f : Addr} {fd : FuncData} (B : Blt mg) (Gs : Gls K mg) (F : L2.Fun K "_law_same" "_law_same" stm__law_same f fd) (m : mg "_law_same" = some (.ref f)) (b : Binds K fd ["told", "due"] [])  : FnIn noCl P w K mg base 1 "_law_same" F__law_same :=
  fnIn_body (c := c__law_same) (k := 0) F m b sc__law_same (fun _ => ⟨(look_nil), (look_nil), B.bfs, B.b_range, B.b_zip, B.b_enumerate⟩) rfl chk__law_same (fun ds out h => ⟨bigFuel, h⟩)
theorem in_scaled {f : Addr} {fd : FuncData} (B : Blt mg) (Gs : Gls K mg) (F : L2.Fun K "scaled" "scaled" stm_scaled f fd) (m : mg "scaled" = some (.ref f)) (b : Binds K fd ["first", "second"] [])  : FnIn noCl P w K mg base 1 "scaled" F_scaled :=
  fnIn_body (c := c_scaled) (k := 0) F m b sc_scaled (fun _ => ⟨(look_nil), (look_cons Gs.g_MAX_LEVEL (look_nil)), B.bfs, B.b_range, B.b_zip, B.b_enumerate⟩) rfl chk_scaled (fun ds out h => ⟨bigFuel, h⟩)
theorem in_mixed {f : Addr} {fd : FuncData} (B : Blt mg) (Gs : Gls K mg) (F : L2.Fun K "mixed" "mixed" stm_mixed f fd) (m : mg "mixed" = some (.ref f)) (b : Binds K fd ["first", "second", "level"] [])  : FnIn noCl P w K mg base 1 "mixed" F_mixed :=
  fnIn_body (c := c_mixed) (k := 0) F m b sc_mixed (fun _ => ⟨(look_nil), (look_cons Gs.g_MAX_LEVEL (look_nil)), B.bfs, B.b_range, B.b_zip, B.b_enumerate⟩) rfl chk_mixed (fun ds out h => ⟨bigFuel, h⟩)
theorem in_put_together {f : Addr} {fd : FuncData} (B : Blt mg) (Gs : Gls K mg) (F : L2.Fun K "put_together" "put_together" stm_put_together f fd) (m : mg "put_together" = some (.ref f)) (b : Binds K fd ["mode", "below", "above"] []) (h_scaled : FnIn noCl P w K mg base 1 "scaled" F_scaled) : FnIn noCl P w K mg base 2 "put_together" F_put_together :=
  fnIn_body (c := c_put_together) (k := 1) F m b sc_put_together (fun _ => ⟨(look_cons (h_scaled.mono (by decide)) (look_nil)), (look_cons Gs.g_MAX_LEVEL (look_nil)), B.bfs, B.b_range, B.b_zip, B.b_enumerate⟩) rfl chk_put_together (fun ds out h => ⟨bigFuel, h⟩)
theorem in_normal {f : Addr} {fd : FuncData} (B : Blt mg) (Gs : Gls K mg) (F : L2.Fun K "normal" "normal" stm_normal f fd) (m : mg "normal" = some (.ref f)) (b : Binds K fd ["colours", "cover"] [])  : FnIn noCl P w K mg base 1 "normal" F_normal :=
  fnIn_body (c := c_normal) (k := 0) F m b sc_normal (fun _ => ⟨(look_nil), (look_cons Gs.g_CLEAR (look_nil)), B.bfs, B.b_range, B.b_zip, B.b_enumerate⟩) rfl chk_normal (fun ds out h => ⟨bigFuel, h⟩)
theorem in_blended {f : Addr} {fd : FuncData} (B : Blt mg) (Gs : Gls K mg) (F : L2.Fun K "blended" "blended" stm_blended f fd) (m : mg "blended" = some (.ref f)) (b : Binds K fd ["mode", "below", "above", "level"] []) (h_scaled : FnIn noCl P w K mg base 1 "scaled" F_scaled) (h_mixed : FnIn noCl P w K mg base 1 "mixed" F_mixed) (h_put_together : FnIn noCl P w K mg base 2 "put_together" F_put_together) (h_normal : FnIn noCl P w K mg base 1 "normal" F_normal) : FnIn noCl P w K mg base 3 "blended" F_blended :=
  fnIn_body (c := c_blended) (k := 2) F m b sc_blended (fun _ => ⟨(look_cons (h_scaled.mono (by decide)) (look_cons (h_mixed.mono (by decide)) (look_cons (h_put_together.mono (by decide)) (look_cons (h_normal.mono (by decide)) (look_nil))))), (look_cons Gs.g_MAX_LEVEL (look_cons Gs.g_CLEAR (look_nil))), B.bfs, B.b_range, B.b_zip, B.b_enumerate⟩) rfl chk_blended (fun ds out h => ⟨bigFuel, h⟩)
theorem in__law_scaled {f : Addr} {fd : FuncData} (B : Blt mg) (Gs : Gls K mg) (F : L2.Fun K "_law_scaled" "_law_scaled" stm__law_scaled f fd) (m : mg "_law_scaled" = some (.ref f)) (b : Binds K fd ["first", "second"] [])  : FnIn noCl P w K mg base 1 "_law_scaled" F__law_scaled :=
  fnIn_body (c := c__law_scaled) (k := 0) F m b sc__law_scaled (fun _ => ⟨(look_nil), (look_nil), B.bfs, B.b_range, B.b_zip, B.b_enumerate⟩) rfl chk__law_scaled (fun ds out h => ⟨bigFuel, h⟩)
theorem in__law_mixed {f : Addr} {fd : FuncData} (B : Blt mg) (Gs : Gls K mg) (F : L2.Fun K "_law_mixed" "_law_mixed" stm__law_mixed f fd) (m : mg "_law_mixed" = some (.ref f)) (b : Binds K fd ["first", "second", "level"] [])  : FnIn noCl P w K mg base 1 "_law_mixed" F__law_mixed :=
  fnIn_body (c := c__law_mixed) (k := 0) F m b sc__law_mixed (fun _ => ⟨(look_nil), (look_nil), B.bfs, B.b_range, B.b_zip, B.b_enumerate⟩) rfl chk__law_mixed (fun ds out h => ⟨bigFuel, h⟩)
theorem in__law_made {f : Addr} {fd : FuncData} (B : Blt mg) (Gs : Gls K mg) (F : L2.Fun K "_law_made" "_law_made" stm__law_made f fd) (m : mg "_law_made" = some (.ref f)) (b : Binds K fd ["mode", "below", "above"] []) (h__law_scaled : FnIn noCl P w K mg base 1 "_law_scaled" F__law_scaled) : FnIn noCl P w K mg base 2 "_law_made" F__law_made :=
  fnIn_body (c := c__law_made) (k := 1) F m b sc__law_made (fun _ => ⟨(look_cons (h__law_scaled.mono (by decide)) (look_nil)), (look_nil), B.bfs, B.b_range, B.b_zip, B.b_enumerate⟩) rfl chk__law_made (fun ds out h => ⟨bigFuel, h⟩)
theorem in__law_blended {f : Addr} {fd : FuncData} (B : Blt mg) (Gs : Gls K mg) (F : L2.Fun K "_law_blended" "_law_blended" stm__law_blended f fd) (m : mg "_law_blended" = some (.ref f)) (b : Binds K fd ["mode", "below", "above", "level"] []) (h__law_scaled : FnIn noCl P w K mg base 1 "_law_scaled" F__law_scaled) (h__law_mixed : FnIn noCl P w K mg base 1 "_law_mixed" F__law_mixed) (h__law_made : FnIn noCl P w K mg base 2 "_law_made" F__law_made) : FnIn noCl P w K mg base 3 "_law_blended" F__law_blended :=
  fnIn_body (c := c__law_blended) (k := 2) F m b sc__law_blended (fun _ => ⟨(look_cons (h__law_scaled.mono (by decide)) (look_cons (h__law_mixed.mono (by decide)) (look_cons (h__law_made.mono (by decide)) (look_nil)))), (look_nil), B.bfs, B.b_range, B.b_zip, B.b_enumerate⟩) rfl chk__law_blended (fun ds out h => ⟨bigFuel, h⟩)
theorem in_law {f : Addr} {fd : FuncData} (B : Blt mg) (Gs : Gls K mg) (F : L2.Fun K "law" "law" stm_law f fd) (m : mg "law" = some (.ref f)) (b : Binds K fd ["script"] []) (h__law_stream : FnIn noCl P w K mg base 1 "_law_stream" F__law_stream) (h__law_next : FnIn noCl P w K mg base 1 "_law_next" F__law_next) (h__law_level : FnIn noCl P w K mg base 2 "_law_level" F__law_level) (h__law_same : FnIn noCl P w K mg base 1 "_law_same" F__law_same) (h_blended : FnIn noCl P w K mg base 3 "blended" F_blended) (h__law_blended : FnIn noCl P w K mg base 3 "_law_blended" F__law_blended) (h_put_together : FnIn noCl P w K mg base 2 "put_together" F_put_together) (h__law_made : FnIn noCl P w K mg base 2 "_law_made" F__law_made) : FnIn noCl P w K mg base 4 "law" F_law :=
  fnIn_body (c := c_law) (k := 3) F m b sc_law (fun _ => ⟨(look_cons (h__law_stream.mono (by decide)) (look_cons (h__law_next.mono (by decide)) (look_cons (h__law_level.mono (by decide)) (look_cons (h__law_same.mono (by decide)) (look_cons (h_blended.mono (by decide)) (look_cons (h__law_blended.mono (by decide)) (look_cons (h_put_together.mono (by decide)) (look_cons (h__law_made.mono (by decide)) (look_nil))))))))), (look_nil), B.bfs, B.b_range, B.b_zip, B.b_enumerate⟩) rfl chk_law (fun ds out h => ⟨bigFuel, h⟩)
end
theorem all_mk {l : PySem.W.OpenLaw} {w : World} {K : PySem.W.Frag} {h : Heap} {mg : Str → Option Value} {fa f0 f1 f2 f3 f4 f5 f6 f7 f8 f9 f10 f11 f12 f13 : Addr} (X : K.In h) (G : h.Ns mainGlobals mg) (hfa : mg "law" = some (.ref fa))
    {od0 an0 : Option Addr} {sl0 : Array (Option Value)} {oc0 kV0 dc0 pm0 cd0 ct0 : Value}
    (a0 : PySem.W.nsIn K mainGlobals "_law_stream" = some (some (.ref f0))) (l0 : K.lookup f0 = some ⟨oc0, od0, .func (PySem.W.fnOf "_law_stream" "_law_stream" (defArgs stm__law_stream) (defBody stm__law_stream) (defScope stm__law_stream) .none kV0 dc0 pm0 an0 cd0 ct0), sl0⟩) (c0 : PySem.W.codeIn K cd0 "_law_stream" = true) (k0 : PySem.W.keepIn K (.ref f0) = true)
    {od1 an1 : Option Addr} {sl1 : Array (Option Value)} {oc1 kV1 dc1 pm1 cd1 ct1 : Value}
    (a1 : PySem.W.nsIn K mainGlobals "_law_next" = some (some (.ref f1))) (l1 : K.lookup f1 = some ⟨oc1, od1, .func (PySem.W.fnOf "_law_next" "_law_next" (defArgs stm__law_next) (defBody stm__law_next) (defScope stm__law_next) .none kV1 dc1 pm1 an1 cd1 ct1), sl1⟩) (c1 : PySem.W.codeIn K cd1 "_law_next" = true) (k1 : PySem.W.keepIn K (.ref f1) = true)
    {od2 an2 : Option Addr} {sl2 : Array (Option Value)} {oc2 kV2 dc2 pm2 cd2 ct2 : Value}
    (a2 : PySem.W.nsIn K mainGlobals "_law_level" = some (some (.ref f2))) (l2 : K.lookup f2 = some ⟨oc2, od2, .func (PySem.W.fnOf "_law_level" "_law_level" (defArgs stm__law_level) (defBody stm__law_level) (defScope stm__law_level) .none kV2 dc2 pm2 an2 cd2 ct2), sl2⟩) (c2 : PySem.W.codeIn K cd2 "_law_level" = true) (k2 : PySem.W.keepIn K (.ref f2) = true)
    {od3 an3 : Option Addr} {sl3 : Array (Option Value)} {oc3 kV3 dc3 pm3 cd3 ct3 : Value}
    (a3 : PySem.W.nsIn K mainGlobals "_law_same" = some (some (.ref f3))) (l3 : K.lookup f3 = some ⟨oc3, od3, .func (PySem.W.fnOf "_law_same" "_law_same" (defArgs stm__law_same) (defBody stm__law_same) (defScope stm__law_same) .none kV3 dc3 pm3 an3 cd3 ct3), sl3⟩) (c3 : PySem.W.codeIn K cd3 "_law_same" = true) (k3 : PySem.W.keepIn K (.ref f3) = true)
    {od4 an4 : Option Addr} {sl4 : Array (Option Value)} {oc4 kV4 dc4 pm4 cd4 ct4 : Value}
    (a4 : PySem.W.nsIn K mainGlobals "scaled" = some (some (.ref f4))) (l4 : K.lookup f4 = some ⟨oc4, od4, .func (PySem.W.fnOf "scaled" "scaled" (defArgs stm_scaled) (defBody stm_scaled) (defScope stm_scaled) .none kV4 dc4 pm4 an4 cd4 ct4), sl4⟩) (c4 : PySem.W.codeIn K cd4 "scaled" = true) (k4 : PySem.W.keepIn K (.ref f4) = true)
    {od5 an5 : Option Addr} {sl5 : Array (Option Value)} {oc5 kV5 dc5 pm5 cd5 ct5 : Value}
    (a5 : PySem.W.nsIn K mainGlobals "mixed" = some (some (.ref f5))) (l5 : K.lookup f5 = some ⟨oc5, od5, .func (PySem.W.fnOf "mixed" "mixed" (defArgs stm_mixed) (defBody stm_mixed) (defScope stm_mixed) .none kV5 dc5 pm5 an5 cd5 ct5), sl5⟩) (c5 : PySem.W.codeIn K cd5 "mixed" = true) (k5 : PySem.W.keepIn K (.ref f5) = true)
    {od6 an6 : Option Addr} {sl6 : Array (Option Value)} {oc6 kV6 dc6 pm6 cd6 ct6 : Value}
    (a6 : PySem.W.nsIn K mainGlobals "put_together" = some (some (.ref f6))) (l6 : K.lookup f6 = some ⟨oc6, od6, .func (PySem.W.fnOf "put_together" "put_together" (defArgs stm_put_together) (defBody stm_put_together) (defScope stm_put_together) .none kV6 dc6 pm6 an6 cd6 ct6), sl6⟩) (c6 : PySem.W.codeIn K cd6 "put_together" = true) (k6 : PySem.W.keepIn K (.ref f6) = true)
    {od7 an7 : Option Addr} {sl7 : Array (Option Value)} {oc7 kV7 dc7 pm7 cd7 ct7 : Value}
    (a7 : PySem.W.nsIn K mainGlobals "normal" = some (some (.ref f7))) (l7 : K.lookup f7 = some ⟨oc7, od7, .func (PySem.W.fnOf "normal" "normal" (defArgs stm_normal) (defBody stm_normal) (defScope stm_normal) .none kV7 dc7 pm7 an7 cd7 ct7), sl7⟩) (c7 : PySem.W.codeIn K cd7 "normal" = true) (k7 : PySem.W.keepIn K (.ref f7) = true)
    {od8 an8 : Option Addr} {sl8 : Array (Option Value)} {oc8 kV8 dc8 pm8 cd8 ct8 : Value}
    (a8 : PySem.W.nsIn K mainGlobals "blended" = some (some (.ref f8))) (l8 : K.lookup f8 = some ⟨oc8, od8, .func (PySem.W.fnOf "blended" "blended" (defArgs stm_blended) (defBody stm_blended) (defScope stm_blended) .none kV8 dc8 pm8 an8 cd8 ct8), sl8⟩) (c8 : PySem.W.codeIn K cd8 "blended" = true) (k8 : PySem.W.keepIn K (.ref f8) = true)
    {od9 an9 : Option Addr} {sl9 : Array (Option Value)} {oc9 kV9 dc9 pm9 cd9 ct9 : Value}
    (a9 : PySem.W.nsIn K mainGlobals "_law_scaled" = some (some (.ref f9))) (l9 : K.lookup f9 = some ⟨oc9, od9, .func (PySem.W.fnOf "_law_scaled" "_law_scaled" (defArgs stm__law_scaled) (defBody stm__law_scaled) (defScope stm__law_scaled) .none kV9 dc9 pm9 an9 cd9 ct9), sl9⟩) (c9 : PySem.W.codeIn K cd9 "_law_scaled" = true) (k9 : PySem.W.keepIn K (.ref f9) = true)
    {od10 an10 : Option Addr} {sl10 : Array (Option Value)} {oc10 kV10 dc10 pm10 cd10 ct10 : Value}
    (a10 : PySem.W.nsIn K mainGlobals "_law_mixed" = some (some (.ref f10))) (l10 : K.lookup f10 = some ⟨oc10, od10, .func (PySem.W.fnOf "_law_mixed" "_law_mixed" (defArgs stm__law_mixed) (defBody stm__law_mixed) (defScope stm__law_mixed) .none kV10 dc10 pm10 an10 cd10 ct10), sl10⟩) (c10 : PySem.W.codeIn K cd10 "_law_mixed" = true) (k10 : PySem.W.keepIn K (.ref f10) = true)
    {od11 an11 : Option Addr} {sl11 : Array (Option Value)} {oc11 kV11 dc11 pm11 cd11 ct11 : Value}
    (a11 : PySem.W.nsIn K mainGlobals "_law_made" = some (some (.ref f11))) (l11 : K.lookup f11 = some ⟨oc11, od11, .func (PySem.W.fnOf "_law_made" "_law_made" (defArgs stm__law_made) (defBody stm__law_made) (defScope stm__law_made) .none kV11 dc11 pm11 an11 cd11 ct11), sl11⟩) (c11 : PySem.W.codeIn K cd11 "_law_made" = true) (k11 : PySem.W.keepIn K (.ref f11) = true)
    {od12 an12 : Option Addr} {sl12 : Array (Option Value)} {oc12 kV12 dc12 pm12 cd12 ct12 : Value}
    (a12 : PySem.W.nsIn K mainGlobals "_law_blended" = some (some (.ref f12))) (l12 : K.lookup f12 = some ⟨oc12, od12, .func (PySem.W.fnOf "_law_blended" "_law_blended" (defArgs stm__law_blended) (defBody stm__law_blended) (defScope stm__law_blended) .none kV12 dc12 pm12 an12 cd12 ct12), sl12⟩) (c12 : PySem.W.codeIn K cd12 "_law_blended" = true) (k12 : PySem.W.keepIn K (.ref f12) = true)
    {od13 an13 : Option Addr} {sl13 : Array (Option Value)} {oc13 kV13 dc13 pm13 cd13 ct13 : Value}
    (a13 : PySem.W.nsIn K mainGlobals "law" = some (some (.ref f13))) (l13 : K.lookup f13 = some ⟨oc13, od13, .func (PySem.W.fnOf "law" "law" (defArgs stm_law) (defBody stm_law) (defScope stm_law) .none kV13 dc13 pm13 an13 cd13 ct13), sl13⟩) (c13 : PySem.W.codeIn K cd13 "law" = true) (k13 : PySem.W.keepIn K (.ref f13) = true)
    {u0 : Value} (x0 : PySem.W.nsIn K mainGlobals "MAX_LEVEL" = some (some u0)) (r0 : ∃ v, RelV v u0 ∧ D.sv g_MAX_LEVEL = some v)
    {p1 : Addr} {oj1 : Obj} {it1 : Array Value} {nj1 : Nat} (x1 : PySem.W.nsIn K mainGlobals "CLEAR" = some (some (.ref p1))) (y1 : K.lookup p1 = some oj1) (v1 : oj1.cls = .type "tuple" ∧ oj1.data = .seq it1 nj1 ∧ it1.size ≤ sizeLine) (r1 : ∃ vs, Vals vs it1.toList ∧ FzL K noH noH vs (g_CLEAR.kids))
    (z_abs : PySem.W.nsIn K mainGlobals "abs" = some none)
    (z_all : PySem.W.nsIn K mainGlobals "all" = some none)
    (z_any : PySem.W.nsIn K mainGlobals "any" = some none)
    (z_bool : PySem.W.nsIn K mainGlobals "bool" = some none)
    (z_int : PySem.W.nsIn K mainGlobals "int" = some none)
    (z_len : PySem.W.nsIn K mainGlobals "len" = some none)
    (z_list : PySem.W.nsIn K mainGlobals "list" = some none)
    (z_max : PySem.W.nsIn K mainGlobals "max" = some none)
    (z_min : PySem.W.nsIn K mainGlobals "min" = some none)
    (z_repr : PySem.W.nsIn K mainGlobals "repr" = some none)
    (z_sorted : PySem.W.nsIn K mainGlobals "sorted" = some none)
    (z_str : PySem.W.nsIn K mainGlobals "str" = some none)
    (z_sum : PySem.W.nsIn K mainGlobals "sum" = some none)
    (z_tuple : PySem.W.nsIn K mainGlobals "tuple" = some none)
    (z_range : PySem.W.nsIn K mainGlobals "range" = some none)
    (z_zip : PySem.W.nsIn K mainGlobals "zip" = some none)
    (z_enumerate : PySem.W.nsIn K mainGlobals "enumerate" = some none)
    : ∃ (fd : FuncData) (cl : String → Option Addr), (∀ (s : Shared) (v : Value), BindsTo s fd ⟨[v], []⟩ [("script", v)]) ∧ ∀ base : Heap, K.In base → base.Ns mainGlobals mg → FnG l.prog w K mg base 4 fa fd ["script"] (spOf K cl 1 F_law.sem) := by
  have e := hfa.symm.trans (PySem.W.mg_of X G a13)
  cases e
  have B : Blt mg := ⟨PySem.W.mg_none_of X G z_abs, PySem.W.mg_none_of X G z_all, PySem.W.mg_none_of X G z_any, PySem.W.mg_none_of X G z_bool, PySem.W.mg_none_of X G z_int, PySem.W.mg_none_of X G z_len, PySem.W.mg_none_of X G z_list, PySem.W.mg_none_of X G z_max, PySem.W.mg_none_of X G z_min, PySem.W.mg_none_of X G z_repr, PySem.W.mg_none_of X G z_sorted, PySem.W.mg_none_of X G z_str, PySem.W.mg_none_of X G z_sum, PySem.W.mg_none_of X G z_tuple, PySem.W.mg_none_of X G z_range, PySem.W.mg_none_of X G z_zip, PySem.W.mg_none_of X G z_enumerate⟩
  have Gs : Gls K mg := ⟨(by obtain ⟨v, q1, q2⟩ := r0; exact ⟨v, _, PySem.W.mg_of X G x0, q1, Rp.sv q2, rfl⟩), (by obtain ⟨vs, q1, q2⟩ := r1; exact ⟨.ref p1, _, PySem.W.mg_of X G x1, rfl, .tup (.inr ⟨oj1, it1, nj1, y1, v1.1, v1.2.1, v1.2.2, q1⟩) q2, rfl⟩)⟩
  have T0 := fun_mk (st := stm__law_stream) l0 c0 k0
  have b0 := T0.binds (ps := ["script"]) fun _ _ _ _ _ _ us hl => match us, hl with | [_], _ => rfl
  have T1 := fun_mk (st := stm__law_next) l1 c1 k1
  have b1 := T1.binds (ps := ["state", "many"]) fun _ _ _ _ _ _ us hl => match us, hl with | [_, _], _ => rfl
  have T2 := fun_mk (st := stm__law_level) l2 c2 k2
  have b2 := T2.binds (ps := ["state"]) fun _ _ _ _ _ _ us hl => match us, hl with | [_], _ => rfl
  have T3 := fun_mk (st := stm__law_same) l3 c3 k3
  have b3 := T3.binds (ps := ["told", "due"]) fun _ _ _ _ _ _ us hl => match us, hl with | [_, _], _ => rfl
  have T4 := fun_mk (st := stm_scaled) l4 c4 k4
  have b4 := T4.binds (ps := ["first", "second"]) fun _ _ _ _ _ _ us hl => match us, hl with | [_, _], _ => rfl
  have T5 := fun_mk (st := stm_mixed) l5 c5 k5
  have b5 := T5.binds (ps := ["first", "second", "level"]) fun _ _ _ _ _ _ us hl => match us, hl with | [_, _, _], _ => rfl
  have T6 := fun_mk (st := stm_put_together) l6 c6 k6
  have b6 := T6.binds (ps := ["mode", "below", "above"]) fun _ _ _ _ _ _ us hl => match us, hl with | [_, _, _], _ => rfl
  have T7 := fun_mk (st := stm_normal) l7 c7 k7
  have b7 := T7.binds (ps := ["colours", "cover"]) fun _ _ _ _ _ _ us hl => match us, hl with | [_, _], _ => rfl
  have T8 := fun_mk (st := stm_blended) l8 c8 k8
  have b8 := T8.binds (ps := ["mode", "below", "above", "level"]) fun _ _ _ _ _ _ us hl => match us, hl with | [_, _, _, _], _ => rfl
  have T9 := fun_mk (st := stm__law_scaled) l9 c9 k9
  have b9 := T9.binds (ps := ["first", "second"]) fun _ _ _ _ _ _ us hl => match us, hl with | [_, _], _ => rfl
  have T10 := fun_mk (st := stm__law_mixed) l10 c10 k10
  have b10 := T10.binds (ps := ["first", "second", "level"]) fun _ _ _ _ _ _ us hl => match us, hl with | [_, _, _], _ => rfl
  have T11 := fun_mk (st := stm__law_made) l11 c11 k11
  have b11 := T11.binds (ps := ["mode", "below", "above"]) fun _ _ _ _ _ _ us hl => match us, hl with | [_, _, _], _ => rfl
  have T12 := fun_mk (st := stm__law_blended) l12 c12 k12
  have b12 := T12.binds (ps := ["mode", "below", "above", "level"]) fun _ _ _ _ _ _ us hl => match us, hl with | [_, _, _, _], _ => rfl
  have T13 := fun_mk (st := stm_law) l13 c13 k13
  have b13 := T13.binds (ps := ["script"]) fun _ _ _ _ _ _ us hl => match us, hl with | [_], _ => rfl
  refine ⟨PySem.W.fnOf "law" "law" (defArgs stm_law) (defBody stm_law) (defScope stm_law) .none kV13 dc13 pm13 an13 cd13 ct13, noCl, fun s v => .of_eq rfl, fun base hK hN => ?_⟩
  have h0 : FnIn noCl l.prog w K mg base 1 "_law_stream" F__law_stream := in__law_stream B Gs T0 (PySem.W.mg_of X G a0) b0 
  have h1 : FnIn noCl l.prog w K mg base 1 "_law_next" F__law_next := in__law_next B Gs T1 (PySem.W.mg_of X G a1) b1 
  have h2 : FnIn noCl l.prog w K mg base 2 "_law_level" F__law_level := in__law_level B Gs T2 (PySem.W.mg_of X G a2) b2 h1
  have h3 : FnIn noCl l.prog w K mg base 1 "_law_same" F__law_same := in__law_same B Gs T3 (PySem.W.mg_of X G a3) b3 
  have h4 : FnIn noCl l.prog w K mg base 1 "scaled" F_scaled := in_scaled B Gs T4 (PySem.W.mg_of X G a4) b4 
  have h5 : FnIn noCl l.prog w K mg base 1 "mixed" F_mixed := in_mixed B Gs T5 (PySem.W.mg_of X G a5) b5 
  have h6 : FnIn noCl l.prog w K mg base 2 "put_together" F_put_together := in_put_together B Gs T6 (PySem.W.mg_of X G a6) b6 h4
  have h7 : FnIn noCl l.prog w K mg base 1 "normal" F_normal := in_normal B Gs T7 (PySem.W.mg_of X G a7) b7 
  have h8 : FnIn noCl l.prog w K mg base 3 "blended" F_blended := in_blended B Gs T8 (PySem.W.mg_of X G a8) b8 h4 h5 h6 h7
  have h9 : FnIn noCl l.prog w K mg base 1 "_law_scaled" F__law_scaled := in__law_scaled B Gs T9 (PySem.W.mg_of X G a9) b9 
  have h10 : FnIn noCl l.prog w K mg base 1 "_law_mixed" F__law_mixed := in__law_mixed B Gs T10 (PySem.W.mg_of X G a10) b10 
  have h11 : FnIn noCl l.prog w K mg base 2 "_law_made" F__law_made := in__law_made B Gs T11 (PySem.W.mg_of X G a11) b11 h9
  have h12 : FnIn noCl l.prog w K mg base 3 "_law_blended" F__law_blended := in__law_blended B Gs T12 (PySem.W.mg_of X G a12) b12 h9 h10 h11
  have h13 : FnIn noCl l.prog w K mg base 4 "law" F_law := in_law B Gs T13 (PySem.W.mg_of X G a13) b13 h0 h1 h2 h3 h8 h12 h6 h11
  exact fnIn_fn (x := "law") T13 sc_law (c := c_law) (mini := m_law) (F := F_law) (fun _ => ⟨(look_cons (h0.mono (by decide)) (look_cons (h1.mono (by decide)) (look_cons (h2.mono (by decide)) (look_cons (h3.mono (by decide)) (look_cons (h8.mono (by decide)) (look_cons (h12.mono (by decide)) (look_cons (h6.mono (by decide)) (look_cons (h11.mono (by decide)) (look_nil))))))))), (look_nil), B.bfs, B.b_range, B.b_zip, B.b_enumerate⟩) rfl chk_law (fun ds out h => ⟨bigFuel, h⟩)
end Law
open PySem PySem.W PyProof.Rows
set_option maxHeartbeats 0 in
theorem PySem.Challenge.cw_paintershouse_k01_all_blends_holds : PySem.Challenge.rw_paintershouse_k01_all_blends.Holds := by
  w_on; o_law; k_head; (case hw => w_witness2)
  k_fill
  refine DPy.walkG (l := PySem.Challenge.rw_paintershouse_k01_all_blends) (n := 63) (k := 4) (x := "script") (sem := Law.F_law.sem) rfl (by decide) rfl ⟨rfl, by decide, by decide⟩ (fun w h Y => PySem.W.kIn_of Y) ?F Law.law_holds
  case F =>
    intro w mg fa h KX G hmg
    refine' Law.all_mk KX G hmg ?a0 ?l0 ?c0 ?k0 ?a1 ?l1 ?c1 ?k1 ?a2 ?l2 ?c2 ?k2 ?a3 ?l3 ?c3 ?k3 ?a4 ?l4 ?c4 ?k4 ?a5 ?l5 ?c5 ?k5 ?a6 ?l6 ?c6 ?k6 ?a7 ?l7 ?c7 ?k7 ?a8 ?l8 ?c8 ?k8 ?a9 ?l9 ?c9 ?k9 ?a10 ?l10 ?c10 ?k10 ?a11 ?l11 ?c11 ?k11 ?a12 ?l12 ?c12 ?k12 ?a13 ?l13 ?c13 ?k13 ?x0 ?r0 ?x1 ?y1 ?v1 ?r1 ?z_abs ?z_all ?z_any ?z_bool ?z_int ?z_len ?z_list ?z_max ?z_min ?z_repr ?z_sorted ?z_str ?z_sum ?z_tuple ?z_range ?z_zip ?z_enumerate
    (case a0 => k_is); (case l0 => k_is); (case c0 => k_is); (case k0 => k_is)
    (case a1 => k_is); (case l1 => k_is); (case c1 => k_is); (case k1 => k_is)
    (case a2 => k_is); (case l2 => k_is); (case c2 => k_is); (case k2 => k_is)
    (case a3 => k_is); (case l3 => k_is); (case c3 => k_is); (case k3 => k_is)
    (case a4 => k_is); (case l4 => k_is); (case c4 => k_is); (case k4 => k_is)
    (case a5 => k_is); (case l5 => k_is); (case c5 => k_is); (case k5 => k_is)
    (case a6 => k_is); (case l6 => k_is); (case c6 => k_is); (case k6 => k_is)
    (case a7 => k_is); (case l7 => k_is); (case c7 => k_is); (case k7 => k_is)
    (case a8 => k_is); (case l8 => k_is); (case c8 => k_is); (case k8 => k_is)
    (case a9 => k_is); (case l9 => k_is); (case c9 => k_is); (case k9 => k_is)
    (case a10 => k_is); (case l10 => k_is); (case c10 => k_is); (case k10 => k_is)
    (case a11 => k_is); (case l11 => k_is); (case c11 => k_is); (case k11 => k_is)
    (case a12 => k_is); (case l12 => k_is); (case c12 => k_is); (case k12 => k_is)
    (case a13 => k_is); (case l13 => k_is); (case c13 => k_is); (case k13 => k_is)
    (case x0 => k_is); (case r0 => exact ⟨(L2.V.int 15), ⟨_, rfl⟩, rfl⟩)
    (case x1 => k_is); (case y1 => k_is); (case v1 => exact ⟨rfl, rfl, by decide⟩); (case r1 => exact ⟨[(L2.V.int 0), (L2.V.int 0), (L2.V.int 0), (L2.V.int 0)], .cons ⟨_, rfl⟩ (.cons ⟨_, rfl⟩ (.cons ⟨_, rfl⟩ (.cons ⟨_, rfl⟩ (.nil)))), .cons (DPy.Rp.sv (d := .int 0) rfl) rfl (.cons (DPy.Rp.sv (d := .int 0) rfl) rfl (.cons (DPy.Rp.sv (d := .int 0) rfl) rfl (.cons (DPy.Rp.sv (d := .int 0) rfl) rfl (.nil))))⟩)
    (case z_abs => k_is); (case z_all => k_is); (case z_any => k_is); (case z_bool => k_is); (case z_int => k_is); (case z_len => k_is); (case z_list => k_is); (case z_max => k_is); (case z_min => k_is); (case z_repr => k_is); (case z_sorted => k_is); (case z_str => k_is); (case z_sum => k_is); (case z_tuple => k_is); (case z_range => k_is); (case z_zip => k_is); (case z_enumerate => k_is)
