import PyProof.Rows.All
import Wide.All
import OpenK.AllK
import Wide.FinOn
import HandS.ForMost
import HandS.ForExc
import HandS.Defaults
import HandS.Flow
import HandS.Style
import HandS.Zip
import HandS.Rev
import HandS.IsInst
import HandS.TupAny
import HandS.TupMul
import HandS.Wide
import HandS.ExcInit
import HandS.ExcField
import HandS.Conv
import HandS.Small
import HandS.Codes
import KE.SortData
import PyProof.ReprReads
import HandS.Deep
import HandS.RaiseMore
import KE.KExcInit
import KE.KUnpackStar
import HandS.ExcOwn
import KE.KExcIs
import HandS.Head0
import HandS.Head1
import HandS.Head2
import HandS.HeadEnd
import HandS.HeadHook1
import HandS.HeadHook2
import HandS.MakeKw
import KE.KStateDown
import Lean
import PySem.Challenge.RW_spoolrounds_k89_rounds_as_texts
import KE.KxText
import PyProof.ReprBulk
import KE.Datum
import HandS.Text
set_option Elab.async false
set_option linter.all false
set_option maxRecDepth 100000
/-! The D layer, 1: values without addresses for what never changes, a small heap for what changes; how both stand for the hand layer's. -/
namespace DL
open PySem PySem.Spec PyProof.Rows L2

inductive D where
  | non | bl (b : Bool) | int (i : Int) | str (x : Str) | tup (ds : List D) | ref (a : Addr) | scr (ds : List D)

/-- what stands at an address -/
inductive MO where
  | lst (xs : List D)
  | dct (kvs : List (Key × D))
  | ins (c : Nat) (fs : List (Str × D))

abbrev MH := Addr → Option MO
abbrev DS := List (Option D)

def up (h : MH) (a : Addr) (o : MO) : MH := fun b => if b = a then some o else h b
theorem up_same {h : MH} {a : Addr} {o : MO} : up h a o a = some o := if_pos rfl
theorem up_ne {h : MH} {a b : Addr} {o : MO} (n : b ≠ a) : up h a o b = h b := if_neg n
theorem up_up {h : MH} {a : Addr} {o u : MO} : up (up h a o) a u = up h a u := by
  funext b; unfold up; split <;> rfl

/-- the ground: the written part, the classes' places -/
structure Gr where
  K : PySem.W.Frag
  cl : Nat → Addr
  nc : Nat

/-- a list that nobody changes (the script) -/
def FzL (K : PySem.W.Frag) (H : Hp) (a : Addr) (xs : List V) : Prop :=
  (∃ ob, H a = some (.frz ob (.lst xs))) ∨
    ∃ (o : Obj) (its : Array Value) (n : Nat), K.lookup a = some o ∧ o.cls = .type "list" ∧ o.dict = none ∧ o.data = .seq its n ∧ its.size ≤ sizeLine ∧ Vals xs its.toList
theorem FzL.sq {K : PySem.W.Frag} {H : Hp} {a : Addr} {xs : List V} (q : FzL K H a xs) : SqL K H a xs := by
  rcases q with ⟨ob, q⟩ | q
  · exact .inl (.inr ⟨ob, q⟩)
  · exact .inr q
/-- what never changes is kept -/
structure Pst (K : PySem.W.Frag) (H H' : Hp) : Prop where
  t : ∀ a xs, SqT K H a xs → SqT K H' a xs
  l : ∀ a xs, FzL K H a xs → FzL K H' a xs

section
variable (K : PySem.W.Frag) (H : Hp)
mutual
def RepV : D → V → Prop
  | .non, v => v = .non
  | .bl b, v => v = .bl b
  | .int i, v => v = .int i
  | .str x, v => v = .str x
  | .ref a, v => v = .ref a
  | .tup ds, v => ∃ a vs, v = .ref a ∧ SqT K H a vs ∧ RepVs ds vs
  | .scr ds, v => ∃ a vs, v = .ref a ∧ FzL K H a vs ∧ RepVs ds vs
def RepVs : List D → List V → Prop
  | [], vs => vs = []
  | d :: ds, vs => ∃ v r, vs = v :: r ∧ RepV d v ∧ RepVs ds r
end
end

section
variable {K : PySem.W.Frag} {H H' : Hp}
theorem RepVs.length : ∀ {ds : List D} {vs : List V}, RepVs K H ds vs → vs.length = ds.length
  | [], vs, h => by
    have e : vs = [] := by simpa only [RepVs] using h
    rw [e]; rfl
  | d :: ds, vs, h => by
    obtain ⟨v, r, rfl, _, h2⟩ : ∃ v r, vs = v :: r ∧ RepV K H d v ∧ RepVs K H ds r := by simpa only [RepVs] using h
    rw [List.length_cons, List.length_cons, RepVs.length h2]
theorem repVs_nil : RepVs K H [] [] := by simp only [RepVs]
theorem repVs_cons {d : D} {ds : List D} {v : V} {vs : List V} (h1 : RepV K H d v) (h2 : RepVs K H ds vs) : RepVs K H (d :: ds) (v :: vs) := by
  simp only [RepVs]; exact ⟨v, vs, rfl, h1, h2⟩
theorem RepVs.cons_inv {d : D} {ds : List D} {vs : List V} (h : RepVs K H (d :: ds) vs) : ∃ v r, vs = v :: r ∧ RepV K H d v ∧ RepVs K H ds r := by simpa only [RepVs] using h
theorem RepVs.nil_inv {vs : List V} (h : RepVs K H [] vs) : vs = [] := by simpa only [RepVs] using h
theorem RepVs.get : ∀ {ds : List D} {vs : List V} {i : Nat} {d : D}, RepVs K H ds vs → ds[i]? = some d → ∃ v, vs[i]? = some v ∧ RepV K H d v
  | [], _, _, _, _, e => by simp at e
  | d :: ds, vs, 0, x, h, e => by
    obtain ⟨v, r, rfl, h1, _⟩ := h.cons_inv
    simp at e; subst e
    exact ⟨v, rfl, h1⟩
  | d :: ds, vs, i + 1, x, h, e => by
    obtain ⟨v, r, rfl, _, h2⟩ := h.cons_inv
    obtain ⟨u, a, b⟩ := RepVs.get (i := i) (d := x) h2 (by simpa using e)
    exact ⟨u, by simpa using a, b⟩
theorem RepVs.get' : ∀ {ds : List D} {vs : List V} {i : Nat} {v : V}, RepVs K H ds vs → vs[i]? = some v → ∃ d, ds[i]? = some d ∧ RepV K H d v
  | [], vs, i, v, h, e => by rw [h.nil_inv] at e; simp at e
  | d :: ds, vs, 0, x, h, e => by
    obtain ⟨v, r, rfl, h1, _⟩ := h.cons_inv
    simp at e; subst e
    exact ⟨d, rfl, h1⟩
  | d :: ds, vs, i + 1, x, h, e => by
    obtain ⟨v, r, rfl, _, h2⟩ := h.cons_inv
    obtain ⟨u, a, b⟩ := RepVs.get' (i := i) (v := x) h2 (by simpa using e)
    exact ⟨u, by simpa using a, b⟩
theorem RepVs.append : ∀ {ds es : List D} {vs us : List V}, RepVs K H ds vs → RepVs K H es us → RepVs K H (ds ++ es) (vs ++ us)
  | [], _, vs, _, h, g => by rw [h.nil_inv]; exact g
  | d :: ds, es, vs, us, h, g => by
    obtain ⟨v, r, rfl, h1, h2⟩ := h.cons_inv
    exact repVs_cons h1 (RepVs.append h2 g)
theorem RepVs.drop : ∀ {ds : List D} {vs : List V} (n : Nat), RepVs K H ds vs → RepVs K H (ds.drop n) (vs.drop n)
  | _, _, 0, h => h
  | [], vs, n + 1, h => by rw [h.nil_inv]; exact repVs_nil
  | d :: ds, vs, n + 1, h => by
    obtain ⟨v, r, rfl, h1, h2⟩ := h.cons_inv
    exact RepVs.drop n h2
theorem RepVs.take : ∀ {ds : List D} {vs : List V} (n : Nat), RepVs K H ds vs → RepVs K H (ds.take n) (vs.take n)
  | _, _, 0, h => repVs_nil
  | [], vs, n + 1, h => by rw [h.nil_inv]; exact repVs_nil
  | d :: ds, vs, n + 1, h => by
    obtain ⟨v, r, rfl, h1, h2⟩ := h.cons_inv
    exact repVs_cons h1 (RepVs.take n h2)
theorem RepVs.set {d : D} {v : V} (q : RepV K H d v) : ∀ {ds : List D} {vs : List V} (n : Nat), RepVs K H ds vs → RepVs K H (ds.set n d) (vs.set n v)
  | [], vs, n, h => by rw [h.nil_inv]; exact repVs_nil
  | e :: ds, vs, 0, h => by
    obtain ⟨v, r, rfl, h1, h2⟩ := h.cons_inv
    exact repVs_cons q h2
  | e :: ds, vs, n + 1, h => by
    obtain ⟨v, r, rfl, h1, h2⟩ := h.cons_inv
    exact repVs_cons h1 (RepVs.set q n h2)
theorem RepVs.reverse {ds : List D} {vs : List V} (h : RepVs K H ds vs) : RepVs K H ds.reverse vs.reverse := by
  induction ds generalizing vs with
  | nil => rw [h.nil_inv]; exact repVs_nil
  | cons d ds ih =>
    obtain ⟨v, r, rfl, h1, h2⟩ := h.cons_inv
    rw [List.reverse_cons, List.reverse_cons]
    exact (ih h2).append (repVs_cons h1 repVs_nil)
theorem RepVs.eraseIdx : ∀ {ds : List D} {vs : List V} (n : Nat), RepVs K H ds vs → RepVs K H (ds.eraseIdx n) (vs.eraseIdx n)
  | [], vs, n, h => by rw [h.nil_inv]; exact repVs_nil
  | e :: ds, vs, 0, h => by
    obtain ⟨v, r, rfl, h1, h2⟩ := h.cons_inv
    exact h2
  | e :: ds, vs, n + 1, h => by
    obtain ⟨v, r, rfl, h1, h2⟩ := h.cons_inv
    exact repVs_cons h1 (RepVs.eraseIdx n h2)
theorem RepVs.dropLast {ds : List D} {vs : List V} (h : RepVs K H ds vs) : RepVs K H ds.dropLast vs.dropLast := by
  rw [List.dropLast_eq_take, List.dropLast_eq_take, h.length]
  exact h.take _
theorem RepVs.flat {ds : List D} {vs : List V} (h : RepVs K H ds vs) : ∀ k : Nat, RepVs K H (List.replicate k ds).flatten (List.replicate k vs).flatten
  | 0 => repVs_nil
  | k + 1 => by
    rw [List.replicate_succ, List.replicate_succ, List.flatten_cons, List.flatten_cons]
    exact h.append (h.flat k)
mutual
theorem RepV.mono (t : Pst K H H') : ∀ {d : D} {v : V}, RepV K H d v → RepV K H' d v
  | .non, _, h => by simpa only [RepV] using h
  | .bl _, _, h => by simpa only [RepV] using h
  | .int _, _, h => by simpa only [RepV] using h
  | .str _, _, h => by simpa only [RepV] using h
  | .ref _, _, h => by simpa only [RepV] using h
  | .tup ds, v, h => by
    obtain ⟨a, vs, rfl, h1, h2⟩ : ∃ a vs, v = .ref a ∧ SqT K H a vs ∧ RepVs K H ds vs := by simpa only [RepV] using h
    simp only [RepV]
    exact ⟨a, vs, rfl, t.t _ _ h1, RepVs.mono t h2⟩
  | .scr ds, v, h => by
    obtain ⟨a, vs, rfl, h1, h2⟩ : ∃ a vs, v = .ref a ∧ FzL K H a vs ∧ RepVs K H ds vs := by simpa only [RepV] using h
    simp only [RepV]
    exact ⟨a, vs, rfl, t.l _ _ h1, RepVs.mono t h2⟩
theorem RepVs.mono (t : Pst K H H') : ∀ {ds : List D} {vs : List V}, RepVs K H ds vs → RepVs K H' ds vs
  | [], vs, h => by rw [h.nil_inv]; exact repVs_nil
  | d :: ds, vs, h => by
    obtain ⟨v, r, rfl, h1, h2⟩ := h.cons_inv
    exact repVs_cons (RepV.mono t h1) (RepVs.mono t h2)
end
theorem repV_tup {ds : List D} {v : V} : RepV K H (.tup ds) v ↔ ∃ a vs, v = .ref a ∧ SqT K H a vs ∧ RepVs K H ds vs := by simp only [RepV]
theorem repV_scr {ds : List D} {v : V} : RepV K H (.scr ds) v ↔ ∃ a vs, v = .ref a ∧ FzL K H a vs ∧ RepVs K H ds vs := by simp only [RepV]
theorem repV_int {i : Int} : RepV K H (.int i) (.int i) := by simp only [RepV]
theorem repV_bl {i : Bool} : RepV K H (.bl i) (.bl i) := by simp only [RepV]
theorem repV_str {i : Str} : RepV K H (.str i) (.str i) := by simp only [RepV]
theorem repV_non : RepV K H .non .non := by simp only [RepV]
theorem repV_ref {a : Addr} : RepV K H (.ref a) (.ref a) := by simp only [RepV]
theorem RepV.int_inv {i : Int} {v : V} (h : RepV K H (.int i) v) : v = .int i := by simpa only [RepV] using h
theorem RepV.bl_inv {i : Bool} {v : V} (h : RepV K H (.bl i) v) : v = .bl i := by simpa only [RepV] using h
theorem RepV.str_inv {i : Str} {v : V} (h : RepV K H (.str i) v) : v = .str i := by simpa only [RepV] using h
theorem RepV.non_inv {v : V} (h : RepV K H .non v) : v = .non := by simpa only [RepV] using h
theorem RepV.ref_inv {a : Addr} {v : V} (h : RepV K H (.ref a) v) : v = .ref a := by simpa only [RepV] using h
end

/-- pairs -/
def RepF (K : PySem.W.Frag) (H : Hp) {κ : Type} : List (κ × D) → List (κ × V) → Prop
  | [], l => l = []
  | (k, d) :: r, l => ∃ v s, l = (k, v) :: s ∧ RepV K H d v ∧ RepF K H r s
/-- an object of the small heap and the hand layer's -/
def RepO (G : Gr) (h : MH) (H : Hp) (a : Addr) : MO → Prop
  | .lst ds => ∃ vs, H a = some (.lst vs) ∧ RepVs G.K H ds vs
  | .dct kvs => ∃ ks, H a = some (.dK ks) ∧ RepF G.K H kvs ks
  | .ins c fs => ∃ dx gs, H a = some (.ins (G.cl c) dx gs) ∧ RepF G.K H fs gs ∧ H dx = some (.own a) ∧ h dx = none
def RepH (G : Gr) (h : MH) (H : Hp) : Prop := ∀ a o, h a = some o → RepO G h H a o
/-- what stands outside of the small heap stays -/
def Fm (h : MH) (H : Hp) (h' : MH) (H' : Hp) : Prop := ∀ a o, h a = none → H a = some o → h' a = none ∧ H' a = some o
def RepS (K : PySem.W.Frag) (H : Hp) (σd : DS) (σ : L2.St) : Prop := σd.length = σ.length ∧ ∀ (i : Nat) (d : D), σd[i]? = some (some d) → ∃ v, σ[i]? = some (some v) ∧ RepV K H d v

section
variable {G : Gr} {h h1 h2 h' : MH} {H H1 H2 H' : Hp}
theorem RepF.mono {κ : Type} (t : Pst G.K H H') : ∀ {l : List (κ × D)} {m : List (κ × V)}, RepF G.K H l m → RepF G.K H' l m
  | [], _, q => q
  | (k, d) :: r, m, q => by
    obtain ⟨v, s, e, q1, q2⟩ := q
    exact ⟨v, s, e, q1.mono t, RepF.mono t q2⟩
theorem RepF.length {κ : Type} : ∀ {l : List (κ × D)} {m : List (κ × V)}, RepF G.K H l m → m.length = l.length
  | [], _, q => by rw [show _ = [] from q]; rfl
  | (k, d) :: r, m, q => by
    obtain ⟨v, s, rfl, q1, q2⟩ := q
    simp only [List.length_cons, RepF.length q2]
/-- what stands in the small heap can be written -/
theorem RepH.kinds (R : RepH G h H) {a : Addr} {o : MO} (e : h a = some o) : (∃ vs, H a = some (.lst vs)) ∨ (∃ ks, H a = some (.dK ks)) ∨ ∃ C dx gs, H a = some (.ins C dx gs) := by
  have r := R a o e
  cases o with
  | lst ds => obtain ⟨vs, z, _⟩ := r; exact .inl ⟨vs, z⟩
  | dct ds => obtain ⟨vs, z, _⟩ := r; exact .inr (.inl ⟨vs, z⟩)
  | ins c fs => obtain ⟨dx, gs, z, _⟩ := r; exact .inr (.inr ⟨_, dx, gs, z⟩)
theorem RepH.free (R : RepH G h H) {a : Addr} (n : H a = none) : h a = none := by
  cases e : h a with
  | none => rfl
  | some o => rcases R.kinds e with ⟨_, z⟩ | ⟨_, z⟩ | ⟨_, _, _, z⟩ <;> · rw [n] at z; cases z
theorem RepH.notup (R : RepH G h H) {a : Addr} {xs : List V} (q : Rd H a (.tup xs)) : h a = none := by
  cases e : h a with
  | none => rfl
  | some o => rcases q with q | ⟨ob, q⟩ <;> rcases R.kinds e with ⟨_, z⟩ | ⟨_, z⟩ | ⟨_, _, _, z⟩ <;> · rw [q] at z; cases z
theorem RepH.nofz (R : RepH G h H) {a : Addr} {ob : Obj} {u : HO} (q : H a = some (.frz ob u)) : h a = none := by
  cases e : h a with
  | none => rfl
  | some o => rcases R.kinds e with ⟨_, z⟩ | ⟨_, z⟩ | ⟨_, _, _, z⟩ <;> · rw [q] at z; cases z
theorem Fm.pst (R : RepH G h H) (f : Fm h H h' H') : Pst G.K H H' := ⟨fun a xs q => by
    rcases q with q | q
    · have n := R.notup q
      rcases q with q | ⟨ob, q⟩
      · exact .inl (.inl (f a _ n q).2)
      · exact .inl (.inr ⟨ob, (f a _ n q).2⟩)
    · exact .inr q, fun a xs q => by
    rcases q with ⟨ob, q⟩ | q
    · exact .inl ⟨ob, (f a _ (R.nofz q) q).2⟩
    · exact .inr q⟩
theorem Fm.refl : Fm h H h H := fun _ _ n q => ⟨n, q⟩
theorem Fm.trans (f : Fm h H h1 H1) (g : Fm h1 H1 h2 H2) : Fm h H h2 H2 := fun a o n q => g a o (f a o n q).1 (f a o n q).2
theorem RepV.fm {d : D} {v : V} (q : RepV G.K H d v) (R : RepH G h H) (f : Fm h H h' H') : RepV G.K H' d v := q.mono (f.pst R)
theorem RepVs.fm {d : List D} {v : List V} (q : RepVs G.K H d v) (R : RepH G h H) (f : Fm h H h' H') : RepVs G.K H' d v := q.mono (f.pst R)
theorem RepS.fm {d : DS} {v : L2.St} (q : RepS G.K H d v) (R : RepH G h H) (f : Fm h H h' H') : RepS G.K H' d v :=
  ⟨q.1, fun i x e => let ⟨u, a, b⟩ := q.2 i x e; ⟨u, a, b.fm R f⟩⟩
theorem RepS.set {σd : DS} {σ : L2.St} {i : Nat} {d : D} {v : V} (q : RepS G.K H σd σ) (r : RepV G.K H d v) : RepS G.K H (σd.set i (some d)) (σ.set i (some v)) := by
  refine ⟨by rw [List.length_set, List.length_set]; exact q.1, fun j x e => ?_⟩
  by_cases hj : j = i
  · subst hj
    by_cases hl : j < σd.length
    · rw [List.getElem?_set_self hl] at e
      injection e with e; injection e with e; subst e
      exact ⟨v, by rw [List.getElem?_set_self (by rw [← q.1]; exact hl)], r⟩
    · rw [List.getElem?_eq_none (by rw [List.length_set]; omega)] at e; cases e
  · rw [List.getElem?_set_ne (Ne.symm hj)] at e
    rw [List.getElem?_set_ne (Ne.symm hj)]
    exact q.2 j x e
/-- less is known -/
theorem RepS.less {σd σd' : DS} {σ : L2.St} (q : RepS G.K H σd σ) (hl : σd'.length = σd.length) (w : ∀ (i : Nat) d, σd'[i]? = some (some d) → σd[i]? = some (some d)) : RepS G.K H σd' σ :=
  ⟨hl.trans q.1, fun i d e => q.2 i d (w i d e)⟩
/-- an object's reading stays where its own place and what it leans on stay -/
theorem RepO.stay {a : Addr} {o : MO} (r : RepO G h H a o) (ha : H' a = H a) (t : Pst G.K H H') (n : ∀ dx, H dx = some (.own a) → h dx = none → H' dx = some (.own a) ∧ h' dx = none) : RepO G h' H' a o := by
  cases o with
  | lst ds => obtain ⟨vs, z, q⟩ := r; exact ⟨vs, ha.trans z, q.mono t⟩
  | dct ds => obtain ⟨vs, z, q⟩ := r; exact ⟨vs, ha.trans z, q.mono t⟩
  | ins c fs => obtain ⟨dx, gs, z, q, y, e⟩ := r; exact ⟨dx, gs, ha.trans z, q.mono t, (n dx y e).1, (n dx y e).2⟩
theorem pst_new {p : Addr} {o : HO} (n : H p = none) : Pst G.K H (L2.upd H p o) := ⟨fun a xs q => by
    rcases q with (q | ⟨ob, q⟩) | q
    · exact .inl (.inl (by rw [upd_ne (ne_of_none q n)]; exact q))
    · exact .inl (.inr ⟨ob, by rw [upd_ne (ne_of_none q n)]; exact q⟩)
    · exact .inr q, fun a xs q => by
    rcases q with ⟨ob, q⟩ | q
    · exact .inl ⟨ob, by rw [upd_ne (ne_of_none q n)]; exact q⟩
    · exact .inr q⟩
/-- what may be written here -/
def Wr : HO → Prop
  | .lst _ => True
  | .dK _ => True
  | .ins _ _ _ => True
  | _ => False
theorem pst_wr {p : Addr} {o u : HO} (n : H p = some u) (w : Wr u) : Pst G.K H (L2.upd H p o) := ⟨fun a xs q => by
    rcases q with (q | ⟨ob, q⟩) | q
    · exact .inl (.inl (by rw [upd_ne (fun z => by rw [z, n] at q; cases q; exact w)]; exact q))
    · exact .inl (.inr ⟨ob, by rw [upd_ne (fun z => by rw [z, n] at q; cases q; exact w)]; exact q⟩)
    · exact .inr q, fun a xs q => by
    rcases q with ⟨ob, q⟩ | q
    · exact .inl ⟨ob, by rw [upd_ne (fun z => by rw [z, n] at q; cases q; exact w)]; exact q⟩
    · exact .inr q⟩
/-- a tuple (or what no small heap holds) is laid -/
theorem RepH.aside {p : Addr} {o : HO} (R : RepH G h H) (n : H p = none) : RepH G h (L2.upd H p o) := fun a u e =>
  (R a u e).stay (upd_ne (fun z => by rw [z, R.free n] at e; cases e)) (pst_new n) fun dx y z => ⟨by rw [upd_ne (ne_of_none y n)]; exact y, z⟩
theorem Fm.aside {p : Addr} {o : HO} (n : H p = none) : Fm h H h (L2.upd H p o) := fun a u e q => ⟨e, by rw [upd_ne (ne_of_none q n)]; exact q⟩
/-- an object of the small heap is laid -/
theorem RepH.new {p : Addr} {o : HO} {u : MO} (R : RepH G h H) (n : H p = none) (new : RepO G (up h p u) (L2.upd H p o) p u) : RepH G (up h p u) (L2.upd H p o) := fun a x e => by
  by_cases ha : a = p
  · subst ha; rw [up_same] at e; cases e; exact new
  · rw [up_ne ha] at e
    exact (R a x e).stay (upd_ne ha) (pst_new n) fun dx y z => ⟨by rw [upd_ne (ne_of_none y n)]; exact y, by rw [up_ne (ne_of_none y n)]; exact z⟩
theorem Fm.new {p : Addr} {o : HO} {u : MO} (n : H p = none) : Fm h H (up h p u) (L2.upd H p o) := fun a x e q => ⟨by rw [up_ne (ne_of_none q n)]; exact e, by rw [upd_ne (ne_of_none q n)]; exact q⟩
/-- an object of the small heap is written -/
theorem RepH.write {p : Addr} {o w : HO} {u : MO} (R : RepH G h H) (n : H p = some w) (wr : Wr w)
    (new : RepO G (up h p u) (L2.upd H p o) p u) : RepH G (up h p u) (L2.upd H p o) := fun a x e => by
  by_cases ha : a = p
  · subst ha; rw [up_same] at e; cases e; exact new
  · rw [up_ne ha] at e
    have ne : ∀ dx, H dx = some (.own a) → dx ≠ p := fun dx y z => by rw [z, n] at y; cases y; exact wr
    exact (R a x e).stay (upd_ne ha) (pst_wr n wr) fun dx y z => ⟨by rw [upd_ne (ne dx y)]; exact y, by rw [up_ne (ne dx y)]; exact z⟩
theorem Fm.write {p : Addr} {o : HO} {u : MO} {x : MO} (n : h p = some x) : Fm h H (up h p u) (L2.upd H p o) := fun a y e q => by
  have ne : a ≠ p := fun z => by rw [z, n] at e; cases e
  exact ⟨by rw [up_ne ne]; exact e, by rw [upd_ne ne]; exact q⟩
/-- the usual ones -/
theorem RepH.newLst {p : Addr} {ds : List D} {vs : List V} (R : RepH G h H) (n : H p = none) (q : RepVs G.K H ds vs) : RepH G (up h p (.lst ds)) (L2.upd H p (.lst vs)) :=
  R.new n ⟨vs, upd_same, q.mono (pst_new n)⟩
theorem RepH.wrLst {p : Addr} {es ds : List D} {vs : List V} (R : RepH G h H) (e : h p = some (.lst es)) (q : RepVs G.K H ds vs) : RepH G (up h p (.lst ds)) (L2.upd H p (.lst vs)) := by
  obtain ⟨us, z, _⟩ := R p _ e
  exact R.write z trivial ⟨vs, upd_same, q.mono (pst_wr z trivial)⟩
theorem RepV.tupNew {p : Addr} {ds : List D} {vs : List V} (n : H p = none) (q : RepVs G.K H ds vs) : RepV G.K (L2.upd H p (.tup vs)) (.tup ds) (.ref p) :=
  repV_tup.mpr ⟨p, vs, rfl, SqT.of upd_same, q.mono (pst_new n)⟩
end
end DL
set_option Elab.async false
set_option linter.all false
set_option maxRecDepth 100000
/-! The D layer, 2: a small language, and what must hold so that a piece of it runs to what is wanted. -/
namespace DL
open PySem L2

/-- built-in functions -/
inductive Bi where
  | len | abs | min | max | sum | all | any | sorted | list | tuple | str | int | repr
  deriving DecidableEq
/-- what isinstance is asked for -/
inductive Ty where
  | int | bool | str | list | tuple | dict | non
  deriving DecidableEq
/-- methods of built-in kinds -/
inductive Mt where
  | append | extend | pop | get | join | split | startswith | index | insert | reverse | partition
  deriving DecidableEq
/-- targets of loops -/
inductive Tg where
  | nm (i : Nat) | tp (is : List Nat)

mutual
inductive Ex where
  | var (i : Nat)
  | cst (d : D)
  | bin (op : Operator) (a b : Ex)
  | neg (a : Ex)
  | not (a : Ex)
  | and (a b : Ex)
  | or (a b : Ex)
  | ite (c : Te) (a b : Ex)
  | cmp (op : CmpOp) (a b : Ex)
  | chn (op op' : CmpOp) (a b c : Ex)
  | tup (es : List Ex)
  | lst (es : List Ex)
  | dsp (ks : List Str) (es : List Ex)
  | ix (a i : Ex)
  | sl (a : Ex) (lo hi : Option Ex)
  | call (f : Nat) (es : List Ex)
  | callk (f : Nat) (es kes : List Ex) (arr : List (Nat ⊕ D))
  | bi (b : Bi) (es : List Ex)
  | isi (a : Ex) (ts : List Ty)
  | met (m : Mt) (o : Ex) (es : List Ex)
  | lc (elt : Ex) (tg : Tg) (it : It') (cd : Option Te) (vs : List Nat)
  | lc2 (elt : Ex) (tg : Tg) (it : It') (cd : Option Te) (tg1 : Tg) (it1 : It') (cd1 : Option Te) (vs vs1 : List Nat)
/-- a test -/
inductive Te where
  | val (e : Ex)
  | not (t : Te)
  | and (a b : Te)
  | or (a b : Te)
  | cmp (op : CmpOp) (a b : Ex)
  | chn (op op' : CmpOp) (a b c : Ex)
/-- what a loop walks -/
inductive It' where
  | of (e : Ex) | rng (es : List Ex) | zip (a b : Ex) | enm (a : Ex) | rev (a : Ex)
end
/-- targets of assignments -/
inductive Lv where
  | nm (i : Nat) | sub (o i : Ex) | fld (o : Ex) (f : Str) | tup (ls : List Lv) | star (is : List Nat) (r : Nat)
/-- a class: one of the text's own by its number, or a built-in one -/
inductive CN where
  | own (c : Nat) | blt (n : String)
  deriving DecidableEq
/-- what a handler says of what it caught: a field, of which class it is (told ahead) -/
inductive Hx where
  | cst (d : D) | var (i : Nat) | fld (f : Str) | isi (cs : List CN) (b : Bool) | tup (es : List Hx) | and (a b : Hx) | not (a : Hx) | cmp (op : CmpOp) (a b : Hx)
inductive Hs where
  | asg (i : Nat) (e : Hx) | ret (e : Hx)
inductive Sm where
  | asg (l : Lv) (e : Ex)
  | aug (i : Nat) (op : Operator) (e : Ex)
  | ex (e : Ex)
  | ret (e : Ex)
  | retN
  | ifs (c : Te) (a b : List Sm)
  | for (t : Tg) (it : It') (b : List Sm)
  | whl (c : Te) (b : List Sm)
  | brk | cnt | pas
  | rai (c : Nat) (f : Str) (e : Ex)
  | try (b : List Sm) (c i : Nat) (s : List Hs)

/-! ### operations on values -/
/-- a value's data, lists through the heap -/
inductive Den (h : MH) : D → PyData → Prop
  | non : Den h .non .none
  | bl (b : Bool) : Den h (.bl b) (.bool b)
  | int (i : Int) : Den h (.int i) (.int i)
  | str (x : Str) : Den h (.str x) (.str x)
  | tup {ds : List D} {ts : List PyData} (hl : ts.length = ds.length) (hs : ∀ (i : Nat) d t, ds[i]? = some d → ts[i]? = some t → Den h d t) : Den h (.tup ds) (.tuple ts)
  | lst {a : Addr} {ds : List D} {ts : List PyData} (ha : h a = some (.lst ds)) (hl : ts.length = ds.length) (hs : ∀ (i : Nat) d t, ds[i]? = some d → ts[i]? = some t → Den h d t) : Den h (.ref a) (.list ts)
  | dct0 {a : Addr} (ha : h a = some (.dct [])) : Den h (.ref a) (.dict [])

def MulOk (i j : Int) : Prop := i.natAbs < 2 ^ 64 ∨ j.natAbs < 2 ^ 64 ∨ (i.natAbs < 2 ^ 20000 ∧ j.natAbs < 2 ^ 20000)
def DivOk (j : Int) : Prop := 0 < j ∧ j.natAbs < 2 ^ 8000
def Fits (n : Nat) : Prop := n ≤ sizeLine
/-- a new object -/
def al (o : MO) (h : MH) (Q : D → MH → Prop) : Prop := ∀ p, h p = none → Q (.ref p) (up h p o)

def bop (op : Operator) (x y : D) (h : MH) (Q : D → MH → Prop) : Prop :=
  match op, x, y with
  | .Add, .int i, .int j => Q (.int (i + j)) h
  | .Add, .str a, .str b => Fits (a.length + b.length) ∧ Q (.str (a ++ b)) h
  | .Add, .tup a, .tup b => Fits (a.length + b.length) ∧ Q (.tup (a ++ b)) h
  | .Add, .ref a, .ref b => ∃ xs ys, h a = some (.lst xs) ∧ h b = some (.lst ys) ∧ Fits (xs.length + ys.length) ∧ al (.lst (xs ++ ys)) h Q
  | .Sub, .int i, .int j => Q (.int (i - j)) h
  | .Mult, .int i, .int j => MulOk i j ∧ Q (.int (i * j)) h
  | .Mult, .ref a, .int k => ∃ xs, h a = some (.lst xs) ∧ (-(2 ^ 63) ≤ k ∧ k < 2 ^ 63) ∧ Fits (xs.length * k.toNat) ∧ al (.lst (List.replicate k.toNat xs).flatten) h Q
  | .Mult, .tup a, .int k => (-(2 ^ 63) ≤ k ∧ k < 2 ^ 63) ∧ (k ≤ 1000 ∧ a.length ≤ 1000) ∧ Q (.tup (List.replicate k.toNat a).flatten) h
  | .Mult, .str a, .int k => (k ≤ 1000 ∧ a.length ≤ 1000 ∧ -(2 ^ 63) ≤ k) ∧ Q (.str (Txt.mul a k)) h
  | .FloorDiv, .int i, .int j => DivOk j ∧ Q (.int (i / j)) h
  | .Mod, .int i, .int j => 0 < j ∧ Q (.int (i % j)) h
  | .Pow, .int i, .int j => (0 ≤ j ∧ j ≤ 1000000 ∧ i.natAbs < 2 ^ 64) ∧ Q (.int (i ^ j.toNat)) h
  | _, _, _ => False

/-- x op= y of a name, nothing that changes -/
def augD (op : Operator) (x y : D) (h : MH) (Q : D → MH → Prop) : Prop :=
  match op, x, y with
  | .Add, .int i, .int j => Q (.int (i + j)) h
  | .Add, .str a, .str b => Fits (a.length + b.length) ∧ Q (.str (a ++ b)) h
  | .Sub, .int i, .int j => Q (.int (i - j)) h
  | .Mult, .int i, .int j => (-(2 ^ 64) < i ∧ i < 2 ^ 64) ∧ Q (.int (i * j)) h
  | _, _, _ => False

/-- truth -/
def tru (x : D) (h : MH) (P : Bool → Prop) : Prop :=
  match x with
  | .non => P false
  | .bl b => P b
  | .int i => P (i != 0)
  | .str y => Fits y.length ∧ P ((y.length : Int) != 0)
  | .tup ds => P (!ds.isEmpty)
  | .ref a => ∃ xs, h a = some (.lst xs) ∧ P (!xs.isEmpty)
  | .scr ds => P (!ds.isEmpty)

/-- one scalar -/
def flat : D → Bool
  | .bl _ => true | .int _ => true | .str _ => true | .non => true
  | _ => false
def toV : D → V
  | .non => .non | .bl b => .bl b | .int i => .int i | .str x => .str x | .ref a => .ref a
  | _ => .non
def inD (x : D) (ys : List D) : Bool := ys.any fun y => eqV (toV y) (toV x)
def subStr (a b : Str) : Bool := !(Builtin.Str.occurrences b a 0 b.length 1).isEmpty
/-- a key -/
def keyD : D → Option Key
  | .int i => some (.inl i)
  | .str x => some (.inr x)
  | _ => none
def getK (kvs : List (Key × D)) (k : Key) : Option D := (kvs.find? fun kv => decide (kv.1 = k)).map (·.2)
def putK (kvs : List (Key × D)) (k : Key) (v : D) : List (Key × D) :=
  if (kvs.any fun kv => decide (kv.1 = k)) = true then kvs.map (fun kv => if kv.1 = k then (kv.1, v) else kv) else kvs ++ [(k, v)]

def deepEq (x y : D) (h : MH) (P : Bool → Prop) : Prop :=
  ∃ t u, Den h x t ∧ Den h y u ∧ SeqAt.shaped t = true ∧ SeqAt.shaped u = true ∧ P (PyData.eqv t u)
def eqD (x y : D) (h : MH) (P : Bool → Prop) : Prop :=
  match x, y with
  | .int i, .int j => P (decide (i = j))
  | .str a, .str b => P (decide (a = b))
  | .non, .non => P true
  | .bl a, .bl b => P (decide (a = b))
  | .ref a, .ref b => deepEq x y h P ∨ ∃ xs ys, h a = some (.lst xs) ∧ h b = some (.lst ys) ∧ xs.length ≠ ys.length ∧ P false
  | _, _ => deepEq x y h P
/-- x in a list, items of any depth -/
def deepIn (x : D) (a : Addr) (h : MH) (P : Bool → Prop) : Prop :=
  ∃ t us, Den h x t ∧ Den h (.ref a) (.list us) ∧ SeqAt.shaped t = true ∧ SeqAt.shaped (.list us) = true ∧ P (us.any fun z => PyData.eqv z t)
def inOp (x y : D) (h : MH) (P : Bool → Prop) : Prop :=
  match x, y with
  | .str a, .str b => P (subStr a b)
  | x, .tup ys => flat x = true ∧ ys.all flat = true ∧ P (inD x ys)
  | x, .ref a => (∃ ys, h a = some (.lst ys) ∧ flat x = true ∧ ys.all flat = true ∧ P (inD x ys)) ∨ (∃ kvs k, h a = some (.dct kvs) ∧ keyD x = some k ∧ P (getK kvs k).isSome) ∨ deepIn x a h P
  | _, _ => False
def isOp (x y : D) (P : Bool → Prop) : Prop :=
  match x, y with
  | .non, .non => P true
  | .bl a, .bl b => P (decide (a = b))
  | _, .non => P false
  | _, _ => False
def cop (op : CmpOp) (x y : D) (h : MH) (P : Bool → Prop) : Prop :=
  match op with
  | .Eq => eqD x y h P
  | .NotEq => eqD x y h fun k => P (!k)
  | .Lt => match x, y with
    | .int i, .int j => P (decide (i < j))
    | _, _ => False
  | .LtE => match x, y with
    | .int i, .int j => P (decide (i ≤ j))
    | _, _ => False
  | .Gt => match x, y with
    | .int i, .int j => P (decide (j < i))
    | _, _ => False
  | .GtE => match x, y with
    | .int i, .int j => P (decide (j ≤ i))
    | _, _ => False
  | .Is => isOp x y P
  | .IsNot => isOp x y fun k => P (!k)
  | .In => inOp x y h P
  | .NotIn => inOp x y h fun k => P (!k)

/-- x[i] -/
def ixD (x i : D) (h : MH) (Q : D → MH → Prop) : Prop :=
  match x, i with
  | .tup ds, .int i => ∃ d, atI ds i = some d ∧ Q d h
  | .scr ds, .int i => ∃ d, atI ds i = some d ∧ Q d h
  | .str z, .int i => Fits z.length ∧ ∃ c, atI z.cps.toList i = some c ∧ Q (.str ⟨#[c]⟩) h
  | .ref a, k => (∃ xs i d, k = .int i ∧ h a = some (.lst xs) ∧ atI xs i = some d ∧ Q d h) ∨ (∃ kvs k' d, keyD k = some k' ∧ h a = some (.dct kvs) ∧ getK kvs k' = some d ∧ Q d h)
  | _, _ => False
/-- x[lo:hi] -/
def cut {α : Type} (xs : List α) (lo hi : Option Int) : List α := (xs.drop (HT.sIx xs.length 0 lo)).take (HT.sIx xs.length xs.length hi - HT.sIx xs.length 0 lo)
def slD (x : D) (lo hi : Option Int) (h : MH) (Q : D → MH → Prop) : Prop :=
  match x with
  | .tup ds => Q (.tup (cut ds lo hi)) h
  | .scr ds => al (.lst (cut ds lo hi)) h Q
  | .str z => Fits z.length ∧ Q (.str ⟨(cut z.cps.toList lo hi).toArray⟩) h
  | .ref a => ∃ xs, h a = some (.lst xs) ∧ al (.lst (cut xs lo hi)) h Q
  | _ => False
/-- x[i] = v -/
def setD (x i v : D) (h : MH) (P : MH → Prop) : Prop :=
  match x with
  | .ref a => (∃ xs k j, i = .int k ∧ h a = some (.lst xs) ∧ ixN xs.length k = some j ∧ P (up h a (.lst (xs.set j v)))) ∨
      (∃ kvs k, keyD i = some k ∧ h a = some (.dct kvs) ∧ kvs.length < sizeLine ∧ P (up h a (.dct (putK kvs k v))))
  | _ => False

def intsOf : List D → Option (List Int)
  | [] => some []
  | .int i :: r => (intsOf r).map (i :: ·)
  | _ => none
def blsOf : List D → Option (List Bool)
  | [] => some []
  | .bl i :: r => (blsOf r).map (i :: ·)
  | _ => none
def strsOf : List D → Option (List Str)
  | [] => some []
  | .str i :: r => (strsOf r).map (i :: ·)
  | _ => none
/-- the items of a list or tuple -/
def itemsOf (x : D) (h : MH) (P : List D → Prop) : Prop :=
  match x with
  | .tup ds => P ds
  | .scr ds => P ds
  | .ref a => ∃ xs, h a = some (.lst xs) ∧ P xs
  | _ => False
mutual
/-- what never changes, as data -/
def toP : D → PyData
  | .non => .none
  | .bl b => .bool b
  | .int i => .int i
  | .str x => .str x
  | .tup ds => .tuple (toPs ds)
  | .ref _ => .none
  | .scr ds => .none
def toPs : List D → List PyData
  | [] => []
  | d :: ds => toP d :: toPs ds
end
mutual
/-- nothing within it changes -/
def imm : D → Bool
  | .non => true
  | .bl b => true
  | .int i => true
  | .str x => true
  | .tup ds => imms ds
  | .ref _ => false
  | .scr _ => false
def imms : List D → Bool
  | [] => true
  | d :: ds => imm d && imms ds
end
def bi (b : Bi) (xs : List D) (h : MH) (Q : D → MH → Prop) : Prop :=
  match b, xs with
  | .len, [.str y] => Fits y.length ∧ Q (.int y.length) h
  | .len, [x] => itemsOf x h fun ds => Q (.int ds.length) h
  | .abs, [.int i] => Q (.int (if i < 0 then -i else i)) h
  | .max, [.int i, .int j] => Q (.int (if j > i then j else i)) h
  | .min, [.int i, .int j] => Q (.int (if j < i then j else i)) h
  | .sum, [.ref a] => ∃ ds ns, h a = some (.lst ds) ∧ intsOf ds = some ns ∧ Q (.int ns.sum) h
  | .all, [.ref a] => ∃ ds ns, h a = some (.lst ds) ∧ blsOf ds = some ns ∧ Q (.bl (ns.all id)) h
  | .any, [.ref a] => ∃ ds ns, h a = some (.lst ds) ∧ blsOf ds = some ns ∧ Q (.bl (ns.any id)) h
  | .list, [.str z] => Fits z.length ∧ al (.lst (z.cps.toList.map fun c => .str ⟨#[c]⟩)) h Q
  | .list, [x] => itemsOf x h fun ds => al (.lst ds) h Q
  | .tuple, [x] => itemsOf x h fun ds => Q (.tup ds) h
  | .int, [.int i] => Q (.int i) h
  | .int, [.bl k] => Q (.int (if k then 1 else 0)) h
  | .int, [.str z] => ∃ n, PySem.intText? z = some n ∧ z.length ≤ 640 ∧ Q (.int n) h
  | .str, [.int i] => i.natAbs.log2 < 1920 ∧ Q (.str (toString i)) h
  | .str, [.str z] => Q (.str z) h
  | .repr, [x] => ∃ t, Den h x t ∧ PyData.showable t = true ∧ Fits t.shown.length ∧ PyData.depth t ≤ 60 ∧ Q (.str t.shown) h
  | .sorted, [.ref a] => ∃ ds, h a = some (.lst ds) ∧ imms ds = true ∧ PySem.W.AllAlike (ds.map toP) ∧ PySem.W.Sortable (ds.map toP) ∧ (∀ d, d ∈ ds → (toP d).depth ≤ 60) ∧ al (.lst (ds.mergeSort (PySem.W.dataLe false toP))) h Q
  | _, _ => False
/-- isinstance -/
def kindOf (x : D) (h : MH) (P : Ty → Prop) : Prop :=
  match x with
  | .int _ => P .int
  | .bl _ => P .bool
  | .str _ => P .str
  | .non => P .non
  | .tup _ => P .tuple
  | .scr _ => P .list
  | .ref a => (∃ xs, h a = some (.lst xs) ∧ P .list) ∨ (∃ kvs, h a = some (.dct kvs) ∧ P .dict)
def subTy (k t : Ty) : Bool := decide (k = t) || (decide (k = .bool) && decide (t = .int))
def isTys (x : D) (h : MH) (ts : List Ty) (P : Bool → Prop) : Prop := kindOf x h fun k => P (ts.any (subTy k))

/-- of which kind the method is -/
def mtTy (m : Mt) (x : D) (h : MH) : Prop :=
  match m with
  | .append | .extend | .pop | .index | .insert | .reverse => match x with
    | .ref a => ∃ xs, h a = some (.lst xs)
    | _ => False
  | .get => match x with
    | .ref a => ∃ kvs, h a = some (.dct kvs)
    | _ => False
  | .join | .split | .startswith | .partition => match x with
    | .str _ => True
    | _ => False
def met (m : Mt) (x : D) (ys : List D) (h : MH) (Q : D → MH → Prop) : Prop :=
  match m, x, ys with
  | .append, .ref a, [y] => ∃ xs, h a = some (.lst xs) ∧ xs.length < sizeLine ∧ Q .non (up h a (.lst (xs ++ [y])))
  | .extend, .ref a, [.ref b] => ∃ xs zs, h a = some (.lst xs) ∧ h b = some (.lst zs) ∧ Fits (xs.length + zs.length) ∧ Q .non (up h a (.lst (xs ++ zs)))
  | .pop, .ref a, [] => ∃ xs d, h a = some (.lst xs) ∧ xs[xs.length - 1]? = some d ∧ Q d (up h a (.lst xs.dropLast))
  | .pop, .ref a, [.int i] => ∃ xs k d, h a = some (.lst xs) ∧ ixN xs.length i = some k ∧ xs[k]? = some d ∧ xs.length < 2 ^ 62 ∧ Q d (up h a (.lst (xs.eraseIdx k)))
  | .reverse, .ref a, [] => ∃ xs, h a = some (.lst xs) ∧ Q .non (up h a (.lst xs.reverse))
  | .get, .ref a, [k, v] => ∃ kvs k', keyD k = some k' ∧ h a = some (.dct kvs) ∧ Q ((getK kvs k').getD v) h
  | .join, .str s, [.ref a] => ∃ ds ts, h a = some (.lst ds) ∧ strsOf ds = some ts ∧ (ts.map (·.length)).sum + ts.length * s.length ≤ 16777216 ∧ Q (.str (Txt.join s ts)) h
  | .split, .str s, [.str b] => ((b.length == 0) = false ∧ Fits (s.length + 2)) ∧ al (.lst ((Txt.split s b).map D.str)) h Q
  | .startswith, .str s, [.str b] => Q (.bl (Txt.startswith s b)) h
  | _, _, _ => False

/-! ### loops -/
structure ItV where
  its : List D
  ok : MH → Prop
def setAll (σ : DS) : List Nat → List D → DS
  | i :: is, d :: ds => setAll (σ.set i (some d)) is ds
  | _, _ => σ
def bindT (t : Tg) (d : D) (σ : DS) (P : DS → Prop) : Prop :=
  match t with
  | .nm i => P (σ.set i (some d))
  | .tp is => match d with
    | .tup ds => ds.length = is.length ∧ P (setAll σ is ds)
    | _ => False
def wipeD (σ : DS) : List Nat → DS
  | [] => σ
  | v :: vs => (wipeD σ vs).set v none
abbrev DT := DS → MH → (Bool → MH → Prop) → Prop
abbrev DE := DS → MH → (D → MH → Prop) → Prop
/-- a comprehension's loop -/
def lcGo (t : Tg) (ok : MH → Prop) (cd : DT) (elt : DE) (σ : DS) (K : List D → MH → Prop) : List D → List D → MH → Prop
  | [], acc, h => ok h ∧ K acc h
  | d :: r, acc, h => ok h ∧ bindT t d σ fun σ1 => cd σ1 h fun k h1 =>
      if k = true then elt σ1 h1 fun x h2 => acc.length < sizeLine ∧ lcGo t ok cd elt σ K r (acc ++ [x]) h2
      else lcGo t ok cd elt σ K r acc h1
/-- two clauses: inn is the inner loop, handed what follows -/
def lcGo2 (t : Tg) (ok : MH → Prop) (cd : DT) (inn : DS → List D → MH → (List D → MH → Prop) → Prop) (σ : DS) (K : List D → MH → Prop) : List D → List D → MH → Prop
  | [], acc, h => ok h ∧ K acc h
  | d :: r, acc, h => ok h ∧ bindT t d σ fun σ1 => cd σ1 h fun k h1 =>
      if k = true then inn σ1 acc h1 (lcGo2 t ok cd inn σ K r)
      else lcGo2 t ok cd inn σ K r acc h1

/-- what follows a statement -/
structure En where
  nx : DS → MH → Prop
  rt : D → MH → Prop
  bk : DS → MH → Prop
  ct : DS → MH → Prop
  ex : Nat → List (Str × D) → DS → MH → Prop
abbrev DX := Nat → List (Str × D) → MH → Prop
abbrev Fns := Nat → List D → MH → (D → MH → Prop) → DX → Prop
def forGo (t : Tg) (ok : MH → Prop) (body : En → DS → MH → Prop) (Dn : En) : List D → DS → MH → Prop
  | [], σ, h => ok h ∧ Dn.nx σ h
  | d :: r, σ, h => ok h ∧ bindT t d σ fun σ1 => body { Dn with nx := forGo t ok body Dn r, ct := forGo t ok body Dn r, bk := Dn.nx } σ1 h
def whlGo (c : DT) (body : En → DS → MH → Prop) (Dn : En) (σ : DS) (h : MH) : Prop :=
  ∃ W : Nat → DS → MH → Prop, (∃ m, W m σ h) ∧ ∀ m σ h, W m σ h → c σ h fun k h1 =>
    if k = true then body { Dn with nx := fun σ' h' => ∃ m', m' < m ∧ W m' σ' h', ct := fun σ' h' => ∃ m', m' < m ∧ W m' σ' h', bk := Dn.nx } σ h1
    else Dn.nx σ h1

def arrOf (ds : List D) : List (Nat ⊕ D) → List D
  | [] => []
  | .inl i :: r => ds.getD i .non :: arrOf ds r
  | .inr d :: r => d :: arrOf ds r
def rngD (xs : List D) (P : ItV → Prop) : Prop :=
  match xs with
  | [.int n] => (-(2 ^ 60) < n ∧ n < 2 ^ 60) ∧ P ⟨(List.range n.toNat).map fun (k : Nat) => .int k, fun _ => True⟩
  | [.int a, .int b] => (-(2 ^ 60) < a ∧ a < 2 ^ 60 ∧ b < 2 ^ 60 ∧ -(2 ^ 60) < b) ∧ P ⟨(List.range (b - a).toNat).map fun (k : Nat) => .int (a + k), fun _ => True⟩
  | [.int a, .int b, .int c] => (-(2 ^ 60) < a ∧ a < 2 ^ 60 ∧ b < 2 ^ 60 ∧ -(2 ^ 60) < b ∧ c = -1) ∧ P ⟨(List.range (a - b).toNat).map fun (k : Nat) => .int (a - k), fun _ => True⟩
  | _ => False
/-- what a list, a tuple, a text gives to a loop -/
def walkD (x : D) (h : MH) (P : ItV → Prop) : Prop :=
  match x with
  | .tup ds => P ⟨ds, fun _ => True⟩
  | .scr ds => P ⟨ds, fun _ => True⟩
  | .str z => P ⟨z.cps.toList.map fun c => .str ⟨#[c]⟩, fun _ => True⟩
  | .ref a => ∃ xs, h a = some (.lst xs) ∧ P ⟨xs, fun h' => h' a = some (.lst xs)⟩
  | _ => False
def zipD (x y : D) (h : MH) (P : ItV → Prop) : Prop :=
  match x, y with
  | .tup xs, .tup ys => P ⟨(xs.zip ys).map fun p => .tup [p.1, p.2], fun _ => True⟩
  | .ref a, .ref b => ∃ xs ys, h a = some (.lst xs) ∧ h b = some (.lst ys) ∧ P ⟨(xs.zip ys).map fun p => .tup [p.1, p.2], fun h' => h' a = some (.lst xs) ∧ h' b = some (.lst ys)⟩
  | _, _ => False
def revD (x : D) (h : MH) (P : ItV → Prop) : Prop :=
  match x with
  | .tup ds => P ⟨ds.reverse, fun _ => True⟩
  | .ref a => ∃ xs, h a = some (.lst xs) ∧ P ⟨xs.reverse, fun h' => h' a = some (.lst xs)⟩
  | _ => False
def enmD (x : D) (h : MH) (P : ItV → Prop) : Prop :=
  match x with
  | .ref a => ∃ xs, h a = some (.lst xs) ∧ P ⟨xs.zipIdx.map fun p => .tup [.int p.2, p.1], fun h' => h' a = some (.lst xs)⟩
  | _ => False

section
variable (Φ : Fns)
mutual
def wpE (E : DX) : Ex → DS → MH → (D → MH → Prop) → Prop
  | .var i, σ, h, Q => ∃ d, σ[i]? = some (some d) ∧ Q d h
  | .cst d, _, h, Q => Q d h
  | .bin op a b, σ, h, Q => wpE E a σ h fun x h1 => wpE E b σ h1 fun y h2 => bop op x y h2 Q
  | .neg a, σ, h, Q => wpE E a σ h fun x h1 => match x with
    | .int i => Q (.int (-i)) h1
    | _ => False
  | .not a, σ, h, Q => wpE E a σ h fun x h1 => tru x h1 fun k => Q (.bl (!k)) h1
  | .and a b, σ, h, Q => wpE E a σ h fun x h1 => tru x h1 fun k => if k = true then wpE E b σ h1 Q else Q x h1
  | .or a b, σ, h, Q => wpE E a σ h fun x h1 => tru x h1 fun k => if k = true then Q x h1 else wpE E b σ h1 Q
  | .ite c a b, σ, h, Q => wpT E c σ h fun k h1 => if k = true then wpE E a σ h1 Q else wpE E b σ h1 Q
  | .cmp op a b, σ, h, Q => wpE E a σ h fun x h1 => wpE E b σ h1 fun y h2 => cop op x y h2 fun k => Q (.bl k) h2
  | .chn op op' a b c, σ, h, Q => wpE E a σ h fun x h1 => wpE E b σ h1 fun y h2 => cop op x y h2 fun k =>
      if k = true then wpE E c σ h2 fun z h3 => cop op' y z h3 fun k' => Q (.bl k') h3 else Q (.bl false) h2
  | .tup es, σ, h, Q => wpEs E es σ h fun ds h1 => Fits ds.length ∧ Q (.tup ds) h1
  | .lst es, σ, h, Q => wpEs E es σ h fun ds h1 => Fits ds.length ∧ al (.lst ds) h1 Q
  | .dsp ks es, σ, h, Q => wpEs E es σ h fun ds h1 => al (.dct ((ks.map Sum.inr).zip ds)) h1 Q
  | .ix a i, σ, h, Q => wpE E a σ h fun x h1 => wpE E i σ h1 fun y h2 => ixD x y h2 Q
  | .sl a lo hi, σ, h, Q => wpE E a σ h fun x h1 => wpO E lo σ h1 fun l h2 => wpO E hi σ h2 fun u h3 => slD x l u h3 Q
  | .call f es, σ, h, Q => wpEs E es σ h fun ds h1 => ds.length = es.length ∧ Φ f ds h1 Q E
  | .callk f es kes arr, σ, h, Q => wpEs E es σ h fun ds h1 => wpEs E kes σ h1 fun ks h2 => (ds.length = es.length ∧ ks.length = kes.length) ∧ Φ f (arrOf (ds ++ ks) arr) h2 Q E
  | .bi b es, σ, h, Q => wpEs E es σ h fun ds h1 => bi b ds h1 Q
  | .isi a ts, σ, h, Q => wpE E a σ h fun x h1 => isTys x h1 ts fun k => Q (.bl k) h1
  | .met m o es, σ, h, Q => wpE E o σ h fun x h1 => mtTy m x h1 ∧ wpEs E es σ h1 fun ds h2 => met m x ds h2 Q
  | .lc elt t it cd vs, σ, h, Q => wpI E it σ h fun J h1 => lcGo t J.ok (wpC cd) (wpE (fun _ _ _ => False) elt) (wipeD σ vs) (fun acc h2 => al (.lst acc) h2 Q) J.its [] h1
  | .lc2 elt t it cd t1 it1 cd1 vs vs1, σ, h, Q => wpI E it σ h fun J h1 =>
      lcGo2 t J.ok (wpC cd) (fun σ1 acc h2 K => wpI (fun _ _ _ => False) it1 σ1 h2 fun J1 h3 => lcGo t1 J1.ok (wpC cd1) (wpE (fun _ _ _ => False) elt) (wipeD σ1 vs1) K J1.its acc h3)
        (wipeD σ vs) (fun acc h2 => al (.lst acc) h2 Q) J.its [] h1
def wpT (E : DX) : Te → DS → MH → (Bool → MH → Prop) → Prop
  | .not a, σ, h, Q => wpT E a σ h fun k h1 => Q (!k) h1
  | .and a b, σ, h, Q => wpT E a σ h fun k h1 => if k = true then wpT E b σ h1 Q else Q false h1
  | .or a b, σ, h, Q => wpT E a σ h fun k h1 => if k = true then Q true h1 else wpT E b σ h1 Q
  | .cmp op a b, σ, h, Q => wpE E a σ h fun x h1 => wpE E b σ h1 fun y h2 => cop op x y h2 fun k => Q k h2
  | .chn op op' a b c, σ, h, Q => wpE E a σ h fun x h1 => wpE E b σ h1 fun y h2 => cop op x y h2 fun k =>
      if k = true then wpE E c σ h2 fun z h3 => cop op' y z h3 fun k' => Q k' h3 else Q false h2
  | .val e, σ, h, Q => wpE E e σ h fun x h1 => tru x h1 fun k => Q k h1
def wpEs (E : DX) : List Ex → DS → MH → (List D → MH → Prop) → Prop
  | [], _, h, Q => Q [] h
  | e :: r, σ, h, Q => wpE E e σ h fun x h1 => wpEs E r σ h1 fun xs h2 => Q (x :: xs) h2
def wpO (E : DX) : Option Ex → DS → MH → (Option Int → MH → Prop) → Prop
  | none, _, h, Q => Q none h
  | some e, σ, h, Q => wpE E e σ h fun x h1 => match x with
    | .int i => Q (some i) h1
    | _ => False
def wpC : Option Te → DS → MH → (Bool → MH → Prop) → Prop
  | none, _, h, Q => Q true h
  | some e, σ, h, Q => wpT (fun _ _ _ => False) e σ h Q
def wpI (E : DX) : It' → DS → MH → (ItV → MH → Prop) → Prop
  | .of e, σ, h, Q => wpE E e σ h fun x h1 => walkD x h1 fun J => Q J h1
  | .rng es, σ, h, Q => wpEs E es σ h fun ds h1 => rngD ds fun J => Q J h1
  | .zip a b, σ, h, Q => wpE E a σ h fun x h1 => wpE E b σ h1 fun y h2 => zipD x y h2 fun J => Q J h2
  | .enm a, σ, h, Q => wpE E a σ h fun x h1 => enmD x h1 fun J => Q J h1
  | .rev a, σ, h, Q => wpE E a σ h fun x h1 => revD x h1 fun J => Q J h1
end
mutual
def wpLv (F : DS → DX) : Lv → D → DS → MH → (DS → MH → Prop) → Prop
  | .nm i, d, σ, h, P => P (σ.set i (some d)) h
  | .sub o i, d, σ, h, P => wpE Φ (F σ) o σ h fun x h1 => wpE Φ (F σ) i σ h1 fun k h2 => setD x k d h2 fun h3 => P σ h3
  | .fld o f, d, σ, h, P => False
  | .tup ls, d, σ, h, P => match d with
    | .tup ds => ds.length = ls.length ∧ wpLvs F ls ds σ h P
    | _ => False
  | .star is r, d, σ, h, P => (match d with
    | .tup ds => (is.length ≤ ds.length ∧ ds.length ≤ 16000) ∧ ∀ p, h p = none → P ((setAll σ is (ds.take is.length)).set r (some (.ref p))) (up h p (.lst (ds.drop is.length)))
    | .ref a => ∃ ds, h a = some (.lst ds) ∧ (is.length ≤ ds.length ∧ ds.length ≤ 16000) ∧ ∀ p, h p = none → P ((setAll σ is (ds.take is.length)).set r (some (.ref p))) (up h p (.lst (ds.drop is.length)))
    | _ => False)
def wpLvs (F : DS → DX) : List Lv → List D → DS → MH → (DS → MH → Prop) → Prop
  | [], [], σ, h, P => P σ h
  | [], _ :: _, _, _, _ => False
  | _ :: _, [], _, _, _ => False
  | l :: ls, d :: ds, σ, h, P => wpLv F l d σ h fun σ1 h1 => wpLvs F ls ds σ1 h1 P
end
mutual
/-- within a handler: fs are the fields of what it caught -/
def wpX (fs : List (Str × D)) (E : DX) : Hx → DS → MH → (D → MH → Prop) → Prop
  | .cst d, _, h, Q => Q d h
  | .var i, σ, h, Q => ∃ d, σ[i]? = some (some d) ∧ Q d h
  | .fld f, _, h, Q => (∀ c h', E c [] h') ∧ ∃ d, fs.lookup f = some d ∧ Q d h
  | .isi _ b, _, h, Q => (∀ c h', E c [] h') ∧ Q (.bl b) h
  | .tup es, σ, h, Q => wpXs fs E es σ h fun ds h1 => Fits ds.length ∧ Q (.tup ds) h1
  | .and a b, σ, h, Q => wpX fs E a σ h fun x h1 => tru x h1 fun k => if k = true then wpX fs E b σ h1 Q else Q x h1
  | .not a, σ, h, Q => wpX fs E a σ h fun x h1 => tru x h1 fun k => Q (.bl (!k)) h1
  | .cmp op a b, σ, h, Q => wpX fs E a σ h fun x h1 => wpX fs E b σ h1 fun y h2 => cop op x y h2 fun k => Q (.bl k) h2
def wpXs (fs : List (Str × D)) (E : DX) : List Hx → DS → MH → (List D → MH → Prop) → Prop
  | [], _, h, Q => Q [] h
  | e :: r, σ, h, Q => wpX fs E e σ h fun x h1 => wpXs fs E r σ h1 fun xs h2 => Q (x :: xs) h2
end
def wpHs (fs : List (Str × D)) : List Hs → En → DS → MH → Prop
  | [], Dn, σ, h => Dn.nx σ h
  | .asg i e :: r, Dn, σ, h => wpX fs (fun _ _ _ => True) e σ h fun d h1 => wpHs fs r Dn (σ.set i (some d)) h1
  | .ret e :: _, Dn, σ, h => wpX fs (fun _ _ _ => True) e σ h Dn.rt
def exAt (Dn : En) (σ : DS) : DX := fun c fs h => Dn.ex c fs σ h
mutual
def wpS : Sm → En → DS → MH → Prop
  | .asg l e, Dn, σ, h => wpE Φ (exAt Dn σ) e σ h fun d h1 => wpLv Φ (exAt Dn) l d σ h1 Dn.nx
  | .aug i op e, Dn, σ, h => ∃ x, σ[i]? = some (some x) ∧ wpE Φ (exAt Dn σ) e σ h fun y h1 => augD op x y h1 fun z h2 => Dn.nx (σ.set i (some z)) h2
  | .ex e, Dn, σ, h => wpE Φ (exAt Dn σ) e σ h fun _ h1 => Dn.nx σ h1
  | .ret e, Dn, σ, h => wpE Φ (exAt Dn σ) e σ h Dn.rt
  | .retN, Dn, _, h => Dn.rt .non h
  | .ifs c a b, Dn, σ, h => wpT Φ (exAt Dn σ) c σ h fun k h1 => if k = true then wpB a Dn σ h1 else wpB b Dn σ h1
  | .for t it b, Dn, σ, h => wpI Φ (exAt Dn σ) it σ h fun J h1 => forGo t J.ok (wpB b) Dn J.its σ h1
  | .whl c b, Dn, σ, h => whlGo (fun σ h P => wpT Φ (exAt Dn σ) c σ h P) (wpB b) Dn σ h
  | .brk, Dn, σ, h => Dn.bk σ h
  | .cnt, Dn, σ, h => Dn.ct σ h
  | .pas, Dn, σ, h => Dn.nx σ h
  | .rai c f e, Dn, σ, h => wpE Φ (exAt Dn σ) e σ h fun d h1 => Dn.ex c [(f, d)] σ h1
  | .try b c i s, Dn, σ, h => wpB b { Dn with ex := fun c' fs σ' h' => if c' = c then (i < σ'.length ∧ fs ≠ []) ∧ wpHs fs s { Dn with nx := fun σ1 h1 => Dn.nx (σ1.set i none) h1, bk := fun σ1 h1 => Dn.bk (σ1.set i none) h1, ct := fun σ1 h1 => Dn.ct (σ1.set i none) h1 } (σ'.set i none) h' else Dn.ex c' fs σ' h' } σ h
def wpB : List Sm → En → DS → MH → Prop
  | [], Dn, σ, h => Dn.nx σ h
  | s :: r, Dn, σ, h => wpS s { Dn with nx := fun σ' h' => wpB r Dn σ' h' } σ h
end
end
/-- a def -/
structure Fn where
  n : Nat
  ar : Nat
  body : List Sm
def wpF (Φ : Fns) (f : Fn) (ds : List D) (h : MH) (Q : D → MH → Prop) (E : DX) : Prop :=
  ds.length = f.ar ∧ wpB Φ f.body ⟨fun _ h' => Q .non h', Q, fun _ _ => False, fun _ _ => False, fun c fs _ h' => E c fs h'⟩ (ds.map some ++ List.replicate (f.n - f.ar) none) h
/-- a whole text's defs, calls so deep -/
def Ph (prog : List Fn) : Nat → Fns
  | 0 => fun _ _ _ _ _ => False
  | d + 1 => fun f ds h Q E => ∃ fn, prog[f]? = some fn ∧ wpF (Ph prog d) fn ds h Q E
end DL
set_option Elab.async false
set_option linter.all false
set_option maxRecDepth 100000
set_option maxHeartbeats 1000000
/-! The D layer, 3: operations by values. -/
namespace DL
open PySem PySem.Spec PyProof.Rows L2

/-- an exception's own dict -/
def RepX (G : Gr) (h : MH) (H : Hp) (c : Nat) (fs : List (Str × D)) (cls : Value) (dd : Option Addr) : Prop :=
  (c < G.nc ∧ cls = .ref (G.cl c)) ∧ ((fs = [] ∧ dd = none) ∨ ∃ a gs, dd = some a ∧ H a = some (.xd gs) ∧ RepF G.K H fs gs ∧ h a = none)

/-- what follows a value -/
def Post (G : Gr) (h : MH) (H : Hp) (R : D → MH → Prop) (Q : VK) : Prop := ∀ d h' v H', R d h' → RepV G.K H' d v → RepH G h' H' → Fm h H h' H' → Q v H'
def lR2 (G : Gr) (w : D → D → MH → (D → MH → Prop) → Prop) : R2 := fun x y H Q => ∃ dx dy h R, RepV G.K H dx x ∧ RepV G.K H dy y ∧ RepH G h H ∧ w dx dy h R ∧ Post G h H R Q
def lC2 (G : Gr) (w : D → D → MH → (Bool → Prop) → Prop) : R2 := fun x y H Q => ∃ dx dy h P, RepV G.K H dx x ∧ RepV G.K H dy y ∧ RepH G h H ∧ w dx dy h P ∧ ∀ k, P k → Q (.bl k) H
def lTr (G : Gr) : V → Hp → (Bool → Hp → Prop) → Prop := fun x H Q => ∃ dx h P, RepV G.K H dx x ∧ RepH G h H ∧ tru dx h P ∧ ∀ k, P k → Q k H
def lBi (G : Gr) (w : List D → MH → (D → MH → Prop) → Prop) : List V → Hp → VK → Prop := fun xs H Q => ∃ ds h R, RepVs G.K H ds xs ∧ RepH G h H ∧ w ds h R ∧ Post G h H R Q
def lMt (G : Gr) (w : D → List D → MH → (D → MH → Prop) → Prop) : V → List V → Hp → VK → Prop := fun x xs H Q => ∃ d ds h R, RepV G.K H d x ∧ RepVs G.K H ds xs ∧ RepH G h H ∧ w d ds h R ∧ Post G h H R Q
def lSl (G : Gr) : V → Option Int → Option Int → Hp → VK → Prop := fun x lo hi H Q => ∃ dx h R, RepV G.K H dx x ∧ RepH G h H ∧ slD dx lo hi h R ∧ Post G h H R Q
def lSet (G : Gr) : V → V → V → Hp → (Hp → Prop) → Prop := fun o i v H Q => ∃ d1 d2 d3 h P, RepV G.K H d1 o ∧ RepV G.K H d2 i ∧ RepV G.K H d3 v ∧ RepH G h H ∧ setD d1 d2 d3 h P ∧ ∀ h' H', P h' → RepH G h' H' → Fm h H h' H' → Q H'

section
variable {G : Gr} {h : MH} {H : Hp} {R : D → MH → Prop} {Q : VK}
theorem Post.here (p : Post G h H R Q) (rh : RepH G h H) {d : D} {v : V} (q : R d h) (r : RepV G.K H d v) : Q v H := p d h v H q r rh Fm.refl
theorem Post.new (p : Post G h H R Q) (rh : RepH G h H) {ds : List D} {vs : List V} (q : al (.lst ds) h R) (r : RepVs G.K H ds vs) {l : Addr} (n : H l = none) : Q (.ref l) (L2.upd H l (.lst vs)) :=
  p _ _ _ _ (q l (rh.free n)) repV_ref (rh.newLst n r) (Fm.new n)
theorem Post.tup (p : Post G h H R Q) (rh : RepH G h H) {ds : List D} {vs : List V} (q : R (.tup ds) h) (r : RepVs G.K H ds vs) {l : Addr} (n : H l = none) : Q (.ref l) (L2.upd H l (.tup vs)) :=
  p _ _ _ _ q (RepV.tupNew n r) (rh.aside n) (Fm.aside n)
theorem Post.wr (p : Post G h H R Q) (rh : RepH G h H) {es ds : List D} {vs : List V} {d : D} {v : V} {l : Addr} (e : h l = some (.lst es)) (q : R d (up h l (.lst ds))) (r : RepVs G.K H ds vs) (rv : RepV G.K H d v) : Q v (L2.upd H l (.lst vs)) := by
  obtain ⟨us, z, _⟩ := rh l _ e
  exact p _ _ _ _ q (rv.mono (pst_wr z trivial)) (rh.wrLst e r) (Fm.write e)
theorem RepH.lst (rh : RepH G h H) {a : Addr} {ds : List D} (e : h a = some (.lst ds)) : ∃ vs, H a = some (.lst vs) ∧ RepVs G.K H ds vs := rh a _ e
theorem RepVs.nil_iff {K : PySem.W.Frag} {ds : List D} {vs : List V} (r : RepVs K H ds vs) : vs = [] ↔ ds = [] := by
  have e := r.length
  rw [← List.length_eq_zero_iff, ← List.length_eq_zero_iff, e]
theorem RepVs.isEmpty {K : PySem.W.Frag} {ds : List D} {vs : List V} (r : RepVs K H ds vs) : vs.isEmpty = ds.isEmpty := by
  cases ds with
  | nil => rw [r.nil_inv] <;> rfl
  | cons d ds => obtain ⟨v, s, rfl, _⟩ := r.cons_inv; rfl
end

section
variable {X : Cx} {G : Gr}
/-- an operation that is known by cases -/
theorem OpR.imp {f : Value → Value → Sem Value} {r r' : R2} (o : OpR X f r) (i : ∀ x y H Q, r' x y H Q → r x y H Q) : OpR X f r' :=
  fun pins s σ H x y v u Q I rx ry q => o pins s σ H x y v u Q I rx ry (i _ _ _ _ q)

theorem mulOk {i j : Int} (m : MulOk i j) : IntMulOk i j := by
  rcases m with m | m | ⟨m1, m2⟩
  · exact CMul.ok (.inl (by omega))
  · exact CMul.ok (.inr (by omega))
  · exact CMulW.ok (wide_mul m1 m2 (by decide) (by decide) (by decide))
theorem op_mulD : OpR X (binaryOp .Mult) (rI MulOk fun i j => .int (i * j)) := opI fun _ _ _ _ _ _ _ hc q => mul_int q (mulOk hc)
theorem op_divD : OpR X (binaryOp .FloorDiv) (rI (fun _ j => DivOk j) fun i j => .int (i / j)) :=
  OpR.imp op_fdivW fun x y H Q ⟨i, j, e1, e2, ⟨c1, c2⟩, q⟩ => ⟨i, j, e1, e2, wide_div (b := 8000) c1 c2 (by decide) (by decide), q⟩

theorem op_addD (hK : X.K = G.K) : OpR X (binaryOp .Add) (lR2 G (bop .Add)) := by
  refine OpR.imp (OpR.or op_add (OpR.or op_add_str (OpR.or op_catA op_cat))) fun x y H Q ⟨dx, dy, h, R, rx, ry, rh, w, p⟩ => ?_
  cases dx with
  | int i => cases dy with
    | int j => rw [rx.int_inv, ry.int_inv]; exact .inl ⟨i, j, rfl, rfl, p.here rh w repV_int⟩
    | _ => exact w.elim
  | str a => cases dy with
    | str b => rw [rx.str_inv, ry.str_inv]; exact .inr (.inl ⟨a, b, rfl, rfl, w.1, p.here rh w.2 repV_str⟩)
    | _ => exact w.elim
  | tup xs => cases dy with
    | tup ys =>
      obtain ⟨a, vs, rfl, sa, ra⟩ := repV_tup.mp rx
      obtain ⟨b, us, rfl, sb, rb⟩ := repV_tup.mp ry
      obtain ⟨w1, w2⟩ := w
      refine .inr (.inr (.inl ⟨a, b, vs, us, rfl, rfl, by rw [hK]; exact sa, by rw [hK]; exact sb, ?_, fun e => ?_, fun _ e => ?_, fun _ _ l n => p.tup rh w2 (ra.append rb) n⟩))
      · rw [ra.length, rb.length]; exact w1
      · rw [ra.nil_iff.mp e, List.nil_append] at w2
        exact p.here rh w2 ry
      · rw [rb.nil_iff.mp e, List.append_nil] at w2
        exact p.here rh w2 rx
    | _ => exact w.elim
  | ref a => cases dy with
    | ref b =>
      rw [rx.ref_inv, ry.ref_inv]
      obtain ⟨xs, ys, e1, e2, z, q⟩ := w
      obtain ⟨vs, g1, r1⟩ := rh.lst e1
      obtain ⟨us, g2, r2⟩ := rh.lst e2
      exact .inr (.inr (.inr ⟨a, b, vs, us, rfl, rfl, g1, g2, by rw [r1.length, r2.length]; exact z, fun l n => p.new rh q (r1.append r2) n⟩))
    | _ => exact w.elim
  | _ => cases dy <;> exact w.elim
theorem op_subD : OpR X (binaryOp .Sub) (lR2 G (bop .Sub)) := by
  refine OpR.imp op_sub fun x y H Q ⟨dx, dy, h, R, rx, ry, rh, w, p⟩ => ?_
  cases dx with
  | int i => cases dy with
    | int j => rw [rx.int_inv, ry.int_inv]; exact ⟨i, j, rfl, rfl, p.here rh w repV_int⟩
    | _ => exact w.elim
  | _ => cases dy <;> exact w.elim
theorem op_fdivD : OpR X (binaryOp .FloorDiv) (lR2 G (bop .FloorDiv)) := by
  refine OpR.imp op_divD fun x y H Q ⟨dx, dy, h, R, rx, ry, rh, w, p⟩ => ?_
  cases dx with
  | int i => cases dy with
    | int j => rw [rx.int_inv, ry.int_inv]; exact ⟨i, j, rfl, rfl, w.1, p.here rh w.2 repV_int⟩
    | _ => exact w.elim
  | _ => cases dy <;> exact w.elim
theorem op_modD : OpR X (binaryOp .Mod) (lR2 G (bop .Mod)) := by
  refine OpR.imp op_mod fun x y H Q ⟨dx, dy, h, R, rx, ry, rh, w, p⟩ => ?_
  cases dx with
  | int i => cases dy with
    | int j => rw [rx.int_inv, ry.int_inv]; exact ⟨i, j, rfl, rfl, w.1, p.here rh w.2 repV_int⟩
    | _ => exact w.elim
  | _ => cases dy <;> exact w.elim
theorem op_powD : OpR X (binaryOp .Pow) (lR2 G (bop .Pow)) := by
  refine OpR.imp op_pow fun x y H Q ⟨dx, dy, h, R, rx, ry, rh, w, p⟩ => ?_
  cases dx with
  | int i => cases dy with
    | int j => rw [rx.int_inv, ry.int_inv]; exact ⟨i, j, rfl, rfl, w.1, p.here rh w.2 repV_int⟩
    | _ => exact w.elim
  | _ => cases dy <;> exact w.elim
end
/-! tuple * int, where the tuple itself or an empty one is handed back -/
theorem tupMulSame (l : Addr) (its : Array Value) (n : Nat) (dd : Option Addr) (sl : Array (Option Value)) (x : Int) (u : Tok)
    (b0 : (decide (x < -(2 ^ 63)) || decide (x ≥ 2 ^ 63)) = false) (b1 : (its.isEmpty || x == 1) = true) :
    Meets (Builtin.«tuple.__mul__» ⟨[.ref l, .int x u], []⟩) (fun _ R s => s.heap.get? l = some { cls := .type "tuple", dict := dd, data := .seq its n, slots := sl } ∧ R (.ok (.ret (Value.ref l))) s) :=
  .of_wp fun prog w A R s h => by
    obtain ⟨hp, g, d, tk, os⟩ := s
    obtain ⟨hl, h⟩ := h
    have f1 := AutoSeq1.idx_int
    wp_walk using wpAny_loadPart' hl
    refine wpAny_ite_false (decide_eq_false (by rw [b0]; exact Bool.false_ne_true)) ?_
    wp_walk using wpAny_loadPart' hl
    exact ⟨_, rfl, h⟩
theorem tupMulNone (l : Addr) (its : Array Value) (n : Nat) (dd : Option Addr) (sl : Array (Option Value)) (x : Int) (u : Tok)
    (b0 : (decide (x < -(2 ^ 63)) || decide (x ≥ 2 ^ 63)) = false) (b1 : (its.isEmpty || x == 1) = false) (b2 : (decide (x ≤ 0) || its.isEmpty) = true) :
    Meets (Builtin.«tuple.__mul__» ⟨[.ref l, .int x u], []⟩) (fun _ R s => s.heap.get? l = some { cls := .type "tuple", dict := dd, data := .seq its n, slots := sl } ∧
      R (.ok (.ret (Value.ref s.heap.objs.size))) { s with heap := s.heap.push { cls := Value.type "tuple", data := Data.seq #[] }, toks := s.toks }) :=
  .of_wp fun prog w A R s h => by
    obtain ⟨hp, g, d, tk, os⟩ := s
    obtain ⟨hl, h⟩ := h
    have f1 := AutoSeq1.idx_int
    wp_walk using wpAny_loadPart' hl
    repeat (first
      | (refine wpAny_ite_false (decide_eq_false (by rw [b0]; exact Bool.false_ne_true)) ?_; wp_walk using wpAny_loadPart' hl)
      | (refine wpAny_ite_false (decide_eq_false (by rw [b1]; exact Bool.false_ne_true)) ?_; wp_walk using wpAny_loadPart' hl)
      | (refine wpAny_ite_true (decide_eq_true b2) ?_; wp_walk using wpAny_loadPart' hl))
    exact ⟨_, rfl, h⟩

section
variable {X : Cx} {G : Gr}
theorem op_repT0 : OpR X (binaryOp .Mult) (fun x y H Q => ∃ l k xs, x = .ref l ∧ y = .int k ∧ SqT X.K H l xs ∧ -(2 ^ 63) ≤ k ∧ k < 2 ^ 63 ∧ ((xs = [] ∨ k = 1) ∧ Q (.ref l) H ∨ (xs ≠ [] ∧ k ≤ 0 ∧ ∀ p, H p = none → Q (.ref p) (L2.upd H p (.tup []))))) := by
  intro pins s σ H x y v u Q I rx ry hq
  obtain ⟨l, k, xs, rfl, rfl, hT, h1, h2, q⟩ := hq
  cases rx
  obtain ⟨t, rfl⟩ := ry
  obtain ⟨its, r, ⟨⟨cls, dd, data, sl⟩, ho, hc, n, hd⟩, hs⟩ := I.tuple hT
  simp only at hc hd
  subst hc hd
  have hle : its.length = xs.length := r.length.symm
  have b0 : (decide (k < -(2 ^ 63)) || decide (k ≥ 2 ^ 63)) = false := by
    rw [decide_eq_false (by omega), decide_eq_false (by omega)] <;> rfl
  rcases q with ⟨c, q⟩ | ⟨c1, c2, q⟩
  · have b1 : (its.toArray.isEmpty || k == 1) = true := by
      rcases c with c | c
      · have : its = [] := List.eq_nil_of_length_eq_zero (by rw [hle, c]; rfl)
        rw [this]; rfl
      · rw [c]; simp
    refine wpAny_binaryOp_repeat_ref (T := "tuple") (U := "int") (by decide) ⟨_, ho, rfl⟩ (fun s' => typeIs_int s' k t) noFill_tuple_mul F.fills_int_mul F.slot_int_rmul repeat_tuple F.slot_int_index.lookup
      (call_meets F.slot_int_rmul (typeIs_int s k t) F.entry_int_rmul (F.args_int_rmul_2 _ _) (int_rmul_tuple k t l its.toArray n dd sl)
        ⟨ho, rfl, ⟨_, ho, rfl⟩, call_meets F.slot_tuple_mul ⟨_, ho, rfl⟩ F.entry_tuple_mul (F.args_tuple_mul_2 _ _) (tupMulSame l its.toArray n dd sl k t b0 b1) ⟨ho, ?_⟩⟩)
    exact ⟨.ref l, H, I, rfl, q⟩
  · have hn : its ≠ [] := fun e => c1 (List.eq_nil_of_length_eq_zero (by rw [← hle, e]; rfl))
    have b1 : (its.toArray.isEmpty || k == 1) = false := by
      have : its.toArray.isEmpty = false := by cases its with
        | nil => exact absurd rfl hn
        | cons a b => rfl
      rw [this, Bool.false_or]
      exact beq_eq_false_iff_ne.mpr (by omega)
    refine wpAny_binaryOp_repeat_ref (T := "tuple") (U := "int") (by decide) ⟨_, ho, rfl⟩ (fun s' => typeIs_int s' k t) noFill_tuple_mul F.fills_int_mul F.slot_int_rmul repeat_tuple F.slot_int_index.lookup
      (call_meets F.slot_int_rmul (typeIs_int s k t) F.entry_int_rmul (F.args_int_rmul_2 _ _) (int_rmul_tuple k t l its.toArray n dd sl)
        ⟨ho, rfl, ⟨_, ho, rfl⟩, call_meets F.slot_tuple_mul ⟨_, ho, rfl⟩ F.entry_tuple_mul (F.args_tuple_mul_2 _ _) (tupMulNone l its.toArray n dd sl k t b0 b1 (by rw [decide_eq_true c2]; rfl)) ⟨ho, ?_⟩⟩)
    refine ⟨.ref s.heap.objs.size, _, I.laid (t' := s.toks) (o := .tup []) (fun b ob z => Heap.get?_push_of_some _ z) (Nat.le_refl _) ?_, rfl, q _ (I.hok.fresh (Nat.le_refl _))⟩
    exact ⟨Nat.zero_le _, [], .nil, IsTup.new _ _⟩
theorem op_strMul : OpR X (binaryOp .Mult) (fun x y H Q => ∃ (z : Str) (k : Int), x = .str z ∧ y = .int k ∧ (k ≤ 1000 ∧ z.length ≤ 1000 ∧ -(2 ^ 63) ≤ k) ∧ Q (.str (Txt.mul z k)) H) := by
  intro pins s σ H x y v u Q I rx ry ⟨z, k, ex, ey, ⟨h1, h2, h3⟩, q⟩
  subst ex ey
  obtain ⟨t, rfl⟩ := (show ∃ t, v = Value.str z t from rx)
  obtain ⟨t2, rfl⟩ := (show ∃ t, u = Value.int k t from ry)
  refine SB.mul ⟨?_, fun a b => ?_, fun a b => ?_⟩ fun t' k' => ⟨.str _, H, I.tok k', ⟨t', rfl⟩, q⟩
  · simp only [Bool.or_eq_false_iff, decide_eq_false_iff_not]
    omega
  · have h4 : (z.length : Int) * k ≤ 1000 * 1000 := Int.mul_le_mul (by omega) h1 (by omega) (by decide)
    have : (z.length : Int) ≤ (2 ^ 63 - 1) / k := Int.le_ediv_of_mul_le (by omega) (by omega)
    omega
  · unfold Builtin.Str.tooLong
    have : z.length * k.toNat ≤ 1000 * 1000 := Nat.mul_le_mul h2 (by omega)
    simp [sizeLine_eq]
    omega
theorem op_mulAllD (hK : X.K = G.K) : OpR X (binaryOp .Mult) (lR2 G (bop .Mult)) := by
  refine OpR.imp (OpR.or op_strMul (OpR.or op_mulD (OpR.or op_rep (OpR.or op_repT op_repT0)))) fun x y H Q ⟨dx, dy, h, R, rx, ry, rh, w, p⟩ => ?_
  cases dx with
  | int i => cases dy with
    | int j => rw [rx.int_inv, ry.int_inv]; exact .inr (.inl ⟨i, j, rfl, rfl, w.1, p.here rh w.2 repV_int⟩)
    | _ => exact w.elim
  | ref a => cases dy with
    | int k =>
      rw [rx.ref_inv, ry.int_inv]
      obtain ⟨xs, e1, z, f, q⟩ := w
      obtain ⟨vs, g1, r1⟩ := rh.lst e1
      exact .inr (.inr (.inl ⟨a, k, vs, rfl, rfl, g1, z.1, z.2, by rw [r1.length]; exact f, fun l n => p.new rh q (r1.flat _) n⟩))
    | _ => exact w.elim
  | tup ds => cases dy with
    | int k =>
      obtain ⟨a, vs, rfl, sa, ra⟩ := repV_tup.mp rx
      rw [ry.int_inv]
      obtain ⟨z, f, q⟩ := w
      by_cases c0 : vs = [] ∨ k = 1
      · refine .inr (.inr (.inr (.inr ⟨a, k, vs, rfl, rfl, by rw [hK]; exact sa, z.1, z.2, .inl ⟨c0, ?_⟩⟩)))
        have e : (List.replicate k.toNat ds).flatten = ds := by
          rcases c0 with c | c
          · rw [ra.nil_iff.mp c]; simp
          · rw [c]; simp
        rw [e] at q
        exact p.here rh q rx
      · by_cases c1 : k ≤ 0
        · refine .inr (.inr (.inr (.inr ⟨a, k, vs, rfl, rfl, by rw [hK]; exact sa, z.1, z.2, .inr ⟨fun e => c0 (.inl e), c1, fun l n => ?_⟩⟩)))
          have e : (List.replicate k.toNat ds).flatten = [] := by rw [show k.toNat = 0 from by omega] <;> rfl
          rw [e] at q
          exact p.tup rh q repVs_nil n
        · exact .inr (.inr (.inr (.inl ⟨a, k, vs, rfl, rfl, by rw [hK]; exact sa, fun e => c0 (.inl e), by omega, f.1, by rw [ra.length]; exact f.2, fun l n => p.tup rh q (ra.flat _) n⟩)))
    | _ => exact w.elim
  | str z => cases dy with
    | int k => rw [rx.str_inv, ry.int_inv]; exact .inl ⟨z, k, rfl, rfl, w.1, p.here rh w.2 repV_str⟩
    | _ => exact w.elim
  | _ => cases dy <;> exact w.elim
theorem op_binD (hK : X.K = G.K) (op : Operator) : OpR X (binaryOp op) (lR2 G (bop op)) := by
  cases op with
  | Add => exact op_addD hK
  | Sub => exact op_subD
  | Mult => exact op_mulAllD hK
  | FloorDiv => exact op_fdivD
  | Mod => exact op_modD
  | Pow => exact op_powD
  | _ =>
    intro pins s σ H x y v u Q I rx ry ⟨dx, dy, h, R, _, _, _, w, _⟩
    cases dx <;> cases dy <;> exact w.elim
end
end DL
set_option Elab.async false
set_option linter.all false
set_option maxRecDepth 100000
set_option maxHeartbeats 1000000
/-! The D layer, 4: data, comparisons, truth, subscripts, slices, stores. -/
namespace DL
open PySem PySem.Spec PyProof.Rows L2

structure Ok (X : Cx) (G : Gr) : Prop where
  k : X.K = G.K
  nd : X.N.Nodup
  gd : X.A.guards = some []
  hu : X.A.units + 100 < cLine
  sy : ∃ o, X.base.get? sysModules = some o ∧ o.cls = .type "dict"

section
variable {X : Cx} {G : Gr} {pins : List (Addr × Obj)} {σ : L2.St} {H : Hp} {h : MH} {s : Shared}
theorem readsAll_of {P : D → PyData → Prop} {hp : Heap} : ∀ {ds : List D} {ts : List PyData} {vs : List V} {us : List Value},
    ts.length = ds.length → RepVs G.K H ds vs → Vals vs us →
    (∀ (i : Nat) d t v u, ds[i]? = some d → ts[i]? = some t → RepV G.K H d v → RelV v u → ∃ as, Reads hp u t as ∧ sysModules ∉ as) → ∃ as, ReadsAll hp us ts as ∧ sysModules ∉ as
  | [], ts, vs, us, hl, r, rv, _ => by
    rw [r.nil_inv] at rv
    cases rv
    have : ts = [] := List.eq_nil_of_length_eq_zero hl
    subst this
    exact ⟨[], .nil, by simp⟩
  | d :: ds, [], vs, us, hl, r, rv, _ => by simp at hl
  | d :: ds, t :: ts, vs, us, hl, r, rv, f => by
    obtain ⟨v, vr, rfl, r1, r2⟩ := r.cons_inv
    cases rv with
    | cons q1 q2 =>
      obtain ⟨as, a1, a2⟩ := f 0 d t v _ rfl rfl r1 q1
      obtain ⟨bs, b1, b2⟩ := readsAll_of (P := P) (ds := ds) (ts := ts) (by simpa using hl) r2 q2 fun i d t v u e1 e2 => f (i + 1) d t v u (by simpa using e1) (by simpa using e2)
      exact ⟨as ++ bs, .cons a1 b1, by simp [a2, b2]⟩
theorem Inv.noSys (I : Inv X pins σ H s) (ok : Ok X G) {a : Addr} {o : Obj} (e : s.heap.get? a = some o) (c : o.cls = .type "list") : sysModules ≠ a := fun z => by
  obtain ⟨ob, e1, e2⟩ := ok.sy
  have := I.bk _ _ e1
  rw [z, e] at this
  cases this
  rw [c] at e2
  exact absurd e2 (by decide)
theorem den_reads (I : Inv X pins σ H s) (ok : Ok X G) (rh : RepH G h H) {d : D} {t : PyData} (q : Den h d t) : ∀ {v : V} {u : Value}, RepV G.K H d v → RelV v u → ∃ as, Reads s.heap u t as ∧ sysModules ∉ as := by
  induction q with
  | non => intro v u r rv; rw [r.non_inv] at rv; cases rv; exact ⟨_, .none, by simp⟩
  | bl b => intro v u r rv; rw [r.bl_inv] at rv; cases rv; exact ⟨_, .bool b, by simp⟩
  | int i => intro v u r rv; rw [r.int_inv] at rv; obtain ⟨tk, rfl⟩ := rv; exact ⟨_, .int i tk, by simp⟩
  | str x => intro v u r rv; rw [r.str_inv] at rv; obtain ⟨tk, rfl⟩ := rv; exact ⟨_, .str x tk, by simp⟩
  | @tup ds ts hl hs ih =>
    intro v u r rv
    obtain ⟨a, vs, rfl, sq, rs⟩ := repV_tup.mp r
    cases rv
    obtain ⟨its, r1, ⟨o, ho, hc, n, hd⟩, _⟩ := I.tuple (by rw [ok.k]; exact sq)
    obtain ⟨as, a1, a2⟩ := readsAll_of (P := fun _ _ => True) hl rs r1 fun i d t v u e1 e2 => ih i d t e1 e2
    exact ⟨_, .tuple ho hc hd (by simpa using a1), a2⟩
  | @lst a ds ts ha hl hs ih =>
    intro v u r rv
    rw [r.ref_inv] at rv
    cases rv
    obtain ⟨vs, g, rs⟩ := rh.lst ha
    obtain ⟨z, its, n, r1, e⟩ := I.hok a _ g
    obtain ⟨as, a1, a2⟩ := readsAll_of (P := fun _ _ => True) hl rs r1 fun i d t v u e1 e2 => ih i d t e1 e2
    exact ⟨_, .list e rfl rfl (by simpa using a1), by simp [a2, Inv.noSys I ok e rfl]⟩
  | @dct0 a ha =>
    intro v u r rv
    rw [r.ref_inv] at rv
    cases rv
    obtain ⟨ks, g, rs⟩ := rh a _ ha
    have e0 : ks = [] := rs
    subst e0
    obtain ⟨z, ns, vs, r1, o, es, ep, ho, hx, hd, _, hes, _⟩ := I.hok a _ g
    have ev : vs = [] := by cases r1; rfl
    subst ev
    have ee : es = #[] := by
      have : es.toList = [] := by
        have z2 := hes
        generalize es.toList = l at z2
        cases z2
        rfl
      exact Array.toList_inj.mp (by simpa using this)
    subst ee
    exact ⟨_, .dict (kvs := []) ho hx.1 hd .nil .nil, by simpa using (beq_eq_false_iff_ne.mp ns).symm⟩
end

section
variable {X : Cx} {G : Gr}
/-- ==, != -/
theorem flatToV {K : PySem.W.Frag} {H : Hp} {d : D} {v : V} (f : flat d = true) (r : RepV K H d v) : v = toV d ∧ flatV v = true := by
  cases d with
  | non => rw [r.non_inv]; exact ⟨rfl, rfl⟩
  | bl b => rw [r.bl_inv]; exact ⟨rfl, rfl⟩
  | int b => rw [r.int_inv]; exact ⟨rfl, rfl⟩
  | str b => rw [r.str_inv]; exact ⟨rfl, rfl⟩
  | _ => exact absurd (show false = true from f) Bool.false_ne_true
theorem flatsToV {K : PySem.W.Frag} {H : Hp} : ∀ {ds : List D} {vs : List V}, ds.all flat = true → RepVs K H ds vs → vs = ds.map toV ∧ vs.all flatV = true
  | [], vs, _, r => by rw [r.nil_inv]; exact ⟨rfl, rfl⟩
  | d :: ds, vs, f, r => by
    obtain ⟨v, vr, rfl, r1, r2⟩ := r.cons_inv
    rw [List.all_cons, Bool.and_eq_true] at f
    obtain ⟨e1, f1⟩ := flatToV f.1 r1
    obtain ⟨e2, f2⟩ := flatsToV f.2 r2
    exact ⟨by rw [e1, e2]; rfl, by rw [List.all_cons, f1, f2]; rfl⟩
theorem inV_eq (x : D) (ys : List D) : inV (toV x) (ys.map toV) = inD x ys := by
  unfold inV inD
  rw [List.any_map]
  rfl
theorem op_eqDD (ok : Ok X G) (neg : Bool) : OpR X (compareOp (if neg then .NotEq else .Eq)) (lC2 G fun x y h P => eqD x y h fun k => P (if neg then !k else k)) := by
  intro pins s σ H x y v u Q I rx ry hq
  obtain ⟨dx, dy, h, P, r1, r2, rh, w, p⟩ := hq
  have fin : ∀ (a b : V) (k : Bool), x = a → y = b → scal a b = true → decide (a = b) = k → P (if neg then !k else k) → wpAny (model X.prog X.w) X.A (compareOp (if neg then .NotEq else .Eq) v u) (EP X pins σ Q) X.xe s := by
    intro a b k ea eb sc ek q
    subst ea eb
    cases neg with
    | true => exact op_ne pins s σ H x y v u Q I rx ry ⟨sc, by rw [ek]; exact p _ q⟩
    | false => exact op_eq pins s σ H x y v u Q I rx ry ⟨sc, by rw [ek]; exact p _ q⟩
  have deep : deepEq dx dy h (fun k => P (if neg then !k else k)) → wpAny (model X.prog X.w) X.A (compareOp (if neg then .NotEq else .Eq) v u) (EP X pins σ Q) X.xe s := by
    rintro ⟨t, t2, e1, e2, s1, s2, q⟩
    obtain ⟨as, a1, _⟩ := den_reads I ok rh e1 r1 rx
    obtain ⟨bs, b1, _⟩ := den_reads I ok rh e2 r2 ry
    have hu : X.A.units + 64 < cLine := by have := ok.hu; omega
    cases neg with
    | true => exact SeqAt.compareNe_shaped a1 b1 s1 s2 hu ⟨.bl _, H, I, rfl, p _ q⟩
    | false => exact SeqAt.compareEq_shaped a1 b1 s1 s2 hu ⟨.bl _, H, I, rfl, p _ q⟩
  cases dx with
  | int i => cases dy with
    | int j => exact fin _ _ _ r1.int_inv r2.int_inv rfl (by simp) w
    | _ => exact deep w
  | str i => cases dy with
    | str j => exact fin _ _ _ r1.str_inv r2.str_inv rfl (by simp) w
    | _ => exact deep w
  | non => cases dy with
    | non => exact fin _ _ _ r1.non_inv r2.non_inv rfl (by simp) w
    | _ => exact deep w
  | bl i => cases dy with
    | bl j => exact fin _ _ _ r1.bl_inv r2.bl_inv rfl (by simp) w
    | _ => exact deep w
  | ref i => cases dy with
    | ref j =>
      rcases w with w | ⟨xs, ys, e1, e2, hn, q⟩
      · exact deep w
      · obtain ⟨vs, g1, w1⟩ := (show ∃ vs, H i = some (.lst vs) ∧ RepVs G.K H xs vs from rh i _ e1)
        obtain ⟨us, g2, w2⟩ := (show ∃ vs, H j = some (.lst vs) ∧ RepVs G.K H ys vs from rh j _ e2)
        rw [r1.ref_inv] at rx
        rw [r2.ref_inv] at ry
        cases rx
        cases ry
        obtain ⟨its, v1, p1, _⟩ := I.list (.of g1)
        obtain ⟨its2, v2, p2, _⟩ := I.list (.of g2)
        have hs : (its.toArray.size != its2.toArray.size) = true := by
          have z1 := v1.length
          have z2 := v2.length
          rw [w1.length] at z1
          rw [w2.length] at z2
          refine bne_iff_ne.mpr ?_
          simp only [List.size_toArray]
          omega
        have hu : X.A.units < cLine := by have := ok.hu; omega
        cases neg with
        | true => exact SeqAt.RcNeAt.lists_lengths p1.isList p2.isList hs hu X.prog X.w X.xe _ ⟨.bl _, H, I, rfl, p _ q⟩
        | false => exact SeqAt.RcAt.lists_lengths p1.isList p2.isList hs hu X.prog X.w X.xe _ ⟨.bl _, H, I, rfl, p _ q⟩
    | _ => exact deep w
  | _ => cases dy <;> exact deep w
theorem op_eqAllD (ok : Ok X G) : OpR X (compareOp .Eq) (lC2 G (cop .Eq)) := op_eqDD ok false
theorem op_neAllD (ok : Ok X G) : OpR X (compareOp .NotEq) (lC2 G (cop .NotEq)) := op_eqDD ok true
theorem ordD {op : CmpOp} {g : Int → Int → Bool} (o : OpR X (compareOp op) (rI0 fun i j => .bl (g i j))) (hc : ∀ x y h P, cop op x y h P → ∃ i j, x = .int i ∧ y = .int j ∧ P (g i j)) : OpR X (compareOp op) (lC2 G (cop op)) := by
  refine OpR.imp o fun x y H Q ⟨dx, dy, h, P, r1, r2, rh, w, p⟩ => ?_
  obtain ⟨i, j, rfl, rfl, q⟩ := hc _ _ _ _ w
  rw [r1.int_inv, r2.int_inv]
  exact ⟨i, j, rfl, rfl, p _ q⟩
theorem op_isD : OpR X (compareOp .Is) (lC2 G (cop .Is)) := by
  refine OpR.imp (OpR.or op_isN op_isBl) fun x y H Q ⟨dx, dy, h, P, r1, r2, rh, w, p⟩ => ?_
  cases dy with
  | non =>
    rw [r2.non_inv]
    refine .inl ⟨rfl, ?_⟩
    cases dx with
    | non => rw [r1.non_inv]; exact p _ w
    | bl b => rw [r1.bl_inv]; exact p _ w
    | int b => rw [r1.int_inv]; exact p _ w
    | str b => rw [r1.str_inv]; exact p _ w
    | ref b => rw [r1.ref_inv]; exact p _ w
    | tup b => obtain ⟨a, vs, e, _⟩ := repV_tup.mp r1; rw [e]; exact p _ w
    | scr b => obtain ⟨a, vs, e, _⟩ := repV_scr.mp r1; rw [e]; exact p _ w
  | bl b => cases dx with
    | bl a => rw [r1.bl_inv, r2.bl_inv]; exact .inr ⟨a, b, rfl, rfl, p _ w⟩
    | _ => exact w.elim
  | _ => cases dx <;> exact w.elim
theorem op_isnotD : OpR X (compareOp .IsNot) (lC2 G (cop .IsNot)) := by
  refine OpR.imp (OpR.or op_notN op_notBl) fun x y H Q ⟨dx, dy, h, P, r1, r2, rh, w, p⟩ => ?_
  cases dy with
  | non =>
    rw [r2.non_inv]
    refine .inl ⟨rfl, ?_⟩
    cases dx with
    | non => rw [r1.non_inv]; exact p _ w
    | bl b => rw [r1.bl_inv]; exact p _ w
    | int b => rw [r1.int_inv]; exact p _ w
    | str b => rw [r1.str_inv]; exact p _ w
    | ref b => rw [r1.ref_inv]; exact p _ w
    | tup b => obtain ⟨a, vs, e, _⟩ := repV_tup.mp r1; rw [e]; exact p _ w
    | scr b => obtain ⟨a, vs, e, _⟩ := repV_scr.mp r1; rw [e]; exact p _ w
  | bl b => cases dx with
    | bl a => rw [r1.bl_inv, r2.bl_inv]; exact .inr ⟨a, b, rfl, rfl, p _ w⟩
    | _ => exact w.elim
  | _ => cases dx <;> exact w.elim
end

/-! ### dicts -/
section
variable {K : PySem.W.Frag} {H : Hp}
theorem RepF.look {k : Key} : ∀ {kvs : List (Key × D)} {ks : List (Key × V)}, RepF K H kvs ks → ∀ {d : D}, getK kvs k = some d → ∃ v, valV ks k = some v ∧ RepV K H d v
  | [], _, _, d, e => by simp [getK] at e
  | (k', x) :: r, ks, q, d, e => by
    obtain ⟨v, s, rfl, r1, r2⟩ := q
    unfold getK at e
    unfold valV
    rw [List.find?_cons] at e ⊢
    by_cases z : k' = k
    · rw [decide_eq_true z] at e ⊢
      simp only [Option.map_some, Option.some.injEq] at e ⊢
      subst e
      exact ⟨v, rfl, r1⟩
    · rw [decide_eq_false z] at e ⊢
      exact RepF.look r2 e
theorem RepF.lookN {k : Key} : ∀ {kvs : List (Key × D)} {ks : List (Key × V)}, RepF K H kvs ks → getK kvs k = none → valV ks k = none
  | [], _, q, e => by rw [show _ = [] from q] <;> rfl
  | (k', x) :: r, ks, q, e => by
    obtain ⟨v, s, rfl, r1, r2⟩ := q
    unfold getK at e
    unfold valV
    rw [List.find?_cons] at e ⊢
    by_cases z : k' = k
    · rw [decide_eq_true z] at e
      simp at e
    · rw [decide_eq_false z] at e ⊢
      exact RepF.lookN r2 e
theorem RepF.any {k : Key} : ∀ {kvs : List (Key × D)} {ks : List (Key × V)}, RepF K H kvs ks → (ks.any fun kv => decide (kv.1 = k)) = (kvs.any fun kv => decide (kv.1 = k))
  | [], _, q => by rw [show _ = [] from q] <;> rfl
  | (k', x) :: r, ks, q => by
    obtain ⟨v, s, rfl, r1, r2⟩ := q
    rw [List.any_cons, List.any_cons, RepF.any r2]
theorem RepF.snoc {κ : Type} {k : κ} {d : D} {v : V} (rv : RepV K H d v) : ∀ {kvs : List (κ × D)} {ks : List (κ × V)}, RepF K H kvs ks → RepF K H (kvs ++ [(k, d)]) (ks ++ [(k, v)])
  | [], _, q => by rw [show _ = [] from q]; exact ⟨v, [], rfl, rv, rfl⟩
  | (k', x) :: r, ks, q => by
    obtain ⟨u, s, rfl, r1, r2⟩ := q
    exact ⟨u, _, rfl, r1, RepF.snoc rv r2⟩
theorem RepF.mapPut {k : Key} {d : D} {v : V} (rv : RepV K H d v) : ∀ {kvs : List (Key × D)} {ks : List (Key × V)}, RepF K H kvs ks →
    RepF K H (kvs.map fun kv => if kv.1 = k then (kv.1, d) else kv) (ks.map fun kv => if kv.1 = k then (kv.1, v) else kv)
  | [], _, q => by rw [show _ = [] from q]; exact rfl
  | (k', x) :: r, ks, q => by
    obtain ⟨u, s, rfl, r1, r2⟩ := q
    rw [List.map_cons, List.map_cons]
    by_cases z : k' = k
    · rw [if_pos z, if_pos z]; exact ⟨v, _, rfl, rv, RepF.mapPut rv r2⟩
    · rw [if_neg z, if_neg z]; exact ⟨u, _, rfl, r1, RepF.mapPut rv r2⟩
theorem RepF.put {k : Key} {d : D} {v : V} {kvs : List (Key × D)} {ks : List (Key × V)} (q : RepF K H kvs ks) (rv : RepV K H d v) : RepF K H (putK kvs k d) (L2.putK ks k v) := by
  unfold putK L2.putK
  rw [q.any]
  by_cases z : (kvs.any fun kv => decide (kv.1 = k)) = true
  · rw [if_pos z, if_pos z]; exact q.mapPut rv
  · rw [if_neg z, if_neg z]; exact q.snoc rv
theorem keyD_rep {d : D} {k : Key} {v : V} (e : keyD d = some k) (r : RepV K H d v) : v = kV k := by
  cases d with
  | int i => rw [r.int_inv]; cases e; rfl
  | str i => rw [r.str_inv]; cases e; rfl
  | _ => cases e
end

section
variable {X : Cx} {G : Gr}
theorem in_dictR (hu : X.A.units + 1 < cLine) (neg : Bool) : OpR X (compareOp (if neg then .NotIn else .In)) (fun x y H Q => ∃ a o, y = .ref a ∧ DGet H a x o ∧ Q (.bl (if neg then !o.isSome else o.isSome)) H) := by
  intro pins s σ H x y v u Q I rx ry ⟨a, o, e, g, q⟩
  subst e
  cases ry
  cases neg with
  | true => exact d_notIn hu I g rx fun s3 I3 => ⟨.bl _, H, I3, rfl, q⟩
  | false => exact d_in hu I g rx fun s3 I3 => ⟨.bl _, H, I3, rfl, q⟩
theorem RepH.dct {h : MH} {H : Hp} (rh : RepH G h H) {a : Addr} {kvs : List (Key × D)} (e : h a = some (.dct kvs)) : ∃ ks, H a = some (.dK ks) ∧ RepF G.K H kvs ks := rh a _ e
theorem op_inDD (ok : Ok X G) (neg : Bool) : OpR X (compareOp (if neg then .NotIn else .In)) (lC2 G fun x y h P => inOp x y h fun k => P (if neg then !k else k)) := by
  have hu : X.A.units + 1 < cLine := by have := ok.hu; omega
  intro pins s σ H x y v u Q I rx ry hq
  obtain ⟨dx, dy, h, P, r1, r2, rh, w, p⟩ := hq
  have seq : ∀ (q : Addr) (ds : List D) (vs : List V), y = .ref q → (SqL X.K H q vs ∨ SqT X.K H q vs) → RepVs G.K H ds vs → flat dx = true → ds.all flat = true → P (if neg then !(inD dx ds) else inD dx ds) →
      wpAny (model X.prog X.w) X.A (compareOp (if neg then .NotIn else .In) v u) (EP X pins σ Q) X.xe s := by
    intro q ds vs ey sq rs f1 f2 z
    obtain ⟨e1, g1⟩ := flatToV f1 r1
    obtain ⟨e2, g2⟩ := flatsToV f2 rs
    have e3 : inV x vs = inD dx ds := by rw [e1, e2, inV_eq]
    cases neg with
    | true => exact op_notIn_seq pins s σ H x y v u Q I rx ry ⟨q, vs, ey, sq, g1, g2, by rw [e3]; exact p _ z⟩
    | false => exact op_in_seq pins s σ H x y v u Q I rx ry ⟨q, vs, ey, sq, g1, g2, by rw [e3]; exact p _ z⟩
  have tup : ∀ ys, dy = .tup ys → flat dx = true → ys.all flat = true → P (if neg then !(inD dx ys) else inD dx ys) →
      wpAny (model X.prog X.w) X.A (compareOp (if neg then .NotIn else .In) v u) (EP X pins σ Q) X.xe s := by
    intro ys e f1 f2 z
    subst e
    obtain ⟨a, vs, ea, sq, rs⟩ := repV_tup.mp r2
    exact seq a ys vs ea (.inr (by rw [ok.k]; exact sq)) rs f1 f2 z
  have ref : ∀ a, dy = .ref a → ((∃ ys, h a = some (.lst ys) ∧ flat dx = true ∧ ys.all flat = true ∧ P (if neg then !(inD dx ys) else inD dx ys)) ∨ (∃ kvs k, h a = some (.dct kvs) ∧ keyD dx = some k ∧ P (if neg then !(getK kvs k).isSome else (getK kvs k).isSome)) ∨ deepIn dx a h fun k => P (if neg then !k else k)) →
      wpAny (model X.prog X.w) X.A (compareOp (if neg then .NotIn else .In) v u) (EP X pins σ Q) X.xe s := by
    intro a e z
    subst e
    rcases z with ⟨ys, e1, f1, f2, z⟩ | ⟨kvs, k, e1, ek, z⟩ | ⟨t, us, e1, e2, s1, s2, z⟩
    · obtain ⟨vs, g, rs⟩ := rh.lst e1
      exact seq a ys vs r2.ref_inv (.inl (SqL.of g)) rs f1 f2 z
    · obtain ⟨ks, g, rk⟩ := rh.dct e1
      have ex := keyD_rep ek r1
      refine in_dictR hu neg pins s σ H x y v u Q I rx ry ⟨a, valV ks k, r2.ref_inv, by rw [ex]; exact DGet.k g, ?_⟩
      have es : (valV ks k).isSome = (getK kvs k).isSome := by
        cases q : getK kvs k with
        | none => rw [rk.lookN q] <;> rfl
        | some d => obtain ⟨v', q', _⟩ := rk.look q; rw [q'] <;> rfl
      rw [es]
      exact p _ z
    · obtain ⟨as, a1, _⟩ := den_reads I ok rh e1 r1 rx
      obtain ⟨bs, b1, _⟩ := den_reads I ok rh e2 r2 ry
      have hr := room_in_shaped (xs := us) s1 (by have := ok.hu; omega : X.A.units + 65 < cLine)
      cases neg with
      | true => exact SeqAt.notIn_list_reads b1 a1 (SeqAt.canLay_of_shaped s2) (SeqAt.canLay_of_shaped s1) hr ⟨.bl _, H, I, rfl, p _ z⟩
      | false => exact SeqAt.in_list_reads b1 a1 (SeqAt.canLay_of_shaped s2) (SeqAt.canLay_of_shaped s1) hr ⟨.bl _, H, I, rfl, p _ z⟩
  cases dy with
  | str b => cases dx with
    | str a =>
      cases neg with
      | true => exact op_notIn_str pins s σ H x y v u Q I rx ry ⟨a, b, r1.str_inv, r2.str_inv, p _ w⟩
      | false => exact op_in_str pins s σ H x y v u Q I rx ry ⟨a, b, r1.str_inv, r2.str_inv, p _ w⟩
    | _ => exact w.elim
  | tup ys => cases dx <;> exact tup ys rfl w.1 w.2.1 w.2.2
  | ref a => cases dx <;> exact ref a rfl w
  | _ => cases dx <;> exact w.elim
theorem op_cmpD (ok : Ok X G) (op : CmpOp) : OpR X (compareOp op) (lC2 G (cop op)) := by
  cases op with
  | Eq => exact op_eqAllD ok
  | NotEq => exact op_neAllD ok
  | Lt => exact ordD op_lt fun x y h P q => by cases x <;> cases y <;> first | exact ⟨_, _, rfl, rfl, q⟩ | exact (show False from q).elim
  | LtE => exact ordD op_le fun x y h P q => by cases x <;> cases y <;> first | exact ⟨_, _, rfl, rfl, q⟩ | exact (show False from q).elim
  | Gt => exact ordD op_gt fun x y h P q => by cases x <;> cases y <;> first | exact ⟨_, _, rfl, rfl, q⟩ | exact (show False from q).elim
  | GtE => exact ordD op_ge fun x y h P q => by cases x <;> cases y <;> first | exact ⟨_, _, rfl, rfl, q⟩ | exact (show False from q).elim
  | Is => exact op_isD
  | IsNot => exact op_isnotD
  | In => exact op_inDD ok false
  | NotIn => exact op_inDD ok true
/-- truth -/
theorem tru_of {h : MH} {H : Hp} (hK : X.K = G.K) {d : D} {v : V} {P : Bool → Prop} (r : RepV G.K H d v) (rh : RepH G h H) (q : tru d h P) : ∃ k, TruV X.K v H k ∧ P k := by
  cases d with
  | non => rw [r.non_inv]; exact ⟨_, rfl, q⟩
  | bl b => rw [r.bl_inv]; exact ⟨_, rfl, q⟩
  | int b => rw [r.int_inv]; exact ⟨_, rfl, q⟩
  | str b => rw [r.str_inv]; exact ⟨_, ⟨q.1, rfl⟩, q.2⟩
  | tup ds =>
    obtain ⟨a, vs, rfl, sq, rs⟩ := repV_tup.mp r
    exact ⟨_, .inr (.inl ⟨vs, by rw [hK]; exact sq, rfl⟩), by rw [rs.isEmpty]; exact q⟩
  | scr ds =>
    obtain ⟨a, vs, rfl, sq, rs⟩ := repV_scr.mp r
    exact ⟨_, .inl ⟨vs, by rw [hK]; exact sq.sq, rfl⟩, by rw [rs.isEmpty]; exact q⟩
  | ref a =>
    rw [r.ref_inv]
    obtain ⟨ds, e, q⟩ := q
    obtain ⟨vs, g, rs⟩ := rh.lst e
    exact ⟨_, .inl ⟨vs, SqL.of g, rfl⟩, by rw [rs.isEmpty]; exact q⟩
/-- x[i] -/
theorem atI_rep {K : PySem.W.Frag} {H : Hp} {ds : List D} {vs : List V} {i : Int} {d : D} (r : RepVs K H ds vs) (e : atI ds i = some d) : ∃ v, atI vs i = some v ∧ RepV K H d v := by
  unfold atI at e ⊢
  rw [r.length]
  cases q : ixN ds.length i with
  | none => rw [q] at e; cases e
  | some j =>
    rw [q] at e
    exact r.get e
theorem ixdR (hu : X.A.units + 1 < cLine) : IxR X (fun x y H Q => ∃ a v, x = .ref a ∧ DGet H a y (some v) ∧ Q v H) := by
  intro value slice pins s σ H x y v u Q I rx ry ⟨a, z, e, g, q⟩ hs
  subst e
  cases rx
  exact tail_any (dict_typeIs I g) PySem.F.slot_dict_getitem.lookup (d_getItem hu I g ry fun w' s3 I3 rw' => ⟨z, H, I3, rw', q⟩) hs
theorem IxR.imp {r r' : R2} (o : IxR X r) (i : ∀ x y H Q, r' x y H Q → r x y H Q) : IxR X r' := fun value slice pins s σ H x y v u Q I rx ry q => o value slice pins s σ H x y v u Q I rx ry (i _ _ _ _ q)
theorem ix_D (ok : Ok X G) : IxR X (lR2 G ixD) := by
  have hu : X.A.units + 1 < cLine := by have := ok.hu; omega
  refine IxR.imp (IxR.or ix_seq (ixdR hu)) fun x y H Q ⟨dx, dy, h, R, rx, ry, rh, w, p⟩ => ?_
  cases dx with
  | tup ds => cases dy with
    | int i =>
      obtain ⟨a, vs, rfl, sq, rs⟩ := repV_tup.mp rx
      obtain ⟨d, e, q⟩ := w
      obtain ⟨v, e', rv⟩ := atI_rep rs e
      exact .inl (.inr (.inl ⟨a, vs, i, v, rfl, ry.int_inv, by rw [ok.k]; exact sq, e', p.here rh q rv⟩))
    | _ => exact w.elim
  | scr ds => cases dy with
    | int i =>
      obtain ⟨a, vs, rfl, sq, rs⟩ := repV_scr.mp rx
      obtain ⟨d, e, q⟩ := w
      obtain ⟨v, e', rv⟩ := atI_rep rs e
      exact .inl (.inl ⟨a, vs, i, v, rfl, ry.int_inv, by rw [ok.k]; exact sq.sq, e', p.here rh q rv⟩)
    | _ => exact w.elim
  | str z => cases dy with
    | int i =>
      obtain ⟨f, c, e, q⟩ := w
      exact .inl (.inr (.inr ⟨z, i, c, rx.str_inv, ry.int_inv, f, e, p.here rh q repV_str⟩))
    | _ => exact w.elim
  | ref a =>
    rcases w with ⟨ds, i, d, rfl, e1, e, q⟩ | ⟨kvs, k, d, ek, e1, e, q⟩
    · obtain ⟨vs, g, rs⟩ := rh.lst e1
      obtain ⟨v, e', rv⟩ := atI_rep rs e
      exact .inl (.inl ⟨a, vs, i, v, rx.ref_inv, ry.int_inv, SqL.of g, e', p.here rh q rv⟩)
    · obtain ⟨ks, g, rk⟩ := rh.dct e1
      obtain ⟨v, e', rv⟩ := rk.look e
      refine .inr ⟨a, v, rx.ref_inv, ?_, p.here rh q rv⟩
      rw [keyD_rep ek ry, ← e']
      exact DGet.k g
  | _ => cases dy <;> exact w.elim
/-- slices -/
theorem SlR.imp {r r' : V → Option Int → Option Int → Hp → VK → Prop} (o : SlR X r) (i : ∀ x lo hi H Q, r' x lo hi H Q → r x lo hi H Q) : SlR X r' := fun pins s σ H x v vl vu lo hi sl Q I rx hs pl pu q => o pins s σ H x v vl vu lo hi sl Q I rx hs pl pu (i _ _ _ _ _ q)
theorem RepVs.cut {K : PySem.W.Frag} {H : Hp} {ds : List D} {vs : List V} (r : RepVs K H ds vs) (lo hi : Option Int) : RepVs K H (cut ds lo hi) (cutV vs lo hi) := by
  unfold DL.cut cutV
  rw [r.length]
  exact (r.drop _).take _
theorem cut_whole {α : Type} {xs : List α} {lo hi : Option Int} (e : HT.sIx xs.length 0 lo = 0 ∧ HT.sIx xs.length xs.length hi = xs.length) : cut xs lo hi = xs := by
  unfold cut
  rw [e.1, e.2]
  simp
theorem sl_D (hK : X.K = G.K) : SlR X (lSl G) := by
  refine SlR.imp (SlR.or sl_tupA (SlR.or sl_list L2.sl_str)) fun x lo hi H Q ⟨dx, h, R, rx, rh, w, p⟩ => ?_
  cases dx with
  | tup ds =>
    obtain ⟨a, vs, rfl, sq, rs⟩ := repV_tup.mp rx
    refine .inl ⟨a, vs, rfl, by rw [hK]; exact sq, fun e => ?_, fun _ l n => p.tup rh w (rs.cut lo hi) n⟩
    rw [rs.length] at e
    have w' : R (.tup (cut ds lo hi)) h := w
    rw [cut_whole e] at w'
    exact p.here rh w' rx
  | scr ds =>
    obtain ⟨a, vs, rfl, sq, rs⟩ := repV_scr.mp rx
    exact .inr (.inl ⟨a, vs, rfl, by rw [hK]; exact sq.sq, fun l n => p.new rh w (rs.cut lo hi) n⟩)
  | ref a =>
    obtain ⟨ds, e, q⟩ := w
    obtain ⟨vs, g, rs⟩ := rh.lst e
    exact .inr (.inl ⟨a, vs, rx.ref_inv, SqL.of g, fun l n => p.new rh q (rs.cut lo hi) n⟩)
  | str z =>
    have e : cutS z lo hi = ⟨(cut z.cps.toList lo hi).toArray⟩ := by
      unfold cutS DL.cut
      rw [show z.cps.toList.length = z.length from by simp [Str.length]]
    exact .inr (.inr ⟨z, rx.str_inv, w.1, by rw [e]; exact p.here rh w.2 repV_str⟩)
  | _ => exact w.elim
/-- x[i] = v -/
theorem set_D (ok : Ok X G) : PSet X (lSet G) := by
  have hu : X.A.units + 1 < cLine := by have := ok.hu; omega
  intro pins s σ H o i v ov iv u Q I ro ri rv ⟨d1, d2, d3, h, P, r1, r2, r3, rh, w, p⟩
  cases d1 with
  | ref a =>
    rcases w with ⟨ds, k, j, rfl, e, z, q⟩ | ⟨kvs, k, ek, e, hz, q⟩
    · obtain ⟨vs, g, rs⟩ := rh.lst e
      refine set_list pins s σ H o i v ov iv u Q I ro ri rv ⟨a, vs, k, j, r1.ref_inv, r2.int_inv, g, by rw [rs.length]; exact z, p _ _ q (rh.wrLst e (rs.set r3 j)) (Fm.write e)⟩
    · obtain ⟨ks, g, rk⟩ := rh.dct e
      refine set_dict hu pins s σ H o i v ov iv u Q I ro ri rv ⟨a, _, r1.ref_inv, by rw [keyD_rep ek r2]; exact DPut.k g (by rw [rk.length]; exact hz), ?_⟩
      exact p _ _ q (rh.write g trivial ⟨_, upd_same, (rk.put r3).mono (pst_wr g trivial)⟩) (Fm.write e)
  | _ => exact w.elim
end
end DL
set_option Elab.async false
set_option linter.all false
set_option maxRecDepth 100000
set_option maxHeartbeats 1000000
/-! The D layer, 5: built-in functions and methods. -/
namespace DL
open PySem PySem.Spec PyProof.Rows L2

section
variable {K : PySem.W.Frag} {H : Hp}
theorem intsOf_rep : ∀ {ds : List D} {ns : List Int} {vs : List V}, intsOf ds = some ns → RepVs K H ds vs → vs = ns.map V.int
  | [], ns, vs, e, r => by cases e; rw [r.nil_inv] <;> rfl
  | d :: ds, ns, vs, e, r => by
    obtain ⟨v, vr, rfl, r1, r2⟩ := r.cons_inv
    cases d with
    | int i =>
      unfold intsOf at e
      obtain ⟨ms, e1, rfl⟩ := Option.map_eq_some_iff.mp e
      rw [r1.int_inv, intsOf_rep e1 r2] <;> rfl
    | _ => cases e
theorem blsOf_rep : ∀ {ds : List D} {ns : List Bool} {vs : List V}, blsOf ds = some ns → RepVs K H ds vs → vs = ns.map V.bl
  | [], ns, vs, e, r => by cases e; rw [r.nil_inv] <;> rfl
  | d :: ds, ns, vs, e, r => by
    obtain ⟨v, vr, rfl, r1, r2⟩ := r.cons_inv
    cases d with
    | bl i =>
      unfold blsOf at e
      obtain ⟨ms, e1, rfl⟩ := Option.map_eq_some_iff.mp e
      rw [r1.bl_inv, blsOf_rep e1 r2] <;> rfl
    | _ => cases e
theorem strsOf_rep : ∀ {ds : List D} {ns : List Str} {vs : List V}, strsOf ds = some ns → RepVs K H ds vs → vs = ns.map V.str
  | [], ns, vs, e, r => by cases e; rw [r.nil_inv] <;> rfl
  | d :: ds, ns, vs, e, r => by
    obtain ⟨v, vr, rfl, r1, r2⟩ := r.cons_inv
    cases d with
    | str i =>
      unfold strsOf at e
      obtain ⟨ms, e1, rfl⟩ := Option.map_eq_some_iff.mp e
      rw [r1.str_inv, strsOf_rep e1 r2] <;> rfl
    | _ => cases e
theorem repVs_strs : ∀ ts : List Str, RepVs K H (ts.map D.str) (ts.map V.str)
  | [] => repVs_nil
  | t :: ts => repVs_cons repV_str (repVs_strs ts)
theorem repVs_signs : ∀ l : List Nat, RepVs K H (l.map fun c => D.str ⟨#[c]⟩) (l.map fun c => V.str ⟨#[c]⟩)
  | [] => repVs_nil
  | c :: l => repVs_cons repV_str (repVs_signs l)
theorem RepVs.one {d : D} {vs : List V} (r : RepVs K H [d] vs) : ∃ v, vs = [v] ∧ RepV K H d v := by
  obtain ⟨v, s, rfl, r1, r2⟩ := r.cons_inv
  rw [r2.nil_inv]
  exact ⟨v, rfl, r1⟩
theorem RepVs.two {d e : D} {vs : List V} (r : RepVs K H [d, e] vs) : ∃ v u, vs = [v, u] ∧ RepV K H d v ∧ RepV K H e u := by
  obtain ⟨v, s, rfl, r1, r2⟩ := r.cons_inv
  obtain ⟨u, rfl, r3⟩ := r2.one
  exact ⟨v, u, rfl, r1, r3⟩
mutual
theorem imm_den {h : MH} : ∀ {d : D}, imm d = true → Den h d (toP d)
  | .non, _ => .non
  | .bl b, _ => .bl b
  | .int b, _ => .int b
  | .str b, _ => .str b
  | .tup ds, e => .tup (imms_len ds) (imms_den (by simpa only [imm] using e))
  | .ref _, e => by simp [imm] at e
  | .scr _, e => by simp [imm] at e
theorem imms_len : ∀ ds : List D, (toPs ds).length = ds.length
  | [] => rfl
  | d :: ds => by simp only [toPs, List.length_cons, imms_len ds]
theorem imms_den {h : MH} : ∀ {ds : List D}, imms ds = true → ∀ (i : Nat) d t, ds[i]? = some d → (toPs ds)[i]? = some t → Den h d t
  | [], _, i, d, t, e1, _ => by simp at e1
  | x :: ds, e, 0, d, t, e1, e2 => by
    simp only [imms, Bool.and_eq_true] at e
    simp [toPs] at e1 e2
    subst e1 e2
    exact imm_den e.1
  | x :: ds, e, i + 1, d, t, e1, e2 => by
    simp only [imms, Bool.and_eq_true] at e
    exact imms_den e.2 i d t (by simpa using e1) (by simpa [toPs] using e2)
end
theorem toPs_map : ∀ ds : List D, toPs ds = ds.map toP
  | [] => rfl
  | d :: ds => by simp only [toPs, List.map_cons, toPs_map ds]
theorem imms_mem : ∀ {ds : List D}, imms ds = true → ∀ d, d ∈ ds → imm d = true
  | [], _, d, m => by simp at m
  | x :: ds, e, d, m => by
    simp only [imms, Bool.and_eq_true] at e
    rcases List.mem_cons.mp m with z | z
    · rw [z]; exact e.1
    · exact imms_mem e.2 d z
end

section
variable {X : Cx} {G : Gr}
theorem CallR.imp {f : Value} {r r' : List V → Hp → VK → Prop} (o : CallR X f r) (i : ∀ xs H Q, r' xs H Q → r xs H Q) : CallR X f r' := fun pins s σ H xs us Q I rs q => o pins s σ H xs us Q I rs (i _ _ _ q)
theorem itemsOf_rep {h : MH} {H : Hp} (rh : RepH G h H) {d : D} {v : V} {P : List D → Prop} (r : RepV G.K H d v) (w : itemsOf d h P) :
    ∃ a ds vs, v = .ref a ∧ RepVs G.K H ds vs ∧ P ds ∧ (SqL G.K H a vs ∨ (SqT G.K H a vs ∧ d = .tup ds)) := by
  cases d with
  | tup ds => obtain ⟨a, vs, e, sq, rs⟩ := repV_tup.mp r; exact ⟨a, ds, vs, e, rs, w, .inr ⟨sq, rfl⟩⟩
  | scr ds => obtain ⟨a, vs, e, sq, rs⟩ := repV_scr.mp r; exact ⟨a, ds, vs, e, rs, w, .inl sq.sq⟩
  | ref a =>
    obtain ⟨ds, e, q⟩ := w
    obtain ⟨vs, g, rs⟩ := rh.lst e
    exact ⟨a, ds, vs, r.ref_inv, rs, q, .inl (SqL.of g)⟩
  | _ => exact w.elim
/-- where a built-in function stands -/
def biV : Bi → Value
  | .len => .builtin "len" | .abs => .builtin "abs" | .max => .builtin "max" | .min => .builtin "min" | .sum => .builtin "sum" | .all => .builtin "all" | .any => .builtin "any"
  | .sorted => .builtin "sorted" | .list => .type "list" | .tuple => .type "tuple" | .str => .type "str" | .int => .type "int" | .repr => .builtin "repr"
theorem bi_len (hK : X.K = G.K) : CallR X (biV .len) (lBi G (bi .len)) := by
  refine CallR.imp (CallR.or call_len_str call_len_seq) fun xs H Q ⟨ds, h, R, rs, rh, w, p⟩ => ?_
  cases ds with
  | nil => exact w.elim
  | cons x r =>
    cases r with
    | cons _ _ => cases x <;> exact w.elim
    | nil =>
      obtain ⟨v, rfl, rv⟩ := rs.one
      have seq : itemsOf x h (fun ds => R (.int ds.length) h) → (∃ z, [v] = [V.str z] ∧ z.length ≤ sizeLine ∧ Q (.int z.length) H) ∨ ∃ p ys, [v] = [V.ref p] ∧ (SqL X.K H p ys ∨ SqT X.K H p ys) ∧ Q (.int ys.length) H := by
        intro w
        obtain ⟨a, ds, vs, rfl, r2, q, z⟩ := itemsOf_rep rh rv w
        refine .inr ⟨a, vs, rfl, by rw [hK]; exact z.imp id (·.1), ?_⟩
        rw [r2.length]
        exact p.here rh q repV_int
      cases x with
      | str z => exact .inl ⟨z, by rw [rv.str_inv], w.1, p.here rh w.2 repV_int⟩
      | _ => exact seq w
theorem bi_abs : CallR X (biV .abs) (lBi G (bi .abs)) := by
  refine CallR.imp call_abs fun xs H Q ⟨ds, h, R, rs, rh, w, p⟩ => ?_
  unfold bi at w
  split at w <;> first | contradiction | skip
  obtain ⟨v, rfl, rv⟩ := rs.one
  exact ⟨_, by rw [rv.int_inv], p.here rh w repV_int⟩
theorem bi_max (hc : X.calm = true) : CallR X (biV .max) (lBi G (bi .max)) := by
  refine CallR.imp (call_max2 hc) fun xs H Q ⟨ds, h, R, rs, rh, w, p⟩ => ?_
  unfold bi at w
  split at w <;> first | contradiction | skip
  obtain ⟨v, u, rfl, rv, ru⟩ := rs.two
  exact ⟨_, _, by rw [rv.int_inv, ru.int_inv], p.here rh w repV_int⟩
theorem bi_min (hc : X.calm = true) : CallR X (biV .min) (lBi G (bi .min)) := by
  refine CallR.imp (call_min2 hc) fun xs H Q ⟨ds, h, R, rs, rh, w, p⟩ => ?_
  unfold bi at w
  split at w <;> first | contradiction | skip
  obtain ⟨v, u, rfl, rv, ru⟩ := rs.two
  exact ⟨_, _, by rw [rv.int_inv, ru.int_inv], p.here rh w repV_int⟩
theorem bi_sum (hc : X.calm = true) : CallR X (biV .sum) (lBi G (bi .sum)) := by
  refine CallR.imp (cr_sum hc) fun xs H Q ⟨ds, h, R, rs, rh, w, p⟩ => ?_
  unfold bi at w
  split at w <;> first | contradiction | skip
  obtain ⟨v, rfl, rv⟩ := rs.one
  obtain ⟨es, ns, e, en, q⟩ := w
  obtain ⟨vs, g, rg⟩ := rh.lst e
  exact ⟨_, ns, by rw [rv.ref_inv], SqL.of (by rw [g, intsOf_rep en rg]), p.here rh q repV_int⟩
theorem bi_all (hc : X.calm = true) : CallR X (biV .all) (lBi G (bi .all)) := by
  refine CallR.imp (cr_all hc) fun xs H Q ⟨ds, h, R, rs, rh, w, p⟩ => ?_
  unfold bi at w
  split at w <;> first | contradiction | skip
  obtain ⟨v, rfl, rv⟩ := rs.one
  obtain ⟨es, ns, e, en, q⟩ := w
  obtain ⟨vs, g, rg⟩ := rh.lst e
  exact ⟨_, ns, by rw [rv.ref_inv], SqL.of (by rw [g, blsOf_rep en rg]), p.here rh q repV_bl⟩
theorem bi_any (hc : X.calm = true) : CallR X (biV .any) (lBi G (bi .any)) := by
  refine CallR.imp (cr_any hc) fun xs H Q ⟨ds, h, R, rs, rh, w, p⟩ => ?_
  unfold bi at w
  split at w <;> first | contradiction | skip
  obtain ⟨v, rfl, rv⟩ := rs.one
  obtain ⟨es, ns, e, en, q⟩ := w
  obtain ⟨vs, g, rg⟩ := rh.lst e
  exact ⟨_, ns, by rw [rv.ref_inv], SqL.of (by rw [g, blsOf_rep en rg]), p.here rh q repV_bl⟩
theorem call_list_strS (hc : X.calm = true) : CallR X (.type "list") (fun xs H Q => ∃ z : Str, xs = [.str z] ∧ z.length ≤ sizeLine ∧ ∀ l, H l = none → Q (.ref l) (upd H l (.lst (z.cps.toList.map fun c => V.str ⟨#[c]⟩)))) := by
  intro pins s σ H xs us Q I r h
  obtain ⟨z, e, hz, q⟩ := h
  subst e
  obtain ⟨u, eu, rx⟩ := vals1 r
  subst eu
  obtain ⟨t, rfl⟩ := rx
  refine call_list_str (I.ok.hd hc) z _ (hn := hz) fun h' tk acc' c' hkeep hS hacc => ?_
  refine ⟨.ref s.heap.objs.size, upd H s.heap.objs.size (.lst (z.cps.toList.map fun c => V.str ⟨#[c]⟩)), I.laid hkeep (Nat.le_refl _) (show ObjOk X.prog X.w _ _ _ (.lst (z.cps.toList.map fun c => V.str ⟨#[c]⟩)) from ⟨?_, acc'.toList, c', ?_, ?_⟩), rfl, q _ (I.hok.fresh (Nat.le_refl _))⟩
  · simpa [Str.length] using hz
  · refine vals_of_at (by simp [hacc.1]) fun j x w h1 h2 => ?_
    obtain ⟨c, u, hc, rfl⟩ := hacc.2 j w (by rw [← Array.getElem?_toList]; exact h2)
    rw [List.getElem?_map, Array.getElem?_toList, hc] at h1
    cases h1
    exact ⟨_, rfl⟩
  · rw [Array.toArray_toList]; exact hS
theorem bi_list (hK : X.K = G.K) (hc : X.calm = true) : CallR X (biV .list) (lBi G (bi .list)) := by
  refine CallR.imp (CallR.or (call_list_strS hc) call_list_of) fun xs H Q ⟨ds, h, R, rs, rh, w, p⟩ => ?_
  unfold bi at w
  split at w <;> first | contradiction | skip
  · obtain ⟨v, rfl, rv⟩ := rs.one
    exact .inl ⟨_, by rw [rv.str_inv], w.1, fun l n => p.new rh w.2 (repVs_signs _) n⟩
  · obtain ⟨v, rfl, rv⟩ := rs.one
    obtain ⟨a, es, vs, rfl, r2, q, z⟩ := itemsOf_rep rh rv w
    exact .inr ⟨a, vs, rfl, by rw [hK]; exact z.imp id (·.1), fun l n => p.new rh q r2 n⟩
theorem bi_tuple (hK : X.K = G.K) : CallR X (biV .tuple) (lBi G (bi .tuple)) := by
  refine CallR.imp call_tuple_of fun xs H Q ⟨ds, h, R, rs, rh, w, p⟩ => ?_
  unfold bi at w
  split at w <;> first | contradiction | skip
  obtain ⟨v, rfl, rv⟩ := rs.one
  obtain ⟨a, es, vs, rfl, r2, q, z⟩ := itemsOf_rep rh rv w
  refine ⟨a, vs, rfl, ?_⟩
  rcases z with z | ⟨z, rfl⟩
  · exact .inl ⟨by rw [hK]; exact z, fun l n => p.tup rh q r2 n⟩
  · exact .inr ⟨by rw [hK]; exact z, p.here rh q rv⟩
theorem bi_int : CallR X (biV .int) (lBi G (bi .int)) := by
  refine CallR.imp (CallR.or call_int1 call_int_str) fun xs H Q ⟨ds, h, R, rs, rh, w, p⟩ => ?_
  unfold bi at w
  split at w <;> first | contradiction | skip
  · obtain ⟨v, rfl, rv⟩ := rs.one
    exact .inl (.inl ⟨_, by rw [rv.int_inv], p.here rh w repV_int⟩)
  · obtain ⟨v, rfl, rv⟩ := rs.one
    exact .inl (.inr ⟨_, by rw [rv.bl_inv], p.here rh w repV_int⟩)
  · obtain ⟨v, rfl, rv⟩ := rs.one
    obtain ⟨n, e, hz, q⟩ := w
    exact .inr ⟨_, n, by rw [rv.str_inv], e, hz, p.here rh q repV_int⟩
theorem bi_str : CallR X (biV .str) (lBi G (bi .str)) := by
  refine CallR.imp (CallR.or call_str_int SkE.call_str_str) fun xs H Q ⟨ds, h, R, rs, rh, w, p⟩ => ?_
  unfold bi at w
  split at w <;> first | contradiction | skip
  · obtain ⟨v, rfl, rv⟩ := rs.one
    exact .inl ⟨_, by rw [rv.int_inv], w.1, p.here rh w.2 repV_str⟩
  · obtain ⟨v, rfl, rv⟩ := rs.one
    exact .inr ⟨_, by rw [rv.str_inv], p.here rh w repV_str⟩
theorem bi_repr (ok : Ok X G) : CallR X (biV .repr) (lBi G (bi .repr)) := by
  intro pins s σ H xs us Q I r ⟨ds, h, R, rs, rh, w, p⟩
  unfold bi at w
  split at w <;> first | contradiction | skip
  rename_i x _
  obtain ⟨v, rfl, rv⟩ := rs.one
  obtain ⟨u, rfl, ru⟩ := vals1 r
  obtain ⟨t, de, sh, fz, dp, q⟩ := w
  obtain ⟨as, rd, ns⟩ := den_reads I ok rh de rv ru
  have fin : ∀ (h' : Heap) (tk t' : Nat), (∀ b o, s.heap.get? b = some o → h'.get? b = some o) → EP X pins σ Q (.str t.shown t') { s with heap := h', toks := tk } := fun h' tk t' k =>
    ⟨.str t.shown, H, I.kept k, ⟨_, rfl⟩, p.here rh q repV_str⟩
  cases de with
  | non => cases rd; exact PySem.P.repr_of_none (fin _ _ _ fun _ _ z => z)
  | bl b =>
    cases rd
    refine PySem.P.repr_of_bool ?_
    cases b <;> exact fin _ _ _ fun _ _ z => z
  | int i =>
    cases rd
    exact PySem.P.repr_of_int (by simpa [PyData.showable] using sh) (fin _ _ _ fun _ _ z => z)
  | str z =>
    cases rd
    exact PySem.P.repr_of_str (fin _ _ _ fun _ _ z => z) fz
  | _ =>
    have hu := ok.hu
    have hr : ∃ a, u = .ref a := by cases rd <;> exact ⟨_, rfl⟩
    obtain ⟨a, rfl⟩ := hr
    exact PySem.repr_of_reads' rd sh (fun _ => ns) ok.gd (by omega) (fun _ _ z => z) (fun h' u tk k => fin h' tk u k) fz
theorem each_of : ∀ {K : PySem.W.Frag} {H : Hp} {ds : List D} {vs : List V} {us : List Value}, RepVs K H ds vs → Vals vs us → PySem.W.EachIs (fun u d => ∃ v, RelV v u ∧ RepV K H d v) us ds
  | _, _, [], vs, us, r, q => by rw [r.nil_inv] at q; cases q; exact .nil
  | _, _, d :: ds, vs, us, r, q => by
    obtain ⟨v, vr, rfl, r1, r2⟩ := r.cons_inv
    cases q with
    | cons q1 q2 => exact .cons ⟨v, q1, r1⟩ (each_of r2 q2)
theorem of_each : ∀ {K : PySem.W.Frag} {H : Hp} {ds : List D} {us : List Value}, PySem.W.EachIs (fun u d => ∃ v, RelV v u ∧ RepV K H d v) us ds → ∃ vs, RepVs K H ds vs ∧ Vals vs us
  | _, _, [], us, r => by cases r; exact ⟨[], repVs_nil, .nil⟩
  | _, _, d :: ds, us, r => by
    cases r with
    | cons q1 q2 =>
      obtain ⟨v, a, b⟩ := q1
      obtain ⟨vs, c, e⟩ := of_each q2
      exact ⟨v :: vs, repVs_cons b c, .cons a e⟩
theorem each_reads {pins : List (Addr × Obj)} {σ : L2.St} {H : Hp} {h : MH} {s : Shared} (I : Inv X pins σ H s) (ok : Ok X G) (rh : RepH G h H) : ∀ {ds : List D} {vs : List V} {us : List Value}, imms ds = true → RepVs G.K H ds vs → Vals vs us →
    PySem.W.EachIs (fun u d => ∃ as, Reads s.heap u (toP d) as) us ds
  | [], vs, us, _, r, q => by rw [r.nil_inv] at q; cases q; exact .nil
  | d :: ds, vs, us, m, r, q => by
    obtain ⟨v, vr, rfl, r1, r2⟩ := r.cons_inv
    simp only [imms, Bool.and_eq_true] at m
    cases q with
    | cons q1 q2 =>
      obtain ⟨as, a, _⟩ := den_reads I ok rh (imm_den m.1) r1 q1
      exact .cons ⟨as, a⟩ (each_reads I ok rh m.2 r2 q2)
theorem bi_sorted (ok : Ok X G) : CallR X (biV .sorted) (lBi G (bi .sorted)) := by
  intro pins s σ H xs us Q I r ⟨ds, h, R, rs, rh, w, p⟩
  unfold bi at w
  split at w <;> first | contradiction | skip
  obtain ⟨v, rfl, rv⟩ := rs.one
  rw [rv.ref_inv] at r
  obtain ⟨es, e, im, al1, so, dp, q⟩ := w
  obtain ⟨vs, g, rg⟩ := rh.lst e
  obtain ⟨z, its, n, rt, ho⟩ := I.hok _ _ g
  have hl : s.heap.IsList _ its.toArray := ⟨_, ho, rfl, n, rfl⟩
  rw [Vals.ref1 r]
  have hu := ok.hu
  refine PySem.W.sorted_data (bs := es) (enc := toP) hl (each_of rg rt) (each_reads I ok rh im rg rt) al1 so (by rw [← rg.length]; exact z) (fun b m => by have := dp b m; omega) fun out ho2 eo => ?_
  obtain ⟨ws, a, b⟩ := of_each eo
  obtain ⟨ep, he'⟩ := PyProof.Rows.sortedAll_at s.heap its out.toArray
  have hlen : ws.length ≤ sizeLine := by rw [a.length, List.length_mergeSort, ← rg.length]; exact z
  have hn := I.hok.fresh (a := s.heap.objs.size + 1) (Nat.le_succ _)
  exact ⟨.ref _, L2.upd H (s.heap.objs.size + 1) (.lst ws), I.laid (t' := s.toks) (fun _ _ => PyProof.Rows.sortedAll_old) (Nat.le_succ _) ⟨hlen, out, ep, b, he'⟩, rfl, p.new rh q a hn⟩
theorem bi_D (ok : Ok X G) (hc : X.calm = true) (b : Bi) : CallR X (biV b) (lBi G (bi b)) := by
  cases b with
  | len => exact bi_len ok.k
  | abs => exact bi_abs
  | max => exact bi_max hc
  | min => exact bi_min hc
  | sum => exact bi_sum hc
  | all => exact bi_all hc
  | any => exact bi_any hc
  | sorted => exact bi_sorted ok
  | list => exact bi_list ok.k hc
  | tuple => exact bi_tuple ok.k
  | str => exact bi_str
  | int => exact bi_int
  | repr => exact bi_repr ok

/-! ### methods -/
def mtT : Mt → String
  | .append | .extend | .pop | .index | .insert | .reverse => "list"
  | .get => "dict"
  | .join | .split | .startswith | .partition => "str"
def mtId : Mt → String
  | .append => "list.append" | .extend => "list.extend" | .pop => "list.pop" | .index => "list.index" | .insert => "list.insert" | .reverse => "list.reverse"
  | .get => "dict.get" | .join => "str.join" | .split => "str.split" | .startswith => "str.startswith" | .partition => "str.partition"
theorem MtR.imp {id : String} {r r' : V → List V → Hp → VK → Prop} (o : MtR X id r) (i : ∀ x xs H Q, r' x xs H Q → r x xs H Q) : MtR X id r' := fun pins s σ H x xs v us Q I rx rs q => o pins s σ H x xs v us Q I rx rs (i _ _ _ _ q)
theorem mt_dget (hu : X.A.units + 1 < cLine) : MtR X "dict.get" (fun x xs H Q => ∃ a y z o, x = .ref a ∧ xs = [y, z] ∧ DGet H a y o ∧ Q (o.getD z) H) := by
  intro pins s σ H x xs v us Q I rx rs ⟨a, y, z, o, e1, e2, g, q⟩
  subst e1 e2
  cases rx
  cases rs with
  | cons r1 rs => cases rs with
    | cons r2 rs =>
      cases rs
      exact d_get2 hu I g r1 r2 fun w' s4 I4 rw' => ⟨_, H, I4, rw', q⟩
theorem met_tyV {H : Hp} {h : MH} (rh : RepH G h H) {m : Mt} {d : D} {v : V} (r : RepV G.K H d v) (t : mtTy m d h) : tyV X.K (mtT m) v H := by
  have li : (∃ a xs, d = .ref a ∧ h a = some (.lst xs)) → tyV X.K "list" v H := by
    rintro ⟨a, xs, rfl, e⟩
    obtain ⟨vs, g, _⟩ := rh.lst e
    rw [r.ref_inv]
    exact .inl ⟨rfl, vs, SqL.of g⟩
  cases m <;> unfold mtTy at t <;> cases d <;> first
    | exact t.elim
    | (obtain ⟨xs, e⟩ := t; exact li ⟨_, _, rfl, e⟩)
    | (obtain ⟨xs, e⟩ := t; obtain ⟨ks, g, _⟩ := rh.dct e; rw [r.ref_inv]; exact .inr (.inr (.inl ⟨rfl, .inl ⟨ks, g⟩⟩)))
    | (rw [r.str_inv]; rfl)
theorem ixN_bounds {n : Nat} {i : Int} {k : Nat} (e : ixN n i = some k) (hn : n < 2 ^ 62) : -(2 ^ 63) ≤ i ∧ i < 2 ^ 63 ∧ seqIndex? i n = some k := by
  obtain ⟨h1, h2, h3, h4⟩ := ixN_seq e
  exact ⟨by omega, by omega, h1⟩
theorem mt_append' : MtR X "list.append" (lMt G (met .append)) := by
  refine MtR.imp (show MtR X "list.append" rAppend from mt_append) fun x xs H Q ⟨d, ds, h, R, rx, rs, rh, w, p⟩ => ?_
  unfold met at w
  split at w <;> first | contradiction | skip
  obtain ⟨es, e, z, q⟩ := w
  obtain ⟨vs, g, rg⟩ := rh.lst e
  obtain ⟨y, rfl, ry⟩ := rs.one
  exact ⟨_, vs, y, rx.ref_inv, rfl, g, by rw [rg.length]; exact z, p.wr rh e q (rg.append (repVs_cons ry repVs_nil)) repV_non⟩
theorem mt_extend' : MtR X "list.extend" (lMt G (met .extend)) := by
  refine MtR.imp (show MtR X "list.extend" rExtend from mt_extend) fun x xs H Q ⟨d, ds, h, R, rx, rs, rh, w, p⟩ => ?_
  unfold met at w
  split at w <;> first | contradiction | skip
  obtain ⟨es, fs, e, e2, z, q⟩ := w
  obtain ⟨vs, g, rg⟩ := rh.lst e
  obtain ⟨us, g2, rg2⟩ := rh.lst e2
  obtain ⟨y, rfl, ry⟩ := rs.one
  exact ⟨_, _, vs, us, rx.ref_inv, by rw [ry.ref_inv], g, g2, by rw [rg.length, rg2.length]; exact z, p.wr rh e q (rg.append rg2) repV_non⟩
theorem mt_pop' : MtR X "list.pop" (lMt G (met .pop)) := by
  refine MtR.imp (MtR.or (show MtR X "list.pop" rPop from mt_pop) (show MtR X "list.pop" rPopAt from mt_popAt)) fun x xs H Q ⟨d, ds, h, R, rx, rs, rh, w, p⟩ => ?_
  unfold met at w
  split at w <;> first | contradiction | skip
  · obtain ⟨es, y, e, z, q⟩ := w
    obtain ⟨vs, g, rg⟩ := rh.lst e
    obtain ⟨v, ev, rv⟩ := rg.get z
    exact .inl ⟨_, vs, v, rx.ref_inv, rs.nil_inv, g, by rw [rg.length]; exact ev, p.wr rh e q rg.dropLast rv⟩
  · obtain ⟨es, k, y, e, ek, z, hn, q⟩ := w
    obtain ⟨vs, g, rg⟩ := rh.lst e
    obtain ⟨v, ev, rv⟩ := rg.get z
    obtain ⟨u, rfl, ru⟩ := rs.one
    obtain ⟨b1, b2, b3⟩ := ixN_bounds ek hn
    exact .inr ⟨_, vs, _, k, v, rx.ref_inv, by rw [ru.int_inv], g, b1, b2, by rw [rg.length]; exact b3, ev, p.wr rh e q (rg.eraseIdx k) rv⟩
theorem mt_reverse' : MtR X "list.reverse" (lMt G (met .reverse)) := by
  refine MtR.imp (show MtR X "list.reverse" rReverse from mt_reverse) fun x xs H Q ⟨d, ds, h, R, rx, rs, rh, w, p⟩ => ?_
  unfold met at w
  split at w <;> first | contradiction | skip
  obtain ⟨es, e, q⟩ := w
  obtain ⟨vs, g, rg⟩ := rh.lst e
  exact ⟨_, vs, rx.ref_inv, rs.nil_inv, g, p.wr rh e q rg.reverse repV_non⟩
theorem mt_get' (ok : Ok X G) : MtR X "dict.get" (lMt G (met .get)) := by
  refine MtR.imp (mt_dget (by have := ok.hu; omega)) fun x xs H Q ⟨d, ds, h, R, rx, rs, rh, w, p⟩ => ?_
  unfold met at w
  split at w <;> first | contradiction | skip
  obtain ⟨kvs, k, ek, e, q⟩ := w
  obtain ⟨ks, g, rk⟩ := rh.dct e
  obtain ⟨y, z, rfl, ry, rz⟩ := rs.two
  refine ⟨_, y, z, valV ks k, rx.ref_inv, rfl, by rw [keyD_rep ek ry]; exact DGet.k g, ?_⟩
  cases c : getK kvs k with
  | none => rw [c] at q; rw [rk.lookN c]; exact p.here rh q rz
  | some d => rw [c] at q; obtain ⟨v, ev, rv⟩ := rk.look c; rw [ev]; exact p.here rh q rv
theorem mt_join' (hK : X.K = G.K) : MtR X "str.join" (lMt G (met .join)) := by
  refine MtR.imp mt_join fun x xs H Q ⟨d, ds, h, R, rx, rs, rh, w, p⟩ => ?_
  unfold met at w
  split at w <;> first | contradiction | skip
  obtain ⟨es, ts, e, et, z, q⟩ := w
  obtain ⟨vs, g, rg⟩ := rh.lst e
  obtain ⟨y, rfl, ry⟩ := rs.one
  exact ⟨_, _, ts, rx.str_inv, by rw [ry.ref_inv], .inl (SqL.of (by rw [g, strsOf_rep et rg])), z, p.here rh q repV_str⟩
theorem mt_split' : MtR X "str.split" (lMt G (met .split)) := by
  refine MtR.imp mt_split fun x xs H Q ⟨d, ds, h, R, rx, rs, rh, w, p⟩ => ?_
  unfold met at w
  split at w <;> first | contradiction | skip
  obtain ⟨⟨z1, z2⟩, q⟩ := w
  obtain ⟨y, rfl, ry⟩ := rs.one
  exact ⟨_, _, rx.str_inv, by rw [ry.str_inv], z1, z2, fun l n => p.new rh q (repVs_strs _) n⟩
theorem mt_startswith' : MtR X "str.startswith" (lMt G (met .startswith)) := by
  refine MtR.imp mt_startswith fun x xs H Q ⟨d, ds, h, R, rx, rs, rh, w, p⟩ => ?_
  unfold met at w
  split at w <;> first | contradiction | skip
  obtain ⟨y, rfl, ry⟩ := rs.one
  exact ⟨_, _, rx.str_inv, by rw [ry.str_inv], p.here rh w repV_bl⟩
theorem mt_none {id : String} {m : Mt} (f : ∀ d ds h R, ¬ met m d ds h R) : MtR X id (lMt G (met m)) := fun pins s σ H x xs v us Q I rx rs ⟨d, ds, h, R, _, _, _, w, _⟩ => (f _ _ _ _ w).elim
theorem met_D (ok : Ok X G) (m : Mt) : MtR X (mtId m) (lMt G (met m)) := by
  cases m with
  | append => exact mt_append'
  | extend => exact mt_extend'
  | pop => exact mt_pop'
  | reverse => exact mt_reverse'
  | get => exact mt_get' ok
  | join => exact mt_join' ok.k
  | split => exact mt_split'
  | startswith => exact mt_startswith'
  | index => exact mt_none fun d ds h R w => by unfold met at w; split at w <;> contradiction
  | insert => exact mt_none fun d ds h R w => by unfold met at w; split at w <;> contradiction
  | partition => exact mt_none fun d ds h R w => by unfold met at w; split at w <;> contradiction
end

/-! ### isinstance -/
def tyN : Ty → String
  | .int => "int" | .bool => "bool" | .str => "str" | .list => "list" | .tuple => "tuple" | .dict => "dict" | .non => "NoneType"
def tysAll : List Ty := [.int, .bool, .str, .list, .tuple, .dict, .non]
theorem tysAll_mem (t : Ty) : t ∈ tysAll := by cases t <;> decide
theorem kitB_all : (tysAll.all fun k => tysAll.all fun t => decide (t = .non) || decide (kitB (tyN k) (tyN t) = some (subTy k t))) = true := by decide +kernel
theorem kitB_of (k t : Ty) (ht : t ≠ .non) : kitB (tyN k) (tyN t) = some (subTy k t) := by
  have h1 := List.all_eq_true.mp kitB_all k (tysAll_mem k)
  have h2 := List.all_eq_true.mp h1 t (tysAll_mem t)
  rw [decide_eq_false ht, Bool.false_or] at h2
  exact of_decide_eq_true h2
theorem kitAny_of {K : PySem.W.Frag} (k : Ty) : ∀ ts : List Ty, (∀ t, t ∈ ts → t ≠ .non) → PySem.W.kitAny K (.type (tyN k)) (ts.map fun t => .type (tyN t)) = some (ts.any (subTy k))
  | [], _ => rfl
  | t :: ts, hn => by
    rw [List.map_cons, List.any_cons]
    have e1 : PySem.W.kitOne K (.type (tyN k)) (.type (tyN t)) = some (subTy k t) := kit_ty (kitB_of k t (hn t List.mem_cons_self))
    refine kitAny_cons e1 (fun e => ?_) fun e => by rw [e]; rfl
    rw [e, Bool.false_or]
    exact kitAny_of k ts fun t m => hn t (List.mem_cons_of_mem _ m)
section
variable {G : Gr}
theorem kind_rep {h : MH} {H : Hp} (rh : RepH G h H) {d : D} {v : V} {P : Ty → Prop} (r : RepV G.K H d v) (w : kindOf d h P) : ∃ k, TyX G.K H v (.type (tyN k)) ∧ P k := by
  cases d with
  | non => rw [r.non_inv]; exact ⟨_, .base .non, w⟩
  | bl b => rw [r.bl_inv]; exact ⟨_, .base (.bl b), w⟩
  | int b => rw [r.int_inv]; exact ⟨_, .base (.int b), w⟩
  | str b => rw [r.str_inv]; exact ⟨_, .base (.str b), w⟩
  | tup ds =>
    obtain ⟨a, vs, rfl, sq, rs⟩ := repV_tup.mp r
    refine ⟨.tuple, ?_, w⟩
    rcases sq with (sq | ⟨ob, sq⟩) | ⟨o, its, n, e, c, _⟩
    · exact .base (.tup sq)
    · exact .fTuple sq
    · exact .kTuple e c
  | scr ds =>
    obtain ⟨a, vs, rfl, sq, rs⟩ := repV_scr.mp r
    refine ⟨.list, ?_, w⟩
    rcases sq with ⟨ob, sq⟩ | ⟨o, its, n, e, c, _⟩
    · exact .base (.frz sq)
    · exact .kList e c
  | ref a =>
    rw [r.ref_inv]
    rcases w with ⟨xs, e, q⟩ | ⟨kvs, e, q⟩
    · obtain ⟨vs, g, _⟩ := rh.lst e
      exact ⟨.list, .base (.lst g), q⟩
    · obtain ⟨vs, g, _⟩ := rh.dct e
      exact ⟨.dict, .base (.dK g), q⟩
end
end DL
set_option Elab.async false
set_option linter.all false
set_option maxRecDepth 100000
set_option maxHeartbeats 1000000
/-! The D layer, 6: expressions. -/
namespace DL
open PySem PySem.Spec PyProof.Rows L2

/-- where one stands: the slots, the small heap, what is wanted of exceptions -/
structure At (G : Gr) (W : WX) (E : DX) (σd : DS) (σ : L2.St) (h : MH) (H : Hp) : Prop where
  s : RepS G.K H σd σ
  r : RepH G h H
  x : ∀ c fs h' cls dd H', E c fs h' → RepX G h' H' c fs cls dd → RepH G h' H' → Fm h H h' H' → W cls dd σ H'
def PostB (G : Gr) (h : MH) (H : Hp) (R : Bool → MH → Prop) (Q : Bool → Hp → Prop) : Prop := ∀ k h' H', R k h' → RepH G h' H' → Fm h H h' H' → Q k H'
def PostO (G : Gr) (h : MH) (H : Hp) (R : Option Int → MH → Prop) (Q : Option Int → Hp → Prop) : Prop := ∀ k h' H', R k h' → RepH G h' H' → Fm h H h' H' → Q k H'
def PostL (G : Gr) (h : MH) (H : Hp) (R : List D → MH → Prop) (Q : List V → Hp → Prop) : Prop := ∀ d h' v H', R d h' → RepVs G.K H' d v → RepH G h' H' → Fm h H h' H' → Q v H'
/-- an iterator stands for its items -/
def ItRel (G : Gr) (h0 : MH) (H0 : Hp) (Jd : ItV) (J : It) : Prop :=
  ∀ h H, RepH G h H → Pst G.K H0 H → Jd.ok h → (∀ (i : Nat) d, Jd.its[i]? = some d → J.go i H ∧ ∀ x H', J.yld i H x H' → RepV G.K H' d x ∧ RepH G h H' ∧ Fm h H h H') ∧ J.stop Jd.its.length H
def PostI (G : Gr) (h : MH) (H : Hp) (R : ItV → MH → Prop) (Q : It → Hp → Prop) : Prop := ∀ Jd h' J H', R Jd h' → ItRel G h' H' Jd J → RepH G h' H' → Fm h H h' H' → Q J H'

abbrev WE := DX → DS → MH → (D → MH → Prop) → Prop
def lE (G : Gr) (W : WX) (w : DX → DS → MH → (D → MH → Prop) → Prop) : TE := fun σ H Q => ∃ σd h R E, At G W E σd σ h H ∧ w E σd h R ∧ Post G h H R Q
def lT (G : Gr) (W : WX) (w : DX → DS → MH → (Bool → MH → Prop) → Prop) : TT := fun σ H Q => ∃ σd h R E, At G W E σd σ h H ∧ w E σd h R ∧ PostB G h H R Q
def lO (G : Gr) (W : WX) (w : DX → DS → MH → (Option Int → MH → Prop) → Prop) : TO := fun σ H Q => ∃ σd h R E, At G W E σd σ h H ∧ w E σd h R ∧ PostO G h H R Q
def lA (G : Gr) (W : WX) (w : DX → DS → MH → (List D → MH → Prop) → Prop) : TA := fun σ H Q => ∃ σd h R E, At G W E σd σ h H ∧ w E σd h R ∧ PostL G h H R Q
def lI (G : Gr) (W : WX) (w : DX → DS → MH → (ItV → MH → Prop) → Prop) : TI := fun σ H Q => ∃ σd h R E, At G W E σd σ h H ∧ w E σd h R ∧ PostI G h H R Q

theorem Pst.trans {K : PySem.W.Frag} {H H1 H2 : Hp} (a : Pst K H H1) (b : Pst K H1 H2) : Pst K H H2 := ⟨fun x xs q => b.t x xs (a.t x xs q), fun x xs q => b.l x xs (a.l x xs q)⟩
theorem RepS.mono {K : PySem.W.Frag} {H H' : Hp} {d : DS} {v : L2.St} (q : RepS K H d v) (t : Pst K H H') : RepS K H' d v := ⟨q.1, fun i x e => let ⟨u, a, b⟩ := q.2 i x e; ⟨u, a, b.mono t⟩⟩
section
variable {G : Gr} {W : WX} {E : DX} {σd : DS} {σ : L2.St} {h h1 : MH} {H H1 : Hp}
theorem At.fm (a : At G W E σd σ h H) (r : RepH G h1 H1) (f : Fm h H h1 H1) : At G W E σd σ h1 H1 :=
  ⟨a.s.fm a.r f, r, fun c fs h' cls dd H' e rx rh g => a.x c fs h' cls dd H' e rx rh (f.trans g)⟩
theorem Post.fm {R : D → MH → Prop} {Q : VK} (p : Post G h H R Q) (f : Fm h H h1 H1) : Post G h1 H1 R Q := fun d h' v H' r rv rh g => p d h' v H' r rv rh (f.trans g)
theorem PostB.fm {R : Bool → MH → Prop} {Q : Bool → Hp → Prop} (p : PostB G h H R Q) (f : Fm h H h1 H1) : PostB G h1 H1 R Q := fun k h' H' r rh g => p k h' H' r rh (f.trans g)
theorem PostO.fm {R : Option Int → MH → Prop} {Q : Option Int → Hp → Prop} (p : PostO G h H R Q) (f : Fm h H h1 H1) : PostO G h1 H1 R Q := fun k h' H' r rh g => p k h' H' r rh (f.trans g)
theorem PostL.fm {R : List D → MH → Prop} {Q : List V → Hp → Prop} (p : PostL G h H R Q) (f : Fm h H h1 H1) : PostL G h1 H1 R Q := fun k h' v H' r rv rh g => p k h' v H' r rv rh (f.trans g)
theorem PostI.fm {R : ItV → MH → Prop} {Q : It → Hp → Prop} (p : PostI G h H R Q) (f : Fm h H h1 H1) : PostI G h1 H1 R Q := fun Jd h' J H' r ri rh g => p Jd h' J H' r ri rh (f.trans g)
end

section
variable {X : Cx} {G : Gr} {W : WX} {e a b c : Expr} {es : List Expr} {pos : Pos}
theorem PE.imp {t t' : TE} (p : PE X e t) (i : ∀ σ H Q, t' σ H Q → t σ H Q) : PE X e t' := ⟨fun pins s σ H Q I w => p.run pins s σ H Q I (i _ _ _ w)⟩
theorem PT.imp {t t' : TT} (p : PT X e t) (i : ∀ σ H Q, t' σ H Q → t σ H Q) : PT X e t' := ⟨fun pins s σ H Q I w => p.run pins s σ H Q I (i _ _ _ w)⟩
theorem PW.imp {t t' : TT} (p : PW X e t) (i : ∀ σ H Q, t' σ H Q → t σ H Q) : PW X e t' := ⟨fun wh pins s σ H Q I w => p.run wh pins s σ H Q I (i _ _ _ w)⟩
theorem PA.imp {t t' : TA} (p : PA X es t) (i : ∀ σ H Q, t' σ H Q → t σ H Q) : PA X es t' := ⟨fun po pins s σ H Q I w => p.run po pins s σ H Q I (i _ _ _ w)⟩
theorem PK.imp {ks : List Keyword} {t t' : TA} (p : PK X ks t) (i : ∀ σ H Q, t' σ H Q → t σ H Q) : PK X ks t' := ⟨fun po pins s σ H Q I w => p.run po pins s σ H Q I (i _ _ _ w)⟩
theorem PO.imp {e : Option Expr} {t t' : TO} (p : PO X e t) (i : ∀ σ H Q, t' σ H Q → t σ H Q) : PO X e t' := ⟨fun pins s σ H Q I w => p.run pins s σ H Q I (i _ _ _ w)⟩
theorem PI.imp {tg : Expr} {t t' : TI} (p : PI X tg e t) (i : ∀ σ H Q, t' σ H Q → t σ H Q) : PI X tg e t' := ⟨fun pins s σ H Q I w => p.run pins s σ H Q I (i _ _ _ w)⟩

/-- one value, then more -/
theorem lE.bind {w : WE} {k : D → MH → Prop} {σd : DS} {σ : L2.St} {h : MH} {H : Hp} {E : DX} {Q : VK} (at_ : At G W E σd σ h H) (q : w E σd h k) (f : ∀ d h1 v H1, k d h1 → RepV G.K H1 d v → RepH G h1 H1 → Fm h H h1 H1 → Q v H1) : lE G W w σ H Q :=
  ⟨σd, h, k, E, at_, q, f⟩

theorem se_var {i : Nat} {x : Str} (hN : X.N[i]? = some x) (hv : Vis X.env.scope x) (hd : (x == ("__debug__" : Str)) = false) (hcd : (x == ("__classdict__" : Str)) = false) : PE X (.Name x pos) (lE G W fun E σ h Q => ∃ d, σ[i]? = some (some d) ∧ Q d h) :=
  PE.imp (pe_var hN hv hd hcd) fun σ H Q ⟨σd, h, R, E, at_, ⟨d, e, q⟩, p⟩ => by
    obtain ⟨v, e2, r⟩ := at_.s.2 i d e
    exact ⟨v, e2, p.here at_.r q r⟩
theorem se_cst {v : V} {d : D} (p : PE X e (tC v)) (r : ∀ H, RepV G.K H d v) : PE X e (lE G W fun _ _ h Q => Q d h) :=
  PE.imp p fun σ H Q ⟨σd, h, R, E, at_, q, p⟩ => p.here at_.r q (r H)

variable {wa wb wc : WE}
theorem se_op {op : Operator} {f : D → D → MH → (D → MH → Prop) → Prop} (ho : OpR X (binaryOp op) (lR2 G f)) (ha : PE X a (lE G W wa)) (hb : PE X b (lE G W wb)) : PE X (.BinOp a op b pos) (lE G W fun E σ h Q => wa E σ h fun x h1 => wb E σ h1 fun y h2 => f x y h2 Q) :=
  PE.imp (pe_op ho ha hb) fun σ H Q ⟨σd, h, R, E, at_, w, p⟩ =>
    ⟨σd, h, _, E, at_, w, fun dx h1 x H1 w1 rx rh1 f1 => ⟨σd, h1, _, E, at_.fm rh1 f1, w1, fun dy h2 y H2 w2 ry rh2 f2 => ⟨dx, dy, h2, R, rx.fm rh1 f2, ry, rh2, w2, p.fm (f1.trans f2)⟩⟩⟩
theorem se_ix {f : D → D → MH → (D → MH → Prop) → Prop} (ho : IxR X (lR2 G f)) (ha : PE X a (lE G W wa)) (hb : PE X b (lE G W wb)) (hs : PlainIx b) : PE X (.Subscript a b pos) (lE G W fun E σ h Q => wa E σ h fun x h1 => wb E σ h1 fun y h2 => f x y h2 Q) :=
  PE.imp (pe_ix ho ha hb hs) fun σ H Q ⟨σd, h, R, E, at_, w, p⟩ =>
    ⟨σd, h, _, E, at_, w, fun dx h1 x H1 w1 rx rh1 f1 => ⟨σd, h1, _, E, at_.fm rh1 f1, w1, fun dy h2 y H2 w2 ry rh2 f2 => ⟨dx, dy, h2, R, rx.fm rh1 f2, ry, rh2, w2, p.fm (f1.trans f2)⟩⟩⟩
theorem se_neg (ha : PE X a (lE G W wa)) : PE X (.UnaryOp .USub a pos) (lE G W fun E σ h Q => wa E σ h fun x h1 => match x with
    | .int i => Q (.int (-i)) h1
    | _ => False) :=
  PE.imp (pe_un un_neg ha) fun σ H Q ⟨σd, h, R, E, at_, w, p⟩ =>
    ⟨σd, h, _, E, at_, w, fun dx h1 x H1 w1 rx rh1 f1 => by
      cases dx with
      | int i => exact ⟨i, rx.int_inv, (p.fm f1).here rh1 w1 repV_int⟩
      | _ => exact w1.elim⟩
theorem se_not (hK : X.K = G.K) (ha : PE X a (lE G W wa)) : PE X (.UnaryOp .Not a pos) (lE G W fun E σ h Q => wa E σ h fun x h1 => tru x h1 fun k => Q (.bl (!k)) h1) :=
  PE.imp (pe_notT ha) fun σ H Q ⟨σd, h, R, E, at_, w, p⟩ =>
    ⟨σd, h, _, E, at_, w, fun dx h1 x H1 w1 rx rh1 f1 => by
      obtain ⟨k, t, q⟩ := tru_of hK rx rh1 w1
      exact ⟨k, t, (p.fm f1).here rh1 q repV_bl⟩⟩
theorem se_and (hK : X.K = G.K) (ha : PE X a (lE G W wa)) (hb : PE X (.BoolOp .And (b :: es) pos) (lE G W wb)) : PE X (.BoolOp .And (a :: b :: es) pos) (lE G W fun E σ h Q => wa E σ h fun x h1 => tru x h1 fun k => if k = true then wb E σ h1 Q else Q x h1) :=
  PE.imp (pe_andT ha hb) fun σ H Q ⟨σd, h, R, E, at_, w, p⟩ =>
    ⟨σd, h, _, E, at_, w, fun dx h1 x H1 w1 rx rh1 f1 => by
      obtain ⟨k, t, q⟩ := tru_of hK rx rh1 w1
      refine ⟨k, t, ?_⟩
      cases k with
      | true => exact ⟨σd, h1, R, E, at_.fm rh1 f1, q, p.fm f1⟩
      | false => exact (p.fm f1).here rh1 q rx⟩
theorem se_or (hK : X.K = G.K) (ha : PE X a (lE G W wa)) (hb : PE X (.BoolOp .Or (b :: es) pos) (lE G W wb)) : PE X (.BoolOp .Or (a :: b :: es) pos) (lE G W fun E σ h Q => wa E σ h fun x h1 => tru x h1 fun k => if k = true then Q x h1 else wb E σ h1 Q) :=
  PE.imp (pe_orT ha hb) fun σ H Q ⟨σd, h, R, E, at_, w, p⟩ =>
    ⟨σd, h, _, E, at_, w, fun dx h1 x H1 w1 rx rh1 f1 => by
      obtain ⟨k, t, q⟩ := tru_of hK rx rh1 w1
      refine ⟨k, t, ?_⟩
      cases k with
      | true => exact (p.fm f1).here rh1 q rx
      | false => exact ⟨σd, h1, R, E, at_.fm rh1 f1, q, p.fm f1⟩⟩
variable {wt wu : DX → DS → MH → (Bool → MH → Prop) → Prop}
theorem se_ite (hc : PT X c (lT G W wt)) (ha : PE X a (lE G W wa)) (hb : PE X b (lE G W wb)) : PE X (.IfExp c a b pos) (lE G W fun E σ h Q => wt E σ h fun k h1 => if k = true then wa E σ h1 Q else wb E σ h1 Q) :=
  PE.imp (pe_ifExp hc ha hb) fun σ H Q ⟨σd, h, R, E, at_, w, p⟩ =>
    ⟨σd, h, _, E, at_, w, fun k h1 H1 w1 rh1 f1 => by
      cases k with
      | true => exact ⟨σd, h1, R, E, at_.fm rh1 f1, w1, p.fm f1⟩
      | false => exact ⟨σd, h1, R, E, at_.fm rh1 f1, w1, p.fm f1⟩⟩
theorem se_cmp {op : CmpOp} (ok : Ok X G) (ha : PE X a (lE G W wa)) (hb : PE X b (lE G W wb)) (hm : behindInMarks op b = false) : PE X (.Compare a [op] [b] pos) (lE G W fun E σ h Q => wa E σ h fun x h1 => wb E σ h1 fun y h2 => cop op x y h2 fun k => Q (.bl k) h2) :=
  PE.imp (pe_cmpR (op_cmpD ok op) ha hb hm) fun σ H Q ⟨σd, h, R, E, at_, w, p⟩ =>
    ⟨σd, h, _, E, at_, w, fun dx h1 x H1 w1 rx rh1 f1 => ⟨σd, h1, _, E, at_.fm rh1 f1, w1, fun dy h2 y H2 w2 ry rh2 f2 => ⟨dx, dy, h2, _, rx.fm rh1 f2, ry, rh2, w2, fun k q => (p.fm (f1.trans f2)).here rh2 q repV_bl⟩⟩⟩
theorem st_cmp {op : CmpOp} (ok : Ok X G) (ha : PE X a (lE G W wa)) (hb : PE X b (lE G W wb)) (hm : behindInMarks op b = false) : PT X (.Compare a [op] [b] pos) (lT G W fun E σ h Q => wa E σ h fun x h1 => wb E σ h1 fun y h2 => cop op x y h2 fun k => Q k h2) :=
  PT.imp (pt_cmpR (op_cmpD ok op) ha hb hm) fun σ H Q ⟨σd, h, R, E, at_, w, p⟩ =>
    ⟨σd, h, _, E, at_, w, fun dx h1 x H1 w1 rx rh1 f1 => ⟨σd, h1, _, E, at_.fm rh1 f1, w1, fun dy h2 y H2 w2 ry rh2 f2 => ⟨dx, dy, h2, _, rx.fm rh1 f2, ry, rh2, w2, fun k q => ⟨k, rfl, p k h2 H2 q rh2 (f1.trans f2)⟩⟩⟩⟩
theorem se_chn {op op' : CmpOp} (ok : Ok X G) (ha : PE X a (lE G W wa)) (hb : PE X b (lE G W wb)) (hc : PE X c (lE G W wc)) (hm : lastMarks [op, op'] [b, c] = false) : PE X (.Compare a [op, op'] [b, c] pos) (lE G W fun E σ h Q => wa E σ h fun x h1 => wb E σ h1 fun y h2 => cop op x y h2 fun k =>
      if k = true then wc E σ h2 fun z h3 => cop op' y z h3 fun k' => Q (.bl k') h3 else Q (.bl false) h2) :=
  PE.imp (pe_chain (op_cmpD ok op) (op_cmpD ok op') ha hb hc hm) fun σ H Q ⟨σd, h, R, E, at_, w, p⟩ =>
    ⟨σd, h, _, E, at_, w, fun dx h1 x H1 w1 rx rh1 f1 => ⟨σd, h1, _, E, at_.fm rh1 f1, w1, fun dy h2 y H2 w2 ry rh2 f2 => ⟨dx, dy, h2, _, rx.fm rh1 f2, ry, rh2, w2, fun k q => ⟨k, rfl, by
      cases k with
      | false => exact (p.fm (f1.trans f2)).here rh2 q repV_bl
      | true => exact ⟨σd, h2, _, E, (at_.fm rh1 f1).fm rh2 f2, q, fun dz h3 z H3 w3 rz rh3 f3 => ⟨dy, dz, h3, _, ry.fm rh2 f3, rz, rh3, w3, fun k' q' => (p.fm ((f1.trans f2).trans f3)).here rh3 q' repV_bl⟩⟩⟩⟩⟩⟩
theorem st_chn {op op' : CmpOp} (ok : Ok X G) (ha : PE X a (lE G W wa)) (hb : PE X b (lE G W wb)) (hc : PE X c (lE G W wc)) (hm : lastMarks [op, op'] [b, c] = false) : PT X (.Compare a [op, op'] [b, c] pos) (lT G W fun E σ h Q => wa E σ h fun x h1 => wb E σ h1 fun y h2 => cop op x y h2 fun k =>
      if k = true then wc E σ h2 fun z h3 => cop op' y z h3 fun k' => Q k' h3 else Q false h2) :=
  PT.imp (pt_chain (op_cmpD ok op) (op_cmpD ok op') ha hb hc hm) fun σ H Q ⟨σd, h, R, E, at_, w, p⟩ =>
    ⟨σd, h, _, E, at_, w, fun dx h1 x H1 w1 rx rh1 f1 => ⟨σd, h1, _, E, at_.fm rh1 f1, w1, fun dy h2 y H2 w2 ry rh2 f2 => ⟨dx, dy, h2, _, rx.fm rh1 f2, ry, rh2, w2, fun k q => ⟨k, rfl, by
      cases k with
      | false => exact ⟨false, rfl, p false h2 H2 q rh2 (f1.trans f2)⟩
      | true => exact ⟨σd, h2, _, E, (at_.fm rh1 f1).fm rh2 f2, q, fun dz h3 z H3 w3 rz rh3 f3 => ⟨dy, dz, h3, _, ry.fm rh2 f3, rz, rh3, w3, fun k' q' => ⟨k', rfl, p k' h3 H3 q' rh3 ((f1.trans f2).trans f3)⟩⟩⟩⟩⟩⟩⟩
theorem st_val (hK : X.K = G.K) (ha : PE X a (lE G W wa)) (he : ∀ whole, isTrue a X.env whole = (do let v ← whole; standAt a.pos; holding [v] (truthy v))) : PT X a (lT G W fun E σ h Q => wa E σ h fun x h1 => tru x h1 fun k => Q k h1) :=
  PT.imp (pt_truth ha he) fun σ H Q ⟨σd, h, R, E, at_, w, p⟩ =>
    ⟨σd, h, _, E, at_, w, fun dx h1 x H1 w1 rx rh1 f1 => by
      obtain ⟨k, t, q⟩ := tru_of hK rx rh1 w1
      exact ⟨k, t, p k h1 H1 q rh1 f1⟩⟩
theorem st_not (ha : PT X a (lT G W wt)) : PT X (.UnaryOp .Not a pos) (lT G W fun E σ h Q => wt E σ h fun k h1 => Q (!k) h1) :=
  PT.imp (pt_not ha) fun σ H Q ⟨σd, h, R, E, at_, w, p⟩ => ⟨σd, h, _, E, at_, w, fun k h1 H1 w1 rh1 f1 => p (!k) h1 H1 w1 rh1 f1⟩
theorem sw_and (ha : PT X a (lT G W wt)) (hb : PW X (.BoolOp .And (b :: es) pos) (lT G W wu)) : PW X (.BoolOp .And (a :: b :: es) pos) (lT G W fun E σ h Q => wt E σ h fun k h1 => if k = true then wu E σ h1 Q else Q false h1) :=
  PW.imp (pw_and ha hb) fun σ H Q ⟨σd, h, R, E, at_, w, p⟩ => ⟨σd, h, _, E, at_, w, fun k h1 H1 w1 rh1 f1 => by
    cases k with
    | true => exact ⟨σd, h1, R, E, at_.fm rh1 f1, w1, p.fm f1⟩
    | false => exact p false h1 H1 w1 rh1 f1⟩
theorem sw_or (ha : PT X a (lT G W wt)) (hb : PW X (.BoolOp .Or (b :: es) pos) (lT G W wu)) : PW X (.BoolOp .Or (a :: b :: es) pos) (lT G W fun E σ h Q => wt E σ h fun k h1 => if k = true then Q true h1 else wu E σ h1 Q) :=
  PW.imp (pw_or ha hb) fun σ H Q ⟨σd, h, R, E, at_, w, p⟩ => ⟨σd, h, _, E, at_, w, fun k h1 H1 w1 rh1 f1 => by
    cases k with
    | true => exact p true h1 H1 w1 rh1 f1
    | false => exact ⟨σd, h1, R, E, at_.fm rh1 f1, w1, p.fm f1⟩⟩
abbrev WL := DX → DS → MH → (List D → MH → Prop) → Prop
variable {wl wk : WL}
theorem sa_nil : PA X [] (lA G W fun _ _ h Q => Q [] h) := PA.imp pa_nil fun σ H Q ⟨σd, h, R, E, at_, w, p⟩ => p [] h [] H w repVs_nil at_.r Fm.refl
theorem sa_cons (ha : PE X a (lE G W wa)) (hr : PA X es (lA G W wl)) (hs : starEach (a :: es) X.env = (false, eval a X.env) :: starEach es X.env) : PA X (a :: es) (lA G W fun E σ h Q => wa E σ h fun x h1 => wl E σ h1 fun xs h2 => Q (x :: xs) h2) :=
  PA.imp (pa_cons ha hr hs) fun σ H Q ⟨σd, h, R, E, at_, w, p⟩ => ⟨σd, h, _, E, at_, w, fun dx h1 x H1 w1 rx rh1 f1 => ⟨σd, h1, _, E, at_.fm rh1 f1, w1, fun ds h2 xs H2 w2 rs rh2 f2 => p (dx :: ds) h2 (x :: xs) H2 w2 (repVs_cons (rx.fm rh1 f2) rs) rh2 (f1.trans f2)⟩⟩
theorem sk_nil : PK X [] (lA G W fun _ _ h Q => Q [] h) := PK.imp pk_nil fun σ H Q ⟨σd, h, R, E, at_, w, p⟩ => p [] h [] H w repVs_nil at_.r Fm.refl
theorem sk_cons {ks : List Keyword} {nm : Option Str} {kp : Pos} (ha : PE X a (lE G W wa)) (hr : PK X ks (lA G W wl)) : PK X (⟨nm, a, kp⟩ :: ks) (lA G W fun E σ h Q => wa E σ h fun x h1 => wl E σ h1 fun xs h2 => Q (x :: xs) h2) :=
  PK.imp (pk_cons ha hr) fun σ H Q ⟨σd, h, R, E, at_, w, p⟩ => ⟨σd, h, _, E, at_, w, fun dx h1 x H1 w1 rx rh1 f1 => ⟨σd, h1, _, E, at_.fm rh1 f1, w1, fun ds h2 xs H2 w2 rs rh2 f2 => p (dx :: ds) h2 (x :: xs) H2 w2 (repVs_cons (rx.fm rh1 f2) rs) rh2 (f1.trans f2)⟩⟩
theorem se_tup {x1} (ha : PA X es (lA G W wl)) : PE X (.Tuple es x1 pos) (lE G W fun E σ h Q => wl E σ h fun ds h1 => Fits ds.length ∧ Q (.tup ds) h1) :=
  PE.imp (pe_tup ha) fun σ H Q ⟨σd, h, R, E, at_, w, p⟩ => ⟨σd, h, _, E, at_, w, fun ds h1 xs H1 w1 rs rh1 f1 => ⟨by rw [rs.length]; exact w1.1, fun l n => (p.fm f1).tup rh1 w1.2 rs n⟩⟩
theorem se_lst (ha : PA X es (lA G W wl)) : PE X (.List es pos) (lE G W fun E σ h Q => wl E σ h fun ds h1 => Fits ds.length ∧ al (.lst ds) h1 Q) :=
  PE.imp (pe_lst ha) fun σ H Q ⟨σd, h, R, E, at_, w, p⟩ => ⟨σd, h, _, E, at_, w, fun ds h1 xs H1 w1 rs rh1 f1 => ⟨by rw [rs.length]; exact w1.1, fun l n => (p.fm f1).new rh1 w1.2 rs n⟩⟩
theorem so_none : PO X none (lO G W fun _ _ h Q => Q none h) := PO.imp po_none fun σ H Q ⟨σd, h, R, E, at_, w, p⟩ => p none h H w at_.r Fm.refl
theorem so_some (ha : PE X a (lE G W wa)) : PO X (some a) (lO G W fun E σ h Q => wa E σ h fun x h1 => match x with
    | .int i => Q (some i) h1
    | _ => False) :=
  PO.imp (po_some ha) fun σ H Q ⟨σd, h, R, E, at_, w, p⟩ => ⟨σd, h, _, E, at_, w, fun dx h1 x H1 w1 rx rh1 f1 => by
    cases dx with
    | int i => exact ⟨i, rx.int_inv, p (some i) h1 H1 w1 rh1 f1⟩
    | _ => exact w1.elim⟩
theorem se_sl {lo hi : Option Expr} {wo wp : DX → DS → MH → (Option Int → MH → Prop) → Prop} {p2 : Pos} (hK : X.K = G.K) (ha : PE X a (lE G W wa)) (hl : PO X lo (lO G W wo)) (hu : PO X hi (lO G W wp)) : PE X (.Subscript a (.Slice lo hi none p2) pos) (lE G W fun E σ h Q => wa E σ h fun x h1 => wo E σ h1 fun l h2 => wp E σ h2 fun u h3 => slD x l u h3 Q) :=
  PE.imp (pe_slice (sl_D hK) ha hl hu) fun σ H Q ⟨σd, h, R, E, at_, w, p⟩ => ⟨σd, h, _, E, at_, w, fun dx h1 x H1 w1 rx rh1 f1 => ⟨σd, h1, _, E, at_.fm rh1 f1, w1, fun l h2 H2 w2 rh2 f2 =>
    ⟨σd, h2, _, E, (at_.fm rh1 f1).fm rh2 f2, w2, fun u h3 H3 w3 rh3 f3 => ⟨dx, h3, R, (rx.fm rh1 f2).fm rh2 f3, rh3, w3, p.fm ((f1.trans f2).trans f3)⟩⟩⟩⟩
/-- a built-in by its name -/
theorem se_bi {es' : List Expr} {x : Str} {p : Pos} {f : List D → MH → (D → MH → Prop) → Prop} {T : String} (hv' : bootBuiltins x = some (.builtin T) ∨ bootBuiltins x = some (.type T)) (u : Value) (hv : bootBuiltins x = some u) (hcb : CallR X u (lBi G f)) (hg : Gl X x) (hm : X.mg x = none) (ha : PA X (a :: es) (lA G W wl)) (hn : x ≠ "__name__") (hdb : (x == ("__debug__" : Str)) = false)
    (he : starEach (a :: es) X.env = (false, eval a X.env) :: starEach es X.env) (hpl : (backTo pos (starEach es X.env)).any (·.1) = false) : PE X (.Call (.Name x p) (a :: es) [] pos) (lE G W fun E σ h Q => wl E σ h fun ds h1 => f ds h1 Q) := by
  have key : ∀ σ H Q, lE G W (fun E σ h Q => wl E σ h fun ds h1 => f ds h1 Q) σ H Q → tCB (lBi G f) (lA G W wl) σ H Q := fun σ H Q ⟨σd, h, R, E, at_, w, p⟩ =>
    ⟨σd, h, _, E, at_, w, fun ds h1 xs H1 w1 rs rh1 f1 => ⟨ds, h1, R, rs, rh1, w1, p.fm f1⟩⟩
  rcases hv' with z | z
  · rw [hv] at z; cases z
    exact PE.imp (pe_callB hcb hg hm hv ha hn hdb he hpl) key
  · rw [hv] at z; cases z
    exact PE.imp (pe_callTy hcb hg hm hv ha hn hdb he hpl) key
theorem se_met0 {o : Expr} {m : Mt} {name : Str} {apos cpos : Pos} (ok : Ok X G) (pa : PlainAttrs (mtT m)) (slot : Slot (mtT m) name (mtId m)) (hty : typeOf (.builtin (mtId m)) = pure (.type "method_descriptor")) (ho : PE X o (lE G W wa))
    (hbase : attributeBase o name X.env (eval o X.env) = eval o X.env) (hline : (apos.endLine == cpos.line) = true) : PE X (.Call (.Attribute o name apos) [] [] cpos) (lE G W fun E σ h Q => wa E σ h fun x h1 => mtTy m x h1 ∧ met m x [] h1 Q) :=
  PE.imp (pe_bm0 pa slot hty (met_D ok m) ho hbase hline) fun σ H Q ⟨σd, h, R, E, at_, w, p⟩ => ⟨σd, h, _, E, at_, w, fun dx h1 x H1 w1 rx rh1 f1 => ⟨met_tyV (X := X) rh1 rx w1.1, dx, [], h1, R, rx, repVs_nil, rh1, w1.2, p.fm f1⟩⟩
theorem se_met {o : Expr} {m : Mt} {name : Str} {apos cpos : Pos} (ok : Ok X G) (pa : PlainAttrs (mtT m)) (slot : Slot (mtT m) name (mtId m)) (hty : typeOf (.builtin (mtId m)) = pure (.type "method_descriptor")) (ho : PE X o (lE G W wa)) (ha : PA X (a :: es) (lA G W wl))
    (hbase : attributeBase o name X.env (eval o X.env) = eval o X.env)
    (hfew : ((backTo cpos (starEach (a :: es) X.env)).all (fun x => !x.1) && (backToKw cpos (keywordEach [] X.env)).all (fun x => x.1.isSome)
      && decide ((a :: es).length + ([] : List Keyword).length + (if ([] : List Keyword).isEmpty then 0 else 1) < 30)) = true)
    (hline : (apos.endLine == cpos.line) = true) (hs : starEach (a :: es) X.env = (false, eval a X.env) :: starEach es X.env) (hplain : (backTo cpos (starEach es X.env)).any (·.1) = false) :
    PE X (.Call (.Attribute o name apos) (a :: es) [] cpos) (lE G W fun E σ h Q => wa E σ h fun x h1 => mtTy m x h1 ∧ wl E σ h1 fun ds h2 => met m x ds h2 Q) :=
  PE.imp (pe_bm pa slot hty (met_D ok m) ho ha hbase hfew hline hs hplain) fun σ H Q ⟨σd, h, R, E, at_, w, p⟩ => ⟨σd, h, _, E, at_, w, fun dx h1 x H1 w1 rx rh1 f1 => ⟨met_tyV (X := X) rh1 rx w1.1,
    σd, h1, _, E, at_.fm rh1 f1, w1.2, fun ds h2 xs H2 w2 rs rh2 f2 => ⟨dx, ds, h2, R, rx.fm rh1 f2, rs, rh2, w2, p.fm (f1.trans f2)⟩⟩⟩
end
end DL
set_option Elab.async false
set_option linter.all false
set_option maxRecDepth 100000
set_option maxHeartbeats 1000000
/-! The D layer, 7: what is walked, targets, displays of dicts, comprehensions. -/
namespace DL
open PySem PySem.Spec PyProof.Rows L2

/-! ### what is walked -/
def iSeq (K : PySem.W.Frag) (te : TE) : TI := fun σ H R => te σ H fun x H1 =>
  (∃ a xs, x = .ref a ∧ SqL K H1 a xs ∧ R (Itl K a) H1) ∨ (∃ a xs, x = .ref a ∧ SqT K H1 a xs ∧ R (Itt K a) H1) ∨ ∃ z, x = .str z ∧ R (Its z) H1
theorem pi_seq {X : Cx} {tg e : Expr} {te : TE} (he : PE X e te) : PI X tg e (iSeq X.K te) := by
  refine ⟨fun pins s σ H R I h => ?_⟩
  refine thn (he.run pins s σ H _ I h) fun v s1 ⟨y, H1, I1, r1, q⟩ => ?_
  rcases q with ⟨a, xs, rfl, hq, q⟩ | ⟨a, xs, rfl, hq, q⟩ | ⟨z, rfl, q⟩
  · cases r1
    obtain ⟨its, rv, p, hz⟩ := I1.list hq
    exact wpAny_pyIter_list p.isList (pi_one (tk := s1.toks) I1 _ (turn_list a _) ⟨_, Heap.get?_push_size _ rfl, rfl, rfl⟩ q)
  · cases r1
    obtain ⟨its, rv, p, hz⟩ := I1.tuple hq
    exact wpAny_pyIter_tuple (show s1.heap.IsTuple a its.toArray from p) (pi_one (tk := s1.toks) I1 _ (turn_tuple a _) ⟨_, Heap.get?_push_size _ rfl, rfl, rfl⟩ q)
  · obtain ⟨t, rfl⟩ := r1
    cases ha : z.cps.all (· < 128)
    · exact wpAny_pyIter_wide ha (pi_one (tk := s1.toks) I1 _ (turn_str _ z t "str_iterator" (.inr rfl)) ⟨_, Heap.get?_push_size _ rfl, rfl, rfl⟩ q)
    · exact wpAny_pyIter_ascii ha (pi_one (tk := s1.toks) I1 _ (turn_str _ z t "str_ascii_iterator" (.inl rfl)) ⟨_, Heap.get?_push_size _ rfl, rfl, rfl⟩ q)

section
variable {G : Gr} {h0 : MH} {H0 : Hp} {K : PySem.W.Frag}
theorem sqL_det {H : Hp} {a : Addr} {xs vs : List V} (e : H a = some (.lst vs)) (hn : K.lookup a = none ∨ True) (q : Rd H a (.lst xs)) : xs = vs := by
  rcases q with q | ⟨ob, q⟩
  · rw [e] at q; cases q; rfl
  · rw [e] at q; cases q
/-- the list at a, unchanged -/
theorem it_list (rh : RepH G h0 H0) {a : Addr} {xs : List D} : ItRel G h0 H0 ⟨xs, fun h' => h' a = some (.lst xs)⟩ (Itl G.K a) := fun h H r f e => by
  obtain ⟨vs, g, rv⟩ := r.lst e
  refine ⟨fun i d ed => ?_, vs, .of g, Nat.le_of_eq rv.length⟩
  obtain ⟨v, ev, rd⟩ := rv.get ed
  refine ⟨⟨vs, v, .of g, ev⟩, fun x H' y => ?_⟩
  obtain ⟨rfl, y⟩ := y
  have := y vs (.of g)
  rw [ev] at this; cases this
  exact ⟨rd, r, Fm.refl⟩
theorem it_tup (rh : RepH G h0 H0) {a : Addr} {vs : List V} {xs : List D} (q : SqT G.K H0 a vs) (rv : RepVs G.K H0 xs vs) : ItRel G h0 H0 ⟨xs, fun _ => True⟩ (Itt G.K a) := fun h H r f _ => by
  have q' := f.t _ _ q
  have rv' := rv.mono f
  refine ⟨fun i d ed => ?_, vs, q', Nat.le_of_eq rv.length⟩
  obtain ⟨v, ev, rd⟩ := rv'.get ed
  refine ⟨⟨vs, v, q', ev⟩, fun x H' y => ?_⟩
  obtain ⟨rfl, y⟩ := y
  have := y vs q'
  rw [ev] at this; cases this
  exact ⟨rd, r, Fm.refl⟩
theorem it_scr (rh : RepH G h0 H0) {a : Addr} {vs : List V} {xs : List D} (q : FzL G.K H0 a vs) (rv : RepVs G.K H0 xs vs) : ItRel G h0 H0 ⟨xs, fun _ => True⟩ (Itl G.K a) := fun h H r f _ => by
  have q' := (f.l _ _ q).sq
  have rv' := rv.mono f
  refine ⟨fun i d ed => ?_, vs, q', Nat.le_of_eq rv.length⟩
  obtain ⟨v, ev, rd⟩ := rv'.get ed
  refine ⟨⟨vs, v, q', ev⟩, fun x H' y => ?_⟩
  obtain ⟨rfl, y⟩ := y
  have := y vs q'
  rw [ev] at this; cases this
  exact ⟨rd, r, Fm.refl⟩
theorem it_str {z : Str} : ItRel G h0 H0 ⟨z.cps.toList.map fun c => .str ⟨#[c]⟩, fun _ => True⟩ (Its z) := fun h H r f _ => by
  refine ⟨fun i d ed => ?_, by show z.cps.size ≤ _; simp⟩
  rw [List.getElem?_map] at ed
  cases e : z.cps.toList[i]? with
  | none => rw [e] at ed; cases ed
  | some c =>
    rw [e] at ed; cases ed
    have e' : z.cps[i]? = some c := by simpa using e
    refine ⟨(Array.getElem?_eq_some_iff.mp e').1, fun x H' y => ?_⟩
    obtain ⟨rfl, c', e2, rfl⟩ := y
    rw [e'] at e2; cases e2
    exact ⟨repV_str, r, Fm.refl⟩
theorem it_rng {lo : Int} {n : Nat} : ItRel G h0 H0 ⟨(List.range n).map fun (k : Nat) => .int (lo + k), fun _ => True⟩ (Itr lo n) := fun h H r f _ => by
  refine ⟨fun i d ed => ?_, by show n ≤ _; simp⟩
  rw [List.getElem?_map] at ed
  cases e : (List.range n)[i]? with
  | none => rw [e] at ed; cases ed
  | some c =>
    rw [e] at ed; cases ed
    obtain ⟨hi, e⟩ := List.getElem?_eq_some_iff.mp e
    simp at hi e; subst e
    · refine ⟨hi, fun x H' y => ?_⟩
      obtain ⟨rfl, rfl⟩ := y
      exact ⟨repV_int, r, Fm.refl⟩
theorem it_rngC {lo : Int} {n : Nat} : ItRel G h0 H0 ⟨(List.range n).map fun (k : Nat) => .int (lo - k), fun _ => True⟩ (Itc lo (-1) n) := fun h H r f _ => by
  refine ⟨fun i d ed => ?_, by show n ≤ _; simp⟩
  rw [List.getElem?_map] at ed
  cases e : (List.range n)[i]? with
  | none => rw [e] at ed; cases ed
  | some c =>
    rw [e] at ed; cases ed
    obtain ⟨hi, e⟩ := List.getElem?_eq_some_iff.mp e
    simp at hi e; subst e
    · refine ⟨hi, fun x H' y => ?_⟩
      obtain ⟨rfl, rfl⟩ := y
      have e2 : lo + (i : Int) * -1 = lo - i := by omega
      rw [e2]
      exact ⟨repV_int, r, Fm.refl⟩
theorem repPair {H : Hp} {h : MH} (r : RepH G h H) {x y : V} {dx dy : D} {T : Addr} (n : H T = none) (rx : RepV G.K H dx x) (ry : RepV G.K H dy y) :
    RepV G.K (L2.upd H T (.tup [x, y])) (.tup [dx, dy]) (.ref T) ∧ RepH G h (L2.upd H T (.tup [x, y])) ∧ Fm h H h (L2.upd H T (.tup [x, y])) :=
  ⟨RepV.tupNew n (repVs_cons rx (repVs_cons ry repVs_nil)), r.aside n, Fm.aside n⟩
theorem it_enm (rh : RepH G h0 H0) {a : Addr} {xs : List D} : ItRel G h0 H0 ⟨xs.zipIdx.map fun p => .tup [.int p.2, p.1], fun h' => h' a = some (.lst xs)⟩ (Ite G.K a) := fun h H r f e => by
  obtain ⟨vs, g, rv⟩ := r.lst e
  refine ⟨fun i d ed => ?_, vs, .of g, by simp [rv.length]⟩
  rw [List.getElem?_map, List.getElem?_zipIdx] at ed
  cases e2 : xs[i]? with
  | none => rw [e2] at ed; cases ed
  | some dx =>
    rw [e2] at ed; cases ed
    obtain ⟨v, ev, rd⟩ := rv.get e2
    refine ⟨⟨vs, v, .of g, ev⟩, fun x H' y => ?_⟩
    obtain ⟨T, x', rfl, n, rfl, y⟩ := y
    have := y vs (.of g)
    rw [ev] at this; cases this
    have e3 : (0 + i : Nat) = i := Nat.zero_add i
    simp only [e3]
    exact repPair r n repV_int rd
theorem zip_get {α β : Type} {xs : List α} {ys : List β} {i : Nat} {p : α × β} (e : (xs.zip ys)[i]? = some p) : xs[i]? = some p.1 ∧ ys[i]? = some p.2 := by
  rw [List.getElem?_zip_eq_some] at e
  exact e
theorem it_zipL (rh : RepH G h0 H0) {a b : Addr} {xs ys : List D} : ItRel G h0 H0 ⟨(xs.zip ys).map fun p => .tup [p.1, p.2], fun h' => h' a = some (.lst xs) ∧ h' b = some (.lst ys)⟩ (Itz G.K a b) := fun h H r f ⟨e, e'⟩ => by
  obtain ⟨vs, g, rv⟩ := r.lst e
  obtain ⟨us, g', rv'⟩ := r.lst e'
  refine ⟨fun i d ed => ?_, vs, us, .of g, .of g', by simp only [List.length_map, List.length_zip, rv.length, rv'.length]; omega⟩
  rw [List.getElem?_map] at ed
  cases e2 : (xs.zip ys)[i]? with
  | none => rw [e2] at ed; cases ed
  | some p =>
    rw [e2] at ed; cases ed
    obtain ⟨h1, h2⟩ := zip_get e2
    obtain ⟨v, ev, rd⟩ := rv.get h1
    obtain ⟨v', ev', rd'⟩ := rv'.get h2
    refine ⟨⟨vs, us, v, v', .of g, .of g', ev, ev'⟩, fun x H' y => ?_⟩
    obtain ⟨T, x1, x2, rfl, n, rfl, y1, y2⟩ := y
    have z1 := y1 vs (.of g)
    have z2 := y2 us (.of g')
    rw [ev] at z1; cases z1
    rw [ev'] at z2; cases z2
    exact repPair r n rd rd'
theorem it_zipT (rh : RepH G h0 H0) {a b : Addr} {xs ys : List D} {vs us : List V} (g : SqT G.K H0 a vs) (g' : SqT G.K H0 b us) (rv : RepVs G.K H0 xs vs) (rv' : RepVs G.K H0 ys us) : ItRel G h0 H0 ⟨(xs.zip ys).map fun p => .tup [p.1, p.2], fun _ => True⟩ (RZ.ItzT G.K a b) := fun h H r f _ => by
  have g := f.t _ _ g
  have g' := f.t _ _ g'
  have rv := rv.mono f
  have rv' := rv'.mono f
  refine ⟨fun i d ed => ?_, vs, us, g, g', by simp only [List.length_map, List.length_zip, rv.length, rv'.length]; omega⟩
  rw [List.getElem?_map] at ed
  cases e2 : (xs.zip ys)[i]? with
  | none => rw [e2] at ed; cases ed
  | some p =>
    rw [e2] at ed; cases ed
    obtain ⟨h1, h2⟩ := zip_get e2
    obtain ⟨v, ev, rd⟩ := rv.get h1
    obtain ⟨v', ev', rd'⟩ := rv'.get h2
    refine ⟨⟨vs, us, v, v', g, g', ev, ev'⟩, fun x H' y => ?_⟩
    obtain ⟨T, x1, x2, rfl, n, rfl, y1, y2⟩ := y
    have z1 := y1 vs g
    have z2 := y2 us g'
    rw [ev] at z1; cases z1
    rw [ev'] at z2; cases z2
    exact repPair r n rd rd'
theorem rev_get {α : Type} {xs : List α} {i : Nat} {d : α} (e : xs.reverse[i]? = some d) : i < xs.length ∧ xs[xs.length - 1 - i]? = some d := by
  have hi : i < xs.length := by
    have := (List.getElem?_eq_some_iff.mp e).1
    simpa using this
  rw [List.getElem?_reverse hi] at e
  exact ⟨hi, e⟩
theorem it_revL (rh : RepH G h0 H0) {a : Addr} {xs : List D} : ItRel G h0 H0 ⟨xs.reverse, fun h' => h' a = some (.lst xs)⟩ (Itv G.K a xs.length) := fun h H r f e => by
  obtain ⟨vs, g, rv⟩ := r.lst e
  refine ⟨fun i d ed => ?_, by show xs.length ≤ _; simp⟩
  obtain ⟨hi, ed⟩ := rev_get ed
  obtain ⟨v, ev, rd⟩ := rv.get ed
  refine ⟨⟨hi, vs, v, .of g, ev⟩, fun x H' y => ?_⟩
  obtain ⟨rfl, y⟩ := y
  have := y vs (.of g)
  rw [ev] at this; cases this
  exact ⟨rd, r, Fm.refl⟩
theorem it_revT (rh : RepH G h0 H0) {a : Addr} {vs : List V} {xs : List D} (q : SqT G.K H0 a vs) (rv : RepVs G.K H0 xs vs) : ItRel G h0 H0 ⟨xs.reverse, fun _ => True⟩ (RT.ItvT G.K a xs.length) := fun h H r f _ => by
  have q' := f.t _ _ q
  have rv' := rv.mono f
  refine ⟨fun i d ed => ?_, by show xs.length ≤ _; simp⟩
  obtain ⟨hi, ed⟩ := rev_get ed
  obtain ⟨v, ev, rd⟩ := rv'.get ed
  refine ⟨⟨hi, vs, v, q', ev⟩, fun x H' y => ?_⟩
  obtain ⟨rfl, y⟩ := y
  have := y vs q'
  rw [ev] at this; cases this
  exact ⟨rd, r, Fm.refl⟩
end
section
variable {X : Cx} {G : Gr} {W : WX} {e e2 tg : Expr} {p pos : Pos} {wa wb : WE} {wl : WL}
theorem si_of (hK : X.K = G.K) (he : PE X e (lE G W wa)) : PI X tg e (lI G W fun E σ h R => wa E σ h fun x h1 => walkD x h1 fun J => R J h1) :=
  PI.imp (pi_seq he) fun σ H Q ⟨σd, h, R, E, at_, w, p⟩ => ⟨σd, h, _, E, at_, w, fun dx h1 x H1 w1 rx rh1 f1 => by
    cases dx with
    | tup ds =>
      obtain ⟨a, vs, rfl, sa, ra⟩ := repV_tup.mp rx
      exact .inr (.inl ⟨a, vs, rfl, by rw [hK]; exact sa, by rw [hK]; exact p _ _ _ _ w1 (it_tup rh1 sa ra) rh1 f1⟩)
    | scr ds =>
      obtain ⟨a, vs, rfl, sa, ra⟩ := repV_scr.mp rx
      exact .inl ⟨a, vs, rfl, by rw [hK]; exact sa.sq, by rw [hK]; exact p _ _ _ _ w1 (it_scr rh1 sa ra) rh1 f1⟩
    | str z => exact .inr (.inr ⟨z, rx.str_inv, p _ _ _ _ w1 it_str rh1 f1⟩)
    | ref a =>
      obtain ⟨xs, ea, q⟩ := w1
      obtain ⟨vs, g, rv⟩ := rh1.lst ea
      exact .inl ⟨a, vs, rx.ref_inv, .of g, by rw [hK]; exact p _ _ _ _ q (it_list rh1) rh1 f1⟩
    | _ => exact w1.elim⟩

/-- range of any arguments -/
def iRngA (ta : TA) : TI := fun σ H R => ta σ H fun vs H1 =>
  (∃ j : Int, vs = [.int j] ∧ -(2 ^ 62) ≤ j ∧ j < 2 ^ 62 ∧ R (Itr 0 j.toNat) H1) ∨ (∃ i j : Int, vs = [.int i, .int j] ∧ (-(2 ^ 62) ≤ i ∧ i < 2 ^ 62 ∧ -(2 ^ 62) ≤ j ∧ j < 2 ^ 62) ∧ R (Itr i (j - i).toNat) H1) ∨
    ∃ (i j c : Int) (n : Nat), vs = [.int i, .int j, .int c] ∧ RgC i j c n ∧ R (Itc i c n) H1
theorem pi_rangeA {es : List Expr} {ta : TA} (hg : Gl X "range") (hm : X.mg "range" = none) (ha : PA X (e :: es) ta)
    (hs : starEach (e :: es) X.env = (false, eval e X.env) :: starEach es X.env) (hpl : (backTo pos (starEach es X.env)).any (·.1) = false) :
    PI X tg (.Call (.Name "range" p) (e :: es) [] pos) (iRngA ta) := by
  refine ⟨fun pins s σ H R I h => ?_⟩
  refine Call_ (ld_blt I hg hm boot_range (PyProof.Rows.callWith_type1 (thn (ha.run pos pins s σ H _ I h) fun us s1 ⟨vs, H1, I1, r1, q1⟩ => ?_) hs hpl))
  rcases q1 with ⟨j, rfl, q1, q2, q⟩ | ⟨i, j, rfl, ⟨q1, q2, q3, q4⟩, q⟩ | ⟨i, j, k, n, rfl, ⟨c0, c1, c2, c3⟩, q⟩
  · cases r1 with
    | cons r rr =>
      cases rr
      obtain ⟨t, rfl⟩ := r
      exact call_range_1 (range_it I1 (by omega) (by omega) q1 q2 (by simpa using q))
  · cases r1 with
    | cons r rr =>
      cases rr with
      | cons r' rr =>
        cases rr
        obtain ⟨t, rfl⟩ := r
        obtain ⟨t', rfl⟩ := r'
        exact call_range_2 (range_it I1 q1 q2 q3 q4 q)
  · cases r1 with
    | cons r rr =>
      cases rr with
      | cons r' rr =>
        cases rr with
        | cons r'' rr =>
          cases rr
          obtain ⟨t, rfl⟩ := r
          obtain ⟨t', rfl⟩ := r'
          obtain ⟨t'', rfl⟩ := r''
          refine call_range_3 c0 ?_ (.inl (PyProof.noPylong_small c1))
          refine wpAny_pyIter_range (IsRange.new ..) c2 ?_
          have I2 : Inv X pins σ H1 { s1 with heap := s1.heap.push { cls := .type "range", data := .fields #[.int i t, .int j t', .int k t''] } } := I1.kept (t' := s1.toks) fun b o e => Heap.get?_push_of_some _ e
          refine pi_one (tk := s1.toks) I2 _ (turn_rangeC _ i k n) ?_ q
          have e1 : i + ((0 : Nat) : Int) * k = i := by simp
          have e2 : (n : Int) - ((0 : Nat) : Int) = Builtin.Range.rangeSize i j k := by rw [c3]; simp
          show IsRangeIter _ _ (i + ((0 : Nat) : Int) * k) ((n : Int) - ((0 : Nat) : Int)) k
          rw [e1, e2]
          exact Heap.get?_push_size _ rfl
theorem RepVs.ints3 {K : PySem.W.Frag} {H : Hp} {a b c : Int} {vs : List V} (r : RepVs K H [.int a, .int b, .int c] vs) : vs = [.int a, .int b, .int c] := by
  obtain ⟨v, l, rfl, h1, r⟩ := r.cons_inv
  obtain ⟨v2, l, rfl, h2, r⟩ := r.cons_inv
  obtain ⟨v3, l, rfl, h3, r⟩ := r.cons_inv
  rw [h1.int_inv, h2.int_inv, h3.int_inv, r.nil_inv]
theorem si_rng {es : List Expr} (hg : Gl X "range") (hm : X.mg "range" = none) (ha : PA X (e :: es) (lA G W wl)) (hs : starEach (e :: es) X.env = (false, eval e X.env) :: starEach es X.env) (hpl : (backTo pos (starEach es X.env)).any (·.1) = false) :
    PI X tg (.Call (.Name "range" p) (e :: es) [] pos) (lI G W fun E σ h R => wl E σ h fun ds h1 => rngD ds fun J => R J h1) :=
  PI.imp (pi_rangeA hg hm ha hs hpl) fun σ H Q ⟨σd, h, R, E, at_, w, p⟩ => ⟨σd, h, _, E, at_, w, fun ds h1 xs H1 w1 rs rh1 f1 => by
    unfold rngD at w1
    split at w1
    · rename_i j
      obtain ⟨v, rfl, rv⟩ := rs.one
      refine .inl ⟨j, by rw [rv.int_inv], by omega, by omega, ?_⟩
      exact p ⟨(List.range j.toNat).map fun (k : Nat) => .int (0 + k), fun _ => True⟩ h1 (Itr 0 j.toNat) H1 (by simpa only [Int.zero_add] using w1.2) it_rng rh1 f1
    · rename_i i j
      obtain ⟨v, u, rfl, rv, ru⟩ := rs.two
      exact .inr (.inl ⟨i, j, by rw [rv.int_inv, ru.int_inv], by omega, p _ h1 (Itr i (j - i).toNat) H1 w1.2 it_rng rh1 f1⟩)
    · rename_i i j c
      obtain ⟨⟨b1, b2, b3, b4, rfl⟩, w2⟩ := w1
      exact .inr (.inr ⟨i, j, -1, (i - j).toNat, rs.ints3, RgC.neg (by omega) (by omega) (by omega) (by omega), p _ h1 (Itc i (-1) (i - j).toNat) H1 w2 it_rngC rh1 f1⟩)
    · exact w1.elim⟩
theorem si_zip {elts : List Expr} {kk : Nat} {tpos : Pos} (hK : X.K = G.K) (hg : Gl X "zip") (hm : X.mg "zip" = none) (ha : PE X e (lE G W wa)) (hb : PE X e2 (lE G W wb)) (hs : starEach [e, e2] X.env = (false, eval e X.env) :: starEach [e2] X.env) (hs2 : starEach [e2] X.env = (false, eval e2 X.env) :: starEach [] X.env)
    (hpl : (backTo pos (starEach [e2] X.env)).any (·.1) = false) : PI X (.Tuple elts kk tpos) (.Call (.Name "zip" p) [e, e2] [] pos) (lI G W fun E σ h R => wa E σ h fun x h1 => wb E σ h1 fun y h2 => zipD x y h2 fun J => R J h2) :=
  PI.imp (RZ.pi_zipA hg hm (pa_cons ha (pa_cons hb pa_nil hs2) hs) hs hpl) fun σ H Q ⟨σd, h, R, E, at_, w, p⟩ =>
    ⟨σd, h, _, E, at_, w, fun dx h1 x H1 w1 rx rh1 f1 => ⟨σd, h1, _, E, at_.fm rh1 f1, w1, fun dy h2 y H2 w2 ry rh2 f2 => by
      show ∃ a b xs ys, _
      have rx := rx.fm rh1 f2
      unfold zipD at w2
      split at w2
      · obtain ⟨a, vs, rfl, sa, ra⟩ := repV_tup.mp rx
        obtain ⟨b, us, rfl, sb, rb⟩ := repV_tup.mp ry
        exact ⟨a, b, vs, us, rfl, .inr ⟨by rw [hK]; exact sa, by rw [hK]; exact sb, by rw [hK]; exact p _ _ _ _ w2 (it_zipT rh2 sa sb ra rb) rh2 (f1.trans f2)⟩⟩
      · obtain ⟨xs, ys, e1, e2, q⟩ := w2
        obtain ⟨vs, g, _⟩ := rh2.lst e1
        obtain ⟨us, g', _⟩ := rh2.lst e2
        exact ⟨_, _, vs, us, by rw [rx.ref_inv, ry.ref_inv], .inl ⟨.of g, .of g', by rw [hK]; exact p _ _ _ _ q (it_zipL rh2) rh2 (f1.trans f2)⟩⟩
      · exact w2.elim⟩⟩
theorem si_enm {elts : List Expr} {kk : Nat} {tpos : Pos} (hK : X.K = G.K) (hg : Gl X "enumerate") (hm : X.mg "enumerate" = none) (ha : PE X e (lE G W wa)) (hs : starEach [e] X.env = [(false, eval e X.env)]) (hs2 : starEach [e] X.env = (false, eval e X.env) :: starEach [] X.env) :
    PI X (.Tuple elts kk tpos) (.Call (.Name "enumerate" p) [e] [] pos) (lI G W fun E σ h R => wa E σ h fun x h1 => enmD x h1 fun J => R J h1) :=
  PI.imp (pi_enum hg hm (pa_cons ha pa_nil hs2) hs) fun σ H Q ⟨σd, h, R, E, at_, w, p⟩ =>
    ⟨σd, h, _, E, at_, w, fun dx h1 x H1 w1 rx rh1 f1 => by
      show ∃ a xs, _
      unfold enmD at w1
      split at w1
      · obtain ⟨xs, e1, q⟩ := w1
        obtain ⟨vs, g, _⟩ := rh1.lst e1
        exact ⟨_, vs, by rw [rx.ref_inv], .of g, by rw [hK]; exact p _ _ _ _ q (it_enm rh1) rh1 f1⟩
      · exact w1.elim⟩
theorem si_rev (hK : X.K = G.K) (hg : Gl X "reversed") (hm : X.mg "reversed" = none) (ha : PE X e (lE G W wa)) (hs : starEach [e] X.env = (false, eval e X.env) :: starEach [] X.env) :
    PI X tg (.Call (.Name "reversed" p) [e] [] pos) (lI G W fun E σ h R => wa E σ h fun x h1 => revD x h1 fun J => R J h1) :=
  PI.imp (RT.pi_revA hg hm ha hs) fun σ H Q ⟨σd, h, R, E, at_, w, p⟩ =>
    ⟨σd, h, _, E, at_, w, fun dx h1 x H1 w1 rx rh1 f1 => by
      unfold revD at w1
      split at w1
      · obtain ⟨a, vs, rfl, sa, ra⟩ := repV_tup.mp rx
        exact ⟨a, vs, rfl, .inr ⟨by rw [hK]; exact sa, by rw [hK, ra.length]; exact p _ _ _ _ w1 (it_revT rh1 sa ra) rh1 f1⟩⟩
      · obtain ⟨xs, e1, q⟩ := w1
        obtain ⟨vs, g, rv⟩ := rh1.lst e1
        exact ⟨_, vs, rx.ref_inv, .inl ⟨.of g, by rw [hK, rv.length]; exact p _ _ _ _ q (it_revL rh1) rh1 f1⟩⟩
      · exact w1.elim⟩
end

/-! ### loops' targets -/
def gNms : List Nat → TGs
  | [] => gNil
  | i :: is => gCons (gName i) (gNms is)
def tgG (K : PySem.W.Frag) : Tg → TG
  | .nm i => gName i
  | .tp is => gTup K is.length (gNms is)
section
variable {G : Gr} {h : MH} {H : Hp} {σd : DS} {σ : L2.St}
theorem gNms_ok {Q : L2.St → Hp → Prop} : ∀ {is : List Nat} {ds : List D} {vs : List V} {σd : DS} {σ : L2.St}, ds.length = is.length → RepVs G.K H ds vs → RepS G.K H σd σ → (∀ σ', RepS G.K H (setAll σd is ds) σ' → Q σ' H) → gNms is vs σ H Q
  | [], [], vs, σd, σ, _, r, rs, k => by rw [r.nil_inv]; exact ⟨rfl, k σ rs⟩
  | [], _ :: _, _, _, _, l, _, _, _ => by cases l
  | _ :: _, [], _, _, _, l, _, _, _ => by cases l
  | i :: is, d :: ds, vs, σd, σ, l, r, rs, k => by
    obtain ⟨v, us, rfl, rv, r⟩ := r.cons_inv
    exact ⟨v, us, rfl, gNms_ok (Nat.succ.inj l) r (rs.set rv) k⟩
theorem tgG_ok {t : Tg} {d : D} {v : V} {P : DS → Prop} {Q : L2.St → Hp → Prop} (b : bindT t d σd P) (rv : RepV G.K H d v) (rs : RepS G.K H σd σ) (k : ∀ σd' σ', P σd' → RepS G.K H σd' σ' → Q σ' H) : tgG G.K t v σ H Q := by
  cases t with
  | nm i => exact k _ _ b (rs.set rv)
  | tp is =>
    cases d with
    | tup ds =>
      obtain ⟨a, vs, rfl, sa, ra⟩ := repV_tup.mp rv
      exact ⟨a, vs, rfl, sa, by rw [ra.length]; exact b.1, gNms_ok b.1 ra rs fun σ' r => k _ _ b.2 r⟩
    | _ => exact b.elim
end
def tgIn : Tg → List Nat → Bool
  | .nm i, vs => vs.contains i
  | .tp is, vs => is.all fun i => vs.contains i
theorem wipe_get {σ : L2.St} {i : Nat} : ∀ {vs : List Nat}, (wipe σ vs)[i]? = if i ∈ vs then (σ[i]?).map (fun _ => none) else σ[i]?
  | [] => by simp [wipe]
  | v :: vs => by
    unfold wipe
    by_cases hv : v = i
    · subst hv
      rw [if_pos List.mem_cons_self]
      by_cases hl : v < σ.length
      · rw [List.getElem?_set_self (by rw [wipe_length]; exact hl), List.getElem?_eq_getElem hl]; rfl
      · rw [List.getElem?_eq_none (by rw [List.length_set, wipe_length]; omega), List.getElem?_eq_none (by omega)]; rfl
    · rw [List.getElem?_set_ne hv, wipe_get]
      have : i ∈ v :: vs ↔ i ∈ vs := by simp [Ne.symm hv]
      simp only [this]
theorem wipe_set {σ : L2.St} {i : Nat} {x : Option V} {vs : List Nat} (hi : i ∈ vs) : wipe (σ.set i x) vs = wipe σ vs := by
  apply List.ext_getElem?
  intro j
  rw [wipe_get, wipe_get]
  by_cases hj : i = j
  · subst hj
    simp only [hi, if_true, List.getElem?_set_self']
    cases σ[i]? <;> rfl
  · rw [List.getElem?_set_ne hj]
theorem wipe_idem {σ : L2.St} {vs : List Nat} : wipe (wipe σ vs) vs = wipe σ vs := by
  apply List.ext_getElem?
  intro j
  rw [wipe_get, wipe_get]
  split
  · rw [Option.map_map]; rfl
  · rfl
theorem gNms_in {K : PySem.W.Frag} {ws : List Nat} {Q : L2.St → Hp → Prop} {H : Hp} : ∀ {is : List Nat} {vs : List V} {σ : L2.St}, (∀ i ∈ is, i ∈ ws) → gNms is vs σ H Q → gNms is vs σ H fun σ' H' => wipe σ' ws = wipe σ ws ∧ Q σ' H'
  | [], vs, σ, _, h => ⟨h.1, rfl, h.2⟩
  | i :: is, vs, σ, hi, ⟨v, r, e, q⟩ => ⟨v, r, e, by
    have q' := gNms_in (K := K) (fun j hj => hi j (List.mem_cons_of_mem _ hj)) q
    rw [wipe_set (hi i List.mem_cons_self)] at q'
    exact q'⟩
theorem tgG_in {K : PySem.W.Frag} {t : Tg} {ws : List Nat} {v : V} {σ : L2.St} {H : Hp} {Q : L2.St → Hp → Prop} (hi : tgIn t ws = true) (q : tgG K t v (wipe σ ws) H Q) : tgG K t v (wipe σ ws) H fun σ' H' => wipe σ' ws = wipe σ ws ∧ Q σ' H' := by
  cases t with
  | nm i => exact ⟨by rw [wipe_set (by simpa [tgIn] using hi), wipe_idem], q⟩
  | tp is =>
    obtain ⟨a, xs, e, s, l, q⟩ := q
    refine ⟨a, xs, e, s, l, ?_⟩
    have := gNms_in (K := K) (ws := ws) (fun i h => by simpa [tgIn] using (List.all_eq_true.mp hi) i h) q
    rw [wipe_idem] at this
    exact this
theorem RepS.wipe {K : PySem.W.Frag} {H : Hp} {σd : DS} {σ : L2.St} (r : RepS K H σd σ) : ∀ vs : List Nat, RepS K H (wipeD σd vs) (L2.wipe σ vs)
  | [] => r
  | v :: vs => by
    have q := RepS.wipe r vs
    unfold wipeD L2.wipe
    refine ⟨by rw [List.length_set, List.length_set]; exact q.1, fun i d e => ?_⟩
    by_cases hv : v = i
    · subst hv
      by_cases hl : v < (wipeD σd vs).length
      · rw [List.getElem?_set_self hl] at e; cases e
      · rw [List.getElem?_eq_none (by rw [List.length_set]; omega)] at e; cases e
    · rw [List.getElem?_set_ne hv] at e
      rw [List.getElem?_set_ne hv]
      exact q.2 i d e
end DL
set_option Elab.async false
set_option linter.all false
set_option maxRecDepth 100000
set_option maxHeartbeats 1000000
/-! The D layer, 8: displays of dicts, isinstance, comprehensions. -/
namespace DL
open PySem PySem.Spec PyProof.Rows L2

section
variable {G : Gr} {h h1 : MH} {H H1 : Hp}
/-- what stands aside of the small heap is written -/
theorem RepH.asideW {p : Addr} {o u : HO} (R : RepH G h H) (n : h p = none) (e : H p = some u) (wr : Wr u) : RepH G h (L2.upd H p o) := fun a x ea =>
  (R a x ea).stay (upd_ne fun z => by rw [z, n] at ea; cases ea) (pst_wr e wr) fun dx y z => ⟨by rw [upd_ne (fun q => by rw [q, e] at y; cases y; exact wr)]; exact y, z⟩
/-- .. and taken in -/
theorem RepH.takeIn {p : Addr} {o w : HO} {u : MO} (R : RepH G h H) (n : H p = some w) (wr : Wr w) (new : RepO G (up h p u) (L2.upd H p o) p u) : RepH G (up h p u) (L2.upd H p o) := R.write n wr new
theorem Fm.takeIn {p : Addr} {o : HO} {u : MO} (n : H p = none) (f : Fm h H h1 H1) : Fm h H (up h1 p u) (L2.upd H1 p o) := fun a x e q => by
  have ne : a ≠ p := fun z => by rw [z, n] at q; cases q
  obtain ⟨a1, a2⟩ := f a x e q
  exact ⟨by rw [up_ne ne]; exact a1, by rw [upd_ne ne]; exact a2⟩
theorem Fm.asideW {p : Addr} {o : HO} (n : H p = none) (f : Fm h H h1 H1) : Fm h H h1 (L2.upd H1 p o) := fun a x e q => by
  have ne : a ≠ p := fun z => by rw [z, n] at q; cases q
  obtain ⟨a1, a2⟩ := f a x e q
  exact ⟨a1, by rw [upd_ne ne]; exact a2⟩
/-- a list that stood aside is taken in -/
theorem RepH.takeLst {p : Addr} {vs : List V} {ds : List D} (R : RepH G h H) (e : H p = some (.lst vs)) (n : h p = none) (r : RepVs G.K H ds vs) : RepH G (up h p (.lst ds)) H := fun a x ea => by
  by_cases ha : a = p
  · subst ha; rw [up_same] at ea; cases ea; exact ⟨vs, e, r⟩
  · rw [up_ne ha] at ea
    refine (R a x ea).stay rfl ⟨fun _ _ q => q, fun _ _ q => q⟩ fun dx y z => ⟨y, ?_⟩
    rw [up_ne (fun q => by rw [q, e] at y; cases y)]; exact z
end

/-! ### {k: v, ..} -/
def mergeD (kvs more : List (Key × D)) : List (Key × D) := more.foldl (fun acc kv => putK acc kv.1 kv.2) kvs
theorem RepF.merge {K : PySem.W.Frag} {H : Hp} : ∀ {more : List (Key × D)} {mores : List (Key × V)} {kvs : List (Key × D)} {ks : List (Key × V)}, RepF K H more mores → RepF K H kvs ks → RepF K H (mergeD kvs more) (mergeK ks mores)
  | [], _, _, _, r, q => by rw [show _ = [] from r]; exact q
  | (k, d) :: more, _, kvs, ks, r, q => by
    obtain ⟨v, s, rfl, rv, r'⟩ := r
    show RepF K H (mergeD (DL.putK kvs k d) more) (mergeK (L2.putK ks k v) s)
    exact RepF.merge r' (q.put rv)
theorem mergeD_app : ∀ {more kvs : List (Key × D)}, (∀ p ∈ more, p.1 ∉ kvs.map (·.1)) → (more.map (·.1)).Nodup → mergeD kvs more = kvs ++ more
  | [], kvs, _, _ => (List.append_nil _).symm
  | (k, d) :: more, kvs, hn, nd => by
    have nk := hn (k, d) List.mem_cons_self
    have e : putK kvs k d = kvs ++ [(k, d)] := by
      unfold putK
      rw [if_neg]
      intro z
      obtain ⟨p, hp, e⟩ := List.any_eq_true.mp z
      exact nk (List.mem_map.mpr ⟨p, hp, of_decide_eq_true e⟩)
    show mergeD (putK kvs k d) more = _
    rw [e, mergeD_app, List.append_assoc] <;> try rfl
    · intro p hp z
      rw [List.map_append, List.mem_append] at z
      rcases z with z | z
      · exact hn p (List.mem_cons_of_mem _ hp) z
      · rw [List.map_cons, List.nodup_cons] at nd
        have : p.1 = k := by simpa using z
        exact nd.1 (List.mem_map.mpr ⟨p, hp, this⟩)
    · rw [List.map_cons, List.nodup_cons] at nd; exact nd.2
def SPP (X : Cx) (G : Gr) (W : WX) (pos : Pos) (ks : List Str) (keys : List (Option Expr)) (values : List Expr) (wl : WL) : Prop :=
  ∃ trs, PPs X pos keys values trs ∧ ∀ σ H (Q : List V → Hp → Prop) (Q' : List (V × V) → Hp → Prop), lA G W wl σ H Q → (∀ vs H1, Q vs H1 → Q' ((ks.zip vs).map (fun kv => (V.str kv.1, kv.2))) H1) → tPairs trs σ H Q'
section
variable {X : Cx} {G : Gr} {W : WX} {e : Expr} {pos : Pos} {wa wb : WE} {wl : WL}
theorem sp_nil : SPP X G W pos [] [] [] (fun _ _ h Q => Q [] h) := ⟨[], pps_nil, fun σ H Q Q' ⟨σd, h, R, E, at_, w, p⟩ f => f [] H (p [] h [] H w repVs_nil at_.r Fm.refl)⟩
theorem sp_cons {ks : List Str} {keys : List (Option Expr)} {values : List Expr} {k : Str} {j : Nat} {kp : Pos} (ha : PE X e (lE G W wa)) (hr : SPP X G W pos ks keys values wl) :
    SPP X G W pos (k :: ks) (some (.Constant (.str k) j kp) :: keys) (e :: values) (fun E σ h Q => wa E σ h fun x h1 => wl E σ h1 fun xs h2 => Q (x :: xs) h2) := by
  obtain ⟨trs, hp, hq⟩ := hr
  refine ⟨_, pps_cons pe_str ha hp, fun σ H Q Q' ⟨σd, h, R, E, at_, w, p⟩ f => ?_⟩
  refine ⟨σd, h, _, E, at_, w, fun dx h1 x H1 w1 rx rh1 f1 => ?_⟩
  exact hq σ H1 (fun vs H2 => Q (x :: vs) H2) _ ⟨σd, h1, _, E, at_.fm rh1 f1, w1, fun ds h2 xs H2 w2 rs rh2 f2 => p (dx :: ds) h2 (x :: xs) H2 w2 (repVs_cons (rx.fm rh1 f2) rs) rh2 (f1.trans f2)⟩ fun vs H2 q => f _ _ q
theorem repF_zip {K : PySem.W.Frag} {H : Hp} : ∀ {ks : List Str} {ds : List D} {vs : List V}, RepVs K H ds vs → RepF K H ((ks.map Sum.inr : List Key).zip ds) ((ks.map Sum.inr : List Key).zip vs)
  | [], _, _, _ => rfl
  | k :: ks, [], vs, r => by rw [r.nil_inv]; rfl
  | k :: ks, d :: ds, vs, r => by
    obtain ⟨v, us, rfl, rv, r⟩ := r.cons_inv
    exact ⟨v, _, rfl, rv, repF_zip r⟩
theorem zip_keys {α : Type} : ∀ {ks : List Key} {ds : List α}, ks.Nodup → ((ks.zip ds).map (·.1)).Nodup
  | [], _, _ => by simp
  | _ :: _, [], _ => by simp
  | k :: ks, d :: ds, nd => by
    rw [List.zip_cons_cons, List.map_cons, List.nodup_cons]
    refine ⟨fun z => ?_, zip_keys (List.nodup_cons.mp nd).2⟩
    obtain ⟨p, hp, e⟩ := List.mem_map.mp z
    exact (List.nodup_cons.mp nd).1 ((show p.1 = k from e) ▸ (List.of_mem_zip hp).1)
theorem zip_strs : ∀ (ks : List Str) (vs : List V), ((ks.map Sum.inr : List Key).zip vs).map (fun kv => (kV kv.1, kv.2)) = (ks.zip vs).map fun kv => (V.str kv.1, kv.2)
  | [], _ => rfl
  | _ :: _, [] => rfl
  | k :: ks, v :: vs => by
    exact congrArg ((V.str k, v) :: ·) (zip_strs ks vs)
theorem se_dsp {ks : List Str} {keys : List (Option Expr)} {values : List Expr} (h : SPP X G W pos ks keys values wl) (hall : keys.all (·.isSome) = true) (hl : keys.length = values.length) (h0 : keys ≠ []) (h15 : keys.length ≤ 15) (hk : ks.length = keys.length) (nd : ks.Nodup) :
    PE X (.Dict keys values pos) (lE G W fun E σ h Q => wl E σ h fun ds h1 => al (.dct ((ks.map Sum.inr).zip ds)) h1 Q) := by
  obtain ⟨trs, hp, hq⟩ := h
  refine PE.imp (pe_disp hp hall hl h0 h15) fun σ H Q ⟨σd, h, R, E, at_, w, p⟩ l n => ?_
  have na : h l = none := at_.r.free n
  have r1 : RepH G h (L2.upd H l (.dK [])) := at_.r.aside n
  have f0 : Fm h H h (L2.upd H l (.dK [])) := Fm.aside n
  refine hq σ _ (fun vs H2 => H2 l = some (.dK []) ∧ Q (.ref l) (L2.upd H2 l (.dK (mergeK [] ((ks.map Sum.inr : List Key).zip vs))))) _ ⟨σd, h, _, E, at_.fm r1 f0, w, fun ds h2 vs H2 w2 rs rh2 f2 => ?_⟩ fun vs H1 q => ?_
  · obtain ⟨n2, e2⟩ := f2 l _ na upd_same
    refine ⟨e2, ?_⟩
    have rf : RepF G.K H2 (mergeD [] ((ks.map Sum.inr : List Key).zip ds)) (mergeK [] ((ks.map Sum.inr : List Key).zip vs)) := RepF.merge (repF_zip rs) rfl
    rw [mergeD_app (fun p _ z => by cases z) (zip_keys (by
      refine (List.pairwise_map).mpr ?_
      exact nd.imp fun hne e => hne (Sum.inr.inj e))), List.nil_append] at rf
    refine p _ _ _ _ (w2 l n2) repV_ref (rh2.takeIn e2 trivial ⟨_, upd_same, rf.mono (pst_wr e2 trivial)⟩) ((f0.trans f2).takeIn n)
  · refine ⟨q.1, _, ?_, ?_, q.2⟩
    · exact (zip_strs ks vs).symm
    · rw [List.length_zip, List.length_map]; omega
theorem se_dsp0 : PE X (.Dict [] [] pos) (lE G W fun E σ h Q => al (.dct []) h Q) :=
  PE.imp pe_dnewK fun σ H Q ⟨σd, h, R, E, at_, w, p⟩ l n => p _ _ _ _ (w l (at_.r.free n)) repV_ref (at_.r.new n ⟨[], upd_same, rfl⟩) (Fm.new n)

/-! ### isinstance -/
def rIsD (G : Gr) (T : Value) (ts : List Ty) : List V → Hp → VK → Prop := fun xs H Q => ∃ dx x h P, xs = [x] ∧ RepV G.K H dx x ∧ RepH G h H ∧ isTys dx h ts P ∧ ∀ k, P k → Q (.bl k) H
end

/-! ### comprehensions -/
section
variable {X : Cx} {G : Gr}
abbrev W0 : WX := fun _ _ _ _ => False
abbrev E0 : DX := fun _ _ _ => False
theorem At.blk {W : WX} {E : DX} {σd : DS} {σ : L2.St} {h : MH} {H : Hp} (a : At G W E σd σ h H) (vs : List Nat) : At G W0 E0 (wipeD σd vs) (L2.wipe σ vs) h H :=
  ⟨a.s.wipe vs, a.r, fun _ _ _ _ _ _ z => z.elim⟩
theorem at0 {σd : DS} {σ : L2.St} {h : MH} {H : Hp} (s : RepS G.K H σd σ) (r : RepH G h H) : At G W0 E0 σd σ h H := ⟨s, r, fun _ _ _ _ _ _ z => z.elim⟩
variable {W : WX} {elt tg iter : Expr} {ifs : List Expr} {scope : Scope} {own : List (Str × Nat)} {pos : Pos} {wi : DX → DS → MH → (ItV → MH → Prop) → Prop} {wt : DX → DS → MH → (Bool → MH → Prop) → Prop} {we : WE} {t : Tg}
/-- one clause: the reading behind -/
theorem lc_read {K : PySem.W.Frag} (hK : K = G.K) {vs : List Nat} (hi : tgIn t vs = true) : ∀ σ H Q, lE G W (fun E σ h Q => wi E σ h fun J h1 => lcGo t J.ok (fun σ h P => wt E0 σ h P) (fun σ h P => we E0 σ h P) (wipeD σ vs) (fun acc h2 => al (.lst acc) h2 Q) J.its [] h1) σ H Q →
    tLc (lI G W wi) (tgG K t) (lT G W0 wt) (lE G W0 we) vs σ H Q := fun σ H Q ⟨σd, h, R, E, at_, w, p⟩ => by
  subst hK
  refine ⟨σd, h, _, E, at_, w, fun Jd h1 J H1 go ri rh1 f1 L nL => ?_⟩
  have at1 := (at_.fm rh1 f1).blk vs
  -- the state of a turn
  let S : Nat → MH → Hp → Prop := fun i h' H' => ∃ acc av, RepH G h' H' ∧ Fm h1 H1 h' H' ∧ h' L = none ∧ H' L = some (.lst av) ∧ RepVs G.K H' acc av ∧ i ≤ Jd.its.length ∧
    lcGo t Jd.ok (fun σ h P => wt E0 σ h P) (fun σ h P => we E0 σ h P) (wipeD σd vs) (fun acc h2 => al (.lst acc) h2 R) (Jd.its.drop i) acc h'
  refine ⟨fun i m H' => m = Jd.its.length - i ∧ ∃ h', S i h' H', ⟨Jd.its.length, by simp, h1, [], [], rh1.aside nL, Fm.aside nL, rh1.free nL, upd_same, repVs_nil, Nat.zero_le _, by simpa using go⟩, ?_⟩
  rintro i m H' ⟨rfl, h', acc, av, rh, fm, nl, el, rv, hi', go⟩
  have ok : Jd.ok h' := by
    cases e : Jd.its.drop i with
    | nil => rw [e] at go; exact go.1
    | cons d r => rw [e] at go; exact go.1
  obtain ⟨item, stop⟩ := ri h' H' rh (fm.pst rh1) ok
  by_cases hlt : i < Jd.its.length
  · rw [List.drop_eq_getElem_cons hlt] at go
    obtain ⟨_, go⟩ := go
    obtain ⟨jg, jy⟩ := item i _ (List.getElem?_eq_getElem hlt)
    refine .inr ⟨jg, fun H' => ∃ h', S (i + 1) h' H', fun H2 ⟨h2, s⟩ => ⟨Jd.its.length - (i + 1), by omega, rfl, h2, s⟩, fun x H2 y => ?_⟩
    obtain ⟨rx, rh2, f2⟩ := jy x H2 y
    obtain ⟨nl2, el2⟩ := f2 L _ nl el
    have fm2 := fm.trans f2
    have at2 := at1.fm rh2 fm2
    refine tgG_in hi (tgG_ok go rx at2.s fun σd3 σ3 go3 rs3 => ?_)
    refine ⟨σd3, h', _, E0, at0 rs3 rh2, go3, fun k h4 H4 go4 rh4 f4 => ?_⟩
    obtain ⟨nl4, el4⟩ := f4 L _ nl2 el2
    have rv4 := (rv.fm rh f2).fm rh2 f4
    cases k with
    | false => exact ⟨h4, acc, av, rh4, fm2.trans f4, nl4, el4, rv4, hlt, go4⟩
    | true =>
      refine ⟨σd3, h4, _, E0, (at0 rs3 rh2).fm rh4 f4, go4, fun d5 h5 v5 H5 go5 r5 rh5 f5 => ?_⟩
      obtain ⟨nl5, el5⟩ := f5 L _ nl4 el4
      have rv5 := rv4.fm rh4 f5
      have ps : Pst G.K H5 (L2.upd H5 L (.lst (av ++ [v5]))) := pst_wr el5 trivial
      refine ⟨av, el5, by rw [rv5.length]; exact go5.1, h5, acc ++ [d5], av ++ [v5], rh5.asideW nl5 el5 trivial, ((fm2.trans f4).trans f5).asideW nL, nl5, upd_same, ?_, hlt, go5.2⟩
      exact (rv5.mono ps).append (repVs_cons (r5.mono ps) repVs_nil)
  · have e : i = Jd.its.length := by omega
    subst e
    rw [List.drop_length] at go
    exact .inl ⟨stop, p _ _ _ _ (go.2 L nl) repV_ref (rh.takeLst el nl rv) (fun a o e q => by
      obtain ⟨e1, q1⟩ := f1 a o e q
      obtain ⟨e2, q2⟩ := fm a o e1 q1
      exact ⟨by rw [up_ne (ne_of_none q1 nL)]; exact e2, q2⟩)⟩

theorem se_lc {cd : Option Expr} (hK : X.K = G.K) (hc : X.calm = true) (hN : X.N.Nodup) (hi : PI X tg iter (lI G W wi)) (ok : BlkOk X.N X.env.scope scope own) (hin : tgIn t (own.map (·.2)) = true)
    (hg : ∀ (s : Shared) (H : Hp) (C : Addr) (cl : List (Str × Addr)) (fp : List Addr), PG (X.blk s H scope (compEnvC scope cl C X.env) fp) tg (tgG X.K t)) (ht : ∀ (s : Shared) (H : Hp) (C : Addr) (cl : List (Str × Addr)) (fp : List Addr), PTs (X.blk s H scope (compEnvC scope cl C X.env) fp) ifs (lT G W0 wt))
    (he : ∀ (s : Shared) (H : Hp) (C : Addr) (cl : List (Str × Addr)) (fp : List Addr), PE (X.blk s H scope (compEnvC scope cl C X.env) fp) elt (lE G W0 we)) (hs : ∀ x, foldedSetIterable iter X.env x = pure x) :
    PE X (.ListComp elt [⟨tg, iter, ifs, 0⟩] scope pos) (lE G W (fun E σ h Q => wi E σ h fun J h1 => lcGo t J.ok (fun σ h P => wt E0 σ h P) (fun σ h P => we E0 σ h P) (wipeD σ (own.map (·.2))) (fun acc h2 => al (.lst acc) h2 Q) J.its [] h1)) :=
  PE.imp (pe_lc hc hN hi ok hg ht he hs) (lc_read hK hin)
/-- two clauses -/
theorem lc2_read {K : PySem.W.Frag} (hK : K = G.K) {t1 : Tg} {wi1 : DX → DS → MH → (ItV → MH → Prop) → Prop} {wt1 : DX → DS → MH → (Bool → MH → Prop) → Prop} {vs vs1 : List Nat} (hi : tgIn t vs = true) (hi1 : tgIn t1 vs1 = true) : ∀ σ H Q, lE G W (fun E σ h Q => wi E σ h fun J h1 =>
      lcGo2 t J.ok (fun σ h P => wt E0 σ h P) (fun σ1 acc h2 K => wi1 E0 σ1 h2 fun J1 h3 => lcGo t1 J1.ok (fun σ h P => wt1 E0 σ h P) (fun σ h P => we E0 σ h P) (wipeD σ1 vs1) K J1.its acc h3)
        (wipeD σ vs) (fun acc h2 => al (.lst acc) h2 Q) J.its [] h1) σ H Q →
    tLc2 (lI G W wi) (tgG K t) (lT G W0 wt) (lI G W0 wi1) (tgG K t1) (lT G W0 wt1) (lE G W0 we) vs vs1 σ H Q := fun σ H Q ⟨σd, h, R, E, at_, w, p⟩ => by
  subst hK
  refine ⟨σd, h, _, E, at_, w, fun Jd h1 J H1 go ri rh1 f1 L nL => ?_⟩
  have at1 := (at_.fm rh1 f1).blk vs
  let GO := lcGo2 t Jd.ok (fun σ h P => wt E0 σ h P) (fun σ1 acc h2 K => wi1 E0 σ1 h2 fun J1 h3 => lcGo t1 J1.ok (fun σ h P => wt1 E0 σ h P) (fun σ h P => we E0 σ h P) (wipeD σ1 vs1) K J1.its acc h3)
        (wipeD σd vs) (fun acc h2 => al (.lst acc) h2 R)
  let A : MH → Hp → List D → Prop := fun h' H' acc => ∃ av, RepH G h' H' ∧ Fm h1 H1 h' H' ∧ h' L = none ∧ H' L = some (.lst av) ∧ RepVs G.K H' acc av
  let S : Nat → MH → Hp → Prop := fun i h' H' => ∃ acc, A h' H' acc ∧ i ≤ Jd.its.length ∧ GO (Jd.its.drop i) acc h'
  refine ⟨fun i m H' => m = Jd.its.length - i ∧ ∃ h', S i h' H', ⟨Jd.its.length, by simp, h1, [], ⟨[], rh1.aside nL, Fm.aside nL, rh1.free nL, upd_same, repVs_nil⟩, Nat.zero_le _, by simpa using go⟩, ?_⟩
  rintro i m H' ⟨rfl, h', acc, ⟨av, rh, fm, nl, el, rv⟩, hi', go⟩
  have ok : Jd.ok h' := by
    cases e : Jd.its.drop i with
    | nil => rw [e] at go; exact go.1
    | cons d r => rw [e] at go; exact go.1
  obtain ⟨item, stop⟩ := ri h' H' rh (fm.pst rh1) ok
  by_cases hlt : i < Jd.its.length
  · rw [List.drop_eq_getElem_cons hlt] at go
    obtain ⟨_, go⟩ := go
    obtain ⟨jg, jy⟩ := item i _ (List.getElem?_eq_getElem hlt)
    refine .inr ⟨jg, fun H' => ∃ h', S (i + 1) h' H', fun H2 ⟨h2, s⟩ => ⟨Jd.its.length - (i + 1), by omega, rfl, h2, s⟩, fun x H2 y => ?_⟩
    obtain ⟨rx, rh2, f2⟩ := jy x H2 y
    obtain ⟨nl2, el2⟩ := f2 L _ nl el
    have fm2 := fm.trans f2
    have at2 := at1.fm rh2 fm2
    refine tgG_in hi (tgG_ok go rx at2.s fun σd3 σ3 go3 rs3 => ?_)
    refine ⟨σd3, h', _, E0, at0 rs3 rh2, go3, fun k h4 H4 go4 rh4 f4 => ?_⟩
    obtain ⟨nl4, el4⟩ := f4 L _ nl2 el2
    have rv4 := (rv.fm rh f2).fm rh2 f4
    have fm4 := fm2.trans f4
    cases k with
    | false => exact ⟨h4, acc, ⟨av, rh4, fm4, nl4, el4, rv4⟩, hlt, go4⟩
    | true =>
      have at4 := (at0 rs3 rh2).fm rh4 f4
      refine ⟨σd3, h4, _, E0, at4, go4, fun Jd1 h5 J1 H5 go5 ri5 rh5 f5 => ?_⟩
      have at5 := (at4.fm rh5 f5).s.wipe vs1
      obtain ⟨nl5, el5⟩ := f5 L _ nl4 el4
      refine ⟨fun j m H' => m = Jd1.its.length - j ∧ ∃ h' acc, A h' H' acc ∧ Pst G.K H5 H' ∧ j ≤ Jd1.its.length ∧
        lcGo t1 Jd1.ok (fun σ h P => wt1 E0 σ h P) (fun σ h P => we E0 σ h P) (wipeD σd3 vs1) (GO (Jd.its.drop (i + 1))) (Jd1.its.drop j) acc h', ⟨Jd1.its.length, by simp, h5, acc, ⟨av, rh5, fm4.trans f5, nl5, el5, rv4.fm rh4 f5⟩, ⟨fun _ _ q => q, fun _ _ q => q⟩, Nat.zero_le _, by simpa using go5⟩, ?_⟩
      rintro j m H6 ⟨rfl, h6, acc6, ⟨av6, rh6, fm6, nl6, el6, rv6⟩, fj6, hj', go6⟩
      have ok6 : Jd1.ok h6 := by
        cases e : Jd1.its.drop j with
        | nil => rw [e] at go6; exact go6.1
        | cons d r => rw [e] at go6; exact go6.1
      obtain ⟨item6, stop6⟩ := ri5 h6 H6 rh6 fj6 ok6
      by_cases hlj : j < Jd1.its.length
      · rw [List.drop_eq_getElem_cons hlj] at go6
        obtain ⟨_, go6⟩ := go6
        obtain ⟨jg6, jy6⟩ := item6 j _ (List.getElem?_eq_getElem hlj)
        refine .inr ⟨jg6, fun H' => ∃ h' acc, A h' H' acc ∧ Pst G.K H5 H' ∧ j + 1 ≤ Jd1.its.length ∧
          lcGo t1 Jd1.ok (fun σ h P => wt1 E0 σ h P) (fun σ h P => we E0 σ h P) (wipeD σd3 vs1) (GO (Jd.its.drop (i + 1))) (Jd1.its.drop (j + 1)) acc h', fun H2 ⟨h2, acc2, s⟩ => ⟨Jd1.its.length - (j + 1), by omega, rfl, h2, acc2, s⟩, fun x H7 y => ?_⟩
        obtain ⟨rx7, rh7, f7⟩ := jy6 x H7 y
        obtain ⟨nl7, el7⟩ := f7 L _ nl6 el6
        refine tgG_in hi1 (tgG_ok go6 rx7 (at5.mono (fj6.trans (f7.pst rh6))) fun σd8 σ8 go8 rs8 => ?_)
        refine ⟨σd8, h6, _, E0, at0 rs8 rh7, go8, fun k h9 H9 go9 rh9 f9 => ?_⟩
        obtain ⟨nl9, el9⟩ := f9 L _ nl7 el7
        have rv9 := (rv6.fm rh6 f7).fm rh7 f9
        have fm9 := (fm6.trans f7).trans f9
        cases k with
        | false => exact ⟨h9, acc6, ⟨av6, rh9, fm9, nl9, el9, rv9⟩, (fj6.trans (f7.pst rh6)).trans (f9.pst rh7), hlj, go9⟩
        | true =>
          refine ⟨σd8, h9, _, E0, (at0 rs8 rh7).fm rh9 f9, go9, fun d10 h10 v10 H10 go10 r10 rh10 f10 => ?_⟩
          obtain ⟨nl10, el10⟩ := f10 L _ nl9 el9
          have rv10 := rv9.fm rh9 f10
          have ps : Pst G.K H10 (L2.upd H10 L (.lst (av6 ++ [v10]))) := pst_wr el10 trivial
          have fj : Pst G.K H5 (L2.upd H10 L (.lst (av6 ++ [v10]))) := (((fj6.trans (f7.pst rh6)).trans (f9.pst rh7)).trans (f10.pst rh9)).trans ps
          exact ⟨av6, el10, by rw [rv10.length]; exact go10.1, h10, acc6 ++ [d10], ⟨av6 ++ [v10], rh10.asideW nl10 el10 trivial, (fm9.trans f10).asideW nL, nl10, upd_same, (rv10.mono ps).append (repVs_cons (r10.mono ps) repVs_nil)⟩, fj, hlj, go10.2⟩
      · have e : j = Jd1.its.length := by omega
        subst e
        rw [List.drop_length] at go6
        exact .inl ⟨stop6, h6, acc6, ⟨av6, rh6, fm6, nl6, el6, rv6⟩, hlt, go6.2⟩
  · have e : i = Jd.its.length := by omega
    subst e
    rw [List.drop_length] at go
    exact .inl ⟨stop, p _ _ _ _ (go.2 L nl) repV_ref (rh.takeLst el nl rv) (fun a o e q => by
      obtain ⟨e1, q1⟩ := f1 a o e q
      obtain ⟨e2, q2⟩ := fm a o e1 q1
      exact ⟨by rw [up_ne (ne_of_none q1 nL)]; exact e2, q2⟩)⟩

theorem se_lc2 {cd cd1 : Option Expr} {tg1 iter1 : Expr} {ifs1 : List Expr} {vs1 : List Nat} {t1 : Tg} {wi1 : DX → DS → MH → (ItV → MH → Prop) → Prop} {wt1 : DX → DS → MH → (Bool → MH → Prop) → Prop} (hK : X.K = G.K) (hc : X.calm = true) (hN : X.N.Nodup) (hi : PI X tg iter (lI G W wi)) (ok : BlkOk X.N X.env.scope scope own) (hv : ∀ i ∈ vs1, i ∈ own.map (·.2)) (hin : tgIn t (own.map (·.2)) = true) (hin1 : tgIn t1 vs1 = true)
    (hg : ∀ (s : Shared) (H : Hp) (C : Addr) (cl : List (Str × Addr)) (fp : List Addr), PG (X.blk s H scope (compEnvC scope cl C X.env) fp) tg (tgG X.K t)) (ht : ∀ (s : Shared) (H : Hp) (C : Addr) (cl : List (Str × Addr)) (fp : List Addr), PTs (X.blk s H scope (compEnvC scope cl C X.env) fp) ifs (lT G W0 wt))
    (hi1 : ∀ (s : Shared) (H : Hp) (C : Addr) (cl : List (Str × Addr)) (fp : List Addr), PI (X.blk s H scope (compEnvC scope cl C X.env) fp) tg1 iter1 (lI G W0 wi1))
    (hg1 : ∀ (s : Shared) (H : Hp) (C : Addr) (cl : List (Str × Addr)) (fp : List Addr), PG (X.blk s H scope (compEnvC scope cl C X.env) fp) tg1 (tgG X.K t1)) (ht1 : ∀ (s : Shared) (H : Hp) (C : Addr) (cl : List (Str × Addr)) (fp : List Addr), PTs (X.blk s H scope (compEnvC scope cl C X.env) fp) ifs1 (lT G W0 wt1))
    (he : ∀ (s : Shared) (H : Hp) (C : Addr) (cl : List (Str × Addr)) (fp : List Addr), PE (X.blk s H scope (compEnvC scope cl C X.env) fp) elt (lE G W0 we)) (hs : ∀ x, foldedSetIterable iter X.env x = pure x) (hs1 : ∀ env x, foldedSetIterable iter1 env x = pure x) :
    PE X (.ListComp elt [⟨tg, iter, ifs, 0⟩, ⟨tg1, iter1, ifs1, 0⟩] scope pos) (lE G W (fun E σ h Q => wi E σ h fun J h1 =>
      lcGo2 t J.ok (fun σ h P => wt E0 σ h P) (fun σ1 acc h2 K => wi1 E0 σ1 h2 fun J1 h3 => lcGo t1 J1.ok (fun σ h P => wt1 E0 σ h P) (fun σ h P => we E0 σ h P) (wipeD σ1 vs1) K J1.its acc h3)
        (wipeD σ (own.map (·.2))) (fun acc h2 => al (.lst acc) h2 Q) J.its [] h1)) :=
  PE.imp (pe_lc2 hc hN hi ok hv hg ht hi1 hg1 ht1 he hs hs1) (lc2_read hK hin hin1)
theorem sts_none : PTs X [] (lT G W0 fun _ _ h Q => Q true h) := ⟨fun pins s σ H Q I ⟨σd, h, R, E, at_, w, p⟩ => pts_nil.run pins s σ H Q I (p true h H w at_.r Fm.refl)⟩
theorem sts_one {c : Expr} (hc : PT X c (lT G W0 wt)) : PTs X [c] (lT G W0 wt) := pts_one hc
end
end DL
set_option Elab.async false
set_option linter.all false
set_option maxRecDepth 100000
set_option maxHeartbeats 1000000
/-! The D layer, 9: statements. -/
namespace DL
open PySem PySem.Spec PyProof.Rows L2

structure AtS (G : Gr) (W : WX) (F : DS → DX) (σd : DS) (σ : L2.St) (h : MH) (H : Hp) : Prop where
  s : RepS G.K H σd σ
  r : RepH G h H
  x : ∀ c fs σd' h' cls dd σ' H', F σd' c fs h' → RepX G h' H' c fs cls dd → RepS G.K H' σd' σ' → RepH G h' H' → Fm h H h' H' → W cls dd σ' H'
def PostS (G : Gr) (h : MH) (H : Hp) (P : DS → MH → Prop) (Q : L2.St → Hp → Prop) : Prop := ∀ σd' h' σ' H', P σd' h' → RepS G.K H' σd' σ' → RepH G h' H' → Fm h H h' H' → Q σ' H'
structure EndR (G : Gr) (h : MH) (H : Hp) (Dn : En) (Q : Ends) : Prop where
  nx : PostS G h H Dn.nx Q.nx
  rt : Post G h H Dn.rt Q.rt
  bk : PostS G h H Dn.bk Q.bk
  ct : PostS G h H Dn.ct Q.ct
section
variable {G : Gr} {W : WX} {F : DS → DX} {σd σd1 : DS} {σ σ1 : L2.St} {h h1 : MH} {H H1 : Hp} {Dn : En} {Q : Ends}
theorem AtS.at (a : AtS G W F σd σ h H) : At G W (F σd) σd σ h H := ⟨a.s, a.r, fun c fs h' cls dd H' e rx rh f => a.x c fs σd h' cls dd σ H' e rx (a.s.fm a.r f) rh f⟩
theorem AtS.fm (a : AtS G W F σd σ h H) (r : RepH G h1 H1) (f : Fm h H h1 H1) : AtS G W F σd σ h1 H1 :=
  ⟨a.s.fm a.r f, r, fun c fs σd' h' cls dd σ' H' e rx rs rh g => a.x c fs σd' h' cls dd σ' H' e rx rs rh (f.trans g)⟩
theorem AtS.go (a : AtS G W F σd σ h H) (s : RepS G.K H1 σd1 σ1) (r : RepH G h1 H1) (f : Fm h H h1 H1) : AtS G W F σd1 σ1 h1 H1 :=
  ⟨s, r, fun c fs σd' h' cls dd σ' H' e rx rs rh g => a.x c fs σd' h' cls dd σ' H' e rx rs rh (f.trans g)⟩
theorem PostS.fm {P : DS → MH → Prop} {Q : L2.St → Hp → Prop} (p : PostS G h H P Q) (f : Fm h H h1 H1) : PostS G h1 H1 P Q := fun σd' h' σ' H' e rs rh g => p σd' h' σ' H' e rs rh (f.trans g)
theorem EndR.fm (p : EndR G h H Dn Q) (f : Fm h H h1 H1) : EndR G h1 H1 Dn Q := ⟨p.nx.fm f, p.rt.fm f, p.bk.fm f, p.ct.fm f⟩
end
abbrev WG := (DS → DX) → D → DS → MH → (DS → MH → Prop) → Prop
abbrev WGs := (DS → DX) → List D → DS → MH → (DS → MH → Prop) → Prop
abbrev WS := En → DS → MH → Prop
def lG (G : Gr) (W : WX) (w : WG) : TG := fun v σ H Q => ∃ d σd h P F, AtS G W F σd σ h H ∧ RepV G.K H d v ∧ w F d σd h P ∧ PostS G h H P Q
def lGs (G : Gr) (W : WX) (w : WGs) : TGs := fun vs σ H Q => ∃ ds σd h P F, AtS G W F σd σ h H ∧ RepVs G.K H ds vs ∧ w F ds σd h P ∧ PostS G h H P Q
def lS (G : Gr) (W : WX) (w : WS) : TS := fun Q σ H => ∃ σd h Dn, AtS G W (exAt Dn) σd σ h H ∧ w Dn σd h ∧ EndR G h H Dn Q

section
variable {X : Cx} {G : Gr} {W : WX} {e a b c tg : Expr} {es : List Expr} {pos : Pos} {st : Stmt} {rest body body2 : List Stmt} {wa wb : WE} {wl : WL} {wg : WG} {wgs : WGs} {ws wu : WS} {wt : DX → DS → MH → (Bool → MH → Prop) → Prop}
theorem PG.imp {t t' : TG} (p : PG X e t) (i : ∀ v σ H Q, t' v σ H Q → t v σ H Q) : PG X e t' := ⟨fun pins s σ H v u Q I r w => p.run pins s σ H v u Q I r (i _ _ _ _ w)⟩
theorem PGs.imp {t t' : TGs} (p : PGs X es t) (i : ∀ v σ H Q, t' v σ H Q → t v σ H Q) : PGs X es t' := ⟨fun pins s σ H v u Q I r w => p.run pins s σ H v u Q I r (i _ _ _ _ w)⟩
theorem PS.imp {t t' : TS} (p : PS X st t) (i : ∀ Q σ H, t' Q σ H → t Q σ H) : PS X st t' := ⟨fun pins s σ H Q I w => p.run pins s σ H Q I (i _ _ _ w)⟩
theorem PSs.imp {t t' : TS} (p : PSs X rest t) (i : ∀ Q σ H, t' Q σ H → t Q σ H) : PSs X rest t' := ⟨fun pins s σ H Q I w => p.run pins s σ H Q I (i _ _ _ w)⟩

/-! ### targets -/
theorem sg_nm {i : Nat} {x : Str} (hN : X.N.Nodup) (hi : X.N[i]? = some x) (hx : Loc X.env.scope x) (hf : X.fn x = true ∨ X.env.scope.names.lookup x = some .local) : PG X (.Name x pos) (lG G W fun _ d σ h P => P (σ.set i (some d)) h) :=
  PG.imp (pg_name hN hi hx hf) fun v σ H Q ⟨d, σd, h, P, F, at_, rv, w, p⟩ => p _ h _ H w (at_.s.set rv) at_.r Fm.refl
theorem sg_sub (ok : Ok X G) (ha : PE X a (lE G W wa)) (hb : PE X b (lE G W wb)) (hs : ∀ v, assign (.Subscript a b pos) X.env v = (do
      let ov ← holding [v] (eval a X.env)
      let iv ← holding [v, ov] (eval b X.env)
      standAt pos
      holding [v, ov, iv] (setItem ov iv v)
      release [v, ov, iv] [])) : PG X (.Subscript a b pos) (lG G W fun F d σ h P => wa (F σ) σ h fun x h1 => wb (F σ) σ h1 fun k h2 => setD x k d h2 fun h3 => P σ h3) :=
  PG.imp (pg_sub ha hb (set_D ok) hs) fun v σ H Q ⟨d, σd, h, P, F, at_, rv, w, p⟩ =>
    ⟨σd, h, _, _, at_.at, w, fun dx h1 x H1 w1 rx rh1 f1 => ⟨σd, h1, _, _, at_.at.fm rh1 f1, w1, fun dy h2 y H2 w2 ry rh2 f2 =>
      ⟨dx, dy, d, h2, _, rx.fm rh1 f2, ry, rv.fm at_.r (f1.trans f2), rh2, w2, fun h3 H3 w3 rh3 f3 => p σd h3 σ H3 w3 (at_.s.fm at_.r ((f1.trans f2).trans f3)) rh3 ((f1.trans f2).trans f3)⟩⟩⟩
theorem sgs_nil : PGs X [] (lGs G W fun _ ds σ h P => match ds with
    | [] => P σ h
    | _ => False) :=
  PGs.imp pgs_nil fun v σ H Q ⟨ds, σd, h, P, F, at_, rv, w, p⟩ => by
    cases ds with
    | nil => exact ⟨rv.nil_inv, p σd h σ H w at_.s at_.r Fm.refl⟩
    | cons d ds => exact w.elim
theorem sgs_cons (ha : PG X e (lG G W wg)) (hr : PGs X es (lGs G W wgs)) (hs : (assignEach (e :: es) X.env).map (·.2) = assign e X.env :: (assignEach es X.env).map (·.2)) : PGs X (e :: es) (lGs G W fun F ds σ h P => match ds with
    | [] => False
    | d :: ds => wg F d σ h fun σ1 h1 => wgs F ds σ1 h1 P) :=
  PGs.imp (pgs_cons ha hr hs) fun v σ H Q ⟨ds, σd, h, P, F, at_, rv, w, p⟩ => by
    cases ds with
    | nil => exact w.elim
    | cons d ds =>
      obtain ⟨x, xs, rfl, rx, rs⟩ := rv.cons_inv
      exact ⟨x, xs, rfl, d, σd, h, _, F, at_, rx, w, fun σd1 h1 σ1 H1 w1 s1 rh1 f1 => ⟨ds, σd1, h1, P, F, at_.go s1 rh1 f1, rs.fm at_.r f1, w1, p.fm f1⟩⟩
theorem sg_tup {k n : Nat} (hK : X.K = G.K) (hc : X.calm = true) (h : PGs X es (lGs G W wgs)) (hn : (assignEach es X.env).length = n) (hst : (assignEach es X.env).findIdx? (·.1) = none) : PG X (.Tuple es k pos) (lG G W fun F d σ h P => match d with
    | .tup ds => ds.length = n ∧ wgs F ds σ h P
    | _ => False) :=
  PG.imp (pg_tup hc h hn hst) fun v σ H Q ⟨d, σd, h, P, F, at_, rv, w, p⟩ => by
    cases d with
    | tup ds =>
      obtain ⟨a, vs, rfl, sa, ra⟩ := repV_tup.mp rv
      exact ⟨a, vs, rfl, by rw [hK]; exact sa, by rw [ra.length]; exact w.1, ds, σd, h, P, F, at_, ra, w.2, p⟩
    | _ => exact w.elim

/-! ### statements -/
theorem ss_nil : PSs X [] (lS G W fun Dn σ h => Dn.nx σ h) := PSs.imp pss_nil fun Q σ H ⟨σd, h, Dn, at_, w, p⟩ => p.nx σd h σ H w at_.s at_.r Fm.refl
theorem ss_cons (h1 : PS X st (lS G W ws)) (h2 : PSs X rest (lS G W wu)) : PSs X (st :: rest) (lS G W fun Dn σ h => ws { Dn with nx := fun σ' h' => wu Dn σ' h' } σ h) :=
  PSs.imp (pss_cons h1 h2) fun Q σ H ⟨σd, h, Dn, at_, w, p⟩ =>
    ⟨σd, h, { Dn with nx := fun σ' h' => wu Dn σ' h' }, ⟨at_.s, at_.r, at_.x⟩, w, ⟨fun σd1 h1 σ1 H1 w1 s1 r1 f1 => ⟨σd1, h1, Dn, at_.go s1 r1 f1, w1, p.fm f1⟩, p.rt, p.bk, p.ct⟩⟩
theorem ss_asg (he : PE X e (lE G W wa)) (hg : PG X tg (lG G W wg)) (hs : swapsWithSole [tg] e pos.line X.env = pure false) (hw : swappedStores [tg] e X.env = pure none) (h1 : (assignEach [tg] X.env).map (·.2) = [assign tg X.env]) :
    PS X (.Assign [tg] e pos) (lS G W fun Dn σ h => wa (exAt Dn σ) σ h fun d h1 => wg (exAt Dn) d σ h1 Dn.nx) :=
  PS.imp (ps_asg he hg hs hw h1) fun Q σ H ⟨σd, h, Dn, at_, w, p⟩ =>
    ⟨σd, h, _, _, at_.at, w, fun d h1 v H1 w1 rv r1 f1 => ⟨d, σd, h1, _, _, at_.fm r1 f1, rv, w1, p.nx.fm f1⟩⟩
/-- name = a comprehension, where the block takes the name in: the reading t1 of it is any that the lifted one implies -/
theorem asgC_read {i : Nat} {t1 : TE} (h : ∀ σ H Q, lE G W wa σ H Q → t1 σ H Q) : ∀ Q σ H, lS G W (fun Dn σ h => wa (exAt Dn σ) σ h fun d h1 => Dn.nx (σ.set i (some d)) h1) Q σ H → tAsg t1 (gName i) Q σ H := fun Q σ H ⟨σd, h', Dn, at_, w, p⟩ =>
  h _ _ _ ⟨σd, h', _, _, at_.at, w, fun d h1 v H1 w1 rv r1 f1 => p.nx _ h1 _ H1 w1 ((at_.s.fm at_.r f1).set rv) r1 f1⟩
theorem ss_par {i j : Nat} {x y : Str} {px py pt : Pos} {kt k2 pt2} (hc : X.calm = true) (hN : X.N.Nodup) (hi : X.N[i]? = some x) (hj : X.N[j]? = some y) (hij : i ≠ j)
    (hx : X.env.scope.names.lookup x = some .local) (hy : X.env.scope.names.lookup y = some .local) (ha : PA X [a, b] (lA G W wl))
    (hw : swappedStores [.Tuple [.Name x px, .Name y py] kt pt] (.Tuple [a, b] k2 pt2) X.env = pure (some [x, y])) (hs : swapsWithSole [.Tuple [.Name x px, .Name y py] kt pt] (.Tuple [a, b] k2 pt2) pos.line X.env = pure false) :
    PS X (.Assign [.Tuple [.Name x px, .Name y py] kt pt] (.Tuple [a, b] k2 pt2) pos) (lS G W fun Dn σ h => wl (exAt Dn σ) σ h fun ds h1 => ∃ d1 d2, ds = [d1, d2] ∧ Dn.nx ((σ.set i (some d1)).set j (some d2)) h1) :=
  PS.imp (ps_par hc hN hi hj hij hx hy ha hw hs) fun Q σ H ⟨σd, h, Dn, at_, w, p⟩ =>
    ⟨σd, h, _, _, at_.at, w, fun ds h1 vs H1 w1 rv r1 f1 => by
      obtain ⟨d1, d2, rfl, q⟩ := w1
      obtain ⟨v, u, rfl, rv, ru⟩ := rv.two
      exact ⟨v, u, rfl, p.nx _ h1 _ H1 q (((at_.s.fm at_.r f1).set rv).set ru) r1 f1⟩⟩
theorem ss_par3 {i j l : Nat} {x y z : Str} {px py pz pt : Pos} {kt k2 pt2} (hc : X.calm = true) (hN : X.N.Nodup) (hi : X.N[i]? = some x) (hj : X.N[j]? = some y) (hl : X.N[l]? = some z) (hij : i ≠ j) (hil : i ≠ l) (hjl : j ≠ l)
    (hx : X.env.scope.names.lookup x = some .local) (hy : X.env.scope.names.lookup y = some .local) (hz : X.env.scope.names.lookup z = some .local) (ha : PA X [a, b, c] (lA G W wl))
    (hw : swappedStores [.Tuple [.Name x px, .Name y py, .Name z pz] kt pt] (.Tuple [a, b, c] k2 pt2) X.env = pure (some [x, y, z])) (hs : swapsWithSole [.Tuple [.Name x px, .Name y py, .Name z pz] kt pt] (.Tuple [a, b, c] k2 pt2) pos.line X.env = pure false) :
    PS X (.Assign [.Tuple [.Name x px, .Name y py, .Name z pz] kt pt] (.Tuple [a, b, c] k2 pt2) pos) (lS G W fun Dn σ h => wl (exAt Dn σ) σ h fun ds h1 => ∃ d1 d2 d3, ds = [d1, d2, d3] ∧ Dn.nx (((σ.set i (some d1)).set j (some d2)).set l (some d3)) h1) :=
  PS.imp (ps_par3 hc hN hi hj hl hij hil hjl hx hy hz ha hw hs) fun Q σ H ⟨σd, h, Dn, at_, w, p⟩ =>
    ⟨σd, h, _, _, at_.at, w, fun ds h1 vs H1 w1 rv r1 f1 => by
      obtain ⟨d1, d2, d3, rfl, q⟩ := w1
      obtain ⟨v, us, rfl, rv1, rv⟩ := rv.cons_inv
      obtain ⟨v2, v3, rfl, rv2, rv3⟩ := rv.two
      exact ⟨v, v2, v3, rfl, p.nx _ h1 _ H1 q ((((at_.s.fm at_.r f1).set rv1).set rv2).set rv3) r1 f1⟩⟩
theorem ss_ex (he : PE X e (lE G W wa)) (hs : swapsWith e none pos.line X.env = pure false) : PS X (.Expr e pos) (lS G W fun Dn σ h => wa (exAt Dn σ) σ h fun _ h1 => Dn.nx σ h1) :=
  PS.imp (ps_expr he hs) fun Q σ H ⟨σd, h, Dn, at_, w, p⟩ => ⟨σd, h, _, _, at_.at, w, fun d h1 v H1 w1 rv r1 f1 => p.nx _ h1 _ H1 w1 (at_.s.fm at_.r f1) r1 f1⟩
theorem ss_ret (he : PE X e (lE G W wa)) : PS X (.Return (some e) pos) (lS G W fun Dn σ h => wa (exAt Dn σ) σ h Dn.rt) :=
  PS.imp (ps_ret he) fun Q σ H ⟨σd, h, Dn, at_, w, p⟩ => ⟨σd, h, _, _, at_.at, w, p.rt⟩
theorem ss_retN : PS X (.Return none pos) (lS G W fun Dn _ h => Dn.rt .non h) :=
  PS.imp ps_retN fun Q σ H ⟨σd, h, Dn, at_, w, p⟩ => p.rt.here at_.r w repV_non
theorem ss_ifs (hc : PT X c (lT G W wt)) (h1 : PSs X body (lS G W ws)) (h2 : PSs X body2 (lS G W wu)) : PS X (.If c body body2 pos) (lS G W fun Dn σ h => wt (exAt Dn σ) σ h fun k h1 => if k = true then ws Dn σ h1 else wu Dn σ h1) :=
  PS.imp (ps_if hc h1 h2) fun Q σ H ⟨σd, h, Dn, at_, w, p⟩ => ⟨σd, h, _, _, at_.at, w, fun k h1 H1 w1 r1 f1 => by
    cases k with
    | true => exact ⟨σd, h1, Dn, at_.fm r1 f1, w1, p.fm f1⟩
    | false => exact ⟨σd, h1, Dn, at_.fm r1 f1, w1, p.fm f1⟩⟩
theorem ss_brk : PS X (.Break pos) (lS G W fun Dn σ h => Dn.bk σ h) := PS.imp ps_break fun Q σ H ⟨σd, h, Dn, at_, w, p⟩ => p.bk σd h σ H w at_.s at_.r Fm.refl
theorem ss_cnt : PS X (.Continue pos) (lS G W fun Dn σ h => Dn.ct σ h) := PS.imp ps_continue fun Q σ H ⟨σd, h, Dn, at_, w, p⟩ => p.ct σd h σ H w at_.s at_.r Fm.refl
theorem ss_pas : PS X (.Pass pos) (lS G W fun Dn σ h => Dn.nx σ h) := PS.imp ps_pass fun Q σ H ⟨σd, h, Dn, at_, w, p⟩ => p.nx σd h σ H w at_.s at_.r Fm.refl
theorem ss_doc {x j pos pos'} : PS X (.Expr (.Constant (.str x) j pos) pos') (lS G W fun Dn σ h => Dn.nx σ h) := PS.imp ps_doc fun Q σ H ⟨σd, h, Dn, at_, w, p⟩ => p.nx σd h σ H w at_.s at_.r Fm.refl
/-- op= -/
theorem ip_D (op : Operator) : PIp X op (lR2 G (augD op)) := by
  intro pins s σ H x y v u Q I r1 r2 ⟨dx, dy, h, R, rx, ry, rh, w, p⟩
  unfold augD at w
  split at w
  · rw [rx.int_inv] at r1; rw [ry.int_inv] at r2; exact iop_add pins s σ H _ _ v u Q I r1 r2 ⟨_, _, rfl, rfl, p.here rh w repV_int⟩
  · rw [rx.str_inv] at r1; rw [ry.str_inv] at r2; exact iop_add_str pins s σ H _ _ v u Q I r1 r2 ⟨_, _, rfl, rfl, w.1, p.here rh w.2 repV_str⟩
  · rw [rx.int_inv] at r1; rw [ry.int_inv] at r2; exact iop_sub pins s σ H _ _ v u Q I r1 r2 ⟨_, _, rfl, rfl, p.here rh w repV_int⟩
  · rw [rx.int_inv] at r1; rw [ry.int_inv] at r2; exact iop_mul pins s σ H _ _ v u Q I r1 r2 ⟨_, _, rfl, rfl, .inl w.1, p.here rh w.2 repV_int⟩
  · exact w.elim
theorem ss_aug {i : Nat} {x : Str} {op : Operator} {pos' : Pos} (hN : X.N.Nodup) (hi : X.N[i]? = some x) (hx : Loc X.env.scope x) (hf : X.fn x = true ∨ X.env.scope.names.lookup x = some .local) (he : PE X e (lE G W wa)) :
    PS X (.AugAssign (.Name x pos') op e pos) (lS G W fun Dn σ h => ∃ x, σ[i]? = some (some x) ∧ wa (exAt Dn σ) σ h fun y h1 => augD op x y h1 fun z h2 => Dn.nx (σ.set i (some z)) h2) :=
  PS.imp (ps_aug hN hi hx he (ip_D (G := G) op) hf) fun Q σ H ⟨σd, h, Dn, at_, ⟨dx, ex, w⟩, p⟩ => by
    obtain ⟨v, ev, rv⟩ := at_.s.2 i dx ex
    exact ⟨v, ev, σd, h, _, _, at_.at, w, fun dy h1 y H1 w1 ry r1 f1 => ⟨dx, dy, h1, _, rv.fm at_.r f1, ry, r1, w1, fun dz h2 z H2 w2 rz r2 f2 => p.nx _ h2 _ H2 w2 ((at_.s.fm at_.r (f1.trans f2)).set rz) r2 (f1.trans f2)⟩⟩
/-! ### loops -/
theorem ss_for {iter : Expr} {t : Tg} {wi : DX → DS → MH → (ItV → MH → Prop) → Prop} (hK : X.K = G.K) (hp : PassesOwn (model X.prog X.w) X.A X.env X.xe) (hc : X.calm = true) (hi : PI X tg iter (lI G W wi)) (hg : PG X tg (tgG X.K t)) (hb : PSs X body (lS G W ws)) (hs : ∀ x, foldedSetIterable iter X.env x = pure x) :
    PS X (.For tg iter body [] pos) (lS G W fun Dn σ h => wi (exAt Dn σ) σ h fun J h1 => forGo t J.ok ws Dn J.its σ h1) :=
  PS.imp (ps_for hp hc hi hg hb hs) fun Q σ H ⟨σd, h, Dn, at_, w, p⟩ => by
    rw [hK]
    refine ⟨σd, h, _, _, at_.at, w, fun Jd h1 J H1 go ri r1 f1 => ?_⟩
    have at1 := at_.fm r1 f1
    have p1 := p.fm f1
    let S : Nat → L2.St → MH → Hp → Prop := fun i σ' h' H' => ∃ σd', RepS G.K H' σd' σ' ∧ RepH G h' H' ∧ Fm h1 H1 h' H' ∧ i ≤ Jd.its.length ∧ forGo t Jd.ok ws Dn (Jd.its.drop i) σd' h'
    refine ⟨fun i m σ' H' => m = Jd.its.length - i ∧ ∃ h', S i σ' h' H', ⟨Jd.its.length, by simp, h1, σd, at1.s, r1, Fm.refl, Nat.zero_le _, by simpa using go⟩, ?_⟩
    rintro i m σ2 H2 ⟨rfl, h2, σd2, rs2, r2, f2, hi2, go2⟩
    have ok : Jd.ok h2 := by
      cases e : Jd.its.drop i with
      | nil => rw [e] at go2; exact go2.1
      | cons d r => rw [e] at go2; exact go2.1
    obtain ⟨item, stop⟩ := ri h2 H2 r2 (f2.pst r1) ok
    by_cases hlt : i < Jd.its.length
    · rw [List.drop_eq_getElem_cons hlt] at go2
      obtain ⟨_, go2⟩ := go2
      obtain ⟨jg, jy⟩ := item i _ (List.getElem?_eq_getElem hlt)
      refine .inr ⟨jg, fun σ' H' => ∃ h', S (i + 1) σ' h' H', fun σ' H' ⟨h', s⟩ => ⟨Jd.its.length - (i + 1), by omega, rfl, h', s⟩, fun x H3 y => ?_⟩
      obtain ⟨rx, r3, f3⟩ := jy x H3 y
      refine tgG_ok go2 rx (rs2.fm r2 f3) fun σd4 σ4 go4 rs4 => ?_
      have f13 := f2.trans f3
      have again : PostS G h2 H3 (forGo t Jd.ok ws Dn (Jd.its.drop (i + 1))) (fun σ' H' => ∃ h', S (i + 1) σ' h' H') := fun σd' h' σ' H' w' s' r' f' => ⟨h', σd', s', r', f13.trans f', hlt, w'⟩
      exact ⟨σd4, h2, { Dn with nx := forGo t Jd.ok ws Dn (Jd.its.drop (i + 1)), ct := forGo t Jd.ok ws Dn (Jd.its.drop (i + 1)), bk := Dn.nx }, (at1.go (σ1 := σ4) rs4 r3 f13), go4, ⟨again, p1.rt.fm f13, p1.nx.fm f13, again⟩⟩
    · have e : i = Jd.its.length := by omega
      subst e
      rw [List.drop_length] at go2
      exact .inl ⟨stop, p1.nx σd2 h2 σ2 H2 go2.2 rs2 r2 f2⟩
theorem ss_whl (hp : PassesOwn (model X.prog X.w) X.A X.env X.xe) (hc : PT X c (lT G W wt)) (hb : PSs X body (lS G W ws)) :
    PS X (.While c body [] pos) (lS G W fun Dn σ h => whlGo (fun σ h P => wt (exAt Dn σ) σ h P) ws Dn σ h) :=
  PS.imp (ps_while hp hc hb) fun Q σ H ⟨σd, h, Dn, at_, ⟨Wd, ⟨m0, w0⟩, turn⟩, p⟩ => by
    refine ⟨fun m σ' H' => ∃ σd' h', RepS G.K H' σd' σ' ∧ RepH G h' H' ∧ Fm h H h' H' ∧ Wd m σd' h', ⟨m0, σd, h, at_.s, at_.r, Fm.refl, w0⟩, ?_⟩
    rintro m σ2 H2 ⟨σd2, h2, rs2, r2, f2, w2⟩
    have at2 : AtS G W (exAt Dn) σd2 σ2 h2 H2 := at_.go rs2 r2 f2
    have p2 := p.fm f2
    refine ⟨σd2, h2, _, _, at2.at, turn m σd2 h2 w2, fun k h3 H3 w3 r3 f3 => ?_⟩
    cases k with
    | false => exact p2.nx _ h3 _ H3 w3 (rs2.fm r2 f3) r3 f3
    | true =>
      refine ⟨fun σ' H' => ∃ m', m' < m ∧ ∃ σd' h', RepS G.K H' σd' σ' ∧ RepH G h' H' ∧ Fm h H h' H' ∧ Wd m' σd' h', fun σ' H' z => z, ?_⟩
      have again : PostS G h3 H3 (fun σ' h' => ∃ m', m' < m ∧ Wd m' σ' h') (fun σ' H' => ∃ m', m' < m ∧ ∃ σd' h', RepS G.K H' σd' σ' ∧ RepH G h' H' ∧ Fm h H h' H' ∧ Wd m' σd' h') := fun σd' h' σ' H' ⟨m', hm, w'⟩ s' r' f' => ⟨m', hm, σd', h', s', r', (f2.trans f3).trans f', w'⟩
      exact ⟨σd2, h3, { Dn with nx := fun σ' h' => ∃ m', m' < m ∧ Wd m' σ' h', ct := fun σ' h' => ∃ m', m' < m ∧ Wd m' σ' h', bk := Dn.nx }, at2.fm r3 f3, w3, ⟨again, p2.rt.fm f3, p2.nx.fm f3, again⟩⟩
end
end DL
set_option Elab.async false
set_option linter.all false
set_option maxRecDepth 100000
set_option maxHeartbeats 4000000
/-! The D layer, exceptions 1: an own class of exceptions over any built-in one, whose __init__ notes one value. -/
namespace DL
open PySem PySem.Spec PyProof.Rows L2

/-- what the written part says of such a class -/
structure Xc (K : PySem.W.Frag) (B nI iI : String) (bm : List Value) (C : Addr) : Prop where
  fb : ExcBaseFacts B nI iI bm
  sf : StoreFacts B bm "object.__setattr__" "object"
  ini : PySem.W.excInitIn K C bm nI = true
  ov : PySem.W.excOver K C bm = true
  hd : PySem.W.hasDictIn K C = true
  sa : PySem.W.findIn K (.ref C) "__setattr__" = some (some (.builtin "object.__setattr__"))
  exC : PySem.W.subIn K (.ref C) (.type "BaseException") = some true
  tyC : PySem.W.typeIn K (.ref C) = some (.type "type")
  kC : PySem.W.keepIn K (.ref C) = true
section
variable {prog : Program} {w : World} {A : Around} {E : Value → Shared → Prop} {R : Result → Shared → Prop} {hp : Heap} {g : Array GenState} {d : Drawn} {t : Nat} {os : OsState} {K : PySem.W.Frag} {B nI iI : String} {bm : List Value} {C : Addr}
/-- the first thing noted: the exception gets its dict -/
theorem note_first {name : Str} {tk : Tok} {v : Value} {x t1 : Addr} (T : Xc K B nI iI bm C) (X : K.In hp) (hx : hp.get? x = some (PySem.W.excObj C t1 none .none)) (ht : PySem.W.takerIn K C name = some none)
    (hq : ∀ h' tk' dx, (∀ b o, b ≠ x → hp.get? b = some o → h'.get? b = some o) → hp.objs.size ≤ dx → dx ≠ x → h'.get? x = some (PySem.W.excObj C t1 (some dx) .none) →
      h'.Ns1 dx (fun y => if y = name then some v else none) → R (.ok (.ret .none)) ⟨h', g, d, tk', os⟩) :
    codeAny (model prog w) A (.call (.builtin "object.__setattr__") ⟨[.ref x, .str name tk, v], []⟩) R ⟨hp, g, d, t, os⟩ := by
  have I : PySem.W.InstAt hp x (PySem.W.excObj C t1 none .none) C none := ⟨hx, rfl, rfl, trivial⟩
  refine PySem.W.osa_openX (s := ⟨hp, g, d, t, os⟩) (od := none) T.sf X I T.ov ht fun b => ?_
  obtain ⟨cd, hc, hd'⟩ := PySem.W.any_some T.hd
  have hxs : x ≠ hp.objs.size := Nat.ne_of_lt (Heap.lt_size hx)
  refine wpAny_bind (wpAny_pure (wpAny_bind (PySem.W.instanceDict_exc hx (PySem.W.looks_clsIn X hc) hd' ?_)))
  show wpAny _ _ (Builtin.ObjectAttr.storeInDict hp.objs.size (.str name tk) name v) _ _ _
  have hx1 : (hp.push (PySem.W.dictOf [] 0)).get? x = some (PySem.W.excObj C t1 none .none) := Heap.get?_push_of_some _ hx
  refine HandSPX.store_in_new ⟨_, #[], _, (Heap.get?_update_ne _ _ _ _ hxs.symm).trans (Heap.get?_push_at rfl rfl), rfl, fun e he => absurd he (by simp), fun _ => rfl⟩ fun h' tk' hn' hs => ?_
  refine hq h' tk' hp.objs.size (fun b o hb ho => ?_) (Nat.le_refl _) hxs.symm ?_ hn'
  · exact (hs.2 b (Nat.ne_of_lt (Heap.lt_size ho))).trans ((Heap.get?_update_ne _ _ _ _ hb).trans (Heap.get?_push_of_some _ ho))
  · exact (hs.2 x hxs).trans (Heap.get?_update_self _ hx1 rfl)
end

section
variable {X : Cx} {pins : List (Addr × Obj)} {σ : L2.St} {H : Hp} {s : Shared} {a C : Addr} {f : Str} {y : V} {u : Value} {Q : Unit → Shared → Prop} {E : Value → Shared → Prop} {A : Around} {B nI iI : String} {bm : List Value}
/-- self.f = y, on a bare one -/
theorem note_ok (T : Xc X.K B nI iI bm C) (I : Inv X pins σ H s) (e : H a = some (exo a C none)) (ht : PySem.W.takerIn X.K C f = some none) (ry : RelV y u)
    (h : ∀ dx s', H dx = none → dx ≠ a → Inv X pins σ (L2.upd (L2.upd H dx (exd dx [(f, y)])) a (exo a C (some dx))) s' → Q () s') : wpAny (model X.prog X.w) A (setAttr (.ref a) f u) Q E s := by
  obtain ⟨t1, ho⟩ := exo_at I.hok e
  have ho : s.heap.get? a = some (PySem.W.excObj C t1 none .none) := ho
  obtain ⟨hp, g, d, t, os⟩ := s
  refine PySem.W.set_plain I.kIn (ox := PySem.W.excObj C t1 none .none) (od := none) ⟨ho, rfl, rfl, trivial⟩ T.sa ?_
  refine note_first T I.kIn ho ht (fun h' tk' dx k dn dne hx hn => ?_)
  have hnd : H dx = none := I.hok.fresh dn
  have nd : ∀ {b : Addr} {o : Obj}, hp.get? b = some o → b ≠ dx := fun {b o} q => Nat.ne_of_lt (Nat.lt_of_lt_of_le (Heap.lt_size q) dn)
  have na : ∀ {b : Addr}, H b = none → b ≠ a := fun {b} n z => by
    rw [z, e] at n
    cases n
  have U : Un X.fs [] H (L2.upd (L2.upd H dx (exd dx [(f, y)])) a (exo a C (some dx))) hp h' := {
    keep := fun b o q n _ _ => k b o (na n) q
    slot := fun b o q n _ _ => ⟨o.slots, k b o (na n) q⟩
    free := fun b o q n _ => by rw [upd_ne (na n), upd_ne (nd q)]; exact n
    there := fun b o q _ => by
      by_cases hb : b = a
      · exact ⟨_, by rw [hb]; exact hx⟩
      · exact ⟨o, k b o hb q⟩
    tups := fun b xs q => by rw [upd_ne (at_ne e q exo_tup), upd_ne (ne_of_none q hnd)]; exact q
    frzs := fun b o v q => by rw [upd_ne (at_ne e q exo_frz), upd_ne (ne_of_none q hnd)]; exact q
    tbls := fun b ps q => ⟨#[], by rw [upd_ne (at_ne e q exo_tbl), upd_ne (ne_of_none q hnd), q]; simp⟩ }
  refine h dx _ hnd dne (I.un (t' := tk') U fun b o q => ?_)
  by_cases hb : b = a
  · subst hb
    rw [upd_same] at q
    cases q
    exact exo_ok hx
  · rw [upd_ne hb] at q
    by_cases hd : b = dx
    · subst hd
      rw [upd_same] at q
      cases q
      exact exd_ok hn (relO_put (fs := []) ry fun g => True.intro)
    · rw [upd_ne hd] at q
      refine (I.hok b o q).stay (fun c v hc z => k c v ?_ z) (fun c hc => ?_) (fun c xs hc => ?_)
      · rcases hc with hc | hc
        · rw [hc]; exact hb
        · exact at_ne e hc exo_own
      · rw [upd_ne (at_ne e hc exo_own), upd_ne (ne_of_none hc hnd)]; exact hc
      · rw [upd_ne (at_ne e hc exo_tup), upd_ne (ne_of_none hc hnd)]; exact hc
end
/-- self.f = e -/
def tNote (K : PySem.W.Frag) (f : Str) (to te : TE) : TS := fun Dn σ H => te σ H fun y H1 => to σ H1 fun x H2 => ∃ (a C : Addr), x = .ref a ∧ (∃ B nI iI bm, Xc K B nI iI bm C) ∧ PySem.W.takerIn K C f = some none ∧
  H2 a = some (exo a C none) ∧ ∀ dx, H2 dx = none → dx ≠ a → Dn.nx σ (L2.upd (L2.upd H2 dx (exd dx [(f, y)])) a (exo a C (some dx)))
/-- C(e), C's __init__ notes it as f -/
def tMkN (C : Addr) (f : Str) (ta : TA) : L2.St → Hp → XK → Prop := fun σ H Q => ta σ H fun vs H1 => ∃ v, vs = [v] ∧ ∀ dx, H1 dx = none → Q (.ref C) (some dx) (L2.upd H1 dx (.xd [(f, v)]))
/-- what such an __init__ promises -/
def spN (C : Addr) (f : Str) : Sp := fun vs H Q _ => ∃ a x, vs = [.ref a, x] ∧ H a = some (exo a C none) ∧ ∀ dx, H dx = none → dx ≠ a → Q .non (L2.upd (L2.upd H dx (exd dx [(f, x)])) a (exo a C (some dx)))
section
variable {X : Cx} {o e : Expr} {es : List Expr} {to te : TE} {ta : TA} {f x : Str} {p p' pos : Pos} {C : Addr} {B nI iI : String} {bm : List Value}
theorem ps_note (ho : PE X o to) (he : PE X e te) (hs : swapsWith e (some (.Attribute o f p')) pos.line X.env = pure false := by rfl) : PS X (.Assign [.Attribute o f p'] e pos) (tNote X.K f to te) := by
  refine ⟨fun pins s σ H Dn I h => ?_⟩
  refine plainObj_wpAny_Assign_Attribute (thn (he.run pins s σ H _ I h) fun v s1 ⟨y, H1, I1, r1, q1⟩ => thn (ho.run pins s1 σ H1 _ I1 q1) fun u s2 ⟨z, H2, I2, r2, a, C, ex, ⟨B, nI, iI, bm, T⟩, ht, ea, q⟩ => ?_) hs
  subst ex
  obtain rfl : u = Value.ref a := r2
  exact note_ok T I2 ea ht r1 fun dx s' n ne J => ⟨σ, _, J, q dx n ne⟩
theorem init_ok {P : Program} {w : World} {K : PySem.W.Frag} {mg : Str → Option Value} {base : Heap} {fI : Addr} {fd : FuncData} {qual pn : Str} {params : Arguments} {scope : Scope} {kws : List (Str × V)} {p1 p2 p3 p4 : Pos} (T : Xc K B nI iI bm C) (ht : PySem.W.takerIn K C f = some none)
    (F : FunD K "__init__" qual params [.Assign [.Attribute (.Name "self" p1) f p2] (.Name pn p3) p4] scope [] kws fI fd) (S : FnScope ["self", pn] ["self", pn] scope)
    (h1 : scope.names.lookup ("self" : Str) = some NameKind.local) (h2 : scope.names.lookup pn = some NameKind.local) (hd : (pn == ("__debug__" : Str)) = false) (hc : (pn == ("__classdict__" : Str)) = false) : FnOk P w K mg base CX0 1 fI fd ["self", pn] (spN C f) := by
  refine F.ok S (fun vs H Q E h => ?_) (fun cdv A outer s H vs Q E hr h => ⟨tNote K f (tVar 0) (tVar 1), PSs.nox (pss_one (ps_note (pe_var rfl (.inl h1)) (pe_var rfl (.inl h2) hd hc))), ?_⟩)
  · obtain ⟨a, x, rfl, _⟩ := h
    rfl
  · obtain ⟨a, x, rfl, ea, q⟩ := h
    exact ⟨x, rfl, .ref a, rfl, a, C, rfl, ⟨B, nI, iI, bm, T⟩, ht, ea, q⟩
theorem put_back {H1 : Hp} {a dx : Addr} {v : V} (n : H1 a = none) (ne : dx ≠ a) :
    L2.upd (del (L2.upd (L2.upd (L2.upd H1 a (exo a C none)) dx (exd dx [(f, v)])) a (exo a C (some dx))) a) dx (.xd [(f, v)]) = L2.upd H1 dx (.xd [(f, v)]) := by
  funext b
  by_cases hb : b = dx
  · rw [hb, upd_same, upd_same]
  · rw [upd_ne hb, upd_ne hb]
    by_cases ha : b = a
    · rw [ha, del_same, n]
    · rw [del_ne ha, upd_ne ha, upd_ne hb, upd_ne ha]
theorem pmk_note {fI : Addr} {k : Nat} {fd : FuncData} {ps : List Str} (T : Xc X.K B nI iI bm C) (iC : PySem.W.findIn X.K (.ref C) "__init__" = some (some (.ref fI))) (tI : PySem.W.typeIn X.K (.ref fI) = some (.type "function"))
    (F1 : FnOk X.prog X.w X.K X.mg X.base CX0 k fI fd ps (spN C f)) (hr : Room (k + 1) X.A) (hb : Binds X.K fd ps []) (hg : Gl X x) (hm : X.mg x = some (.ref C)) (ha : PA X (e :: es) ta)
    (hdb : (x == ("__debug__" : Str)) = false) (he : starEach (e :: es) X.env = (false, eval e X.env) :: starEach es X.env) (hpl : (backTo pos (starEach es X.env)).any (·.1) = false) :
    PMk X (.Call (.Name x p) (e :: es) [] pos) (tMkN C f ta) := by
  intro pins s σ H Q I h
  refine wpAny_Call_Name_kw (ld_glob I hg hm ?_ hdb)
  refine PySem.W.callWith_K (h₀ := X.base) I.ok.mod.kin T.kC (thn (ha.run pos pins s σ H _ I h) fun us s1 ⟨vs, H1, I1, r1, v, ev, q1⟩ => ⟨I1.kIn, ?_⟩) he hpl
  subst ev
  show wpAny _ _ (call (.ref C) us) _ _ _
  obtain ⟨nm, N, qn, bs, bmo, hdct, sn, sub, ab, col, dd, k0, k1, k2, k3, k5, hC, hT⟩ := PySem.W.excInit_of I1.kIn T.ini
  obtain ⟨hp, g, dr, tk, os⟩ := s1
  have hsz : hp.objs.size ≤ hp.objs.size + 1 := Nat.le_succ _
  have hn : H1 (hp.objs.size + 1) = none := I1.hok.fresh hsz
  have sp : spN C f (V.ref (hp.objs.size + 1) :: [v]) (L2.upd H1 (hp.objs.size + 1) (exo (hp.objs.size + 1) C none)) (fun v' H2 => v' = .non ∧ ∃ (d : Addr), H2 = L2.upd (L2.upd (L2.upd H1 (hp.objs.size + 1) (exo (hp.objs.size + 1) C none)) d (exd d [(f, v)])) (hp.objs.size + 1) (exo (hp.objs.size + 1) C (some d)) ∧ d ≠ hp.objs.size + 1 ∧ H1 d = none) (fun _ _ _ => False) :=
    ⟨_, v, rfl, upd_same, fun dx n ne => ⟨rfl, dx, rfl, ne, by rw [upd_ne ne] at n; exact n⟩⟩
  have keep : ∀ b o, hp.get? b = some o → ((hp.push (PySem.W.kdv_tup us)).push (PySem.HandSPX.excO C hp.objs.size)).get? b = some o := fun b o z => Heap.get?_push_of_some _ (Heap.get?_push_of_some _ z)
  have hget : ((hp.push (PySem.W.kdv_tup us)).push (PySem.HandSPX.excO C hp.objs.size)).get? (hp.objs.size + 1) = some (PySem.HandSPX.excO C hp.objs.size) := by heap_get
  have I2 : Inv X pins σ (L2.upd H1 (hp.objs.size + 1) (exo (hp.objs.size + 1) C none)) ⟨(hp.push (PySem.W.kdv_tup us)).push (PySem.HandSPX.excO C hp.objs.size), g, dr, tk, os⟩ :=
    I1.laid (t' := tk) (a := hp.objs.size + 1) (o := exo (hp.objs.size + 1) C none) (h' := (hp.push (PySem.W.kdv_tup us)).push (PySem.HandSPX.excO C hp.objs.size)) keep hsz (exo_ok hget)
  have r2 : Vals (V.ref (hp.objs.size + 1) :: [v]) (Value.ref (hp.objs.size + 1) :: us) := .cons rfl r1
  have hl : (Value.ref (hp.objs.size + 1) :: us).length = ps.length := by
    have z := r2.length
    rw [F1.len _ _ _ _ sp] at z
    exact z.symm
  have hus : us.length ≤ sizeLine := by
    rw [← Paired.length r1, sizeLine_eq]
    simp
  refine wpAny_call (PySem.HandSPX.call_own T.fb hT hC (PySem.W.looks_findIn I1.kIn iC) (fun self => PySem.W.bind_fn I1.kIn self tI) hus
    (codeAny_mono (F1.run _ X.stack _ _ ⟨Value.ref (hp.objs.size + 1) :: us, []⟩ (Value.ref (hp.objs.size + 1) :: us) _ _ (fun _ _ _ => False) (hr.make C us []) (I2.env0.make C us []) (by simpa using hb _ (Value.ref (hp.objs.size + 1) :: us) I2.kIn (by simpa using hl)) r2 sp) fun r s' hq' => ?_))
  cases r with
  | error er => exact False.elim hq'
  | ok fl =>
    cases fl with
    | ret u =>
      obtain ⟨v', H2, os2, bare2, un2, hok2, rv, ev, d, eH, ne, hd1⟩ := hq'
      subst ev eH
      obtain ⟨h2, g2, d2, t2, os'⟩ := s'
      refine ⟨rv, mk_end (d := d) (fs := [(f, v)]) (raises_own T.exC T.tyC) I1 hsz keep un2 hok2 os2 bare2 upd_same ((upd_ne ne).trans upd_same) hd1 ?_⟩
      rw [put_back hn ne]
      exact q1 d hd1
    | next => exact False.elim hq'
    | brk => exact False.elim hq'
    | cont => exact False.elim hq'
end
end DL
set_option Elab.async false
set_option linter.all false
set_option maxRecDepth 100000
set_option maxHeartbeats 4000000
/-! The D layer, exceptions 2: a target with a star. -/
namespace DL
open PySem PySem.Spec PyProof.Rows L2
section
variable {prog : Program} {w : World} {A : Around} {E : Value → Shared → Prop} {s : Shared}
/-- what follows a walk's first items: the rest as a new list -/
theorem star_list {l : Addr} {its : List Value} {Q : List Value → Shared → Prop} (hl : s.heap.IsList l its.toArray) (hh : A.handled = none) {i : Nat} (hn : i ≤ its.length) (hz : its.length ≤ 16384)
    (h : ∀ h' tk (D : Addr), (∀ b o, s.heap.get? b = some o → h'.get? b = some o) → s.heap.get? D = none → h'.get? D = some { cls := .type "list", data := .seq (its.drop i).toArray } → Q (its.take i ++ [.ref D]) { s with heap := h', toks := tk }) :
    wpAny (model prog w) A (unpackItems (.ref l) (i + 1) (some i)) Q E s := by
  have hlt : l ≠ s.heap.objs.size := by obtain ⟨o, ho, _⟩ := hl; exact Nat.ne_of_lt (Heap.lt_size ho)
  unfold unpackItems
  refine wpAny_bind ?_
  unfold notIterableAtAll
  refine wpAny_bind (wpAny_specialOf hl.typeIs F.slot_list_iter.lookup ?_)
  refine wpAny_pure ?_
  simp only [Bool.false_eq_true, if_false]
  refine wpAny_bind (wpAny_holding (wpAny_pyIter_list hl ?_))
  refine wpAny_bind (wpAny_holding (PySem.W.kun_draw hlt i 0 _ _ ⟨_, Heap.get?_push_size _ rfl, rfl, rfl⟩ (hl.push _) (by simp; omega) fun h1 it1 s1 => ?_))
  have hl1 : h1.IsList l its.toArray := (hl.push _).extBut s1.extBut hlt
  rw [Nat.zero_add] at it1
  obtain ⟨oi, hoi, _⟩ := id it1
  obtain ⟨ol, hol, _⟩ := id hl1
  rw [List.drop_zero, List.toList_toArray]
  have hfl : (its.take i).length = i := by rw [List.length_take]; omega
  rw [if_neg (show ¬ ((its.take i).length < i) by rw [hfl]; omega)]
  refine wpAny_bind (wpAny_holding (PySem.W.kun_collect (s := { s with heap := h1 }) (T := "list_iterator") (.inr (.inr (.inl rfl))) (Walks.list (A := A.in1) hh s.heap.objs.size l hlt its.toArray) (fun j u st => st.1.typeIs) (k := i) (by simpa using hn) ⟨it1, hl1⟩ (Heap.lt_size hoi) (Heap.lt_size hol) (fun h2 tk hk => ?_) (by rw [sizeLine_eq]; simp; omega)))
  rw [List.toList_toArray]
  show wpAny _ _ (if (its.drop i).length < i + 1 - 1 - i then _ else _) _ _ _
  rw [if_neg (by omega)]
  show wpAny _ _ (newList ((its.drop i).take ((its.drop i).length - (i + 1 - 1 - i))) >>= fun d => pure (its.take i ++ [d] ++ (its.drop i).drop ((its.drop i).length - (i + 1 - 1 - i)))) _ _ _
  rw [show i + 1 - 1 - i = 0 by omega, Nat.sub_zero, List.take_length, List.drop_length, ]
  have he : ∀ b o, s.heap.get? b = some o → h2.get? b = some o := fun b o e => by
    have hb : b ≠ s.heap.objs.size := Nat.ne_of_lt (Heap.lt_size e)
    exact hk b o hb (s1.extBut b o hb (Heap.get?_push_of_some _ e))
  have hsz : s.heap.get? h2.objs.size = none := by
    cases q : s.heap.get? h2.objs.size with
    | none => rfl
    | some o => exact absurd (Heap.lt_size (he _ _ q)) (Nat.lt_irrefl _)
  refine wpAny_bind (wpAny_newObj_type ?_ (by show (its.drop i).toArray.size ≤ sizeLine; rw [sizeLine_eq, List.size_toArray, List.length_drop]; omega))
  refine wpAny_pure ?_
  rw [List.append_nil]
  exact h _ tk _ (fun b o e => Heap.get?_push_of_some _ (he b o e)) hsz (Heap.get?_push_size _ rfl)
theorem star_tup {l : Addr} {its : List Value} {Q : List Value → Shared → Prop} (hl : IsTup s.heap l its.toArray) (hh : A.handled = none) {i : Nat} (hn : i ≤ its.length) (hz : its.length ≤ 16384)
    (h : ∀ h' tk (D : Addr), (∀ b o, s.heap.get? b = some o → h'.get? b = some o) → s.heap.get? D = none → h'.get? D = some { cls := .type "list", data := .seq (its.drop i).toArray } → Q (its.take i ++ [.ref D]) { s with heap := h', toks := tk }) :
    wpAny (model prog w) A (unpackItems (.ref l) (i + 1) (some i)) Q E s := by
  have hlt : l ≠ s.heap.objs.size := by obtain ⟨o, ho, _⟩ := hl; exact Nat.ne_of_lt (Heap.lt_size ho)
  unfold unpackItems
  refine wpAny_bind ?_
  unfold notIterableAtAll
  refine wpAny_bind (wpAny_specialOf hl.typeIs F.slot_tuple_iter.lookup ?_)
  refine wpAny_pure ?_
  simp only [Bool.false_eq_true, if_false]
  refine wpAny_bind (wpAny_holding (iter_tuple hl ?_))
  refine wpAny_bind (wpAny_holding (draw_tuple hlt i 0 _ _ ⟨_, Heap.get?_push_size _ rfl, rfl, rfl⟩ (hl.push _) (by simp; omega) fun h1 it1 s1 => ?_))
  have hl1 : IsTup h1 l its.toArray := (hl.push _).extBut s1.extBut hlt
  rw [Nat.zero_add] at it1
  obtain ⟨oi, hoi, _⟩ := id it1
  obtain ⟨ol, hol, _⟩ := id hl1
  rw [List.drop_zero, List.toList_toArray]
  have hfl : (its.take i).length = i := by rw [List.length_take]; omega
  rw [if_neg (show ¬ ((its.take i).length < i) by rw [hfl]; omega)]
  refine wpAny_bind (wpAny_holding (PySem.W.kun_collect (s := { s with heap := h1 }) (T := "tuple_iterator") (.inr (.inr (.inr rfl))) (Walks.tuple (A := A.in1) hh s.heap.objs.size l hlt its.toArray) (fun j u st => st.1.typeIs) (k := i) (by simpa using hn) ⟨it1, hl1⟩ (Heap.lt_size hoi) (Heap.lt_size hol) (fun h2 tk hk => ?_) (by rw [sizeLine_eq]; simp; omega)))
  rw [List.toList_toArray]
  show wpAny _ _ (if (its.drop i).length < i + 1 - 1 - i then _ else _) _ _ _
  rw [if_neg (by omega)]
  show wpAny _ _ (newList ((its.drop i).take ((its.drop i).length - (i + 1 - 1 - i))) >>= fun d => pure (its.take i ++ [d] ++ (its.drop i).drop ((its.drop i).length - (i + 1 - 1 - i)))) _ _ _
  rw [show i + 1 - 1 - i = 0 by omega, Nat.sub_zero, List.take_length, List.drop_length, ]
  have he : ∀ b o, s.heap.get? b = some o → h2.get? b = some o := fun b o e => by
    have hb : b ≠ s.heap.objs.size := Nat.ne_of_lt (Heap.lt_size e)
    exact hk b o hb (s1.extBut b o hb (Heap.get?_push_of_some _ e))
  have hsz : s.heap.get? h2.objs.size = none := by
    cases q : s.heap.get? h2.objs.size with
    | none => rfl
    | some o => exact absurd (Heap.lt_size (he _ _ q)) (Nat.lt_irrefl _)
  refine wpAny_bind (wpAny_newObj_type ?_ (by show (its.drop i).toArray.size ≤ sizeLine; rw [sizeLine_eq, List.size_toArray, List.length_drop]; omega))
  refine wpAny_pure ?_
  rw [List.append_nil]
  exact h _ tk _ (fun b o e => Heap.get?_push_of_some _ (he b o e)) hsz (Heap.get?_push_size _ rfl)
end
section
variable {X : Cx}
/-- x, *y = a list or tuple -/
def gStar (K : PySem.W.Frag) (i j : Nat) : TG := fun v σ H Q => ∃ a y xs, v = .ref a ∧ (SqT K H a (y :: xs) ∨ SqL K H a (y :: xs)) ∧ xs.length ≤ 16000 ∧ ∀ D, H D = none → Q ((σ.set i (some y)).set j (some (.ref D))) (L2.upd H D (.lst xs))
theorem pg_star {i j : Nat} {x y : Str} {k : Nat} {pos px py ps : Pos} (hc : X.calm = true) (hN : X.N.Nodup) (hi : X.N[i]? = some x) (hj : X.N[j]? = some y) (h1 : X.env.scope.names.lookup x = some .local) (h2 : X.env.scope.names.lookup y = some .local) :
    PG X (.Tuple [.Name x px, .Starred (.Name y py) ps] k pos) (gStar X.K i j) := by
  refine ⟨fun pins s σ H v u Q I r hw => ?_⟩
  obtain ⟨a, yv, xs, rfl, hq, hl, hw⟩ := hw
  cases r
  have fin : ∀ (its : List Value), Vals (yv :: xs) its → ∀ h' tk (D : Addr), (∀ b o, s.heap.get? b = some o → h'.get? b = some o) → s.heap.get? D = none → h'.get? D = some { cls := .type "list", data := .seq (its.drop 1).toArray } →
      wpAny (model X.prog X.w) X.A (assignInOrder ((assignEach [.Name x px, .Starred (.Name y py) ps] X.env).map (·.2)) (its.take 1 ++ [.ref D])) (fun _ s' => ∃ σ' H', Inv X pins σ' H' s' ∧ Q σ' H') X.xe { s with heap := h', toks := tk } := fun its rv h' tk D kp dn hD => by
    have dH : H D = none := HOk.gone I.hok dn
    have nd : ∀ {b : Addr} {o : Obj}, s.heap.get? b = some o → b ≠ D := fun {b o} q z => by rw [z, dn] at q; cases q
    have nh : ∀ {b : Addr} {o : HO}, H b = some o → b ≠ D := fun {b o} q z => by rw [z, dH] at q; cases q
    cases rv with
    | cons r1 rr =>
    have U : Un X.fs [] H (L2.upd H D (.lst xs)) s.heap h' := {
      keep := fun b o q n _ _ => kp b o q
      slot := fun b o q n _ _ => ⟨o.slots, kp b o q⟩
      free := fun b o q n _ => by rw [upd_ne (nd q)]; exact n
      there := fun b o q _ => ⟨o, kp b o q⟩
      tups := fun b xs q => by rw [upd_ne (nh q)]; exact q
      frzs := fun b o v q => by rw [upd_ne (nh q)]; exact q
      tbls := fun b ps q => ⟨#[], by rw [upd_ne (nh q), q]; simp⟩ }
    have J : Inv X pins σ (L2.upd H D (.lst xs)) { s with heap := h', toks := tk } := I.un (t' := tk) U fun b o q => by
      by_cases hb : b = D
      · subst hb
        rw [upd_same] at q
        cases q
        exact ⟨by rw [sizeLine_eq]; omega, _, 0, rr, hD⟩
      · rw [upd_ne hb] at q
        exact (I.hok b o q).stay (fun c v hc z => kp c v z) (fun c hc => by rw [upd_ne (nh hc)]; exact hc) (fun c xs hc => by rw [upd_ne (nh hc)]; exact hc)
    show wpAny _ _ (assignInOrder [assign (.Name x px) X.env, assign (.Name y py) X.env] [_, .ref D]) _ _ _
    refine assignInOrder_cons (wpAny_assign_Name (store_ok J hN hi (.inl h1) r1 (fun s' J' => ?_) (.inr h1)))
    refine assignInOrder_cons (wpAny_assign_Name (store_ok J' hN hj (.inl h2) (v := .ref D) rfl (fun s2 J2 => ?_) (.inr h2)))
    exact assignInOrder_nil ⟨_, _, J2, hw D dH⟩
  show wpAny _ _ (do standAt pos; unpack (.ref a) (assignEach [.Name x px, .Starred (.Name y py) ps] X.env)) _ _ _
  refine wpAny_bind (wpAny_standAt ?_)
  unfold unpack
  show wpAny _ _ (holding [.ref a] (unpackItems (.ref a) (1 + 1) (some 1)) >>= _) _ _ _
  refine wpAny_bind (wpAny_holding ?_)
  rcases hq with hq | hq
  · obtain ⟨its, rv, ht, hz⟩ := I.tuple hq
    have e := rv.length
    simp at e
    exact star_tup (i := 1) ht (I.ok.hd hc) (by omega) (by omega) fun h' tk D k d hd => fin its rv h' tk D k d hd
  · obtain ⟨its, rv, ⟨o, n, e1, e2, e3, e4⟩, hz⟩ := I.list hq
    have e := rv.length
    simp at e
    exact star_list (i := 1) ⟨o, e1, e2, n, e4⟩ (I.ok.hd hc) (by omega) (by omega) fun h' tk D k d hd => fin its rv h' tk D k d hd
end

/-! ### what is known of an own class of exceptions -/
/-- isinstance reads its instances' class so -/
structure KxC (K : PySem.W.Frag) (C : Addr) : Prop where
  cl : (PySem.W.clsIn K C).isSome = true
  ca : PySem.W.findIn K (.ref C) "__class__" = some (some (.builtin "object.__class__"))
  sp : PySem.W.specialIn K (.builtin "object.__class__") "__get__" = some (some (.builtin "getset_descriptor.__get__"))
  tk : PySem.W.takesIn K (.builtin "object.__class__") = some true
  ob : PySem.W.mroIn K C (.type "object") = some true
/-- a class that the text names x, the c-th one; f: what it notes -/
structure Xe where
  x : Str
  c : Nat
  f : Str
structure XOk (P : Program) (w : World) (K : PySem.W.Frag) (mg : Str → Option Value) (base : Heap) (G : Gr) (p : Xe) : Prop where
  lt : p.c < G.nc
  gx : mg p.x = some (.ref (G.cl p.c))
  xc : ∃ B nI iI bm, Xc K B nI iI bm (G.cl p.c)
  ini : ∃ fI fd ps, PySem.W.findIn K (.ref (G.cl p.c)) "__init__" = some (some (.ref fI)) ∧ PySem.W.typeIn K (.ref fI) = some (.type "function") ∧ FnOk P w K mg base CX0 1 fI fd ps (spN (G.cl p.c) p.f) ∧ Binds K fd ps []
  exm : ∀ c', c' < G.nc → PySem.W.exmOne K (.ref (G.cl c')) (.ref (G.cl p.c)) = some (decide (c' = p.c))
  xf : XfC K (G.cl p.c)
  no : PySem.W.findIn K (.ref (G.cl p.c)) p.f = some none
  kx : KxC K (G.cl p.c)
def cnV (G : Gr) : CN → Value
  | .own c => .ref (G.cl c)
  | .blt n => .type n
def cnU (G : Gr) : CN → V
  | .own c => .ref (G.cl c)
  | .blt n => .ty n
end DL
set_option Elab.async false
set_option linter.all false
set_option maxRecDepth 100000
set_option maxHeartbeats 1000000
/-! The D layer, 10: calls. -/
namespace DL
open PySem PySem.Spec PyProof.Rows L2

/-- a def's promise, where nothing guards -/
structure FnG (P : Program) (w : World) (K : PySem.W.Frag) (mg : Str → Option Value) (base : Heap) (k : Nat) (f : Addr) (fd : FuncData) (ps : List Str) (sp : Sp) : Prop where
  len : ∀ vs H Q E, sp vs H Q E → vs.length = ps.length
  run : ∀ (A : Around) (outer : List Env) (s : Shared) (H : Hp) (args : Args) (us : List Value) (vs : List V) (Q : VK) (E : XK), Room k A → A.guards = some [] → Env0 P w K mg base A outer s H → BindsTo s fd args (ps.zip us) → Vals vs us → sp vs H Q E →
    codeAny (model P w) A (.call (.ref f) args) (CR (L2.CX P w) outer P w H s Q E) s
section
variable {P : Program} {w : World} {K : PySem.W.Frag} {mg : Str → Option Value} {base : Heap}
theorem fn_ofG {k : Nat} {f : Addr} {name qual : Str} {params : Arguments} {body : List Stmt} {scope : Scope} {dV kV doc pm cdv ct oc : Value} {an od : Option Addr}
    {osl : Array (Option Value)} {N ps : List Str} {sp : Sp} (lk : K.lookup f = some ⟨oc, od, .func (PySem.W.fnOf name qual params body scope dV kV doc pm an cdv ct), osl⟩) (hcd : PySem.W.codeIn K cdv qual = true) (S : FnScope N ps scope)
    (len : ∀ vs H Q E, sp vs H Q E → vs.length = ps.length)
    (hbody : ∀ (A : Around) (outer : List Env) (s : Shared) (H : Hp) (vs : List V) (Q : VK) (E : XK), Room k (A.deeper (envOfC qual scope s.heap.objs.size f cdv)) → A.guards = some [] → sp vs H Q E →
      ∃ t, PSs (cxOf (L2.CX P w) P w K mg base N qual scope f cdv A outer s H E) body t ∧ t { nx := fun _ H' => Q .non H', rt := Q } (start N vs) H) :
    FnG P w K mg base (k + 1) f (PySem.W.fnOf name qual params body scope dV kV doc pm an cdv ct) ps sp := by
  refine ⟨len, fun A outer s H args us vs Q E hr hgd e0 hb r hsp => ?_⟩
  have hl := len _ _ _ _ hsp
  have KX : K.In s.heap := e0.mod.kin.keeps fun b o e => (e0.bs b o e).1
  have lim : s.heap.NoLimit := e0.mod.nolimit.keeps fun b o e => (e0.bs b o e).1
  have hkind : ∀ y ∈ ps.zip us, scope.names.lookup y.1 = some .local ∨ (scope.names.lookup y.1 = some .cell ∧ ((cellsFrom (s.heap.objs.size + 1) scope.names []).lookup y.1).isSome = true) := fun ⟨n, v⟩ hy => by
    rcases S.par n (List.of_mem_zip hy).1 with q | q
    · exact .inl q
    · exact .inr ⟨q, PySem.W.cellsFrom_some _ _ _ (.inl q)⟩
  refine codeAny_call_function hr.depth (KX _ _ lk) rfl S.co S.gen rfl (PySem.W.codeRec_of KX hcd) (hb _ _ _ _ ?_)
  refine wpAny_newFunctionEnv_cells S.kind hkind fun env he s1 x => ?_
  subst he
  refine ⟨lim.keeps x.toInCall.keep, codeAny_func ?_⟩
  obtain ⟨t, ht, hq⟩ := hbody A outer s H vs Q E (hr.deeper _) hgd hsp
  have I : Inv (cxOf (L2.CX P w) P w K mg base N qual scope f cdv A outer s H E) [] (start N vs) H s1 := inv_start S hr.hd e0 hl r x
  refine wpAny_mono (ht.run [] s1 (start N vs) H _ I hq) (fun fl s' hs => ?_) fun e s' hs => hs
  have fin : ∀ {σ' : L2.St} {H' : Hp} {v : V} {u : Value}, Inv (cxOf (L2.CX P w) P w K mg base N qual scope f cdv A outer s H E) [] σ' H' s' → RelV v u → Q v H' → CE outer P w H s Q u s' :=
    fun {σ' H' v u} J rv q => ⟨v, H', J.os, J.bare, J.base, J.hok, rv, q⟩
  cases fl with
  | ret u =>
    obtain ⟨v, σ', H', J, rv, q⟩ := hs
    exact fin J rv q
  | next =>
    obtain ⟨σ', H', J, q⟩ := hs
    exact fin (v := V.non) (u := Value.none) J rfl q
  | brk =>
    obtain ⟨_, _, _, q⟩ := hs
    exact False.elim q
  | cont =>
    obtain ⟨_, _, _, q⟩ := hs
    exact False.elim q
theorem FunD.okG {x qual : Str} {params : Arguments} {body : List Stmt} {scope : Scope} {dvs : List V} {kws : List (Str × V)} {f : Addr} {fd : FuncData} {N ps : List Str} {k : Nat} {sp : Sp} (F : FunD K x qual params body scope dvs kws f fd) (S : FnScope N ps scope) (len : ∀ vs H Q E, sp vs H Q E → vs.length = ps.length)
    (hbody : ∀ (cdv : Value) (A : Around) (outer : List Env) (s : Shared) (H : Hp) (vs : List V) (Q : VK) (E : XK), Room k (A.deeper (envOfC qual scope s.heap.objs.size f cdv)) → A.guards = some [] → sp vs H Q E →
      ∃ t, PSs (cxOf (L2.CX P w) P w K mg base N qual scope f cdv A outer s H E) body t ∧ t { nx := fun _ H' => Q .non H', rt := Q } (start N vs) H) : FnG P w K mg base (k + 1) f fd ps sp := by
  obtain ⟨oc, od, dV, kV, doc, pm, an, cdv, ct, osl, rfl, lk, hcd, _, _⟩ := F.ex
  exact fn_ofG lk hcd S len fun A outer s H vs Q E hr hg hsp => hbody cdv A outer s H vs Q E hr hg hsp
end

/-- what a call's exception must do -/
def PostE (G : Gr) (h : MH) (H : Hp) (Ex : DX) (E : XK) : Prop := ∀ c fs h' cls dd H', Ex c fs h' → RepX G h' H' c fs cls dd → RepH G h' H' → Fm h H h' H' → E cls dd H'
def spG (G : Gr) (Φ : Fns) (f : Nat) : Sp := fun vs H Q E => ∃ ds h R Ex, RepVs G.K H ds vs ∧ RepH G h H ∧ Φ f ds h R Ex ∧ Post G h H R Q ∧ PostE G h H Ex E
/-- how a def is called: n values, keywords ks; arr: each parameter's value -/
structure Pat where
  x : Str
  f : Nat
  n : Nat
  ks : List Str
  arr : List (Nat ⊕ D)
structure PatOk (P : Program) (w : World) (K : PySem.W.Frag) (mg : Str → Option Value) (base : Heap) (G : Gr) (Φ : Fns) (k : Nat) (p : Pat) : Prop where
  ex : ∃ (a : Addr) (fd : FuncData) (ps : List Str) (g : List Value → List Value → List Value) (gV : List V → List V → List V), mg p.x = some (.ref a) ∧ PySem.W.keepIn K (.ref a) = true ∧ FnG P w K mg base k a fd ps (spG G Φ p.f) ∧ KBn K fd ps p.n p.ks g gV ∧
    ∀ H ds vs es zs, RepVs K H ds vs → RepVs K H es zs → ds.length = p.n → es.length = p.ks.length → RepVs K H (arrOf (ds ++ es) p.arr) (gV vs zs)
section
variable {X : Cx} {G : Gr} {W : WX} {Φ : Fns} {p : Pat} {k : Nat}
theorem run_pat {pins : List (Addr × Obj)} {σ : L2.St} {H : Hp} {s : Shared} {Q : VK} {us ws : List Value} {vs zs : List V} {ds es : List D} {σd : DS} {h : MH} {R : D → MH → Prop} {E : DX} {a : Addr} {fd : FuncData} {ps : List Str} {g : List Value → List Value → List Value} {gV : List V → List V → List V}
    (ok : Ok X G) (tk : Takes X W) (F : FnG X.prog X.w X.K X.mg X.base k a fd ps (spG G Φ p.f)) (B : KBn X.K fd ps p.n p.ks g gV) (hr : Room k X.A)
    (arr : ∀ H ds vs es zs, RepVs X.K H ds vs → RepVs X.K H es zs → ds.length = p.n → es.length = p.ks.length → RepVs X.K H (arrOf (ds ++ es) p.arr) (gV vs zs))
    (I : Inv X pins σ H s) (r : Vals vs us) (rz : Vals zs ws) (rd : RepVs G.K H ds vs) (re : RepVs G.K H es zs) (l1 : ds.length = p.n) (l2 : es.length = p.ks.length) (at_ : At G W E σd σ h H) (w : Φ p.f (arrOf (ds ++ es) p.arr) h R E) (po : Post G h H R Q) :
    wpAny (model X.prog X.w) X.A (call (.ref a) us (p.ks.zip ws)) (EP X pins σ Q) X.xe s := by
  have r2 := B.rel r rz
  have ra := arr H ds vs es zs (by rw [ok.k]; exact rd) (by rw [ok.k]; exact re) l1 l2
  rw [ok.k] at ra
  have sp : spG G Φ p.f (gV vs zs) H Q (L2.WE W σ) := ⟨_, h, R, E, ra, at_.r, w, po, fun c fs h' cls dd H' e rx rh f => at_.x c fs h' cls dd H' e rx rh f⟩
  refine wpAny_call (codeAny_mono (F.run X.A X.stack s H ⟨us, p.ks.zip ws⟩ (g us ws) (gV vs zs) Q (L2.WE W σ) hr ok.gd I.env0 (B.to s us ws I.kIn (by rw [← r.length, rd.length]; exact l1) (by rw [← rz.length, re.length]; exact l2)) r2 sp) fun r s' hq => ?_)
  cases r with
  | error e => exact passAt tk σ pins H s e s' I hq
  | ok fl =>
    cases fl with
    | ret u => exact I.after hq
    | next => exact False.elim hq
    | brk => exact False.elim hq
    | cont => exact False.elim hq
variable {e : Expr} {es : List Expr} {kws : List Keyword} {q pos : Pos} {wl wk : WL}
/-- f(e, .., k = v, ..) -/
theorem se_callk (ok : Ok X G) (tk : Takes X W) (hp : PatOk X.prog X.w X.K X.mg X.base G Φ k p) (hr : Room k X.A) (hg : Gl X p.x)
    (ha : PA X (e :: es) (lA G W wl)) (hkw : PK X kws (lA G W wk))
    (hall : (backToKw pos (keywordEach kws X.env)).all (·.1.isSome) = true) (hks : (backToKw pos (keywordEach kws X.env)).filterMap (·.1) = p.ks)
    (hdb : (p.x == ("__debug__" : Str)) = false) (he : starEach (e :: es) X.env = (false, eval e X.env) :: starEach es X.env)
    (hpl : ((backTo pos (starEach (e :: es) X.env)).any (·.1) || (backToKw pos (keywordEach kws X.env)).any (·.1.isNone)) = false) :
    PE X (.Call (.Name p.x q) (e :: es) kws pos) (lE G W fun E σ h Q => wl E σ h fun ds h1 => wk E σ h1 fun ks h2 => (ds.length = p.n ∧ ks.length = p.ks.length) ∧ Φ p.f (arrOf (ds ++ ks) p.arr) h2 Q E) := by
  obtain ⟨a, fd, ps, g, gV, hmg, hk, F, B, arr⟩ := hp.ex
  refine ⟨fun pins s σ H Q I ⟨σd, h, R, E, at_, w, po⟩ => ?_⟩
  refine wpAny_Call_Name_kw (ld_glob I hg hmg ?_ hdb)
  refine PySem.W.callWith_KW (h₀ := X.base) I.ok.mod.kin hk hall (thn (ha.run pos pins s σ H
    (fun vs H1 => ∃ ds h1, RepVs G.K H1 ds vs ∧ RepH G h1 H1 ∧ Fm h H h1 H1 ∧ wk E σd h1 fun ks h2 => (ds.length = p.n ∧ ks.length = p.ks.length) ∧ Φ p.f (arrOf (ds ++ ks) p.arr) h2 R E) I ⟨σd, h, _, E, at_, w, fun ds h1 vs H1 w1 rd rh1 f1 => ⟨ds, h1, rd, rh1, f1, w1⟩⟩) fun us s1 ⟨vs, H1, I1, r, ds, h1, rd, rh1, f1, w1⟩ => ?_) hpl he
  refine thn (hkw.run pos pins s1 σ H1 (fun zs H2 => ∃ es h2, RepVs G.K H2 es zs ∧ RepH G h2 H2 ∧ Fm h1 H1 h2 H2 ∧ (ds.length = p.n ∧ es.length = p.ks.length) ∧ Φ p.f (arrOf (ds ++ es) p.arr) h2 R E) I1 ⟨σd, h1, _, E, at_.fm rh1 f1, w1, fun es h2 zs H2 w2 re rh2 f2 => ⟨es, h2, re, rh2, f2, w2⟩⟩)
    fun ws s2 ⟨zs, H2, I2, rz, es, h2, re, rh2, f2, l, w2⟩ => ⟨I2.kIn, ?_⟩
  rw [hks]
  exact run_pat ok tk F B hr arr I2 r rz (rd.fm rh1 f2) re l.1 l.2 ((at_.fm rh1 f1).fm rh2 f2) w2 (po.fm (f1.trans f2))
/-- f(e, ..), every parameter written -/
theorem se_call (ok : Ok X G) (tk : Takes X W) (hp : PatOk X.prog X.w X.K X.mg X.base G Φ k p) (hr : Room k X.A) (hg : Gl X p.x) (hk0 : p.ks = []) (har : ∀ ds : List D, ds.length = p.n → arrOf ds p.arr = ds)
    (ha : PA X (e :: es) (lA G W wl)) (hdb : (p.x == ("__debug__" : Str)) = false) (he : starEach (e :: es) X.env = (false, eval e X.env) :: starEach es X.env)
    (hpl : (backTo pos (starEach es X.env)).any (·.1) = false) :
    PE X (.Call (.Name p.x q) (e :: es) [] pos) (lE G W fun E σ h Q => wl E σ h fun ds h1 => ds.length = p.n ∧ Φ p.f ds h1 Q E) := by
  obtain ⟨a, fd, ps, g, gV, hmg, hk, F, B, arr⟩ := hp.ex
  refine ⟨fun pins s σ H Q I ⟨σd, h, R, E, at_, w, po⟩ => ?_⟩
  refine wpAny_Call_Name_kw (ld_glob I hg hmg ?_ hdb)
  refine PySem.W.callWith_K (h₀ := X.base) I.ok.mod.kin hk (thn (ha.run pos pins s σ H
    (fun vs H1 => ∃ ds h1, RepVs G.K H1 ds vs ∧ RepH G h1 H1 ∧ Fm h H h1 H1 ∧ ds.length = p.n ∧ Φ p.f ds h1 R E) I ⟨σd, h, _, E, at_, w, fun ds h1 vs H1 w1 rd rh1 f1 => ⟨ds, h1, rd, rh1, f1, w1⟩⟩) fun us s1 ⟨vs, H1, I1, r, ds, h1, rd, rh1, f1, l1, w1⟩ => ⟨I1.kIn, ?_⟩) he hpl
  have w2 : Φ p.f (arrOf (ds ++ []) p.arr) h1 R E := by rw [List.append_nil, har ds l1]; exact w1
  have q := run_pat (ws := []) (zs := []) (es := []) ok tk F B hr arr I1 r .nil rd repVs_nil l1 (by rw [hk0]; rfl) (at_.fm rh1 f1) w2 (po.fm f1)
  rw [hk0] at q
  exact q
end
end DL
set_option Elab.async false
set_option linter.all false
set_option maxRecDepth 100000
set_option maxHeartbeats 1000000
/-! The D layer, 11: the words laid beside the program's. -/
namespace DL
open PySem PySem.Spec PyProof.Rows L2

/-! ### what is seen of an expression -/
def nostar : Expr → Bool
  | .Starred _ _ => false
  | _ => true
def noslice : Expr → Bool
  | .Slice _ _ _ _ => false
  | _ => true
def noset : Expr → Bool
  | .Set _ _ _ => false
  | _ => true
def nocall : Expr → Bool
  | .Call _ [] [] _ => false
  | _ => true
def plainT : Expr → Bool
  | .UnaryOp .Not _ _ => false
  | .BoolOp _ _ _ => false
  | .IfExp _ _ _ _ => false
  | .Compare _ _ _ _ => false
  | _ => true
def nocomp : Expr → Bool
  | .ListComp _ _ _ _ => false
  | .SetComp _ _ _ _ => false
  | .DictComp _ _ _ _ _ => false
  | _ => true
def noname : Expr → Bool
  | .Name _ _ => false
  | _ => true
def notup : Expr → Bool
  | .Tuple _ _ _ => false
  | .List _ _ => false
  | _ => true
theorem starEach_cons {e : Expr} {es : List Expr} {env : Env} (h : nostar e = true) : starEach (e :: es) env = (false, eval e env) :: starEach es env := by
  cases e <;> first | rfl | cases h
theorem plain_any {pos : Pos} {env : Env} : ∀ {es : List Expr}, es.all nostar = true → (backTo pos (starEach es env)).any (·.1) = false
  | [], _ => rfl
  | e :: es, h => by
    have h1 := List.all_cons ▸ h
    rw [Bool.and_eq_true] at h1
    rw [starEach_cons h1.1]
    show (false || (backTo pos (starEach es env)).any (·.1)) = false
    rw [plain_any h1.2] <;> rfl
theorem plain_all {pos : Pos} {env : Env} : ∀ {es : List Expr}, es.all nostar = true → (backTo pos (starEach es env)).all (fun x => !x.1) = true
  | [], _ => rfl
  | e :: es, h => by
    have h1 := List.all_cons ▸ h
    rw [Bool.and_eq_true] at h1
    rw [starEach_cons h1.1]
    show (true && (backTo pos (starEach es env)).all (fun x => !x.1)) = true
    rw [plain_all h1.2] <;> rfl
theorem plainIx {b : Expr} (h : noslice b = true) : PlainIx b := by
  cases b <;> first | (intro o i; rfl) | cases h
theorem assign_sub {a b : Expr} {pos : Pos} {env : Env} (h : noslice b = true) : ∀ v, assign (.Subscript a b pos) env v = (do
      let ov ← holding [v] (eval a env)
      let iv ← holding [v, ov] (eval b env)
      standAt pos
      holding [v, ov, iv] (setItem ov iv v)
      release [v, ov, iv] []) := by
  cases b <;> first | (intro v; rfl) | cases h
theorem isTrue_of {a : Expr} {env : Env} (h : plainT a = true) : ∀ whole, isTrue a env whole = (do let v ← whole; standAt a.pos; holding [v] (truthy v)) := by
  cases a <;> first | (intro w; rfl) | cases h | skip
  case UnaryOp op x p => cases op <;> first | (intro w; rfl) | cases h
theorem folded_of {e : Expr} {env : Env} (h : noset e = true) : ∀ x, foldedSetIterable e env x = pure x := by
  cases e <;> first | (intro w; rfl) | cases h
theorem behind_of {op : CmpOp} {b : Expr} (h : noset b = true) : behindInMarks op b = false := by
  cases b <;> first | rfl | cases h
theorem base_of {o : Expr} {name : Str} {env : Env} (h : nocall o = true) (w : Sem Value) : attributeBase o name env w = w := by
  cases o <;> first | rfl | skip
  case Call f as ks p =>
    cases as with
    | nil => cases ks with
      | nil => cases h
      | cons _ _ => cases f <;> rfl
    | cons _ _ => cases f <;> rfl
theorem swaps_of {e : Expr} {t : Option Expr} {l : Nat} {env : Env} (h : nocomp e = true) : swapsWith e t l env = pure false := by
  cases e <;> first | rfl | cases h
theorem swaps_of2 {e t : Expr} {l : Nat} {env : Env} (h : noname t = true) : swapsWith e (some t) l env = pure false := by
  cases t <;> first | (cases e <;> rfl) | (cases h; done)
theorem stores_of {e t : Expr} {env : Env} (h : notup t = true) : swappedStores [t] e env = pure none := by
  cases t <;> first | (cases e <;> rfl) | (cases h; done)
theorem stores_of2 {e t : Expr} {env : Env} (h : notup e = true) : swappedStores [t] e env = pure none := by
  cases e <;> first | (cases t <;> rfl) | (cases h; done)
theorem assignEach_one {t : Expr} {env : Env} {ts : List Expr} (h : nostar t = true) : (assignEach (t :: ts) env).map (·.2) = assign t env :: (assignEach ts env).map (·.2) := by
  cases t <;> first | rfl | cases h
theorem assignEach_len {env : Env} : ∀ {ts : List Expr}, (assignEach ts env).length = ts.length
  | [] => rfl
  | t :: ts => by
    have e := assignEach_len (env := env) (ts := ts)
    cases t <;> exact congrArg Nat.succ e
theorem assignEach_nostar {env : Env} : ∀ {ts : List Expr}, ts.all nostar = true → (assignEach ts env).findIdx? (·.1) = none
  | [], _ => rfl
  | t :: ts, h => by
    have h1 := List.all_cons ▸ h
    rw [Bool.and_eq_true] at h1
    have e := assignEach_nostar (env := env) h1.2
    have e2 : assignEach (t :: ts) env = (false, assign t env) :: assignEach ts env := by
      have := h1.1
      cases t <;> first | rfl | cases this
    rw [e2, List.findIdx?_cons, e] <;> rfl
theorem kws_ok {pos : Pos} {env : Env} : ∀ {kws : List Keyword} {ks : List Str}, kws.map (·.arg) = ks.map some → (backToKw pos (keywordEach kws env)).all (·.1.isSome) = true ∧ (backToKw pos (keywordEach kws env)).filterMap (·.1) = ks ∧ (backToKw pos (keywordEach kws env)).any (·.1.isNone) = false
  | [], [], _ => ⟨rfl, rfl, rfl⟩
  | [], _ :: _, h => by cases h
  | _ :: _, [], h => by cases h
  | ⟨nm, e, p⟩ :: kws, k :: ks, h => by
    rw [List.map_cons, List.map_cons] at h
    obtain ⟨h1, h2⟩ := List.cons.inj h
    have h1 : nm = some k := h1
    subst h1
    obtain ⟨a, b, c⟩ := kws_ok (pos := pos) (env := env) h2
    refine ⟨?_, ?_, ?_⟩
    · show (true && (backToKw pos (keywordEach kws env)).all (·.1.isSome)) = true
      rw [a] <;> rfl
    · show k :: (backToKw pos (keywordEach kws env)).filterMap (·.1) = _
      rw [b]
    · show (false || (backToKw pos (keywordEach kws env)).any (·.1.isNone)) = false
      rw [c] <;> rfl

/-! ### two or three names at once -/
/-- the names are stored from the right -/
def parC (vs : List Expr) : Bool := vs.all nostar && !(vs.all (foldedForSure 8)) && !(vs.all (constantsAlone 8))
theorem star_no {e : Expr} (h : nostar e = true) {f : Expr → Bool} (hf : ∀ e, f e = !nostar e) : f e = false := by rw [hf, h] <;> rfl
theorem stores_par {x y : Str} {px py pt : Pos} {kt : Nat} {a b : Expr} {k2 : Nat} {pt2 : Pos} {env : Env} (hk : env.scope.kind = .function) (hx : env.scope.names.lookup x = some .local) (hy : env.scope.names.lookup y = some .local) (hl : py.line = px.line) (hxy : x ≠ y)
    (hp : parC [a, b] = true) : swappedStores [.Tuple [.Name x px, .Name y py] kt pt] (.Tuple [a, b] k2 pt2) env = pure (some [x, y]) := by
  unfold parC at hp
  simp only [Bool.and_eq_true, Bool.not_eq_true'] at hp
  obtain ⟨⟨h1, h2⟩, h3⟩ := hp
  simp only [List.all_cons, List.all_nil, Bool.and_true, Bool.and_eq_true] at h1
  have kx : env.kindOf x = some .local := hx
  have ky : env.kindOf y = some .local := hy
  have hb : env.blockKind = .function := by unfold Env.blockKind; rw [hk]; rfl
  have ed : [x, y].eraseDups = [x, y] := by
    simp [List.eraseDups_cons, hxy, Ne.symm hxy]
  unfold swappedStores
  simp only [List.length_cons, List.length_nil, hb, h2, h3, List.head?_cons, Option.map_some, Option.getD_some, Expr.pos, List.filterMap_cons, kx, ky, hl, beq_self_eq_true, Bool.and_self, if_true, List.filterMap_nil, ed]
  refine (if_neg (by decide)).trans ((if_neg ?_).trans rfl)
  intro z
  simp only [List.any_cons, List.any_nil, Bool.or_false, Bool.or_eq_true] at z
  rcases z with z | z
  · have := h1.1; cases a <;> first | (cases z; done) | (cases this; done)
  · have := h1.2; cases b <;> first | (cases z; done) | (cases this; done)
theorem stores_par3 {x y z : Str} {px py pz pt : Pos} {kt : Nat} {a b c : Expr} {k2 : Nat} {pt2 : Pos} {env : Env} (hk : env.scope.kind = .function) (hx : env.scope.names.lookup x = some .local) (hy : env.scope.names.lookup y = some .local) (hz : env.scope.names.lookup z = some .local) (hl : py.line = px.line) (hl2 : pz.line = px.line) (hxy : x ≠ y) (hxz : x ≠ z) (hyz : y ≠ z)
    (hp : parC [a, b, c] = true) : swappedStores [.Tuple [.Name x px, .Name y py, .Name z pz] kt pt] (.Tuple [a, b, c] k2 pt2) env = pure (some [x, y, z]) := by
  unfold parC at hp
  simp only [Bool.and_eq_true, Bool.not_eq_true'] at hp
  obtain ⟨⟨h1, h2⟩, h3⟩ := hp
  simp only [List.all_cons, List.all_nil, Bool.and_true, Bool.and_eq_true] at h1
  have kx : env.kindOf x = some .local := hx
  have ky : env.kindOf y = some .local := hy
  have kz : env.kindOf z = some .local := hz
  have hb : env.blockKind = .function := by unfold Env.blockKind; rw [hk]; rfl
  have ed : [x, y, z].eraseDups = [x, y, z] := by
    simp [List.eraseDups_cons, hxy, Ne.symm hxy, hxz, Ne.symm hxz, hyz, Ne.symm hyz]
  unfold swappedStores
  simp only [List.length_cons, List.length_nil, hb, h2, h3, List.head?_cons, Option.map_some, Option.getD_some, Expr.pos, List.filterMap_cons, kx, ky, kz, hl, hl2, beq_self_eq_true, Bool.and_self, if_true, List.filterMap_nil, ed]
  refine (if_neg (by decide)).trans ((if_neg ?_).trans rfl)
  intro z
  simp only [List.any_cons, List.any_nil, Bool.or_false, Bool.or_eq_true] at z
  rcases z with z | z | z
  · have := h1.1; cases a <;> first | (cases z; done) | (cases this; done)
  · have := h1.2.1; cases b <;> first | (cases z; done) | (cases this; done)
  · have := h1.2.2; cases c <;> first | (cases z; done) | (cases this; done)

def notLoc (sc : Scope) : Expr → Bool
  | .Name x _ => !decide (sc.names.lookup x = some .local)
  | _ => true
theorem filterMap_lt {α β : Type} {f : α → Option β} : ∀ {l : List α}, (∃ x ∈ l, f x = none) → (l.filterMap f).length < l.length
  | [], ⟨_, h, _⟩ => nomatch h
  | a :: l, ⟨x, hx, e⟩ => by
    have le := List.length_filterMap_le f l
    rw [List.filterMap_cons]
    rcases List.mem_cons.mp hx with rfl | hx
    · rw [e, List.length_cons]
      show (l.filterMap f).length < _
      omega
    · have ih := filterMap_lt (f := f) ⟨x, hx, e⟩
      cases f a with
      | none => show (l.filterMap f).length < _; rw [List.length_cons]; omega
      | some b => show (b :: l.filterMap f).length < _; rw [List.length_cons, List.length_cons]; omega
theorem stores_none {ts vs : List Expr} {k1 k2 : Nat} {p1 p2 : Pos} {env : Env} (h : (ts.any (notLoc env.scope) || vs.all (foldedForSure 8)) = true) : swappedStores [.Tuple ts k1 p1] (.Tuple vs k2 p2) env = pure none := by
  unfold swappedStores
  dsimp only
  split
  · rfl
  split
  · rfl
  split
  · rfl
  · rename_i hn
    split
    · rfl
    · rename_i hf
      exfalso
      rw [Bool.or_eq_true] at h
      rcases h with h | h
      · apply hn
        obtain ⟨x, hx, e⟩ := List.any_eq_true.mp h
        rw [Bool.or_eq_true]
        left
        refine bne_iff_ne.mpr (Nat.ne_of_lt (filterMap_lt ⟨x, hx, ?_⟩))
        cases x <;> try rfl
        rename_i id pos
        have : env.kindOf id ≠ some .local := by
          have z : (!decide (env.scope.names.lookup id = some .local)) = true := e
          have z2 : ¬ env.scope.names.lookup id = some .local := by simpa using z
          exact z2
        show (if (env.kindOf id == some .local && _) = true then _ else none) = none
        rw [if_neg]
        intro z
        rw [Bool.and_eq_true] at z
        exact this (eq_of_beq z.1)
      · exact hf h
end DL
set_option Elab.async false
set_option linter.all false
set_option maxRecDepth 100000
set_option maxHeartbeats 2000000
/-! The D layer, 12: the checker of expressions, and that it is right. -/
namespace DL
open PySem PySem.Spec PyProof.Rows L2

/-- what a text is read under -/
structure Ctx where
  N : List Str
  sc : Scope
  top : Bool
  pats : List Pat
  cI : List (Str × Int)
  cS : List (Str × Str)
  cF : List Str
  xs : List Xe
  xi : List (Nat × List CN × Bool)
def Ctx.blk (c : Ctx) (sc : Scope) : Ctx := { c with sc := relS sc c.sc, top := false }
structure Hy (X : Cx) (G : Gr) (W : WX) (Φ : Fns) (k : Nat) (c : Ctx) : Prop where
  ok : Ok X G
  hc : X.calm = true
  N : X.N = c.N
  sc : X.env.scope = c.sc
  fnT : c.top = true → ∀ x, X.fn x = true
  tk : Takes X W
  room : Room k X.A
  k2 : 2 ≤ k
  cF : ∀ x ∈ c.cF, X.mg x = none
  cI : ∀ p ∈ c.cI, ∃ u, X.mg p.1 = some u ∧ RelV (.int p.2) u
  cS : ∀ p ∈ c.cS, ∃ u, X.mg p.1 = some u ∧ RelV (.str p.2) u
  pats : ∀ p ∈ c.pats, PatOk X.prog X.w X.K X.mg X.base G Φ k p
  xs : ∀ p ∈ c.xs, XOk X.prog X.w X.K X.mg X.base G p
  xi : ∀ q ∈ c.xi, PySem.W.kitAny X.K (.ref (G.cl q.1)) (q.2.1.map (cnV G)) = some q.2.2
theorem Hy.blk {X : Cx} {G : Gr} {W : WX} {Φ : Fns} {k : Nat} {c : Ctx} (y : Hy X G W Φ k c) (scope : Scope) (s : Shared) (H : Hp) (C : Addr) (cl : List (Str × Addr)) (fp : List Addr) : Hy (X.blk s H scope (compEnvC scope cl C X.env) fp) G W0 Φ k (c.blk scope) where
  ok := ⟨y.ok.k, y.ok.nd, y.ok.gd, y.ok.hu, y.ok.sy⟩
  hc := y.hc
  N := y.N
  sc := by
    show relabel scope X.env = relS scope c.sc
    rw [← y.sc]
    rfl
  fnT := fun z => by cases z
  tk := fun u s' x => by
    obtain ⟨a, B, sI, pins, σ, H, cls, d, h1, h2, h3, h4, h5, h6, h7, h8, w⟩ := x
    exact w.elim
  room := y.room
  k2 := y.k2
  cF := y.cF
  cI := y.cI
  cS := y.cS
  pats := y.pats
  xs := y.xs
  xi := y.xi

def visC (c : Ctx) (x : Str) : Bool := match c.sc.names.lookup x with
  | some .local => true
  | some .cell => true
  | some .free => true
  | _ => false
def glC (c : Ctx) (x : Str) : Bool := decide (c.sc.names.lookup x = some .globalImplicit) && !(x == ("__debug__" : Str))
def freeC (c : Ctx) (x : Str) : Bool := glC c x && c.cF.contains x && !(x == ("__name__" : Str))
def biN : Bi → Str
  | .len => "len" | .abs => "abs" | .min => "min" | .max => "max" | .sum => "sum" | .all => "all" | .any => "any" | .sorted => "sorted" | .list => "list" | .tuple => "tuple" | .str => "str" | .int => "int" | .repr => "repr"
def mtN : Mt → Str
  | .append => "append" | .extend => "extend" | .pop => "pop" | .get => "get" | .join => "join" | .split => "split" | .startswith => "startswith" | .index => "index" | .insert => "insert" | .reverse => "reverse" | .partition => "partition"
def tyS : Ty → Str
  | .int => "int" | .bool => "bool" | .str => "str" | .list => "list" | .tuple => "tuple" | .dict => "dict" | .non => "NoneType"
/-- a class by its name -/
def tyC (c : Ctx) (t : Ty) : Expr → Bool
  | .Name x _ => decide (t ≠ .non) && decide (x = tyS t) && freeC c x
  | _ => false
def tysC (c : Ctx) : List Ty → List Expr → Bool
  | [], [] => true
  | t :: ts, e :: es => tyC c t e && tysC c ts es
  | _, _ => false
def argC (es : List Expr) : Bool := es.all nostar && decide (es.length < 30)
def eqLR : List (Nat ⊕ D) → List (Nat ⊕ D) → Bool
  | [], [] => true
  | .inl i :: r, .inl j :: s => decide (i = j) && eqLR r s
  | .inr (.int i) :: r, .inr (.int j) :: s => decide (i = j) && eqLR r s
  | .inr (.str i) :: r, .inr (.str j) :: s => decide (i = j) && eqLR r s
  | .inr (.bl i) :: r, .inr (.bl j) :: s => decide (i = j) && eqLR r s
  | .inr .non :: r, .inr .non :: s => eqLR r s
  | _, _ => false
theorem eqLR_ok : ∀ {a b : List (Nat ⊕ D)}, eqLR a b = true → a = b
  | [], b, h => by cases b <;> first | rfl | cases h
  | x :: r, [], h => by
    cases x with
    | inl _ => cases h
    | inr d => cases d <;> cases h
  | x :: r, y :: s, h => by
    unfold eqLR at h
    split at h
    · rename_i e1 e2; cases e1
    · rename_i e1 e2; cases e1; cases e2
      simp only [Bool.and_eq_true, decide_eq_true_eq] at h
      rw [h.1, eqLR_ok h.2]
    · rename_i e1 e2; cases e1; cases e2
      simp only [Bool.and_eq_true, decide_eq_true_eq] at h
      rw [h.1, eqLR_ok h.2]
    · rename_i e1 e2; cases e1; cases e2
      simp only [Bool.and_eq_true, decide_eq_true_eq] at h
      rw [h.1, eqLR_ok h.2]
    · rename_i e1 e2; cases e1; cases e2
      simp only [Bool.and_eq_true, decide_eq_true_eq] at h
      rw [h.1, eqLR_ok h.2]
    · rename_i e1 e2; cases e1; cases e2
      rw [eqLR_ok h]
    · cases h
/-- arr takes the values as they come -/
def idArr : Nat → List (Nat ⊕ D) → Nat → Bool
  | _, [], n => decide (n = 0)
  | i, .inl j :: r, n + 1 => decide (i = j) && idArr (i + 1) r n
  | _, _, _ => false
theorem idArr_ok : ∀ {arr : List (Nat ⊕ D)} {i n : Nat} {ds : List D}, idArr i arr n = true → ds.length = i + n → arrOf ds arr = ds.drop i
  | [], i, n, ds, h, l => by
    have : n = 0 := by simpa [idArr] using h
    subst this
    rw [List.drop_eq_nil_of_le (by omega)] <;> rfl
  | .inl j :: r, i, n, ds, h, l => by
    cases n with
    | zero => cases h
    | succ n =>
      simp only [idArr, Bool.and_eq_true, decide_eq_true_eq] at h
      obtain ⟨rfl, h⟩ := h
      have q := idArr_ok (ds := ds) h (by omega)
      show ds.getD i .non :: arrOf ds r = _
      rw [q, List.drop_eq_getElem_cons (by omega : i < ds.length), List.getD_eq_getElem?_getD, List.getElem?_eq_getElem (by omega : i < ds.length)] <;> rfl
  | .inr d :: r, i, n, ds, h, l => by cases n <;> cases h
def okPat (p : Pat) : Bool := !(p.x == ("__debug__" : Str))
def callC (c : Ctx) (x : Str) (f n : Nat) : Bool := glC c x && c.pats.any fun p => decide (p.x = x) && decide (p.f = f) && decide (p.n = n) && decide (p.ks = []) && idArr 0 p.arr n
def callkC (c : Ctx) (x : Str) (f n m : Nat) (arr : List (Nat ⊕ D)) (kws : List Keyword) : Bool := glC c x && c.pats.any fun p => decide (p.x = x) && decide (p.f = f) && decide (p.n = n) && decide (p.ks.length = m) && eqLR p.arr arr && decide (kws.map (·.arg) = p.ks.map some)
def ownOf (N : List Str) (vs : List Nat) : List (Str × Nat) := vs.map fun v => (N.getD v "", v)
theorem ownOf_snd (N : List Str) : ∀ vs : List Nat, (ownOf N vs).map (·.2) = vs
  | [] => rfl
  | v :: vs => by
    show v :: (ownOf N vs).map (·.2) = _
    rw [ownOf_snd N vs]
/-- a loop's target -/
def nmC (c : Ctx) (i : Nat) : Expr → Bool
  | .Name x _ => decide (c.N[i]? = some x) && (match c.sc.names.lookup x with
    | some .local => true
    | some .cell => c.top
    | _ => false)
  | _ => false
def nmsC (c : Ctx) : List Nat → List Expr → Bool
  | [], [] => true
  | i :: is, e :: es => nmC c i e && nmsC c is es
  | _, _ => false
def tgC (c : Ctx) : Tg → Expr → Bool
  | .nm i, e => nmC c i e
  | .tp is, .Tuple es _ _ => nmsC c is es
  | _, _ => false
def istup : Expr → Bool
  | .Tuple _ _ _ => true
  | _ => false

mutual
def ckE (c : Ctx) : Ex → Expr → Bool
  | .var i, e => (match e with
    | .Name x _ => decide (c.N[i]? = some x) && visC c x && !(x == ("__debug__" : Str)) && !(x == ("__classdict__" : Str))
    | _ => false)
  | .cst d, e => (match d, e with
    | .int i, .Constant (.int j) _ _ => decide (i = j)
    | .bl i, .Constant (.bool j) _ _ => decide (i = j)
    | .non, .Constant .none _ _ => true
    | .str i, .Constant (.str j) _ _ => decide (i = j)
    | .int i, .Name x _ => glC c x && decide ((x, i) ∈ c.cI)
    | .str i, .Name x _ => glC c x && decide ((x, i) ∈ c.cS)
    | _, _ => false)
  | .bin op a b, e => (match e with
    | .BinOp x o y _ => decide (op = o) && ckE c a x && ckE c b y
    | _ => false)
  | .neg a, e => (match e with
    | .UnaryOp .USub x _ => ckE c a x
    | _ => false)
  | .not a, e => (match e with
    | .UnaryOp .Not x _ => ckE c a x
    | _ => false)
  | .and a b, e => (match e with
    | .BoolOp .And (x :: y :: r) p => ckE c a x && (match r with
      | [] => ckE c b y
      | z :: r => ckE c b (.BoolOp .And (y :: z :: r) p))
    | _ => false)
  | .or a b, e => (match e with
    | .BoolOp .Or (x :: y :: r) p => ckE c a x && (match r with
      | [] => ckE c b y
      | z :: r => ckE c b (.BoolOp .Or (y :: z :: r) p))
    | _ => false)
  | .ite t a b, e => (match e with
    | .IfExp z x y _ => ckT c t z && ckE c a x && ckE c b y
    | _ => false)
  | .cmp op a b, e => (match e with
    | .Compare x [o] [y] _ => decide (op = o) && noset y && ckE c a x && ckE c b y
    | _ => false)
  | .chn op op' a b d, e => (match e with
    | .Compare x [o, o'] [y, z] _ => decide (op = o) && decide (op' = o') && noset z && ckE c a x && ckE c b y && ckE c d z
    | _ => false)
  | .tup es, e => (match e with
    | .Tuple xs _ _ => xs.all nostar && ckEs c es xs
    | _ => false)
  | .lst es, e => (match e with
    | .List xs _ => xs.all nostar && ckEs c es xs
    | _ => false)
  | .dsp ks es, e => (match e with
    | .Dict keys vs _ => decide (ks.length ≤ 15) && decide ks.Nodup && ckD c ks es keys vs
    | _ => false)
  | .ix a i, e => (match e with
    | .Subscript x y _ => noslice y && ckE c a x && ckE c i y
    | _ => false)
  | .sl a lo hi, e => (match e with
    | .Subscript x (.Slice l u none _) _ => ckE c a x && ckO c lo l && ckO c hi u
    | _ => false)
  | .call f es, e => (match e with
    | .Call (.Name x _) (y :: ys) [] _ => argC (y :: ys) && callC c x f es.length && ckEs c es (y :: ys)
    | _ => false)
  | .callk f es kes arr, e => (match e with
    | .Call (.Name x _) (y :: ys) kws _ => argC (y :: ys) && callkC c x f es.length kes.length arr kws && ckEs c es (y :: ys) && ckK c kes kws
    | _ => false)
  | .bi b es, e => (match e with
    | .Call (.Name x _) (y :: ys) [] _ => argC (y :: ys) && decide (x = biN b) && freeC c x && ckEs c es (y :: ys)
    | _ => false)
  | .isi a ts, e => (match e with
    | .Call (.Name x _) [y, z] [] _ => decide (x = "isinstance") && freeC c x && nostar y && ckE c a y && (match z, ts with
      | .Name _ _, [t] => tyC c t z
      | .Tuple zs _ _, ts => tysC c ts zs && decide (zs.length ≤ 10)
      | _, _ => false)
    | _ => false)
  | .met m o es, e => (match e with
    | .Call (.Attribute x nm ap) ys [] cp => decide (nm = mtN m) && nocall x && decide (ap.endLine = cp.line) && argC ys && ckE c o x && ckEs c es ys
    | _ => false)
  | .lc el t it cd vs, e => (match e with
    | .ListComp x [⟨tg, i, ifs, 0⟩] scope _ => blkC c.N c.sc scope (ownOf c.N vs) && tgIn t vs && noset i && tgC (c.blk scope) t tg && ckI c it tg i && ckE (c.blk scope) el x && ckC (c.blk scope) cd ifs
    | _ => false)
  | .lc2 el t it cd t1 it1 cd1 vs vs1, e => (match e with
    | .ListComp x [⟨tg, i, ifs, 0⟩, ⟨tg1, i1, ifs1, 0⟩] scope _ => blkC c.N c.sc scope (ownOf c.N vs) && tgIn t vs && tgIn t1 vs1 && (vs1.all fun v => vs.contains v) && noset i && noset i1 && tgC (c.blk scope) t tg && tgC (c.blk scope) t1 tg1 && ckI c it tg i && ckI (c.blk scope) it1 tg1 i1 &&
        ckE (c.blk scope) el x && ckC (c.blk scope) cd ifs && ckC (c.blk scope) cd1 ifs1
    | _ => false)
def ckT (c : Ctx) : Te → Expr → Bool
  | .val a, e => plainT e && ckE c a e
  | .not a, e => (match e with
    | .UnaryOp .Not x _ => ckT c a x
    | _ => false)
  | .and a b, e => (match e with
    | .BoolOp .And (x :: y :: r) p => ckT c a x && (match r with
      | [] => ckT c b y
      | z :: r => ckT c b (.BoolOp .And (y :: z :: r) p))
    | _ => false)
  | .or a b, e => (match e with
    | .BoolOp .Or (x :: y :: r) p => ckT c a x && (match r with
      | [] => ckT c b y
      | z :: r => ckT c b (.BoolOp .Or (y :: z :: r) p))
    | _ => false)
  | .cmp op a b, e => (match e with
    | .Compare x [o] [y] _ => decide (op = o) && noset y && ckE c a x && ckE c b y
    | _ => false)
  | .chn op op' a b d, e => (match e with
    | .Compare x [o, o'] [y, z] _ => decide (op = o) && decide (op' = o') && noset z && ckE c a x && ckE c b y && ckE c d z
    | _ => false)
def ckEs (c : Ctx) : List Ex → List Expr → Bool
  | [], [] => true
  | a :: as, x :: xs => ckE c a x && ckEs c as xs
  | _, _ => false
def ckK (c : Ctx) : List Ex → List Keyword → Bool
  | [], [] => true
  | a :: as, ⟨_, x, _⟩ :: xs => ckE c a x && ckK c as xs
  | _, _ => false
def ckD (c : Ctx) : List Str → List Ex → List (Option Expr) → List Expr → Bool
  | [], [], [], [] => true
  | k :: ks, a :: as, some (.Constant (.str k') _ _) :: keys, x :: xs => decide (k = k') && ckE c a x && ckD c ks as keys xs
  | _, _, _, _ => false
def ckO (c : Ctx) : Option Ex → Option Expr → Bool
  | none, none => true
  | some a, some x => ckE c a x
  | _, _ => false
def ckC (c : Ctx) : Option Te → List Expr → Bool
  | none, [] => true
  | some a, [x] => ckT c a x
  | _, _ => false
def ckI (c : Ctx) : It' → Expr → Expr → Bool
  | .of a, _, e => ckE c a e
  | .rng es, _, e => (match e with
    | .Call (.Name x _) (y :: ys) [] _ => decide (x = "range") && freeC c x && argC (y :: ys) && ckEs c es (y :: ys)
    | _ => false)
  | .zip a b, tg, e => (match e with
    | .Call (.Name x _) [y, z] [] _ => istup tg && decide (x = "zip") && freeC c x && argC [y, z] && ckE c a y && ckE c b z
    | _ => false)
  | .enm a, tg, e => (match e with
    | .Call (.Name x _) [y] [] _ => istup tg && decide (x = "enumerate") && freeC c x && argC [y] && ckE c a y
    | _ => false)
  | .rev a, _, e => (match e with
    | .Call (.Name x _) [y] [] _ => decide (x = "reversed") && freeC c x && argC [y] && ckE c a y
    | _ => false)
end
end DL
set_option Elab.async false
set_option linter.all false
set_option maxRecDepth 100000
set_option maxHeartbeats 4000000
/-! The D layer, 13: the checker of expressions is right. -/
namespace DL
open PySem PySem.Spec PyProof.Rows L2

theorem mt_slot (m : Mt) : Slot (mtT m) (mtN m) (mtId m) := by
  cases m
  · exact PySem.F.slot_list_append
  · exact PySem.F.slot_list_extend
  · exact PySem.F.slot_list_pop
  · exact PySem.F.slot_dict_get
  · exact PySem.F.slot_str_join
  · exact PySem.F.slot_str_split
  · exact PySem.F.slot_str_startswith
  · exact PySem.F.slot_list_index
  · exact PySem.F.slot_list_insert
  · exact PySem.F.slot_list_reverse
  · exact PySem.F.slot_str_partition
theorem mt_type (m : Mt) : typeOf (.builtin (mtId m)) = pure (.type "method_descriptor") := by
  cases m
  · exact PySem.F.type_list_append
  · exact PySem.F.type_list_extend
  · exact PySem.F.type_list_pop
  · exact PySem.F.type_dict_get
  · exact PySem.F.type_str_join
  · exact PySem.F.type_str_split
  · exact PySem.F.type_str_startswith
  · exact PySem.F.type_list_index
  · exact PySem.F.type_list_insert
  · exact PySem.F.type_list_reverse
  · exact PySem.F.type_str_partition
theorem mt_plain (m : Mt) : PlainAttrs (mtT m) := by
  cases m <;> first | exact PySem.F.plainAttrs_list | exact PySem.F.plainAttrs_dict | exact PySem.F.plainAttrs_str
theorem bi_boot (b : Bi) : bootBuiltins (biN b) = some (biV b) ∧ ∃ T, bootBuiltins (biN b) = some (.builtin T) ∨ bootBuiltins (biN b) = some (.type T) := by
  have key : bootBuiltins (biN b) = some (biV b) := by cases b <;> decide +kernel
  refine ⟨key, ?_⟩
  rw [key]
  cases b <;> first | exact ⟨_, .inl rfl⟩ | exact ⟨_, .inr rfl⟩
theorem ty_boot (t : Ty) (h : t ≠ .non) : bootBuiltins (tyS t) = some (.type (tyN t)) := by
  cases t <;> first | decide +kernel | exact absurd rfl h

section
variable {X : Cx} {G : Gr} {W : WX} {Φ : Fns} {k : Nat} {c : Ctx}
theorem gl_of (y : Hy X G W Φ k c) {x : Str} (h : glC c x = true) : Gl X x ∧ (x == ("__debug__" : Str)) = false := by
  unfold glC at h
  simp only [Bool.and_eq_true, decide_eq_true_eq, Bool.not_eq_true'] at h
  exact ⟨by show X.env.scope.names.lookup x = _; rw [y.sc]; exact h.1, h.2⟩
theorem free_of (y : Hy X G W Φ k c) {x : Str} (h : freeC c x = true) : Gl X x ∧ (x == ("__debug__" : Str)) = false ∧ X.mg x = none ∧ x ≠ "__name__" := by
  unfold freeC at h
  simp only [Bool.and_eq_true, Bool.not_eq_true'] at h
  obtain ⟨⟨h1, h2⟩, h3⟩ := h
  obtain ⟨a, b⟩ := gl_of y h1
  refine ⟨a, b, y.cF x (List.contains_iff_mem.mp h2), fun e => ?_⟩
  rw [e] at h3; exact absurd h3 (by decide)
theorem vis_of (y : Hy X G W Φ k c) {x : Str} (h : visC c x = true) : Vis X.env.scope x := by
  unfold visC at h
  unfold Vis
  rw [y.sc]
  split at h <;> first | exact .inl ‹_› | exact .inr (.inl ‹_›) | exact .inr (.inr ‹_›) | cases h
theorem nm_of (y : Hy X G W Φ k c) {i : Nat} {e : Expr} (h : nmC c i e = true) : ∃ x p, e = .Name x p ∧ X.N[i]? = some x ∧ Loc X.env.scope x ∧ (X.fn x = true ∨ X.env.scope.names.lookup x = some .local) := by
  unfold nmC at h
  split at h
  · rename_i x p
    simp only [Bool.and_eq_true, decide_eq_true_eq] at h
    obtain ⟨h1, h2⟩ := h
    refine ⟨x, p, rfl, by rw [y.N]; exact h1, ?_⟩
    rw [y.sc]
    split at h2
    · exact ⟨.inl ‹_›, .inr ‹_›⟩
    · exact ⟨.inr ‹_›, .inl (y.fnT h2 x)⟩
    · cases h2
  · cases h
theorem nms_of (y : Hy X G W Φ k c) : ∀ {is : List Nat} {es : List Expr}, nmsC c is es = true → PGs X es (gNms is) ∧ es.all nostar = true ∧ es.length = is.length
  | [], [], _ => ⟨pgs_nil, rfl, rfl⟩
  | [], _ :: _, h => by cases h
  | _ :: _, [], h => by cases h
  | i :: is, e :: es, h => by
    have h : (nmC c i e && nmsC c is es) = true := h
    rw [Bool.and_eq_true] at h
    obtain ⟨x, p, rfl, h1, h2, h3⟩ := nm_of y h.1
    obtain ⟨q1, q2, q3⟩ := nms_of y h.2
    exact ⟨pgs_cons (pg_name y.ok.nd h1 h2 h3) q1 rfl, by rw [List.all_cons, q2]; rfl, congrArg Nat.succ q3⟩
theorem tg_of (y : Hy X G W Φ k c) {t : Tg} {e : Expr} (h : tgC c t e = true) : PG X e (tgG X.K t) := by
  unfold tgC at h
  split at h
  · obtain ⟨x, p, rfl, h1, h2, h3⟩ := nm_of y h
    exact pg_name y.ok.nd h1 h2 h3
  · obtain ⟨q1, q2, q3⟩ := nms_of y h
    exact pg_tup y.hc q1 (by rw [assignEach_len]; exact q3) (assignEach_nostar q2)
  · cases h
theorem ty_of (y : Hy X G W Φ k c) {t : Ty} {e : Expr} (h : tyC c t e = true) : t ≠ .non ∧ PE X e (tC (.ty (tyN t))) ∧ nostar e = true := by
  unfold tyC at h
  split at h
  · simp only [Bool.and_eq_true, decide_eq_true_eq] at h
    obtain ⟨⟨h1, rfl⟩, h3⟩ := h
    obtain ⟨a, b, d, e⟩ := free_of y h3
    exact ⟨h1, pe_bltn a d (ty_boot t h1) rfl e b, rfl⟩
  · cases h
def tCs : List Ty → TA
  | [] => tNil
  | t :: ts => tCons (tC (.ty (tyN t))) (tCs ts)
theorem tCs_eq {σ : L2.St} {H : Hp} {Q : List V → Hp → Prop} : ∀ ts : List Ty, Q (ts.map fun t => V.ty (tyN t)) H → tCs ts σ H Q
  | [], h => h
  | t :: ts, h => tCs_eq (Q := fun xs H2 => Q (.ty (tyN t) :: xs) H2) ts h
theorem tys_of (y : Hy X G W Φ k c) : ∀ {ts : List Ty} {es : List Expr}, tysC c ts es = true → (∀ t, t ∈ ts → t ≠ .non) ∧ PA X es (tCs ts) ∧ es.all nostar = true ∧ es.length = ts.length
  | [], [], _ => ⟨fun _ z => (nomatch z), pa_nil, rfl, rfl⟩
  | [], _ :: _, h => by cases h
  | _ :: _, [], h => by cases h
  | t :: ts, e :: es, h => by
    have h : (tyC c t e && tysC c ts es) = true := h
    rw [Bool.and_eq_true] at h
    obtain ⟨a1, a2, a3⟩ := ty_of y h.1
    obtain ⟨b1, b2, b3, b4⟩ := tys_of y h.2
    refine ⟨fun u hu => ?_, pa_cons a2 b2 (starEach_cons a3), by rw [List.all_cons, a3, b3]; rfl, congrArg Nat.succ b4⟩
    rcases List.mem_cons.mp hu with rfl | hu
    · exact a1
    · exact b1 u hu
theorem clsV_all : ∀ ts : List Ty, Paired ClsV (ts.map fun t => V.ty (tyN t)) (ts.map fun t => Value.type (tyN t))
  | [] => .nil
  | t :: ts => .cons (.ty _) (clsV_all ts)
/-- isinstance, one class -/
theorem se_isi1 (y : Hy X G W Φ k c) {a z : Expr} {t : Ty} {p pos : Pos} {wa : WE} (hx : freeC c "isinstance" = true) (ha : PE X a (lE G W wa)) (hs : nostar a = true) (hz : tyC c t z = true) :
    PE X (.Call (.Name "isinstance" p) [a, z] [] pos) (lE G W fun E σ h Q => wa E σ h fun x h1 => isTys x h1 [t] fun k => Q (.bl k) h1) := by
  obtain ⟨g1, g2, g3, g4⟩ := free_of y hx
  obtain ⟨z1, z2, z3⟩ := ty_of y hz
  refine PE.imp (pe_callB call_isi g1 g3 boot_isinstance (pa_cons ha (pa_cons z2 pa_nil (starEach_cons z3)) (starEach_cons hs)) g4 g2 (starEach_cons hs) (plain_any (by simp [z3]))) fun σ H Q ⟨σd, h, R, E, at_, w, po⟩ => ⟨σd, h, _, E, at_, w, fun dx h1 x H1 w1 rx rh1 f1 => ?_⟩
  obtain ⟨kk, ty, q⟩ := kind_rep rh1 rx w1
  refine ⟨x, .ty (tyN t), _, _, subTy kk t, rfl, .ty _, by rw [y.ok.k]; exact ty, by rw [y.ok.k]; exact kit_ty (kitB_of kk t z1), ?_⟩
  have q : R (.bl ([t].any (subTy kk))) h1 := q
  rw [show [t].any (subTy kk) = subTy kk t by simp] at q
  exact (po.fm f1).here rh1 q repV_bl
theorem se_isiT (y : Hy X G W Φ k c) {a : Expr} {zs : List Expr} {ts : List Ty} {p pos tp : Pos} {n : Nat} {wa : WE} (hx : freeC c "isinstance" = true) (ha : PE X a (lE G W wa)) (hs : nostar a = true) (hz : tysC c ts zs = true) (hl : zs.length ≤ 10) :
    PE X (.Call (.Name "isinstance" p) [a, .Tuple zs n tp] [] pos) (lE G W fun E σ h Q => wa E σ h fun x h1 => isTys x h1 ts fun k => Q (.bl k) h1) := by
  obtain ⟨g1, g2, g3, g4⟩ := free_of y hx
  obtain ⟨z1, z2, z3, z4⟩ := tys_of y hz
  refine PE.imp (pe_callB call_isiT g1 g3 boot_isinstance (pa_cons ha (pa_cons (pe_tup z2) pa_nil rfl) (starEach_cons hs)) g4 g2 (starEach_cons hs) rfl) fun σ H Q ⟨σd, h, R, E, at_, w, po⟩ => ⟨σd, h, _, E, at_, w, fun dx h1 x H1 w1 rx rh1 f1 => ?_⟩
  refine tCs_eq ts ⟨?_, fun l nl => ?_⟩
  · rw [List.length_map, ← z4, sizeLine_eq]; omega
  · have f2 : Fm h1 H1 h1 (L2.upd H1 l (.tup (ts.map fun t => V.ty (tyN t)))) := Fm.aside nl
    have rh2 := rh1.aside (o := .tup (ts.map fun t => V.ty (tyN t))) nl
    obtain ⟨kk, ty, q⟩ := kind_rep rh2 (rx.fm rh1 f2) w1
    exact ⟨x, l, _, _, _, ts.any (subTy kk), rfl, upd_same, clsV_all ts, by rw [y.ok.k]; exact ty, kitAny_of kk ts z1, (po.fm (f1.trans f2)).here rh2 q repV_bl⟩
end

theorem arg_of {es : List Expr} (h : argC es = true) : es.all nostar = true ∧ es.length < 30 := by
  unfold argC at h
  simpa only [Bool.and_eq_true, decide_eq_true_eq] using h
theorem all_tail {e : Expr} {es : List Expr} (h : (e :: es).all nostar = true) : nostar e = true ∧ es.all nostar = true := by
  simpa only [List.all_cons, Bool.and_eq_true] using h
theorem mem_any {α : Type} {p : α → Bool} {l : List α} (h : l.any p = true) : ∃ x ∈ l, p x = true := List.any_eq_true.mp h

mutual
theorem ckE_ok {G : Gr} {Φ : Fns} {k : Nat} : ∀ (ex : Ex) (X : Cx) (W : WX) (c : Ctx) (e : Expr), Hy X G W Φ k c → ckE c ex e = true → PE X e (lE G W fun E => wpE Φ E ex)
  | .var i, X, W, c, e, y, h => by
    unfold ckE at h
    split at h
    · simp only [Bool.and_eq_true, decide_eq_true_eq, Bool.not_eq_true'] at h
      obtain ⟨⟨⟨h1, h2⟩, h3⟩, h4⟩ := h
      exact se_var (by rw [y.N]; exact h1) (vis_of y h2) h3 h4
    · cases h
  | .cst d, X, W, c, e, y, h => by
    unfold ckE at h
    split at h
    · rw [of_decide_eq_true h]; exact se_cst pe_int fun _ => repV_int
    · rw [of_decide_eq_true h]; exact se_cst pe_bl fun _ => repV_bl
    · exact se_cst pe_non fun _ => repV_non
    · rw [of_decide_eq_true h]; exact se_cst pe_str fun _ => repV_str
    · simp only [Bool.and_eq_true, decide_eq_true_eq] at h
      obtain ⟨g1, g2⟩ := gl_of y h.1
      obtain ⟨u, hu, r⟩ := y.cI _ h.2
      exact se_cst (pe_glob g1 hu r g2) fun _ => repV_int
    · simp only [Bool.and_eq_true, decide_eq_true_eq] at h
      obtain ⟨g1, g2⟩ := gl_of y h.1
      obtain ⟨u, hu, r⟩ := y.cS _ h.2
      exact se_cst (pe_glob g1 hu r g2) fun _ => repV_str
    · cases h
  | .bin op a b, X, W, c, e, y, h => by
    unfold ckE at h
    split at h
    · simp only [Bool.and_eq_true, decide_eq_true_eq] at h
      obtain ⟨⟨rfl, h1⟩, h2⟩ := h
      exact se_op (op_binD y.ok.k op) (ckE_ok a X W c _ y h1) (ckE_ok b X W c _ y h2)
    · cases h
  | .neg a, X, W, c, e, y, h => by
    unfold ckE at h
    split at h
    · exact se_neg (ckE_ok a X W c _ y h)
    · cases h
  | .not a, X, W, c, e, y, h => by
    unfold ckE at h
    split at h
    · exact se_not y.ok.k (ckE_ok a X W c _ y h)
    · cases h
  | .and a b, X, W, c, e, y, h => by
    unfold ckE at h
    split at h
    · rename_i x1 x2 r p
      rw [Bool.and_eq_true] at h
      refine se_and y.ok.k (ckE_ok a X W c _ y h.1) ?_
      cases r with
      | nil => exact pe_one (ckE_ok b X W c _ y h.2)
      | cons z r => exact ckE_ok b X W c _ y h.2
    · cases h
  | .or a b, X, W, c, e, y, h => by
    unfold ckE at h
    split at h
    · rename_i x1 x2 r p
      rw [Bool.and_eq_true] at h
      refine se_or y.ok.k (ckE_ok a X W c _ y h.1) ?_
      cases r with
      | nil => exact pe_one (ckE_ok b X W c _ y h.2)
      | cons z r => exact ckE_ok b X W c _ y h.2
    · cases h
  | .ite t a b, X, W, c, e, y, h => by
    unfold ckE at h
    split at h
    · simp only [Bool.and_eq_true] at h
      exact se_ite (ckT_ok t X W c _ y h.1.1).1 (ckE_ok a X W c _ y h.1.2) (ckE_ok b X W c _ y h.2)
    · cases h
  | .cmp op a b, X, W, c, e, y, h => by
    unfold ckE at h
    split at h
    · simp only [Bool.and_eq_true, decide_eq_true_eq] at h
      obtain ⟨⟨⟨rfl, h0⟩, h1⟩, h2⟩ := h
      exact se_cmp y.ok (ckE_ok a X W c _ y h1) (ckE_ok b X W c _ y h2) (behind_of h0)
    · cases h
  | .chn op op' a b d, X, W, c, e, y, h => by
    unfold ckE at h
    split at h
    · simp only [Bool.and_eq_true, decide_eq_true_eq] at h
      obtain ⟨⟨⟨⟨⟨rfl, rfl⟩, h0⟩, h1⟩, h2⟩, h3⟩ := h
      exact se_chn y.ok (ckE_ok a X W c _ y h1) (ckE_ok b X W c _ y h2) (ckE_ok d X W c _ y h3) (behind_of (op := op') h0)
    · cases h
  | .tup es, X, W, c, e, y, h => by
    unfold ckE at h
    split at h
    · rw [Bool.and_eq_true] at h
      exact se_tup (ckEs_ok es X W c _ y h.1 h.2)
    · cases h
  | .lst es, X, W, c, e, y, h => by
    unfold ckE at h
    split at h
    · rw [Bool.and_eq_true] at h
      exact se_lst (ckEs_ok es X W c _ y h.1 h.2)
    · cases h
  | .dsp ks es, X, W, c, e, y, h => by
    unfold ckE at h
    split at h
    · rename_i keys vs p
      simp only [Bool.and_eq_true, decide_eq_true_eq] at h
      obtain ⟨⟨h1, h2⟩, h3⟩ := h
      obtain ⟨a1, a2, a3, a4⟩ := ckD_ok es X W c p ks keys vs y h3
      by_cases h0 : keys = []
      · subst h0
        have : vs = [] := List.eq_nil_of_length_eq_zero a3.symm
        subst this
        have : ks = [] := List.eq_nil_of_length_eq_zero a4
        subst this
        cases es with
        | nil => exact se_dsp0
        | cons _ _ => cases h3
      · exact se_dsp a1 a2 a3 h0 (by rw [← a4]; exact h1) a4 h2
    · cases h
  | .ix a i, X, W, c, e, y, h => by
    unfold ckE at h
    split at h
    · simp only [Bool.and_eq_true] at h
      exact se_ix (ix_D y.ok) (ckE_ok a X W c _ y h.1.2) (ckE_ok i X W c _ y h.2) (plainIx h.1.1)
    · cases h
  | .sl a lo hi, X, W, c, e, y, h => by
    unfold ckE at h
    split at h
    · simp only [Bool.and_eq_true] at h
      exact se_sl y.ok.k (ckE_ok a X W c _ y h.1.1) (ckO_ok lo X W c _ y h.1.2) (ckO_ok hi X W c _ y h.2)
    · cases h
  | .call f es, X, W, c, e, y, h => by
    unfold ckE at h
    split at h
    · rename_i x qp z0 zs p0
      simp only [Bool.and_eq_true] at h
      obtain ⟨⟨h1, h2⟩, h3⟩ := h
      obtain ⟨a1, a2⟩ := arg_of h1
      unfold callC at h2
      rw [Bool.and_eq_true] at h2
      obtain ⟨p, hp, q⟩ := mem_any h2.2
      simp only [Bool.and_eq_true, decide_eq_true_eq] at q
      obtain ⟨⟨⟨⟨rfl, rfl⟩, q3⟩, q4⟩, q5⟩ := q
      obtain ⟨g1, g2⟩ := gl_of y h2.1
      have := se_call (W := W) (q := qp) (pos := p0) y.ok y.tk (y.pats p hp) y.room g1 q4 (fun ds l => by rw [idArr_ok (i := 0) (n := es.length) (ds := ds) q5 (by omega)]; rfl) (ckEs_ok es X W c _ y a1 h3) g2 (starEach_cons (all_tail a1).1) (plain_any (all_tail a1).2)
      rw [q3] at this
      exact this
    · cases h
  | .callk f es kes arr, X, W, c, e, y, h => by
    unfold ckE at h
    split at h
    · rename_i x qp z0 zs kws p0
      simp only [Bool.and_eq_true] at h
      obtain ⟨⟨⟨h1, h2⟩, h3⟩, h4⟩ := h
      obtain ⟨a1, a2⟩ := arg_of h1
      unfold callkC at h2
      rw [Bool.and_eq_true] at h2
      obtain ⟨p, hp, q⟩ := mem_any h2.2
      simp only [Bool.and_eq_true, decide_eq_true_eq] at q
      obtain ⟨⟨⟨⟨⟨rfl, rfl⟩, q3⟩, q4⟩, q5⟩, q6⟩ := q
      obtain ⟨g1, g2⟩ := gl_of y h2.1
      obtain ⟨k1, k2, k3⟩ := kws_ok (pos := p0) (env := X.env) q6
      have := se_callk (W := W) (q := qp) (pos := p0) y.ok y.tk (y.pats p hp) y.room g1 (ckEs_ok es X W c _ y a1 h3) (ckK_ok kes X W c _ y h4) k1 k2 g2 (starEach_cons (all_tail a1).1) (by rw [plain_any a1, k3]; rfl)
      rw [q3, q4, eqLR_ok q5] at this
      exact this
    · cases h
  | .bi b es, X, W, c, e, y, h => by
    unfold ckE at h
    split at h
    · simp only [Bool.and_eq_true, decide_eq_true_eq] at h
      obtain ⟨⟨⟨h1, rfl⟩, h2⟩, h3⟩ := h
      obtain ⟨a1, a2⟩ := arg_of h1
      obtain ⟨g1, g2, g3, g4⟩ := free_of y h2
      obtain ⟨b1, T, b2⟩ := bi_boot b
      exact se_bi (es' := []) b2 _ b1 (bi_D y.ok y.hc b) g1 g3 (ckEs_ok es X W c _ y a1 h3) g4 g2 (starEach_cons (all_tail a1).1) (plain_any (all_tail a1).2)
    · cases h
  | .isi a ts, X, W, c, e, y, h => by
    unfold ckE at h
    split at h
    · simp only [Bool.and_eq_true, decide_eq_true_eq] at h
      obtain ⟨⟨⟨⟨rfl, h1⟩, h2⟩, h3⟩, h4⟩ := h
      split at h4
      · exact se_isi1 y h1 (ckE_ok a X W c _ y h3) h2 h4
      · rw [Bool.and_eq_true, decide_eq_true_eq] at h4
        exact se_isiT y h1 (ckE_ok a X W c _ y h3) h2 h4.1 h4.2
      · cases h4
    · cases h
  | .met m o es, X, W, c, e, y, h => by
    unfold ckE at h
    split at h
    · rename_i x nm ap ys cp
      simp only [Bool.and_eq_true, decide_eq_true_eq] at h
      obtain ⟨⟨⟨⟨⟨rfl, h1⟩, h2⟩, h3⟩, h4⟩, h5⟩ := h
      obtain ⟨a1, a2⟩ := arg_of h3
      cases ys with
      | nil =>
        cases es with
        | nil => exact se_met0 y.ok (mt_plain m) (mt_slot m) (mt_type m) (ckE_ok o X W c _ y h4) (base_of h1 _) (by rw [h2]; exact beq_self_eq_true _)
        | cons _ _ => cases h5
      | cons z ys =>
        refine se_met y.ok (mt_plain m) (mt_slot m) (mt_type m) (ckE_ok o X W c _ y h4) (ckEs_ok es X W c _ y a1 h5) (base_of h1 _) ?_ (by rw [h2]; exact beq_self_eq_true _) (starEach_cons (all_tail a1).1) (plain_any (all_tail a1).2)
        rw [plain_all a1]
        show (true && true && decide ((z :: ys).length + 0 + 0 < 30)) = true
        rw [decide_eq_true (by omega)] <;> rfl
    · cases h
  | .lc el t it cd vs, X, W, c, e, y, h => by
    unfold ckE at h
    split at h
    · rename_i x tg i ifs scope p
      simp only [Bool.and_eq_true] at h
      obtain ⟨⟨⟨⟨⟨⟨h1, h2⟩, h3⟩, h4⟩, h5⟩, h6⟩, h7⟩ := h
      have hb : BlkOk X.N X.env.scope scope (ownOf c.N vs) := by rw [y.N, y.sc]; exact blkOk_by h1
      have := se_lc (cd := none) (pos := p) (W := W) y.ok.k y.hc y.ok.nd (ckI_ok it X W c tg i y h5) hb (t := t) (by rw [ownOf_snd]; exact h2) (fun s H C cl fp => tg_of (y.blk scope s H C cl fp) h4) (fun s H C cl fp => ckC_ok cd _ (c.blk scope) ifs (y.blk scope s H C cl fp) h7)
        (fun s H C cl fp => ckE_ok el _ W0 (c.blk scope) x (y.blk scope s H C cl fp) h6) (folded_of h3)
      rw [ownOf_snd] at this
      exact this
    · cases h
  | .lc2 el t it cd t1 it1 cd1 vs vs1, X, W, c, e, y, h => by
    unfold ckE at h
    split at h
    · rename_i x tg i ifs tg1 i1 ifs1 scope p
      simp only [Bool.and_eq_true] at h
      obtain ⟨⟨⟨⟨⟨⟨⟨⟨⟨⟨⟨⟨h1, h2⟩, h3⟩, h4⟩, h5⟩, h6⟩, h7⟩, h8⟩, h9⟩, h10⟩, h11⟩, h12⟩, h13⟩ := h
      have hb : BlkOk X.N X.env.scope scope (ownOf c.N vs) := by rw [y.N, y.sc]; exact blkOk_by h1
      have := se_lc2 (cd := none) (cd1 := none) (pos := p) (W := W) y.ok.k y.hc y.ok.nd (ckI_ok it X W c tg i y h9) hb (t := t) (t1 := t1) (vs1 := vs1) (by rw [ownOf_snd]; exact fun v hv => by simpa using List.all_eq_true.mp h4 v hv) (by rw [ownOf_snd]; exact h2) h3 (fun s H C cl fp => tg_of (y.blk scope s H C cl fp) h7) (fun s H C cl fp => ckC_ok cd _ (c.blk scope) ifs (y.blk scope s H C cl fp) h12)
        (fun s H C cl fp => ckI_ok it1 _ W0 (c.blk scope) tg1 i1 (y.blk scope s H C cl fp) h10) (fun s H C cl fp => tg_of (y.blk scope s H C cl fp) h8) (fun s H C cl fp => ckC_ok cd1 _ (c.blk scope) ifs1 (y.blk scope s H C cl fp) h13)
        (fun s H C cl fp => ckE_ok el _ W0 (c.blk scope) x (y.blk scope s H C cl fp) h11) (folded_of h5) (fun _ => folded_of h6)
      rw [ownOf_snd] at this
      exact this
    · cases h
theorem ckT_ok {G : Gr} {Φ : Fns} {k : Nat} : ∀ (t : Te) (X : Cx) (W : WX) (c : Ctx) (e : Expr), Hy X G W Φ k c → ckT c t e = true → PT X e (lT G W fun E => wpT Φ E t) ∧ ((∃ op l p, e = .BoolOp op l p) → PW X e (lT G W fun E => wpT Φ E t))
  | .val a, X, W, c, e, y, h => by
    unfold ckT at h
    rw [Bool.and_eq_true] at h
    refine ⟨st_val y.ok.k (ckE_ok a X W c _ y h.2) (isTrue_of h.1), ?_⟩
    rintro ⟨op, l, p, rfl⟩
    cases h.1
  | .not a, X, W, c, e, y, h => by
    unfold ckT at h
    split at h
    · exact ⟨st_not (ckT_ok a X W c _ y h).1, fun ⟨_, _, _, z⟩ => by cases z⟩
    · cases h
  | .and a b, X, W, c, e, y, h => by
    unfold ckT at h
    split at h
    · rename_i x1 x2 r p
      rw [Bool.and_eq_true] at h
      have key : PW X (.BoolOp .And (x1 :: x2 :: r) p) (lT G W fun E => wpT Φ E (.and a b)) := by
        refine sw_and (ckT_ok a X W c _ y h.1).1 ?_
        cases r with
        | nil => exact pw_and1 (ckT_ok b X W c _ y h.2).1
        | cons z r => exact (ckT_ok b X W c _ y h.2).2 ⟨_, _, _, rfl⟩
      exact ⟨key.pt, fun _ => key⟩
    · cases h
  | .or a b, X, W, c, e, y, h => by
    unfold ckT at h
    split at h
    · rename_i x1 x2 r p
      rw [Bool.and_eq_true] at h
      have key : PW X (.BoolOp .Or (x1 :: x2 :: r) p) (lT G W fun E => wpT Φ E (.or a b)) := by
        refine sw_or (ckT_ok a X W c _ y h.1).1 ?_
        cases r with
        | nil => exact pw_or1 (ckT_ok b X W c _ y h.2).1
        | cons z r => exact (ckT_ok b X W c _ y h.2).2 ⟨_, _, _, rfl⟩
      exact ⟨key.pt, fun _ => key⟩
    · cases h
  | .cmp op a b, X, W, c, e, y, h => by
    unfold ckT at h
    split at h
    · simp only [Bool.and_eq_true, decide_eq_true_eq] at h
      obtain ⟨⟨⟨rfl, h0⟩, h1⟩, h2⟩ := h
      exact ⟨st_cmp y.ok (ckE_ok a X W c _ y h1) (ckE_ok b X W c _ y h2) (behind_of h0), fun ⟨_, _, _, z⟩ => by cases z⟩
    · cases h
  | .chn op op' a b d, X, W, c, e, y, h => by
    unfold ckT at h
    split at h
    · simp only [Bool.and_eq_true, decide_eq_true_eq] at h
      obtain ⟨⟨⟨⟨⟨rfl, rfl⟩, h0⟩, h1⟩, h2⟩, h3⟩ := h
      exact ⟨st_chn y.ok (ckE_ok a X W c _ y h1) (ckE_ok b X W c _ y h2) (ckE_ok d X W c _ y h3) (behind_of (op := op') h0), fun ⟨_, _, _, z⟩ => by cases z⟩
    · cases h
theorem ckEs_ok {G : Gr} {Φ : Fns} {k : Nat} : ∀ (es : List Ex) (X : Cx) (W : WX) (c : Ctx) (xs : List Expr), Hy X G W Φ k c → xs.all nostar = true → ckEs c es xs = true → PA X xs (lA G W fun E => wpEs Φ E es)
  | [], X, W, c, xs, y, hs, h => by
    cases xs with
    | nil => exact sa_nil
    | cons _ _ => cases h
  | a :: as, X, W, c, xs, y, hs, h => by
    cases xs with
    | nil => cases h
    | cons x xs =>
      have h : (ckE c a x && ckEs c as xs) = true := h
      rw [Bool.and_eq_true] at h
      exact sa_cons (ckE_ok a X W c x y h.1) (ckEs_ok as X W c xs y (all_tail hs).2 h.2) (starEach_cons (all_tail hs).1)
theorem ckK_ok {G : Gr} {Φ : Fns} {k : Nat} : ∀ (es : List Ex) (X : Cx) (W : WX) (c : Ctx) (xs : List Keyword), Hy X G W Φ k c → ckK c es xs = true → PK X xs (lA G W fun E => wpEs Φ E es)
  | [], X, W, c, xs, y, h => by
    cases xs with
    | nil => exact sk_nil
    | cons _ _ => cases h
  | a :: as, X, W, c, xs, y, h => by
    cases xs with
    | nil => cases h
    | cons x xs =>
      obtain ⟨nm, x, p⟩ := x
      have h : (ckE c a x && ckK c as xs) = true := h
      rw [Bool.and_eq_true] at h
      exact sk_cons (ckE_ok a X W c x y h.1) (ckK_ok as X W c xs y h.2)
theorem ckD_ok {G : Gr} {Φ : Fns} {k : Nat} : ∀ (es : List Ex) (X : Cx) (W : WX) (c : Ctx) (p : Pos) (ks : List Str) (keys : List (Option Expr)) (xs : List Expr), Hy X G W Φ k c → ckD c ks es keys xs = true → SPP X G W p ks keys xs (fun E => wpEs Φ E es) ∧ keys.all (·.isSome) = true ∧ keys.length = xs.length ∧ ks.length = keys.length
  | [], X, W, c, p, ks, keys, xs, y, h => by
    unfold ckD at h
    split at h
    · exact ⟨sp_nil, rfl, rfl, rfl⟩
    · rename_i e; cases e
    · cases h
  | a :: as, X, W, c, p, ks, keys, xs, y, h => by
    unfold ckD at h
    split at h
    · rename_i e; cases e
    · rename_i e1
      cases e1
      simp only [Bool.and_eq_true, decide_eq_true_eq] at h
      obtain ⟨⟨rfl, h1⟩, h2⟩ := h
      obtain ⟨a1, a2, a3, a4⟩ := ckD_ok as X W c p _ _ _ y h2
      exact ⟨sp_cons (ckE_ok a X W c _ y h1) a1, by rw [List.all_cons, a2] <;> rfl, congrArg Nat.succ a3, congrArg Nat.succ a4⟩
    · cases h
theorem ckO_ok {G : Gr} {Φ : Fns} {k : Nat} : ∀ (o : Option Ex) (X : Cx) (W : WX) (c : Ctx) (x : Option Expr), Hy X G W Φ k c → ckO c o x = true → PO X x (lO G W fun E => wpO Φ E o)
  | none, X, W, c, x, y, h => by
    cases x with
    | none => exact so_none
    | some _ => cases h
  | some a, X, W, c, x, y, h => by
    cases x with
    | none => cases h
    | some x => exact so_some (ckE_ok a X W c x y h)
theorem ckC_ok {G : Gr} {Φ : Fns} {k : Nat} : ∀ (o : Option Te) (X : Cx) (c : Ctx) (xs : List Expr), Hy X G W0 Φ k c → ckC c o xs = true → PTs X xs (lT G W0 fun E σ h Q => wpC Φ o σ h Q)
  | none, X, c, xs, y, h => by
    cases xs with
    | nil => exact sts_none
    | cons _ _ => cases h
  | some a, X, c, xs, y, h => by
    match xs, h with
    | [x], h =>
      have p := (ckT_ok a X W0 c x y h).1
      refine sts_one (PT.imp p fun σ H Q ⟨σd, h, R, E, at_, w, po⟩ => ⟨σd, h, R, E0, at0 at_.s at_.r, w, po⟩)
theorem ckI_ok {G : Gr} {Φ : Fns} {k : Nat} : ∀ (it : It') (X : Cx) (W : WX) (c : Ctx) (tg e : Expr), Hy X G W Φ k c → ckI c it tg e = true → PI X tg e (lI G W fun E => wpI Φ E it)
  | .of a, X, W, c, tg, e, y, h => si_of y.ok.k (ckE_ok a X W c e y h)
  | .rng es, X, W, c, tg, e, y, h => by
    unfold ckI at h
    split at h
    · simp only [Bool.and_eq_true, decide_eq_true_eq] at h
      obtain ⟨⟨⟨rfl, h1⟩, h2⟩, h3⟩ := h
      obtain ⟨a1, a2⟩ := arg_of h2
      obtain ⟨g1, g2, g3, g4⟩ := free_of y h1
      exact si_rng g1 g3 (ckEs_ok es X W c _ y a1 h3) (starEach_cons (all_tail a1).1) (plain_any (all_tail a1).2)
    · cases h
  | .zip a b, X, W, c, tg, e, y, h => by
    unfold ckI at h
    split at h
    · simp only [Bool.and_eq_true, decide_eq_true_eq] at h
      obtain ⟨⟨⟨⟨⟨h0, rfl⟩, h1⟩, h2⟩, h3⟩, h4⟩ := h
      obtain ⟨a1, a2⟩ := arg_of h2
      obtain ⟨g1, g2, g3, g4⟩ := free_of y h1
      cases tg with
      | Tuple elts kk tp => exact si_zip y.ok.k g1 g3 (ckE_ok a X W c _ y h3) (ckE_ok b X W c _ y h4) (starEach_cons (all_tail a1).1) (starEach_cons (all_tail (all_tail a1).2).1) (plain_any (all_tail a1).2)
      | _ => cases h0
    · cases h
  | .enm a, X, W, c, tg, e, y, h => by
    unfold ckI at h
    split at h
    · simp only [Bool.and_eq_true, decide_eq_true_eq] at h
      obtain ⟨⟨⟨⟨h0, rfl⟩, h1⟩, h2⟩, h3⟩ := h
      obtain ⟨a1, a2⟩ := arg_of h2
      obtain ⟨g1, g2, g3, g4⟩ := free_of y h1
      cases tg with
      | Tuple elts kk tp => exact si_enm y.ok.k g1 g3 (ckE_ok a X W c _ y h3) (starEach_cons (all_tail a1).1) (starEach_cons (all_tail a1).1)
      | _ => cases h0
    · cases h
  | .rev a, X, W, c, tg, e, y, h => by
    unfold ckI at h
    split at h
    · simp only [Bool.and_eq_true, decide_eq_true_eq] at h
      obtain ⟨⟨⟨rfl, h1⟩, h2⟩, h3⟩ := h
      obtain ⟨a1, a2⟩ := arg_of h2
      obtain ⟨g1, g2, g3, g4⟩ := free_of y h1
      exact si_rev y.ok.k g1 g3 (ckE_ok a X W c _ y h3) (starEach_cons (all_tail a1).1)
    · cases h
end
end DL
set_option Elab.async false
set_option linter.all false
set_option maxRecDepth 100000
set_option maxHeartbeats 4000000
/-! The D layer, exceptions 3: what a handler says. -/
namespace DL
open PySem PySem.Spec PyProof.Rows L2

/-- a class by its name -/
def cnC (c : Ctx) : CN → Expr → Bool
  | .own k, .Name x _ => glC c x && c.xs.any fun p => decide (p.x = x) && decide (p.c = k)
  | .blt n, .Name x _ => freeC c x && decide (bootBuiltins x = some (.type n))
  | _, _ => false
def cnsC (c : Ctx) : List CN → List Expr → Bool
  | [], [] => true
  | t :: ts, e :: es => cnC c t e && cnsC c ts es
  | _, _ => false
/-- is it the handler's own name -/
def meC (c : Ctx) (i : Nat) : Expr → Bool
  | .Name x _ => decide (c.N[i]? = some x) && decide (c.sc.names.lookup x = some .local) && !(x == ("__debug__" : Str)) && !(x == ("__classdict__" : Str))
  | _ => false
mutual
/-- k: the class of what was caught, i: the slot of its name -/
def ckX (c : Ctx) (k i : Nat) : Hx → Expr → Bool
  | .cst d, e => ckE c (.cst d) e
  | .var j, e => ckE c (.var j) e
  | .fld f, e => (match e with
    | .Attribute z n _ => decide (n = f) && meC c i z && c.xs.any fun p => decide (p.c = k) && decide (p.f = f)
    | _ => false)
  | .isi cs b, e => (match e with
    | .Call (.Name x _) [y, z] [] _ => decide (x = "isinstance") && freeC c x && meC c i y && decide ((k, cs, b) ∈ c.xi) && c.xs.any (fun p => decide (p.c = k)) && (match z, cs with
      | .Name _ _, [t] => cnC c t z
      | .Tuple zs _ _, cs => cnsC c cs zs && decide (zs.length ≤ 10)
      | _, _ => false)
    | _ => false)
  | .tup es, e => (match e with
    | .Tuple xs _ _ => xs.all nostar && ckXs c k i es xs
    | _ => false)
  | .and a b, e => (match e with
    | .BoolOp .And (x :: y :: r) p => ckX c k i a x && (match r with
      | [] => ckX c k i b y
      | z :: r => ckX c k i b (.BoolOp .And (y :: z :: r) p))
    | _ => false)
  | .not a, e => (match e with
    | .UnaryOp .Not x _ => ckX c k i a x
    | _ => false)
  | .cmp op a b, e => (match e with
    | .Compare x [o] [y] _ => decide (op = o) && noset y && ckX c k i a x && ckX c k i b y
    | _ => false)
def ckXs (c : Ctx) (k i : Nat) : List Hx → List Expr → Bool
  | [], [] => true
  | a :: as, x :: xs => ckX c k i a x && ckXs c k i as xs
  | _, _ => false
end
/-- what is needed of the place of a handler -/
structure Hz (X : Cx) (G : Gr) (c : Ctx) : Prop where
  ok : Ok X G
  N : X.N = c.N
  sc : X.env.scope = c.sc
  cF : ∀ x ∈ c.cF, X.mg x = none
  cI : ∀ p ∈ c.cI, ∃ u, X.mg p.1 = some u ∧ RelV (.int p.2) u
  cS : ∀ p ∈ c.cS, ∃ u, X.mg p.1 = some u ∧ RelV (.str p.2) u
  xs : ∀ p ∈ c.xs, XOk X.prog X.w X.K X.mg X.base G p
  xi : ∀ q ∈ c.xi, PySem.W.kitAny X.K (.ref (G.cl q.1)) (q.2.1.map (cnV G)) = some q.2.2
theorem Hy.hz {X : Cx} {G : Gr} {W : WX} {Φ : Fns} {k : Nat} {c : Ctx} (y : Hy X G W Φ k c) (a : Addr) (pn : List (Addr × Obj)) : Hz (X.suite a pn) G c :=
  ⟨⟨y.ok.k, y.ok.nd, y.ok.gd, y.ok.hu, y.ok.sy⟩, y.N, y.sc, y.cF, y.cI, y.cS, y.xs, y.xi⟩
section
variable {X : Cx} {G : Gr} {c : Ctx}
theorem Hz.gl (y : Hz X G c) {x : Str} (h : glC c x = true) : Gl X x ∧ (x == ("__debug__" : Str)) = false := by
  unfold glC at h
  simp only [Bool.and_eq_true, decide_eq_true_eq, Bool.not_eq_true'] at h
  exact ⟨by show X.env.scope.names.lookup x = _; rw [y.sc]; exact h.1, h.2⟩
theorem Hz.free (y : Hz X G c) {x : Str} (h : freeC c x = true) : Gl X x ∧ (x == ("__debug__" : Str)) = false ∧ X.mg x = none ∧ x ≠ "__name__" := by
  unfold freeC at h
  simp only [Bool.and_eq_true, Bool.not_eq_true'] at h
  obtain ⟨⟨h1, h2⟩, h3⟩ := h
  obtain ⟨a, b⟩ := y.gl h1
  refine ⟨a, b, y.cF x (List.contains_iff_mem.mp h2), fun e => ?_⟩
  rw [e] at h3; exact absurd h3 (by decide)
theorem Hz.cn (y : Hz X G c) {t : CN} {e : Expr} (h : cnC c t e = true) : PE X e (tC (cnU G t)) ∧ nostar e = true := by
  unfold cnC at h
  split at h
  · simp only [Bool.and_eq_true] at h
    obtain ⟨g1, g2⟩ := y.gl h.1
    obtain ⟨p, hp, hq⟩ := mem_any h.2
    simp only [Bool.and_eq_true, decide_eq_true_eq] at hq
    obtain ⟨rfl, rfl⟩ := hq
    exact ⟨pe_glob g1 (y.xs p hp).gx rfl g2, rfl⟩
  · simp only [Bool.and_eq_true, decide_eq_true_eq] at h
    obtain ⟨a, b, d, e⟩ := y.free h.1
    exact ⟨pe_bltn a d h.2 rfl e b, rfl⟩
  · cases h
def tCn (G : Gr) : List CN → TA
  | [] => tNil
  | t :: ts => tCons (tC (cnU G t)) (tCn G ts)
theorem tCn_eq {σ : L2.St} {H : Hp} {Q : List V → Hp → Prop} : ∀ ts : List CN, Q (ts.map (cnU G)) H → tCn G ts σ H Q
  | [], h => h
  | t :: ts, h => tCn_eq (Q := fun xs H2 => Q (cnU G t :: xs) H2) ts h
theorem Hz.cns (y : Hz X G c) : ∀ {ts : List CN} {es : List Expr}, cnsC c ts es = true → PA X es (tCn G ts) ∧ es.all nostar = true ∧ es.length = ts.length
  | [], [], _ => ⟨pa_nil, rfl, rfl⟩
  | [], _ :: _, h => by cases h
  | _ :: _, [], h => by cases h
  | t :: ts, e :: es, h => by
    have h : (cnC c t e && cnsC c ts es) = true := h
    rw [Bool.and_eq_true] at h
    obtain ⟨a2, a3⟩ := y.cn h.1
    obtain ⟨b2, b3, b4⟩ := y.cns h.2
    exact ⟨pa_cons a2 b2 (starEach_cons a3), by rw [List.all_cons, a3, b3]; rfl, congrArg Nat.succ b4⟩
theorem clsV_cn (t : CN) : ClsV (cnU G t) (cnV G t) := by cases t <;> constructor
theorem clsV_cns : ∀ ts : List CN, Paired ClsV (ts.map (cnU G)) (ts.map (cnV G))
  | [] => .nil
  | t :: ts => .cons (clsV_cn t) (clsV_cns ts)
theorem kit_one {K : PySem.W.Frag} {t u : Value} {b : Bool} (h : PySem.W.kitAny K t [u] = some b) : PySem.W.kitOne K t u = some b := by
  unfold PySem.W.kitAny at h
  split at h
  · rename_i e; cases h; exact e
  · rename_i e; cases h; exact e
  · cases h
end
/-! ### the caught exception -/
/-- slot i stands for it, its fields are fs -/
def wtX (G : Gr) (i : Nat) (a : Addr) (d : Option Addr) (fs : List (Str × D)) : WX := fun _ _ σ H => σ[i]? = some (some (.ref a)) ∧ ∃ dd gs, d = some dd ∧ H dd = some (.xd gs) ∧ RepF G.K H fs gs
section
variable {X : Cx} {G : Gr} {c : Ctx} {a C : Addr} {oe : Obj} {cls : Value} {d : Option Addr} {pn : List (Addr × Obj)} {i k : Nat} {fs : List (Str × D)}
theorem repF_look {K : PySem.W.Frag} {H : Hp} {f : Str} {x : D} : ∀ {fs : List (Str × D)} {gs : List (Str × V)}, RepF K H fs gs → fs.lookup f = some x → ∃ v, gs.lookup f = some v ∧ RepV K H x v
  | [], _, _, h => by cases h
  | (n, y) :: r, _, ⟨v, s, rfl, rv, rs⟩, h => by
    rw [List.lookup_cons] at h ⊢
    cases e : (f == n) with
    | true =>
      rw [e] at h
      cases h
      exact ⟨v, rfl, rv⟩
    | false =>
      rw [e] at h
      exact repF_look rs h
theorem caught_at {W : WX} {E : DX} {σd : DS} {σ : L2.St} {h : MH} {H : Hp} (lt : k < G.nc) (at_ : At G W E σd σ h H) (hE : ∀ c h', E c [] h') : W (.ref (G.cl k)) none σ H :=
  at_.x k [] h _ none H (hE _ _) ⟨⟨lt, rfl⟩, .inl ⟨rfl, rfl⟩⟩ at_.r Fm.refl
theorem call_x1 (T : KxC X.K C) (F : XfC X.K C) (hz : Zc cls d oe) (hf : ∃ vs, oe.data = .fields vs) (ec : cls = .ref C) :
    CallR (X.suite a ((a, oe) :: pn)) (.builtin "isinstance") (fun xs H Q => ∃ (cc : V) (u : Value) (b : Bool) (dd : Addr) (gs : List (Str × V)), xs = [.ref a, cc] ∧ ClsV cc u ∧ d = some dd ∧ H dd = some (.xd gs) ∧ PySem.W.kitOne X.K (.ref C) u = some b ∧ Q (.bl b) H) := by
  intro pins s σ H xs us Q I r h
  obtain ⟨cc, u, b, dd, gs, rfl, kc, ed, eg, e, q⟩ := h
  obtain ⟨u1, u2, rfl, r1, r2⟩ := vals2 r
  obtain rfl : u1 = Value.ref a := r1
  have e2 := kc.eq r2
  subst e2 ec ed
  obtain ⟨ha, _⟩ := I.pin (a, oe) (List.mem_append_left _ List.mem_cons_self)
  obtain ⟨vs, hd⟩ := hf
  have hx : ObjOk X.prog X.w H s.heap dd (.xd gs) := I.hok dd _ eg
  obtain ⟨mA, hns, hr⟩ := hx
  obtain ⟨od, ho, hl⟩ := lookIn_ns hns
  have J : PySem.W.InstAt s.heap a oe C (some od) := ⟨ha, hz.1, by unfold PySem.W.notCls; rw [hd] <;> rfl, by rw [hz.2]; exact ho⟩
  exact PySem.W.kia_one (PySem.W.kitx_exc T.cl F.ga F.gg F.exC T.ca T.sp T.tk T.ob) I.kIn J e (fun z => nomatch z) fun tk => ⟨.bl b, H, I.tok tk, rfl, q⟩
theorem call_xT (T : KxC X.K C) (F : XfC X.K C) (hz : Zc cls d oe) (hf : ∃ vs, oe.data = .fields vs) (ec : cls = .ref C) :
    CallR (X.suite a ((a, oe) :: pn)) (.builtin "isinstance") (fun xs H Q => ∃ (tp : Addr) (cs : List V) (ws : List Value) (b : Bool) (dd : Addr) (gs : List (Str × V)), xs = [.ref a, .ref tp] ∧ H tp = some (.tup cs) ∧ Paired ClsV cs ws ∧ d = some dd ∧ H dd = some (.xd gs) ∧ PySem.W.kitAny X.K (.ref C) ws = some b ∧ Q (.bl b) H) := by
  intro pins s σ H xs us Q I r h
  obtain ⟨tp, cs, ws, b, dd, gs, rfl, hT, kc, ed, eg, e, q⟩ := h
  obtain ⟨u1, u2, rfl, r1, r2⟩ := vals2 r
  obtain rfl : u1 = Value.ref a := r1
  obtain rfl : u2 = Value.ref tp := r2
  subst ec ed
  obtain ⟨ha, _⟩ := I.pin (a, oe) (List.mem_append_left _ List.mem_cons_self)
  obtain ⟨vs, hd⟩ := hf
  have hx : ObjOk X.prog X.w H s.heap dd (.xd gs) := I.hok dd _ eg
  obtain ⟨mA, hns, hr⟩ := hx
  obtain ⟨od, ho, hl⟩ := lookIn_ns hns
  have J : PySem.W.InstAt s.heap a oe C (some od) := ⟨ha, hz.1, by unfold PySem.W.notCls; rw [hd] <;> rfl, by rw [hz.2]; exact ho⟩
  obtain ⟨_, its, rv, o, h1, h2, n, h3⟩ := (show ObjOk X.prog X.w H s.heap tp (.tup cs) from I.hok tp _ hT)
  have e3 := ClsV.all kc rv
  subst e3
  obtain ⟨oc, od', dt, sl⟩ := o
  simp only at h2 h3
  subst h2 h3
  exact PySem.W.kia_tup (PySem.W.kitx_exc T.cl F.ga F.gg F.exC T.ca T.sp T.tk T.ob) I.kIn J h1 e (fun z => nomatch z) fun tk => ⟨.bl b, H, I.tok tk, rfl, q⟩
theorem Hz.vis (y : Hz X G c) {x : Str} (h : visC c x = true) : Vis X.env.scope x := by
  unfold visC at h
  unfold Vis
  rw [y.sc]
  split at h <;> first | exact .inl ‹_› | exact .inr (.inl ‹_›) | exact .inr (.inr ‹_›) | cases h
theorem Hz.me {σ : L2.St} (y : Hz X G c) {e : Expr} (h : meC c i e = true) : nostar e = true ∧ PE X e (tVar i) := by
  unfold meC at h
  split at h
  · simp only [Bool.and_eq_true, decide_eq_true_eq, Bool.not_eq_true'] at h
    obtain ⟨⟨⟨h1, h2⟩, h3⟩, h4⟩ := h
    exact ⟨rfl, pe_var (by rw [y.N]; exact h1) (.inl (by rw [y.sc]; exact h2)) h3 h4⟩
  · cases h
theorem sx_var (y : Hz X G c) {W : WX} {Φ : Fns} {i : Nat} {e : Expr} (h : ckE c (.var i) e = true) : PE X e (lE G W fun _ σ h Q => ∃ d, σ[i]? = some (some d) ∧ Q d h) := by
  unfold ckE at h
  split at h
  · simp only [Bool.and_eq_true, decide_eq_true_eq, Bool.not_eq_true'] at h
    obtain ⟨⟨⟨h1, h2⟩, h3⟩, h4⟩ := h
    exact se_var (by rw [y.N]; exact h1) (y.vis h2) h3 h4
  · cases h
theorem sx_cst (y : Hz X G c) {W : WX} {dv : D} {e : Expr} (h : ckE c (.cst dv) e = true) : PE X e (lE G W fun _ _ h Q => Q dv h) := by
  unfold ckE at h
  split at h
  · rw [of_decide_eq_true h]; exact se_cst pe_int fun _ => repV_int
  · rw [of_decide_eq_true h]; exact se_cst pe_bl fun _ => repV_bl
  · exact se_cst pe_non fun _ => repV_non
  · rw [of_decide_eq_true h]; exact se_cst pe_str fun _ => repV_str
  · simp only [Bool.and_eq_true, decide_eq_true_eq] at h
    obtain ⟨g1, g2⟩ := y.gl h.1
    obtain ⟨u, hu, r⟩ := y.cI _ h.2
    exact se_cst (pe_glob g1 hu r g2) fun _ => repV_int
  · simp only [Bool.and_eq_true, decide_eq_true_eq] at h
    obtain ⟨g1, g2⟩ := y.gl h.1
    obtain ⟨u, hu, r⟩ := y.cS _ h.2
    exact se_cst (pe_glob g1 hu r g2) fun _ => repV_str
  · cases h
mutual
theorem ckX_ok (hz : Zc cls d oe) (hf : ∃ vs, oe.data = .fields vs) (ec : cls = .ref (G.cl k)) : ∀ (x : Hx) (e : Expr), Hz (X.suite a ((a, oe) :: pn)) G c → ckX c k i x e = true → PE (X.suite a ((a, oe) :: pn)) e (lE G (wtX G i a d fs) fun E => wpX fs E x)
  | .cst dv, e, y, h => by
    unfold ckX at h
    exact sx_cst y h
  | .var j, e, y, h => by
    unfold ckX at h
    exact sx_var (Φ := fun _ _ _ _ _ => False) y h
  | .fld f, e, y, h => by
    unfold ckX at h
    split at h
    · rename_i z n p
      simp only [Bool.and_eq_true, decide_eq_true_eq] at h
      obtain ⟨⟨rfl, h2⟩, h3⟩ := h
      obtain ⟨q, hq, hp⟩ := mem_any h3
      simp only [Bool.and_eq_true, decide_eq_true_eq] at hp
      obtain ⟨rfl, rfl⟩ := hp
      have K := y.xs q hq
      have hb : attributeBase z q.f (X.suite a ((a, oe) :: pn)).env (eval z (X.suite a ((a, oe) :: pn)).env) = eval z (X.suite a ((a, oe) :: pn)).env := by
        unfold meC at h2
        split at h2
        · rfl
        · cases h2
      refine PE.imp (pe_xf (X := X) K.xf K.no hz hf ((y.me (σ := []) h2).2) hb) fun σ H Q ⟨σd, h, R, E, at_, ⟨hE, dv, el, q'⟩, po⟩ => ?_
      obtain ⟨hs, dd, gs, ed, eg, rf⟩ := caught_at K.lt at_ hE
      obtain ⟨v, ev, rv⟩ := repF_look rf el
      exact ⟨_, hs, rfl, ec, dd, gs, v, ed, eg, ev, po.here at_.r q' rv⟩
    · cases h
  | .isi cs b, e, y, h => by
    unfold ckX at h
    split at h
    · rename_i x p u z pos
      simp only [Bool.and_eq_true, decide_eq_true_eq] at h
      obtain ⟨⟨⟨⟨⟨rfl, h2⟩, h3⟩, h4⟩, h5⟩, h6⟩ := h
      obtain ⟨g1, g2, g3, g4⟩ := y.free h2
      obtain ⟨q, hq, hp⟩ := mem_any h5
      have hp := of_decide_eq_true hp
      subst hp
      have K := y.xs q hq
      have hs := (y.me (σ := []) h3).1
      have he := (y.me (σ := []) h3).2
      have kit := y.xi _ h4
      split at h6
      · rename_i t
        obtain ⟨z2, z3⟩ := y.cn h6
        refine PE.imp (pe_callB (call_x1 (X := X) K.kx K.xf hz hf ec) g1 g3 boot_isinstance (pa_cons he (pa_cons z2 pa_nil (starEach_cons z3)) (starEach_cons hs)) g4 g2 (starEach_cons hs) (plain_any (by simp [z3]))) fun σ H Q ⟨σd, h, R, E, at_, ⟨hE, q'⟩, po⟩ => ?_
        obtain ⟨hs, dd, gs, ed, eg, rf⟩ := caught_at K.lt at_ hE
        exact ⟨_, hs, _, _, b, dd, gs, rfl, clsV_cn t, ed, eg, kit_one kit, po.here at_.r q' repV_bl⟩
      · rename_i zs n tp cs'
        rw [Bool.and_eq_true] at h6
        obtain ⟨z2, z3, z4⟩ := y.cns h6.1
        have h10 := of_decide_eq_true h6.2
        refine PE.imp (pe_callB (call_xT (X := X) K.kx K.xf hz hf ec) g1 g3 boot_isinstance (pa_cons he (pa_cons (pe_tup z2) pa_nil rfl) (starEach_cons hs)) g4 g2 (starEach_cons hs) rfl) fun σ H Q ⟨σd, h, R, E, at_, ⟨hE, q'⟩, po⟩ => ?_
        obtain ⟨hs, dd, gs, ed, eg, rf⟩ := caught_at K.lt at_ hE
        refine ⟨_, hs, tCn_eq _ ⟨?_, fun l nl => ?_⟩⟩
        · rw [List.length_map, ← z4, sizeLine_eq]; omega
        · have f2 : Fm h H h (L2.upd H l (.tup (cs.map (cnU G)))) := Fm.aside nl
          exact ⟨l, _, _, b, dd, gs, rfl, upd_same, clsV_cns _, ed, by rw [upd_ne (fun e => by rw [e, nl] at eg; cases eg)]; exact eg, kit, (po.fm f2).here (at_.r.aside nl) q' repV_bl⟩
      · cases h6
    · cases h
  | .tup es, e, y, h => by
    unfold ckX at h
    split at h
    · rw [Bool.and_eq_true] at h
      exact se_tup (ckXs_ok hz hf ec es _ y h.1 h.2)
    · cases h
  | .and a' b', e, y, h => by
    unfold ckX at h
    split at h
    · rename_i x1 x2 r p
      rw [Bool.and_eq_true] at h
      refine se_and y.ok.k (ckX_ok hz hf ec a' _ y h.1) ?_
      cases r with
      | nil => exact pe_one (ckX_ok hz hf ec b' _ y h.2)
      | cons z r => exact ckX_ok hz hf ec b' _ y h.2
    · cases h
  | .not a', e, y, h => by
    unfold ckX at h
    split at h
    · exact se_not y.ok.k (ckX_ok hz hf ec a' _ y h)
    · cases h
  | .cmp op a' b', e, y, h => by
    unfold ckX at h
    split at h
    · simp only [Bool.and_eq_true, decide_eq_true_eq] at h
      obtain ⟨⟨⟨rfl, h0⟩, h1⟩, h2⟩ := h
      exact se_cmp y.ok (ckX_ok hz hf ec a' _ y h1) (ckX_ok hz hf ec b' _ y h2) (behind_of h0)
    · cases h
theorem ckXs_ok (hz : Zc cls d oe) (hf : ∃ vs, oe.data = .fields vs) (ec : cls = .ref (G.cl k)) : ∀ (es : List Hx) (xs : List Expr), Hz (X.suite a ((a, oe) :: pn)) G c → xs.all nostar = true → ckXs c k i es xs = true → PA (X.suite a ((a, oe) :: pn)) xs (lA G (wtX G i a d fs) fun E => wpXs fs E es)
  | [], xs, y, hs, h => by
    cases xs with
    | nil => exact sa_nil
    | cons _ _ => cases h
  | x :: es, xs, y, hs, h => by
    cases xs with
    | nil => cases h
    | cons e xs =>
      have h : (ckX c k i x e && ckXs c k i es xs) = true := h
      rw [Bool.and_eq_true] at h
      exact sa_cons (ckX_ok hz hf ec x e y h.1) (ckXs_ok hz hf ec es xs y (all_tail hs).2 h.2) (starEach_cons (all_tail hs).1)
end
end
end DL
set_option Elab.async false
set_option linter.all false
set_option maxRecDepth 100000
set_option maxHeartbeats 4000000
/-! The D layer, exceptions 4: raise, try, a target with a star. -/
namespace DL
open PySem PySem.Spec PyProof.Rows L2

def locC (c : Ctx) (i : Nat) (x : Str) : Bool := decide (c.N[i]? = some x) && decide (c.sc.names.lookup x = some .local)
section
variable {X : Cx} {G : Gr} {W : WX} {Φ : Fns} {k : Nat} {c : Ctx}
theorem loc_of (y : Hy X G W Φ k c) {i : Nat} {x : Str} (h : locC c i x = true) : X.N[i]? = some x ∧ X.env.scope.names.lookup x = some .local := by
  unfold locC at h
  simp only [Bool.and_eq_true, decide_eq_true_eq] at h
  rw [y.N, y.sc]; exact h
/-! ### a target with a star -/
theorem sg_star {i j : Nat} {x z : Str} {kk : Nat} {pos px py ps : Pos} (hK : X.K = G.K) (hc : X.calm = true) (hN : X.N.Nodup) (hi : X.N[i]? = some x) (hj : X.N[j]? = some z) (h1 : X.env.scope.names.lookup x = some .local) (h2 : X.env.scope.names.lookup z = some .local) :
    PG X (.Tuple [.Name x px, .Starred (.Name z py) ps] kk pos) (lG G W fun F => wpLv Φ F (.star [i] j)) :=
  PG.imp (pg_star hc hN hi hj h1 h2) fun v σ H Q ⟨d, σd, h, P, F, at_, rv, w, p⟩ => by
    have fin : ∀ (ds : List D) (vs : List V), RepVs G.K H ds vs → (1 ≤ ds.length ∧ ds.length ≤ 16000) → (∀ q, h q = none → P ((setAll σd [i] (ds.take 1)).set j (some (.ref q))) (up h q (.lst (ds.drop 1)))) →
        ∃ y xs, vs = y :: xs ∧ xs.length ≤ 16000 ∧ ∀ Dd, H Dd = none → Q ((σ.set i (some y)).set j (some (.ref Dd))) (L2.upd H Dd (.lst xs)) := fun ds vs r hl w => by
      cases ds with
      | nil => exact absurd hl.1 (by decide)
      | cons d0 ds =>
        obtain ⟨y, xs, rfl, ry, rs⟩ := r.cons_inv
        refine ⟨y, xs, rfl, by rw [rs.length]; have := hl.2; simp at this; omega, fun Dd n => ?_⟩
        have f : Fm h H (up h Dd (.lst ds)) (L2.upd H Dd (.lst xs)) := Fm.new n
        exact p _ _ _ _ (w Dd (at_.r.free n)) (((at_.s.fm at_.r f).set (ry.fm at_.r f)).set repV_ref) (at_.r.newLst n rs) f
    cases d with
    | tup ds =>
      obtain ⟨a, vs, rfl, sa, ra⟩ := repV_tup.mp rv
      obtain ⟨y, xs, rfl, hl, q⟩ := fin ds vs ra w.1 w.2
      exact ⟨a, y, xs, rfl, .inl (by rw [hK]; exact sa), hl, q⟩
    | ref a =>
      obtain ⟨ds, ea, hl, w⟩ := w
      obtain ⟨vs, eH, rs⟩ := at_.r.lst ea
      obtain ⟨y, xs, rfl, hl, q⟩ := fin ds vs rs hl w
      exact ⟨a, y, xs, (by exact rv.ref_inv), .inr (.inl (.inl eH)), hl, q⟩
    | _ => exact w.elim
/-! ### raise -/
theorem ss_rai (y : Hy X G W Φ k c) {p : Xe} (hp : p ∈ c.xs) {z : Expr} {q pos pos' : Pos} {wa : WE} (hg : glC c p.x = true) (hs : nostar z = true) (ha : PE X z (lE G W wa)) :
    PS X (.Raise (some (.Call (.Name p.x q) [z] [] pos)) none pos') (lS G W fun Dn σ h => wa (exAt Dn σ) σ h fun d h1 => Dn.ex p.c [(p.f, d)] σ h1) := by
  have K := y.xs p hp
  obtain ⟨g1, g2⟩ := gl_of y hg
  obtain ⟨B, nI, iI, bm, T⟩ := K.xc
  obtain ⟨fI, fd, ps, i1, i2, F1, b1⟩ := K.ini
  have hr : Room (1 + 1) X.A := y.room.mono y.k2
  refine PS.imp (ps_raise y.hc y.tk (pmk_note T i1 i2 F1 hr b1 g1 K.gx (sa_cons ha sa_nil (starEach_cons hs)) g2 (starEach_cons hs) rfl)) fun Q σ H ⟨σd, h, Dn, at_, w, po⟩ => ?_
  refine ⟨σd, h, fun ds h1 => match ds with
    | [d] => Dn.ex p.c [(p.f, d)] σd h1
    | _ => False, exAt Dn σd, at_.at, w, fun ds h1 vs H1 w1 rv rh1 f1 => ?_⟩
  match ds, w1, rv with
  | [d], w1, rv =>
    obtain ⟨v, vs', rfl, rd, rs⟩ := rv.cons_inv
    obtain rfl := rs.nil_inv
    refine ⟨v, rfl, fun dx n => ?_⟩
    have f2 : Fm h1 H1 h1 (L2.upd H1 dx (.xd [(p.f, v)])) := Fm.aside n
    exact at_.x p.c [(p.f, d)] σd h1 _ (some dx) σ _ w1 ⟨⟨K.lt, rfl⟩, .inr ⟨dx, _, rfl, upd_same, ⟨v, [], rfl, rd.fm rh1 f2, rfl⟩, rh1.free n⟩⟩ (at_.s.fm at_.r (f1.trans f2)) (rh1.aside n) (f1.trans f2)
/-! ### a handler -/
def ckH (c : Ctx) (k i : Nat) : Hs → Stmt → Bool
  | .asg j e, st => (match st with
    | .Assign [.Name x _] v _ => locC c j x && decide (j ≠ i) && nocomp v && ckX c k i e v
    | _ => false)
  | .ret e, st => (match st with
    | .Return (some v) _ => ckX c k i e v
    | _ => false)
def ckHs (c : Ctx) (k i : Nat) : List Hs → List Stmt → Bool
  | [], [] => true
  | s :: r, t :: ts => ckH c k i s t && ckHs c k i r ts
  | _, _ => false
def lHs (G : Gr) (a : Addr) (i : Nat) (cls : Value) (d : Option Addr) (k : Nat) (s : List Hs) : TS := fun Q σ H => ∃ σd h Dn fs dd gs, RepS G.K H σd σ ∧ RepH G h H ∧ cls = .ref (G.cl k) ∧ d = some dd ∧ H dd = some (.xd gs) ∧ RepF G.K H fs gs ∧ h dd = none ∧ σ[i]? = some (some (.ref a)) ∧ wpHs fs s Dn σd h ∧ EndR G h H Dn Q
section
variable {a : Addr} {oe : Obj} {cls : Value} {d : Option Addr} {pn : List (Addr × Obj)} {i : Nat}
theorem at_caught {fs : List (Str × D)} {σd : DS} {σ : L2.St} {h : MH} {H : Hp} {dd : Addr} {gs : List (Str × V)} (r1 : RepS G.K H σd σ) (r2 : RepH G h H) (ed : d = some dd) (eg : H dd = some (.xd gs)) (rf : RepF G.K H fs gs) (n : h dd = none) (sl : σ[i]? = some (some (.ref a))) :
    At G (wtX G i a d fs) (fun _ _ _ => True) σd σ h H := ⟨r1, r2, fun c fs' h' cls' dd' H' _ _ r' f => ⟨sl, dd, gs, ed, (f dd _ n eg).2, rf.mono (f.pst r2)⟩⟩
theorem pe_any {X : Cx} {e : Expr} {ι : Type} {t : ι → TE} (h : ∀ x, PE X e (t x)) : PE X e (fun σ H Q => ∃ x, t x σ H Q) := ⟨fun pins s σ H Q I ⟨x, w⟩ => (h x).run pins s σ H Q I w⟩
theorem Hz.loc {X : Cx} (y : Hz X G c) {i : Nat} {x : Str} (h : locC c i x = true) : X.N[i]? = some x ∧ X.env.scope.names.lookup x = some .local := by
  unfold locC at h
  simp only [Bool.and_eq_true, decide_eq_true_eq] at h
  rw [y.N, y.sc]; exact h
theorem ckH_asg {j : Nat} {e : Hx} {st : Stmt} (h : ckH c k i (.asg j e) st = true) : ∃ x px v pos, st = .Assign [.Name x px] v pos ∧ locC c j x = true ∧ j ≠ i ∧ nocomp v = true ∧ ckX c k i e v = true := by
  simp only [ckH] at h
  split at h
  · simp only [Bool.and_eq_true, decide_eq_true_eq] at h
    exact ⟨_, _, _, _, rfl, h.1.1.1, h.1.1.2, h.1.2, h.2⟩
  · cases h
theorem ckH_ret {e : Hx} {st : Stmt} (h : ckH c k i (.ret e) st = true) : ∃ v pos, st = .Return (some v) pos ∧ ckX c k i e v = true := by
  simp only [ckH] at h
  split at h
  · exact ⟨_, _, rfl, h⟩
  · cases h
theorem ckHs_ok (hz : Zc cls d oe) (hf : ∃ vs, oe.data = .fields vs) (ec : cls = .ref (G.cl k)) (y : Hz (X.suite a ((a, oe) :: pn)) G c) : ∀ (s : List Hs) (sts : List Stmt), ckHs c k i s sts = true → PSs (X.suite a ((a, oe) :: pn)) sts (lHs G a i cls d k s)
  | [], [], _ => PSs.imp pss_nil fun Q σ H ⟨σd, h, Dn, fs, dd, gs, r1, r2, _, _, _, _, _, _, w, p⟩ => p.nx σd h σ H w r1 r2 Fm.refl
  | [], _ :: _, h => by cases h
  | _ :: _, [], h => by cases h
  | s :: r, st :: ts, h => by
    obtain ⟨h1, h2⟩ := Bool.and_eq_true_iff.mp (show (ckH c k i s st && ckHs c k i r ts) = true from h)
    clear h
    have ih := ckHs_ok hz hf ec y r ts h2
    clear h2
    have h := h1
    clear h1
    cases s with
    | asg j e =>
      obtain ⟨x, px, v, pos, rfl, h1, h2, h3, h4⟩ := ckH_asg h
      obtain ⟨l1, l2⟩ := y.loc h1
      refine PSs.imp (pss_cons (ps_asg (pe_any fun fs => ckX_ok (fs := fs) hz hf ec e v y h4) (pg_name y.ok.nd l1 (.inl l2) (.inr l2)) (swaps_of (t := some (.Name x px)) (l := pos.line) h3) (stores_of rfl)) ih) fun Q σ H ⟨σd, h, Dn, fs, dd, gs, r1, r2, ec', ed, eg, rf, n, sl, w, p⟩ => ?_
      refine ⟨fs, σd, h, _, fun _ _ _ => True, at_caught r1 r2 ed eg rf n sl, w, fun dv h1 v1 H1 w1 rv rh1 f1 => ?_⟩
      refine ⟨_, h1, Dn, fs, dd, gs, (r1.fm r2 f1).set rv, rh1, ec', ed, (f1 dd _ n eg).2, rf.mono (f1.pst r2), (f1 dd _ n eg).1, ?_, w1, p.fm f1⟩
      rw [List.getElem?_set_ne h2]
      exact sl
    | ret e =>
      obtain ⟨v, pos, rfl, h1⟩ := ckH_ret h
      refine PSs.imp (pss_cons (ps_ret (pe_any fun fs => ckX_ok (fs := fs) hz hf ec e v y h1)) ih) fun Q σ H ⟨σd, h, Dn, fs, dd, gs, r1, r2, ec', ed, eg, rf, n, sl, w, p⟩ => ?_
      exact ⟨fs, σd, h, _, fun _ _ _ => True, at_caught r1 r2 ed eg rf n sl, w, p.rt⟩
/-- try, one clause -/
theorem repS_name {K : PySem.W.Frag} {H : Hp} {σd : DS} {σ : L2.St} {x : Option V} (r : RepS K H σd σ) : RepS K H (σd.set i none) (σ.set i x) := by
  refine ⟨by rw [List.length_set, List.length_set]; exact r.1, fun j dv e => ?_⟩
  by_cases hj : j = i
  · subst hj
    by_cases hl : j < σd.length
    · rw [List.getElem?_set_self hl] at e; cases e
    · rw [List.getElem?_eq_none (by rw [List.length_set]; omega)] at e; cases e
  · rw [List.getElem?_set_ne (Ne.symm hj)] at e
    rw [List.getElem?_set_ne (Ne.symm hj)]
    exact r.2 j dv e
end
/-- where nothing is handled but by this try -/
theorem Hy.tr {W' : WX} (y : Hy X G W Φ k c) (pn : List (Addr × Obj)) (xe : Value → Shared → Prop) (tk : Takes (X.tr pn xe) W') : Hy (X.tr pn xe) G W' Φ k c :=
  ⟨⟨y.ok.k, y.ok.nd, y.ok.gd, y.ok.hu, y.ok.sy⟩, y.hc, y.N, y.sc, y.fnT, tk, y.room, y.k2, y.cF, y.cI, y.cS, y.pats, y.xs, y.xi⟩
theorem ss_try {p : Xe} {i : Nat} {n : Str} {np pos pos' : Pos} {body suite : List Stmt} {b0 : Stmt} {b : List Sm} {s : List Hs} (y : Hy X G W Φ k c) (sf : X.stack = X.env :: X.outer ∧ X.env.frame = some X.env.locals) (hp : p ∈ c.xs) (hg : glC c p.x = true) (hl : locC c i n = true)
    (hb : ∀ (W' : WX) (pn : List (Addr × Obj)) (xe : Value → Shared → Prop), Hy (X.tr pn xe) G W' Φ k c → PassesOwn (model X.prog X.w) X.A X.env xe → PSs (X.tr pn xe) body (lS G W' (wpB Φ b))) (hh : ckHs c p.c i s (b0 :: suite) = true) :
    PS X (.Try body [.ExceptHandler (some (.Name p.x np)) (some n) (b0 :: suite) pos'] [] [] pos) (lS G W (wpS Φ (.try b p.c i s))) := by
  have K := y.xs p hp
  obtain ⟨g1, g2⟩ := gl_of y hg
  obtain ⟨l1, l2⟩ := loc_of y hl
  refine PS.imp (ps_try_as (Wout := W) (i := i) (c := .ref (G.cl p.c)) (tb := fun W' => lS G W' (wpB Φ b)) (ts := fun a cls d => lHs G a i cls d p.c s) sf.1 sf.2 y.ok.nd l1 l2 ⟨g1, g2, .inl K.gx⟩ y.tk (fun W' pn xe tk hp' => hb W' pn xe (y.tr pn xe tk) hp') (fun a oe cls d pn hz hf => ?_)) fun Q σ H ⟨σd, h, Dn, at_, w, po⟩ => ?_
  · by_cases ec : cls = .ref (G.cl p.c)
    · exact ckHs_ok hz hf ec (y.hz a ((a, oe) :: pn)) s _ hh
    · exact PSs.imp pss_never fun Q σ H ⟨σd, h, Dn, fs, dd, gs, r1, r2, ec', _⟩ => absurd ec' ec
  · refine ⟨σd, h, _, ⟨at_.s, at_.r, fun c' fs σd' h' cls dd σ' H' e rx rs rh f => ?_⟩, w, ⟨po.nx, po.rt, po.bk, po.ct⟩⟩
    obtain ⟨⟨lt, rfl⟩, rx'⟩ := id rx
    refine ⟨_, K.exm c' lt, fun hb a na => ?_, fun hb => ?_⟩
    · have ee := of_decide_eq_true hb
      subst ee
      have e : (i < σd'.length ∧ fs ≠ []) ∧ wpHs fs s _ (σd'.set i none) h' := (if_pos rfl).mp e
      obtain ⟨⟨il, fn⟩, w1⟩ := e
      rcases rx' with ⟨z, _⟩ | ⟨dx, gs, ed, eg, rf, n⟩
      · exact absurd z fn
      · have p1 := po.fm f
        refine ⟨_, h', _, fs, dx, gs, repS_name rs, rh, rfl, ed, eg, rf, n, ?_, w1, ⟨fun σ2 h2 τ2 H2 q r2 rh2 f2 => p1.nx _ h2 _ H2 q (repS_name r2) rh2 f2, p1.rt, fun σ2 h2 τ2 H2 q r2 rh2 f2 => p1.bk _ h2 _ H2 q (repS_name r2) rh2 f2, fun σ2 h2 τ2 H2 q r2 rh2 f2 => p1.ct _ h2 _ H2 q (repS_name r2) rh2 f2⟩⟩
        exact List.getElem?_set_self (by rw [← rs.1]; exact il)
    · have ne : c' ≠ p.c := of_decide_eq_false hb
      have e : Dn.ex c' fs σd' h' := (if_neg ne).mp e
      exact at_.x c' fs σd' h' _ dd σ' H' e rx rs rh f
end
end DL
set_option Elab.async false
set_option linter.all false
set_option maxRecDepth 100000
set_option maxHeartbeats 4000000
/-! The D layer, 14: the checker of statements and defs; the levels. -/
namespace DL
open PySem PySem.Spec PyProof.Rows L2

mutual
def ckLv (c : Ctx) : Lv → Expr → Bool
  | .nm i, e => nmC c i e
  | .sub o i, e => (match e with
    | .Subscript a b _ => noslice b && ckE c o a && ckE c i b
    | _ => false)
  | .tup ls, e => (match e with
    | .Tuple es _ _ => es.all nostar && ckLvs c ls es
    | _ => false)
  | .star is j, e => (match is, e with
    | [i], .Tuple [.Name x _, .Starred (.Name z _) _] _ _ => locC c i x && locC c j z
    | _, _ => false)
  | _, _ => false
def ckLvs (c : Ctx) : List Lv → List Expr → Bool
  | [], [] => true
  | l :: ls, e :: es => ckLv c l e && ckLvs c ls es
  | _, _ => false
end
def kindC (c : Ctx) : Bool := match c.sc.kind with
  | .function => true
  | _ => false
/-- two, three names from a display -/
def par2 (c : Ctx) : Lv → Ex → Expr → Expr → Bool
  | .tup [.nm i, .nm j], .tup [a, b], .Tuple [.Name x px, .Name y py] _ _, .Tuple [u, v] _ _ =>
    kindC c && locC c i x && locC c j y && decide (i ≠ j) && decide (x ≠ y) && decide (py.line = px.line) && parC [u, v] && ckE c a u && ckE c b v
  | _, _, _, _ => false
def par3 (c : Ctx) : Lv → Ex → Expr → Expr → Bool
  | .tup [.nm i, .nm j, .nm l], .tup [a, b, d], .Tuple [.Name x px, .Name y py, .Name z pz] _ _, .Tuple [u, v, w] _ _ =>
    kindC c && locC c i x && locC c j y && locC c l z && decide (i ≠ j) && decide (i ≠ l) && decide (j ≠ l) && decide (x ≠ y) && decide (x ≠ z) && decide (y ≠ z) && decide (py.line = px.line) && decide (pz.line = px.line) && parC [u, v, w] && ckE c a u && ckE c b v && ckE c d w
  | _, _, _, _ => false
/-- a display on both sides, stored as it comes -/
def parN (c : Ctx) : Expr → Expr → Bool
  | .Tuple ts _ _, .Tuple vs _ _ => ts.any (notLoc c.sc) || vs.all (foldedForSure 8)
  | _, _ => false
/-- name = comprehension, the block taking the name in -/
def setC (c : Ctx) : Lv → Ex → Expr → Expr → Bool
  | .nm i, .lc el t it cd vs, .Name x px, .ListComp e gs scope pos => kindC c && locC c i x && decide (px.line = pos.line) && !(scope.names.any fun (n, k) => n == x && (k == .local || k == .cell)) && ckE c (.lc el t it cd vs) (.ListComp e gs scope pos)
  | .nm i, .lc2 el t it cd t1 it1 cd1 vs vs1, .Name x px, .ListComp e gs scope pos => kindC c && locC c i x && decide (px.line = pos.line) && !(scope.names.any fun (n, k) => n == x && (k == .local || k == .cell)) && ckE c (.lc2 el t it cd t1 it1 cd1 vs vs1) (.ListComp e gs scope pos)
  | _, _, _, _ => false
mutual
def ckS (c : Ctx) : Sm → Stmt → Bool
  | .asg l e, s => (match s with
    | .Assign [t] v pos => par2 c l e t v || par3 c l e t v || setC c l e t v || ((nocomp v || noname t) && (notup t || notup v || parN c t v) && nostar t && ckLv c l t && ckE c e v)
    | _ => false)
  | .aug i op e, s => (match s with
    | .AugAssign t o v _ => decide (op = o) && nmC c i t && ckE c e v
    | _ => false)
  | .ex e, s => (match s with
    | .Expr v _ => nocomp v && ckE c e v
    | _ => false)
  | .ret e, s => (match s with
    | .Return (some v) _ => ckE c e v
    | _ => false)
  | .retN, s => (match s with
    | .Return none _ => true
    | _ => false)
  | .ifs t a b, s => (match s with
    | .If z x y _ => ckT c t z && ckB c a x && ckB c b y
    | _ => false)
  | .for t it b, s => (match s with
    | .For tg i x [] _ => tgC c t tg && noset i && ckI c it tg i && ckB c b x
    | _ => false)
  | .whl t b, s => (match s with
    | .While z x [] _ => ckT c t z && ckB c b x
    | _ => false)
  | .brk, s => (match s with
    | .Break _ => true
    | _ => false)
  | .cnt, s => (match s with
    | .Continue _ => true
    | _ => false)
  | .pas, s => (match s with
    | .Pass _ => true
    | .Expr (.Constant (.str _) _ _) _ => true
    | _ => false)
  | .rai k f e, s => (match s with
    | .Raise (some (.Call (.Name x _) [z] [] _)) none _ => nostar z && glC c x && c.xs.any (fun p => decide (p.x = x) && decide (p.c = k) && decide (p.f = f)) && ckE c e z
    | _ => false)
  | .try b k i hs, s => (match s with
    | .Try body [.ExceptHandler (some (.Name x _)) (some n) (b0 :: suite) _] [] [] _ => locC c i n && glC c x && c.xs.any (fun p => decide (p.x = x) && decide (p.c = k)) && ckHs c k i hs (b0 :: suite) && ckB c b body
    | _ => false)
def ckB (c : Ctx) : List Sm → List Stmt → Bool
  | [], [] => true
  | s :: r, t :: ts => ckS c s t && ckB c r ts
  | _, _ => false
end

theorem imp_lS {G : Gr} {W : WX} {ws wu : WS} (h : ∀ Dn σ h, wu Dn σ h → ws Dn σ h) : ∀ Q σ H, lS G W wu Q σ H → lS G W ws Q σ H := fun Q σ H ⟨σd, h', Dn, at_, w, p⟩ => ⟨σd, h', Dn, at_, h _ _ _ w, p⟩
section
variable {X : Cx} {G : Gr} {W : WX} {Φ : Fns} {k : Nat} {c : Ctx}
theorem kind_of (y : Hy X G W Φ k c) (h : kindC c = true) : X.env.scope.kind = .function := by
  unfold kindC at h
  rw [y.sc]
  split at h
  · assumption
  · cases h
mutual
theorem ckLv_ok : ∀ (l : Lv) (e : Expr), Hy X G W Φ k c → ckLv c l e = true → PG X e (lG G W fun F => wpLv Φ F l)
  | .nm i, e, y, h => by
    unfold ckLv at h
    obtain ⟨x, p, rfl, h1, h2, h3⟩ := nm_of y h
    exact sg_nm y.ok.nd h1 h2 h3
  | .sub o i, e, y, h => by
    unfold ckLv at h
    split at h
    · simp only [Bool.and_eq_true] at h
      exact sg_sub y.ok (ckE_ok o X W c _ y h.1.2) (ckE_ok i X W c _ y h.2) (assign_sub h.1.1)
    · cases h
  | .tup ls, e, y, h => by
    unfold ckLv at h
    split at h
    · rw [Bool.and_eq_true] at h
      obtain ⟨h1, h2⟩ := h
      obtain ⟨q, l⟩ := ckLvs_ok ls _ y h1 h2
      exact sg_tup (n := ls.length) y.ok.k y.hc q (by rw [assignEach_len]; exact l) (assignEach_nostar h1)
    · cases h
  | .fld o f, e, y, h => by unfold ckLv at h; cases h
  | .star is j, e, y, h => by
    unfold ckLv at h
    split at h
    · rw [Bool.and_eq_true] at h
      obtain ⟨a1, a2⟩ := loc_of y h.1
      obtain ⟨b1, b2⟩ := loc_of y h.2
      exact sg_star y.ok.k y.hc y.ok.nd a1 b1 a2 b2
    · cases h
theorem ckLvs_ok : ∀ (ls : List Lv) (es : List Expr), Hy X G W Φ k c → es.all nostar = true → ckLvs c ls es = true → PGs X es (lGs G W fun F => wpLvs Φ F ls) ∧ es.length = ls.length
  | [], es, y, hs, h => by
    cases es with
    | nil => exact ⟨PGs.imp sgs_nil fun v σ H Q ⟨ds, σd, h, P, F, at_, rv, w, p⟩ => ⟨ds, σd, h, P, F, at_, rv, by
        cases ds with
        | nil => exact w
        | cons d ds => exact w.elim, p⟩, rfl⟩
    | cons _ _ => cases h
  | l :: ls, es, y, hs, h => by
    cases es with
    | nil => cases h
    | cons e es =>
      have h : (ckLv c l e && ckLvs c ls es) = true := h
      rw [Bool.and_eq_true] at h
      obtain ⟨q, n⟩ := ckLvs_ok ls es y (all_tail hs).2 h.2
      refine ⟨PGs.imp (sgs_cons (ckLv_ok l e y h.1) q (assignEach_one (all_tail hs).1)) fun v σ H Q ⟨ds, σd, h, P, F, at_, rv, w, p⟩ => ⟨ds, σd, h, P, F, at_, rv, by
        cases ds with
        | nil => exact w
        | cons d ds => exact w, p⟩, congrArg Nat.succ n⟩
end

/-- two names: whatever follows -/
theorem ss_par' {a b : Expr} {wl : WL} {pos : Pos} {i j : Nat} {x y : Str} {px py pt : Pos} {kt k2 pt2} {K : En → List D → DS → MH → Prop} (hK : ∀ Dn ds σ h, K Dn ds σ h → ∃ d1 d2, ds = [d1, d2] ∧ Dn.nx ((σ.set i (some d1)).set j (some d2)) h) (hc : X.calm = true) (hN : X.N.Nodup) (hi : X.N[i]? = some x) (hj : X.N[j]? = some y) (hij : i ≠ j)
    (hx : X.env.scope.names.lookup x = some .local) (hy : X.env.scope.names.lookup y = some .local) (ha : PA X [a, b] (lA G W wl))
    (hw : swappedStores [.Tuple [.Name x px, .Name y py] kt pt] (.Tuple [a, b] k2 pt2) X.env = pure (some [x, y])) :
    PS X (.Assign [.Tuple [.Name x px, .Name y py] kt pt] (.Tuple [a, b] k2 pt2) pos) (lS G W fun Dn σ h => wl (exAt Dn σ) σ h fun ds h1 => K Dn ds σ h1) :=
  PS.imp (ps_par hc hN hi hj hij hx hy ha hw rfl) fun Q σ H ⟨σd, h, Dn, at_, w, p⟩ =>
    ⟨σd, h, _, _, at_.at, w, fun ds h1 vs H1 w1 rv r1 f1 => by
      obtain ⟨d1, d2, rfl, q⟩ := hK _ _ _ _ w1
      obtain ⟨v, u, rfl, rv, ru⟩ := rv.two
      exact ⟨v, u, rfl, p.nx _ h1 _ H1 q (((at_.s.fm at_.r f1).set rv).set ru) r1 f1⟩⟩
theorem ss_par3' {a b d : Expr} {wl : WL} {pos : Pos} {i j l : Nat} {x y z : Str} {px py pz pt : Pos} {kt k2 pt2} {K : En → List D → DS → MH → Prop} (hK : ∀ Dn ds σ h, K Dn ds σ h → ∃ d1 d2 d3, ds = [d1, d2, d3] ∧ Dn.nx (((σ.set i (some d1)).set j (some d2)).set l (some d3)) h) (hc : X.calm = true) (hN : X.N.Nodup) (hi : X.N[i]? = some x) (hj : X.N[j]? = some y) (hl : X.N[l]? = some z) (hij : i ≠ j) (hil : i ≠ l) (hjl : j ≠ l)
    (hx : X.env.scope.names.lookup x = some .local) (hy : X.env.scope.names.lookup y = some .local) (hz : X.env.scope.names.lookup z = some .local) (ha : PA X [a, b, d] (lA G W wl))
    (hw : swappedStores [.Tuple [.Name x px, .Name y py, .Name z pz] kt pt] (.Tuple [a, b, d] k2 pt2) X.env = pure (some [x, y, z])) :
    PS X (.Assign [.Tuple [.Name x px, .Name y py, .Name z pz] kt pt] (.Tuple [a, b, d] k2 pt2) pos) (lS G W fun Dn σ h => wl (exAt Dn σ) σ h fun ds h1 => K Dn ds σ h1) :=
  PS.imp (ps_par3 hc hN hi hj hl hij hil hjl hx hy hz ha hw rfl) fun Q σ H ⟨σd, h, Dn, at_, w, p⟩ =>
    ⟨σd, h, _, _, at_.at, w, fun ds h1 vs H1 w1 rv r1 f1 => by
      obtain ⟨d1, d2, d3, rfl, q⟩ := hK _ _ _ _ w1
      obtain ⟨v, us, rfl, rv1, rv⟩ := rv.cons_inv
      obtain ⟨v2, v3, rfl, rv2, rv3⟩ := rv.two
      exact ⟨v, v2, v3, rfl, p.nx _ h1 _ H1 q ((((at_.s.fm at_.r f1).set rv1).set rv2).set rv3) r1 f1⟩⟩
theorem par2_ok (y : Hy X G W Φ k c) {l : Lv} {e : Ex} {t v : Expr} {pos : Pos} (h : par2 c l e t v = true) : PS X (.Assign [t] v pos) (lS G W (wpS Φ (.asg l e))) := by
  unfold par2 at h
  split at h
  · rename_i i j a b x px z py kt pt u v k2 pt2
    simp only [Bool.and_eq_true, decide_eq_true_eq] at h
    obtain ⟨⟨⟨⟨⟨⟨⟨⟨h0, h1⟩, h2⟩, h3⟩, h4⟩, h5⟩, h6⟩, h7⟩, h8⟩ := h
    obtain ⟨x1, x2⟩ := loc_of y h1
    obtain ⟨z1, z2⟩ := loc_of y h2
    have hs : [u, v].all nostar = true := by
      unfold parC at h6
      simp only [Bool.and_eq_true] at h6
      exact h6.1.1
    refine ss_par' (K := fun Dn ds σ h1 => Fits ds.length ∧ (ds.length = 2 ∧ wpLvs Φ (exAt Dn) [.nm i, .nm j] ds σ h1 Dn.nx)) (fun Dn ds σ h ⟨_, l, w⟩ => ?_) y.hc y.ok.nd x1 z1 h3 x2 z2 (ckEs_ok [a, b] X W c [u, v] y hs (by show (ckE c a u && (ckE c b v && true)) = true; rw [h7, h8] <;> rfl)) (stores_par (kind_of y h0) x2 z2 h5 h4 h6)
    match ds, l with
    | [d1, d2], _ => exact ⟨d1, d2, rfl, w⟩
  · cases h
theorem par3_ok (y : Hy X G W Φ k c) {l : Lv} {e : Ex} {t v : Expr} {pos : Pos} (h : par3 c l e t v = true) : PS X (.Assign [t] v pos) (lS G W (wpS Φ (.asg l e))) := by
  unfold par3 at h
  split at h
  · rename_i i j l a b d x px z py q pz kt pt u v w k2 pt2
    simp only [Bool.and_eq_true, decide_eq_true_eq] at h
    obtain ⟨⟨⟨⟨⟨⟨⟨⟨⟨⟨⟨⟨⟨⟨⟨h0, h1⟩, h2⟩, h3⟩, h4⟩, h5⟩, h6⟩, h7⟩, h8⟩, h9⟩, h10⟩, h11⟩, h12⟩, h13⟩, h14⟩, h15⟩ := h
    obtain ⟨x1, x2⟩ := loc_of y h1
    obtain ⟨z1, z2⟩ := loc_of y h2
    obtain ⟨q1, q2⟩ := loc_of y h3
    have hs : [u, v, w].all nostar = true := by
      unfold parC at h12
      simp only [Bool.and_eq_true] at h12
      exact h12.1.1
    refine ss_par3' (K := fun Dn ds σ h1 => Fits ds.length ∧ (ds.length = 3 ∧ wpLvs Φ (exAt Dn) [.nm i, .nm j, .nm l] ds σ h1 Dn.nx)) (fun Dn ds σ h ⟨_, l, w⟩ => ?_) y.hc y.ok.nd x1 z1 q1 h4 h5 h6 x2 z2 q2 (ckEs_ok [a, b, d] X W c [u, v, w] y hs (by show (ckE c a u && (ckE c b v && (ckE c d w && true))) = true; rw [h13, h14, h15] <;> rfl)) (stores_par3 (kind_of y h0) x2 z2 q2 h10 h11 h7 h8 h9 h12)
    match ds, l with
    | [d1, d2, d3], _ => exact ⟨d1, d2, d3, rfl, w⟩
  · cases h
theorem setC_ok (y : Hy X G W Φ k c) {l : Lv} {e : Ex} {t v : Expr} {pos : Pos} (h : setC c l e t v = true) : PS X (.Assign [t] v pos) (lS G W (wpS Φ (.asg l e))) := by
  unfold setC at h
  split at h
  · rename_i i0 el tt it cd vs x px e gs scope p
    simp only [Bool.and_eq_true, decide_eq_true_eq, Bool.not_eq_true'] at h
    obtain ⟨⟨⟨⟨h0, hl⟩, hp⟩, ha⟩, h⟩ := h
    obtain ⟨x1, x2⟩ := loc_of y hl
    have hsw := fun gs l => sw_true (elt := e) (gs := gs) (scope := scope) (pos := p) (py := px) (l := l) (kind_of y h0) x2 (by rw [hp]; exact beq_self_eq_true _) ha
    unfold ckE at h
    split at h
    · rename_i x' tg i ifs scope' p' e1
      cases e1
      simp only [Bool.and_eq_true] at h
      obtain ⟨⟨⟨⟨⟨⟨h1, h2⟩, h3⟩, h4⟩, h5⟩, h6⟩, h7⟩ := h
      have hb : BlkOk X.N X.env.scope scope (ownOf c.N vs) := by rw [y.N, y.sc]; exact blkOk_by h1
      have := ps_setLc (g := tgG X.K tt) (spos := pos) y.hc y.ok.nd x1 x2 (hsw _ _) (ckI_ok it X W c tg i y h5) hb (fun s H C cl fp => tg_of (y.blk scope s H C cl fp) h4) (fun s H C cl fp => ckC_ok cd _ (c.blk scope) ifs (y.blk scope s H C cl fp) h7)
        (fun s H C cl fp => ckE_ok el _ W0 (c.blk scope) _ (y.blk scope s H C cl fp) h6) (folded_of h3)
      rw [ownOf_snd] at this
      exact PS.imp this (asgC_read (wa := fun E => wpE Φ E (.lc el tt it cd vs)) (lc_read (wi := fun E => wpI Φ E it) (wt := fun E σ h Q => wpC Φ cd σ h Q) (we := fun E => wpE Φ E el) y.ok.k h2))
    · cases h
  · rename_i i0 el tt it cd t1 it1 cd1 vs vs1 x px e gs scope p
    simp only [Bool.and_eq_true, decide_eq_true_eq, Bool.not_eq_true'] at h
    obtain ⟨⟨⟨⟨h0, hl⟩, hp⟩, ha⟩, h⟩ := h
    obtain ⟨x1, x2⟩ := loc_of y hl
    have hsw := fun gs l => sw_true (elt := e) (gs := gs) (scope := scope) (pos := p) (py := px) (l := l) (kind_of y h0) x2 (by rw [hp]; exact beq_self_eq_true _) ha
    unfold ckE at h
    split at h
    · rename_i x' tg i ifs tg1 i1 ifs1 scope' p' e1
      cases e1
      simp only [Bool.and_eq_true] at h
      obtain ⟨⟨⟨⟨⟨⟨⟨⟨⟨⟨⟨⟨h1, h2⟩, h3⟩, h4⟩, h5⟩, h6⟩, h7⟩, h8⟩, h9⟩, h10⟩, h11⟩, h12⟩, h13⟩ := h
      have hb : BlkOk X.N X.env.scope scope (ownOf c.N vs) := by rw [y.N, y.sc]; exact blkOk_by h1
      have := ps_setLc2 (g := tgG X.K tt) (g1 := tgG X.K t1) (spos := pos) (vs1 := vs1) y.hc y.ok.nd x1 x2 (hsw _ _) (ckI_ok it X W c tg i y h9) hb (by rw [ownOf_snd]; exact fun v hv => by simpa using List.all_eq_true.mp h4 v hv) (fun s H C cl fp => tg_of (y.blk scope s H C cl fp) h7) (fun s H C cl fp => ckC_ok cd _ (c.blk scope) ifs (y.blk scope s H C cl fp) h12)
        (fun s H C cl fp => ckI_ok it1 _ W0 (c.blk scope) tg1 i1 (y.blk scope s H C cl fp) h10) (fun s H C cl fp => tg_of (y.blk scope s H C cl fp) h8) (fun s H C cl fp => ckC_ok cd1 _ (c.blk scope) ifs1 (y.blk scope s H C cl fp) h13)
        (fun s H C cl fp => ckE_ok el _ W0 (c.blk scope) _ (y.blk scope s H C cl fp) h11) (folded_of h5) (fun _ => folded_of h6)
      rw [ownOf_snd] at this
      exact PS.imp this (asgC_read (wa := fun E => wpE Φ E (.lc2 el tt it cd t1 it1 cd1 vs vs1)) (lc2_read (wi := fun E => wpI Φ E it) (wt := fun E σ h Q => wpC Φ cd σ h Q) (wi1 := fun E => wpI Φ E it1) (wt1 := fun E σ h Q => wpC Φ cd1 σ h Q) (we := fun E => wpE Φ E el) y.ok.k h2 h3))
    · cases h
  · cases h
mutual
theorem ckS_ok : ∀ (s : Sm) (st : Stmt) (X : Cx) (W : WX), Hy X G W Φ k c → PassesOwn (model X.prog X.w) X.A X.env X.xe → (X.stack = X.env :: X.outer ∧ X.env.frame = some X.env.locals) → ckS c s st = true → PS X st (lS G W (wpS Φ s))
  | .asg l e, st, X, W, y, hp, sf, h => by
    unfold ckS at h
    split at h
    · rename_i t v pos
      simp only [Bool.or_eq_true, Bool.and_eq_true] at h
      rcases h with ((h | h) | h) | ⟨⟨⟨⟨h1, h2⟩, h3⟩, h4⟩, h5⟩
      · exact par2_ok y h
      · exact par3_ok y h
      · exact setC_ok y h
      · refine ss_asg (ckE_ok e X W c v y h5) (ckLv_ok l t y h4) ?_ ?_ (assignEach_one h3)
        · show swapsWith v (some t) pos.line X.env = pure false
          rcases h1 with h1 | h1
          · exact swaps_of h1
          · exact swaps_of2 h1
        · rcases h2 with (h2 | h2) | h2
          · exact stores_of h2
          · exact stores_of2 h2
          · unfold parN at h2
            split at h2
            · exact stores_none (by rw [y.sc]; exact h2)
            · cases h2
    · cases h
  | .aug i op e, st, X, W, y, hp, sf, h => by
    unfold ckS at h
    split at h
    · simp only [Bool.and_eq_true, decide_eq_true_eq] at h
      obtain ⟨⟨rfl, h1⟩, h2⟩ := h
      obtain ⟨x, p, rfl, n1, n2, n3⟩ := nm_of y h1
      exact ss_aug y.ok.nd n1 n2 n3 (ckE_ok e X W c _ y h2)
    · cases h
  | .ex e, st, X, W, y, hp, sf, h => by
    unfold ckS at h
    split at h
    · rw [Bool.and_eq_true] at h
      exact ss_ex (ckE_ok e X W c _ y h.2) (swaps_of h.1)
    · cases h
  | .ret e, st, X, W, y, hp, sf, h => by
    unfold ckS at h
    split at h
    · exact ss_ret (ckE_ok e X W c _ y h)
    · cases h
  | .retN, st, X, W, y, hp, sf, h => by
    unfold ckS at h
    split at h
    · exact ss_retN
    · cases h
  | .ifs t a b, st, X, W, y, hp, sf, h => by
    unfold ckS at h
    split at h
    · simp only [Bool.and_eq_true] at h
      exact ss_ifs (ckT_ok t X W c _ y h.1.1).1 (ckB_ok a _ X W y hp sf h.1.2) (ckB_ok b _ X W y hp sf h.2)
    · cases h
  | .for t it b, st, X, W, y, hp, sf, h => by
    unfold ckS at h
    split at h
    · simp only [Bool.and_eq_true] at h
      obtain ⟨⟨⟨h1, h2⟩, h3⟩, h4⟩ := h
      exact ss_for y.ok.k hp y.hc (ckI_ok it X W c _ _ y h3) (tg_of y h1) (ckB_ok b _ X W y hp sf h4) (folded_of h2)
    · cases h
  | .whl t b, st, X, W, y, hp, sf, h => by
    unfold ckS at h
    split at h
    · rw [Bool.and_eq_true] at h
      exact ss_whl hp (ckT_ok t X W c _ y h.1).1 (ckB_ok b _ X W y hp sf h.2)
    · cases h
  | .brk, st, X, W, y, hp, sf, h => by
    unfold ckS at h
    split at h
    · exact ss_brk
    · cases h
  | .cnt, st, X, W, y, hp, sf, h => by
    unfold ckS at h
    split at h
    · exact ss_cnt
    · cases h
  | .pas, st, X, W, y, hp, sf, h => by
    unfold ckS at h
    split at h
    · exact ss_pas
    · exact ss_doc
    · cases h
  | .rai kc f e, st, X, W, y, hp, sf, h => by
    unfold ckS at h
    split at h
    · simp only [Bool.and_eq_true] at h
      obtain ⟨⟨⟨h1, h2⟩, h3⟩, h4⟩ := h
      obtain ⟨p, hp', hq⟩ := mem_any h3
      simp only [Bool.and_eq_true, decide_eq_true_eq] at hq
      obtain ⟨⟨rfl, rfl⟩, rfl⟩ := hq
      exact ss_rai y hp' h2 h1 (ckE_ok e X W c _ y h4)
    · cases h
  | .try b kc i hs, st, X, W, y, hp, sf, h => by
    unfold ckS at h
    split at h
    · simp only [Bool.and_eq_true] at h
      obtain ⟨⟨⟨⟨h1, h2⟩, h3⟩, h4⟩, h5⟩ := h
      obtain ⟨p, hp', hq⟩ := mem_any h3
      simp only [Bool.and_eq_true, decide_eq_true_eq] at hq
      obtain ⟨rfl, rfl⟩ := hq
      exact ss_try y sf hp' h2 h1 (fun W' pn xe y' hp2 => ckB_ok b _ (X.tr pn xe) W' y' hp2 sf h5) h4
    · cases h
theorem ckB_ok : ∀ (b : List Sm) (sts : List Stmt) (X : Cx) (W : WX), Hy X G W Φ k c → PassesOwn (model X.prog X.w) X.A X.env X.xe → (X.stack = X.env :: X.outer ∧ X.env.frame = some X.env.locals) → ckB c b sts = true → PSs X sts (lS G W (wpB Φ b))
  | [], sts, X, W, y, hp, sf, h => by
    cases sts with
    | nil => exact ss_nil
    | cons _ _ => cases h
  | s :: r, sts, X, W, y, hp, sf, h => by
    cases sts with
    | nil => cases h
    | cons t ts =>
      have h : (ckS c s t && ckB c r ts) = true := h
      rw [Bool.and_eq_true] at h
      exact ss_cons (ws := wpS Φ s) (wu := wpB Φ r) (ckS_ok s t X W y hp sf h.1) (ckB_ok r ts X W y hp sf h.2)
end
end
end DL
set_option Elab.async false
set_option linter.all false
set_option maxRecDepth 100000
set_option maxHeartbeats 4000000
/-! The D layer, 15: defs by levels; the law's end; the Hook. -/
namespace DL
open PySem PySem.Spec PyProof.Rows L2

/-- a def of the program, and its slots -/
structure Row where
  x : Str
  qual : Str
  params : Arguments
  body : List Stmt
  sc : Scope
  N : List Str
  ps : List Str
def scC (N ps : List Str) (sc : Scope) : Bool :=
  (match sc.kind with
  | .function => true
  | _ => false) && !sc.isCoroutine && !sc.isGenerator && decide N.Nodup && decide (N.take ps.length = ps) && (ps.all fun x => match sc.names.lookup x with
    | some .local => true
    | some .cell => true
    | _ => false) && (sc.names.all fun y => match y.2 with
    | .free => false
    | _ => true)
theorem scC_ok {N ps : List Str} {sc : Scope} (h : scC N ps sc = true) : FnScope N ps sc := by
  unfold scC at h
  simp only [Bool.and_eq_true, decide_eq_true_eq, Bool.not_eq_true', List.all_eq_true] at h
  obtain ⟨⟨⟨⟨⟨⟨h1, h2⟩, h3⟩, h4⟩, h5⟩, h6⟩, h7⟩ := h
  refine ⟨?_, h2, h3, h4, h5, fun x hx => ?_, fun y hy e => ?_⟩
  · split at h1
    · assumption
    · cases h1
  · have q := h6 x hx
    split at q
    · exact .inl ‹_›
    · exact .inr ‹_›
    · cases q
  · have q := h7 y hy
    rw [e] at q
    cases q
def rowC (c : Ctx) (r : Row) (f : Fn) : Bool := decide (r.ps.length = f.ar) && decide (r.N.length = f.n) && scC r.N r.ps r.sc && ckB { c with N := r.N, sc := r.sc, top := true } f.body r.body
def rowsC (c : Ctx) : List Row → List Fn → Bool
  | [], [] => true
  | r :: rs, f :: fs => rowC c r f && rowsC c rs fs
  | _, _ => false
theorem rowsC_at {c : Ctx} : ∀ {rs : List Row} {fs : List Fn} {i : Nat} {r : Row}, rowsC c rs fs = true → rs[i]? = some r → ∃ f, fs[i]? = some f ∧ rowC c r f = true
  | [], _, _, _, _, e => by simp at e
  | _ :: _, [], _, _, h, _ => by cases h
  | r :: rs, f :: fs, i, r', h, e => by
    have h : (rowC c r f && rowsC c rs fs) = true := h
    rw [Bool.and_eq_true] at h
    cases i with
    | zero => simp at e; subst e; exact ⟨f, rfl, h.1⟩
    | succ i => exact rowsC_at (i := i) h.2 (by simpa using e)

/-- an own class of exceptions, whatever runs -/
structure XFact (G : Gr) (mg : Str → Option Value) (p : Xe) : Prop where
  lt : p.c < G.nc
  gx : mg p.x = some (.ref (G.cl p.c))
  ini : ∃ (B nI iI : String) (bm : List Value) (fI : Addr) (fd : FuncData) (qual pn : Str) (params : Arguments) (scope : Scope) (kws : List (Str × V)) (p1 p2 p3 p4 : Pos), Xc G.K B nI iI bm (G.cl p.c) ∧
    PySem.W.findIn G.K (.ref (G.cl p.c)) "__init__" = some (some (.ref fI)) ∧ PySem.W.typeIn G.K (.ref fI) = some (.type "function") ∧ PySem.W.takerIn G.K (G.cl p.c) p.f = some none ∧
    FunD G.K "__init__" qual params [.Assign [.Attribute (.Name "self" p1) p.f p2] (.Name pn p3) p4] scope [] kws fI fd ∧ FnScope ["self", pn] ["self", pn] scope ∧ scope.names.lookup ("self" : Str) = some NameKind.local ∧ scope.names.lookup pn = some NameKind.local ∧
    (pn == ("__debug__" : Str)) = false ∧ (pn == ("__classdict__" : Str)) = false ∧ Binds G.K fd ["self", pn] []
  exm : ∀ c', c' < G.nc → PySem.W.exmOne G.K (.ref (G.cl c')) (.ref (G.cl p.c)) = some (decide (c' = p.c))
  xf : XfC G.K (G.cl p.c)
  no : PySem.W.findIn G.K (.ref (G.cl p.c)) p.f = some none
  kx : KxC G.K (G.cl p.c)
theorem XFact.ok {P : Program} {w : World} {G : Gr} {mg : Str → Option Value} {base : Heap} {p : Xe} (f : XFact G mg p) : XOk P w G.K mg base G p := by
  obtain ⟨B, nI, iI, bm, fI, fd, qual, pn, params, scope, kws, p1, p2, p3, p4, T, h1, h2, h3, F, S, l1, l2, d1, d2, b⟩ := f.ini
  exact ⟨f.lt, f.gx, ⟨B, nI, iI, bm, T⟩, ⟨fI, fd, _, h1, h2, init_ok T h3 F S l1 l2 d1 d2, b⟩, f.exm, f.xf, f.no, f.kx⟩
/-- what the module's heap gives: the facts by names, the defs, how they are called -/
structure Facts (K : PySem.W.Frag) (mg : Str → Option Value) (c : Ctx) (rows : List Row) : Prop where
  cF : ∀ x ∈ c.cF, mg x = none
  cI : ∀ p ∈ c.cI, ∃ u, mg p.1 = some u ∧ RelV (.int p.2) u
  cS : ∀ p ∈ c.cS, ∃ u, mg p.1 = some u ∧ RelV (.str p.2) u
  pats : ∀ p ∈ c.pats, ∃ (r : Row) (a : Addr) (fd : FuncData) (dvs : List V) (kws : List (Str × V)) (g : List Value → List Value → List Value) (gV : List V → List V → List V), rows[p.f]? = some r ∧ mg p.x = some (.ref a) ∧
    FunD K r.x r.qual r.params r.body r.sc dvs kws a fd ∧ KBn K fd r.ps p.n p.ks g gV ∧ ∀ H ds vs es zs, RepVs K H ds vs → RepVs K H es zs → ds.length = p.n → es.length = p.ks.length → RepVs K H (arrOf (ds ++ es) p.arr) (gV vs zs)

theorem PsRep {K : PySem.W.Frag} {H : Hp} {ds : List D} {vs : List V} (r : RepVs K H ds vs) (m : Nat) : RepS K H (ds.map some ++ List.replicate m none) (vs.map some ++ List.replicate m none) := by
  refine ⟨by simp [r.length], fun i d e => ?_⟩
  by_cases hi : i < ds.length
  · rw [List.getElem?_append_left (by simpa using hi), List.getElem?_map] at e
    cases q : ds[i]? with
    | none => rw [q] at e; cases e
    | some d' =>
      rw [q] at e
      obtain ⟨v, hv, rv⟩ := r.get q
      have : d' = d := by simpa using e
      subst this
      refine ⟨v, ?_, rv⟩
      rw [List.getElem?_append_left (by rw [List.length_map, r.length]; exact hi), List.getElem?_map, hv] <;> rfl
  · rw [List.getElem?_append_right (by simpa using hi), List.getElem?_replicate] at e
    split at e <;> cases e
section
variable {P : Program} {w : World} {G : Gr} {mg : Str → Option Value} {base : Heap} {c : Ctx} {rows : List Row} {prog : List Fn}
theorem level (hsy : ∃ o, base.get? sysModules = some o ∧ o.cls = .type "dict") (S : Facts G.K mg c rows) (SX : ∀ p ∈ c.xs, XFact G mg p) (SI : ∀ q ∈ c.xi, PySem.W.kitAny G.K (.ref (G.cl q.1)) (q.2.1.map (cnV G)) = some q.2.2) (hck : rowsC c rows prog = true) : ∀ (d i : Nat) (r : Row), rows[i]? = some r → ∀ (f : Addr) (fd : FuncData) (dvs : List V) (kws : List (Str × V)),
    FunD G.K r.x r.qual r.params r.body r.sc dvs kws f fd → FnG P w G.K mg base (d + 2) f fd r.ps (spG G (Ph prog d) i)
  | 0, i, r, hi, f, fd, dvs, kws, F => ⟨fun vs H Q E ⟨_, _, _, _, _, _, z, _⟩ => z.elim, fun A outer s H args us vs Q E _ _ _ _ _ ⟨_, _, _, _, _, _, z, _⟩ => z.elim⟩
  | d + 1, i, r, hi, f, fd, dvs, kws, F => by
    obtain ⟨fn, hf, ck⟩ := rowsC_at hck hi
    unfold rowC at ck
    simp only [Bool.and_eq_true, decide_eq_true_eq] at ck
    obtain ⟨⟨⟨c1, c2⟩, c3⟩, c4⟩ := ck
    have sc := scC_ok c3
    have len : ∀ vs H Q E, spG G (Ph prog (d + 1)) i vs H Q E → vs.length = r.ps.length := fun vs H Q E ⟨ds, h, R, Ex, rv, _, ⟨fn', hf', l, _⟩, _⟩ => by
      rw [hf] at hf'; cases hf'
      rw [rv.length, l, c1]
    refine FunD.okG F sc len fun cdv A outer s H vs Q E hr hgd ⟨ds, h, R, Ex, rv, rh, ⟨fn', hf', l, wp⟩, po, pe⟩ => ?_
    rw [hf] at hf'; cases hf'
    have hun : (A.deeper (envOfC r.qual r.sc s.heap.objs.size f cdv)).units + 100 < cLine := by have := hr.un; omega
    have tk : Takes (cxOf (L2.CX P w) P w G.K mg base r.N r.qual r.sc f cdv A outer s H E) (fun cls dd _ H' => E cls dd H') := takes_of rfl rfl rfl rfl
    have hp : PassesOwn (model P w) (A.deeper (envOfC r.qual r.sc s.heap.objs.size f cdv)) (envOfC r.qual r.sc s.heap.objs.size f cdv) (cxOf (L2.CX P w) P w G.K mg base r.N r.qual r.sc f cdv A outer s H E).xe := PassesOwn.leaving
    have y : Hy (cxOf (L2.CX P w) P w G.K mg base r.N r.qual r.sc f cdv A outer s H E) G (fun cls dd _ H' => E cls dd H') (Ph prog d) (d + 2) { c with N := r.N, sc := r.sc, top := true } :=
      ⟨⟨rfl, sc.nd, hgd, hun, hsy⟩, rfl, rfl, rfl, fun _ _ => rfl, tk, hr, by omega, S.cF, S.cI, S.cS, fun p hp => by
        obtain ⟨r', a, fd', dvs', kws', g, gV, q1, q2, q3, q4, q5⟩ := S.pats p hp
        exact ⟨a, fd', r'.ps, g, gV, q2, q3.kp, level hsy S SX SI hck d p.f r' q1 a fd' dvs' kws' q3, q4, q5⟩, fun p hp => (SX p hp).ok, SI⟩
    refine ⟨_, ckB_ok fn.body r.body _ _ y hp ⟨rfl, rfl⟩ c4, ?_⟩
    have e1 : L2.start r.N vs = vs.map some ++ List.replicate (fn.n - fn.ar) none := by
      unfold L2.start
      rw [c2, rv.length, l]
    refine ⟨_, h, ⟨fun _ h' => R .non h', R, fun _ _ => False, fun _ _ => False, fun c fs _ h' => Ex c fs h'⟩, ⟨?_, rh, fun c fs σd' h' cls dd σ' H' e rx rs rh' fm => pe c fs h' cls dd H' e rx rh' fm⟩, wp, ⟨fun σd' h' σ' H' q rs rh' fm => po _ _ _ _ q repV_non rh' fm, po, fun _ _ _ _ z => z.elim, fun _ _ _ _ z => z.elim⟩⟩
    rw [e1]
    exact PsRep rv _
end

/-! ### the law's end -/
theorem callerA_guards : callerA.guards = some [] := rfl
/-- the law's promise at the heap behind the top -/
theorem law_callG {P : Program} {w : World} {K : PySem.W.Frag} {mg mb : Str → Option Value} {k : Nat} {fa a : Addr} {fd : FuncData} {x : Str} {sp : Sp} {s₁ : Shared} {vs : List Value} {ns : List Int}
    (KX : K.In s₁.heap) (hns : s₁.heap.Ns mainGlobals mg) (hb : s₁.heap.Ns builtinsNs mb) (hbb : ∀ x : Str, x ≠ "__name__" → mb x = bootBuiltins x) (hlim : s₁.heap.NoLimit) (hg : s₁.gens = #[])
    (ha : s₁.heap.get? a = some { cls := .type "list", data := .seq vs.toArray }) (hi : IntsAre vs ns) (hl : ns.length ≤ sizeLine) (hr : Room k callerA)
    (hsy : ∃ o, s₁.heap.get? sysModules = some o ∧ o.cls = .type "dict")
    (F : ∀ base : Heap, (∃ o, base.get? sysModules = some o ∧ o.cls = .type "dict") → FnG P w K mg base k fa fd [x] sp) (hbind : ∀ (s : Shared) (u : Value), BindsTo s fd ⟨[u], []⟩ [(x, u)])
    (hsp : ∀ H : Hp, FzL K H a (ns.map V.int) → sp [.ref a] H (fun v _ => v = .bl true) fun _ _ _ => False) :
    codeAny (model P w) callerA (.call (.ref fa) ⟨[.ref a], []⟩) (fun r s' => r = .ok (.ret (.bool true)) ∧ OldK s₁.heap s'.heap ∧ s'.os = s₁.os ∧ AllBare s'.gens) s₁ := by
  have rv := vals_ints hi
  have lenV := hi.length
  have core : ∀ H : Hp, Only H → FzL K H a (ns.map V.int) → HOk P w H s₁.heap → (∀ b, H b ≠ none → b = a) → (H a ≠ none → K.lookup a = none) →
      codeAny (model P w) callerA (.call (.ref fa) ⟨[.ref a], []⟩) (fun r s' => r = .ok (.ret (.bool true)) ∧ OldK s₁.heap s'.heap ∧ s'.os = s₁.os ∧ AllBare s'.gens) s₁ := by
    intro H hO hS hok hA hK
    have base_of : ∀ {b : Addr} {o : Obj}, s₁.heap.get? b = some o → H b = none → (hidT s₁.heap H).get? b = some o := fun e n => hidT_get e n
    have noA : ∀ {b : Addr} {o : Obj}, s₁.heap.get? b = some o → o.cls ≠ .type "list" → H b = none := fun {b o} e d => by
      cases q : H b with
      | none => rfl
      | some u =>
        have e' : b = a := hA b (by rw [q]; simp)
        subst e'
        rw [ha] at e; cases e
        exact absurd rfl d
    have noD : ∀ {b : Addr} {o : Obj} {es : Array DictEntry} {ep : Nat}, s₁.heap.get? b = some o → o.data = .dict es ep → H b = none := fun {b o es ep} e d => by
      cases q : H b with
      | none => rfl
      | some u =>
        have e' : b = a := hA b (by rw [q]; simp)
        subst e'
        rw [ha] at e; cases e
        have d' : Data.seq vs.toArray _ = Data.dict es ep := d
        cases d'
    have nsK : ∀ {b : Addr} {m : Str → Option Value}, s₁.heap.Ns b m → (hidT s₁.heap H).Ns b m := fun {b m} ⟨o, es, ep, e, d, r⟩ => ⟨o, es, ep, base_of e (noD e d), d, r⟩
    have hKb : K.In (hidT s₁.heap H) := fun b o e => base_of (KX b o e) (by
      cases q : H b with
      | none => rfl
      | some u =>
        have e' : b = a := hA b (by rw [q]; simp)
        subst e'
        rw [hK (by rw [q]; simp)] at e; cases e)
    have hM : Mod K mg (hidT s₁.heap H) := ⟨hKb, nsK hns, ⟨mb, nsK hb, hbb⟩, let ⟨mc, h1, h2⟩ := hlim; ⟨mc, nsK h1, h2⟩⟩
    have e0 : Env0 P w K mg (hidT s₁.heap H) callerA [] s₁ H := ⟨rfl, hM, fun b o e => of_hidT e, Nat.le_of_eq (hidT_size _ _), trivial, fun b hb => absurd (show b ∈ ([] : List Addr) from hb) (by simp), hok, .of_eq hg⟩
    have hsy' : ∃ o, (hidT s₁.heap H).get? sysModules = some o ∧ o.cls = .type "dict" := by
      obtain ⟨o, e, q⟩ := hsy
      exact ⟨o, base_of e (noA e (by rw [q]; decide)), q⟩
    refine codeAny_mono ((F _ hsy').run callerA [] s₁ H ⟨[.ref a], []⟩ [.ref a] [.ref a] _ _ hr callerA_guards e0 (hbind s₁ (.ref a)) (.cons rfl .nil) (hsp H hS)) fun r s' h => ?_
    cases r with
    | error e =>
      obtain ⟨_, _, _, _, _, _, _, _, _, _, _, _, z⟩ := h
      exact z.elim
    | ok fl =>
      cases fl with
      | next => exact False.elim h
      | brk => exact False.elim h
      | cont => exact False.elim h
      | ret u =>
        obtain ⟨v, H', os, bare, un, hok', r', q⟩ := h
        have q' : v = .bl true := q
        subst q'
        obtain rfl : u = Value.bool true := r'
        refine ⟨rfl, OldK.of_keep fun b o e => ?_, os, bare⟩
        cases q : H b with
        | none => exact un.keep b o e q (by intro z; exact absurd (show b ∈ ([] : List Addr) from z) (by simp)) (by simp)
        | some u =>
          rcases hO b with z | ⟨ob, xs, z⟩
          · rw [q] at z; cases z
          · have z2 := un.frzs b ob _ z
            obtain ⟨e1, _⟩ := hok b _ z
            obtain ⟨e2, _⟩ := hok' b _ z2
            rw [e] at e1; cases e1
            exact e2
  cases hk : K.lookup a with
  | some o =>
    have e := KX a o hk
    rw [ha] at e
    cases e
    refine core (fun _ => none) (fun _ => .inl rfl) (.inr ⟨_, vs.toArray, _, hk, rfl, rfl, rfl, by rw [List.size_toArray, lenV]; exact hl, by simpa using rv⟩) (fun b u z => by have z' : (none : Option HO) = some u := z; cases z') (fun b z => absurd rfl z) fun z => absurd rfl z
  | none =>
    refine core (fun b => if b = a then some (.frz { cls := .type "list", data := .seq vs.toArray } (.lst (ns.map V.int))) else none) (fun b => ?_) (.inl ⟨{ cls := .type "list", data := .seq vs.toArray }, if_pos rfl⟩) (fun b u z => ?_) (fun b z => ?_) fun _ => hk
    · by_cases hb : b = a
      · exact .inr ⟨_, _, if_pos hb⟩
      · exact .inl (if_neg hb)
    · by_cases hb : b = a
      · have z' := (if_pos hb).symm.trans z
        cases z'
        subst hb
        exact ⟨ha, by rw [List.length_map]; exact hl, vs, _, rv, ha⟩
      · have z' := (if_neg hb).symm.trans z
        cases z'
    · by_cases hb : b = a
      · exact hb
      · exact absurd (if_neg hb) z

def isDict : Option Obj → Bool
  | some ⟨.type c, _, _, _⟩ => decide (c = "dict")
  | _ => false
theorem isDict_ok {o : Option Obj} (h : isDict o = true) : ∃ b, o = some b ∧ b.cls = .type "dict" := by
  unfold isDict at h
  split at h
  · exact ⟨_, rfl, congrArg Value.type (of_decide_eq_true h)⟩
  · cases h
/-- the facts by names, and that sys.modules stands -/
def hookS (n : Nat) (fa : List He.Fa) (fn : List He.DefD) : PySem.W.Hook where
  α := He.AlD × Bool
  obs := fun s => (He.obsDG n fa fn s.heap.get?, isDict (s.heap.get? sysModules))
  val := fun _ => (He.valD fn, true)
  says := fun _ h => (∃ K : PySem.W.Frag, K.In h ∧ He.SaysD fa fn K) ∧ ∃ o, h.get? sysModules = some o ∧ o.cls = .type "dict"
  of := fun _ s e => ⟨⟨_, He.frG_in, congrArg Prod.fst e⟩, isDict_ok (congrArg Prod.snd e)⟩
  keeps := fun _ _ _ ⟨⟨K, hK, c⟩, o, e, q⟩ k => ⟨⟨K, PySem.W.Frag.In.keeps hK k, c⟩, o, k _ _ e, q⟩
def obS (n : Nat) (fa : List He.Fa) (fn : List He.DefD) (s : PySem.W.SharedT) : He.AlD × Bool := (He.obsDG n fa fn (HandSHeadRun.getT s), isDict (HandSHeadRun.getT s sysModules))
theorem obS_eq {n : Nat} {fa : List He.Fa} {fn : List He.DefD} (s : PySem.W.SharedT) : obS n fa fn s = (hookS n fa fn).obs s.abs := by
  have e : HandSHeadRun.getT s = s.abs.heap.get? := funext (HandSHeadRun.getT_eq s)
  unfold obS
  rw [e] <;> rfl
/-- the facts by names, sys.modules, and more that a fragment shows -/
def hookX (n : Nat) (fa : List He.Fa) (fn : List He.DefD) (xb : PySem.W.Frag → Bool) : PySem.W.Hook where
  α := He.AlD × Bool × Bool
  obs := fun s => (He.obsDG n fa fn s.heap.get?, isDict (s.heap.get? sysModules), xb (He.frG s.heap.get? (He.asD s.heap.get? n)))
  val := fun _ => (He.valD fn, true, true)
  says := fun _ h => (∃ K : PySem.W.Frag, K.In h ∧ He.SaysD fa fn K ∧ xb K = true) ∧ ∃ o, h.get? sysModules = some o ∧ o.cls = .type "dict"
  of := fun _ s e => ⟨⟨_, He.frG_in, congrArg Prod.fst e, congrArg (fun z => z.2.2) e⟩, isDict_ok (congrArg (fun z => z.2.1) e)⟩
  keeps := fun _ _ _ ⟨⟨K, hK, c⟩, o, e, q⟩ k => ⟨⟨K, PySem.W.Frag.In.keeps hK k, c⟩, o, k _ _ e, q⟩
def obX (n : Nat) (fa : List He.Fa) (fn : List He.DefD) (xb : PySem.W.Frag → Bool) (s : PySem.W.SharedT) : He.AlD × Bool × Bool := (He.obsDG n fa fn (HandSHeadRun.getT s), isDict (HandSHeadRun.getT s sysModules), xb (He.frG (HandSHeadRun.getT s) (He.asD (HandSHeadRun.getT s) n)))
theorem obX_eq {n : Nat} {fa : List He.Fa} {fn : List He.DefD} {xb : PySem.W.Frag → Bool} (s : PySem.W.SharedT) : obX n fa fn xb s = (hookX n fa fn xb).obs s.abs := by
  have e : HandSHeadRun.getT s = s.abs.heap.get? := funext (HandSHeadRun.getT_eq s)
  unfold obX
  rw [e] <;> rfl
/-- a law whose script holds ints, by the D layer -/
theorem walk_ofD {l : PySem.W.OpenLaw} {n k i : Nat} {q : Program} {loose : List Str} {XP : (Str → Option Value) → Heap → Prop} {fa : List He.Fa} {fn : List He.DefD} {m : Nat} {dr : DefRec} {c : Ctx} {rows : List Row} {prog : List Fn} {r : Row} {dvs : PySem.W.Frag → List V} {kws : PySem.W.Frag → List (Str × V)}
    {xb : PySem.W.Frag → Bool} (hn : l.most = some n) (hn2 : n ≤ sizeLine) (hdf : dr.params.defaults = []) (hr : Room (k + 2) callerA) (hck : rowsC c rows prog = true) (hi : rows[i]? = some r) (hx : r.ps = [("script" : Str)])
    (gr : PySem.W.Frag → Gr) (hgr : ∀ K, (gr K).K = K)
    (hF : ∀ (K : PySem.W.Frag) (mg : Str → Option Value) (h : Heap), K.In h → h.Ns mainGlobals mg → He.SaysD fa fn K → xb K = true → Facts K mg c rows ∧ (∀ p ∈ c.xs, XFact (gr K) mg p) ∧ (∀ q ∈ c.xi, PySem.W.kitAny K (.ref ((gr K).cl q.1)) (q.2.1.map (cnV (gr K))) = some q.2.2) ∧ ∃ (a : Addr) (fd : FuncData), mg dr.name = some (.ref a) ∧ FunD K r.x r.qual r.params r.body r.sc (dvs K) (kws K) a fd ∧ ∀ (s : Shared) (u : Value), BindsTo s fd ⟨[u], []⟩ [(("script" : Str), u)])
    (law : ∀ ns : List Int, ns.length ≤ n → Ph prog k i [.scr (ns.map D.int)] (fun _ => none) (fun v _ => v = .bl true) (fun _ _ _ => False)) :
    PySem.W.WalkO q loose XP (hookX m fa fn xb).says l.row.toRowW dr [] (fun f vs => PySem.call f vs) := by
  refine Att.attach_call hn hdf fun w s₀ s₁ mg mb fa' o pm cd doc a vs ns Gd Y ho hd hcd hmg hobj hints hlen hg => ?_
  obtain ⟨⟨K, KX, says, xk⟩, hsy⟩ := Y
  obtain ⟨S, SX, SI, a', fd, e1, F, hb⟩ := hF K mg _ KX Gd.T.g says xk
  have eK := hgr K
  generalize gr K = G at SX SI eK
  subst eK
  rw [hmg] at e1
  cases e1
  refine law_callG (k := k + 2) (fd := fd) (x := "script") (sp := spG G (Ph prog k) i) KX Gd.T.g Gd.T.b Gd.T.builtins Gd.T.nolimit hg hobj hints (Nat.le_trans hlen hn2) hr hsy (fun base hs => ?_) hb fun H hS => ?_
  · have q := level (P := l.prog) (w := w) (G := G) (base := base) hs S SX SI hck k i r hi fa' fd (dvs G.K) (kws G.K) F
    rw [hx] at q
    exact q
  · refine ⟨[.scr (ns.map D.int)], fun _ => none, fun v _ => v = .bl true, fun _ _ _ => False, ?_, (show RepH G (fun _ => none) H from fun _ _ z => nomatch z), law ns hlen, (show Post G (fun _ => none) H (fun v _ => v = .bl true) (fun v _ => v = .bl true) from fun d h' v H' e rv _ _ => by
      rw [e] at rv
      exact rv.bl_inv), (show PostE G (fun _ => none) H (fun _ _ _ => False) (fun _ _ _ => False) from fun _ _ _ _ _ _ z => z.elim)⟩
    · refine repVs_cons (repV_scr.mpr ⟨a, _, rfl, hS, ?_⟩) repVs_nil
      have : ∀ ns : List Int, RepVs G.K H (ns.map D.int) (ns.map V.int) := fun ns => by
        induction ns with
        | nil => exact repVs_nil
        | cons x xs ih => exact repVs_cons repV_int ih
      exact this ns
end DL
set_option Elab.async false
set_option linter.all false
set_option maxRecDepth 100000
set_option maxHeartbeats 4000000
/-! The D layer, 16: how defs are called. -/
namespace DL
open PySem PySem.Spec PyProof.Rows L2

def pick {α : Type} (us its ws : List α) : Nat × Nat → Option α
  | (0, i) => us[i]?
  | (1, i) => its[i]?
  | (_, i) => ws[i]?
def gA {α : Type} (src : List (Nat × Nat)) (us its ws : List α) : List α := src.filterMap (pick us its ws)
theorem vals_opt {vs : List V} {us : List Value} (r : Vals vs us) (i : Nat) : (vs[i]? = none ∧ us[i]? = none) ∨ ∃ v u, vs[i]? = some v ∧ us[i]? = some u ∧ RelV v u := by
  cases e : vs[i]? with
  | none => exact .inl ⟨rfl, r.none_of e⟩
  | some v => obtain ⟨u, h1, h2⟩ := r.get e; exact .inr ⟨v, u, rfl, h1, h2⟩
theorem gA_vals {vs ds zs : List V} {us its ws : List Value} (r1 : Vals vs us) (r2 : Vals ds its) (r3 : Vals zs ws) : ∀ src : List (Nat × Nat), Vals (gA src vs ds zs) (gA src us its ws)
  | [] => .nil
  | q :: src => by
    have ih := gA_vals r1 r2 r3 src
    have key : (pick vs ds zs q = none ∧ pick us its ws q = none) ∨ ∃ v u, pick vs ds zs q = some v ∧ pick us its ws q = some u ∧ RelV v u := by
      obtain ⟨a, i⟩ := q
      match a with
      | 0 => exact vals_opt r1 i
      | 1 => exact vals_opt r2 i
      | n + 2 => exact vals_opt r3 i
    unfold gA at ih ⊢
    rcases key with ⟨e1, e2⟩ | ⟨v, u, e1, e2, r⟩
    · rw [List.filterMap_cons, List.filterMap_cons, e1, e2]; exact ih
    · rw [List.filterMap_cons, List.filterMap_cons, e1, e2]; exact .cons r ih
/-- a default as a value -/
def dvD : He.Dv → Option D
  | .non => some .non
  | .bl b => some (.bl b)
  | .int i => some (.int i)
  | .str x => some (.str x)
  | _ => none
theorem dvD_rep {K : PySem.W.Frag} {H : Hp} {d : He.Dv} {x : D} (h : dvD d = some x) : RepV K H x (d.v K) := by
  cases d <;> first | (cases h; exact repV_non) | (cases h; exact repV_bl) | (cases h; exact repV_int) | (cases h; exact repV_str) | cases h
def arrC (n m : Nat) (dfl : List He.Dv) : List (Nat × Nat) → List (Nat ⊕ D) → Bool
  | [], [] => true
  | (0, i) :: s, .inl j :: r => decide (i = j) && decide (i < n) && arrC n m dfl s r
  | (1, i) :: s, .inr d :: r => (match dfl[i]? with
    | some v => (match dvD v with
      | some x => eqLR [.inr x] [.inr d]
      | none => false)
    | none => false) && arrC n m dfl s r
  | (2, i) :: s, .inl j :: r => decide (n + i = j) && decide (i < m) && arrC n m dfl s r
  | _, _ => false
theorem arr_ok {K : PySem.W.Frag} {H : Hp} {n m : Nat} {dfl : List He.Dv} {ds es : List D} {vs zs : List V} (rd : RepVs K H ds vs) (re : RepVs K H es zs) (l1 : ds.length = n) (l2 : es.length = m) : ∀ (src : List (Nat × Nat)) (arr : List (Nat ⊕ D)), arrC n m dfl src arr = true →
    RepVs K H (arrOf (ds ++ es) arr) (gA src vs (dfl.map (He.Dv.v K)) zs)
  | src, arr, h => by
    unfold arrC at h
    split at h
    · exact repVs_nil
    · rename_i i s j r
      simp only [Bool.and_eq_true, decide_eq_true_eq] at h
      obtain ⟨⟨rfl, hl⟩, h⟩ := h
      have ih := arr_ok rd re l1 l2 s r h
      have ed : ds[i]? = some ds[i] := List.getElem?_eq_getElem (by omega)
      obtain ⟨v, ev, rv⟩ := rd.get ed
      have e1 : gA ((0, i) :: s) vs (dfl.map (He.Dv.v K)) zs = v :: gA s vs (dfl.map (He.Dv.v K)) zs := by
        unfold gA
        rw [List.filterMap_cons, show pick vs (dfl.map (He.Dv.v K)) zs (0, i) = some v from ev]
      have e2 : (ds ++ es).getD i .non = ds[i] := by
        rw [List.getD_eq_getElem?_getD, List.getElem?_append_left (by omega), ed] <;> rfl
      rw [e1]
      show RepVs K H ((ds ++ es).getD i .non :: _) _
      rw [e2]
      exact repVs_cons rv ih
    · rename_i i s d r
      rw [Bool.and_eq_true] at h
      have ih := arr_ok rd re l1 l2 s r h.2
      have h1 := h.1
      split at h1
      · rename_i v ev
        split at h1
        · rename_i x ex
          have := eqLR_ok h1
          simp only [List.cons.injEq, Sum.inr.injEq, and_true] at this
          subst this
          have e1 : gA ((1, i) :: s) vs (dfl.map (He.Dv.v K)) zs = v.v K :: gA s vs (dfl.map (He.Dv.v K)) zs := by
            unfold gA
            rw [List.filterMap_cons, show pick vs (dfl.map (He.Dv.v K)) zs (1, i) = some (v.v K) from by show (dfl.map (He.Dv.v K))[i]? = _; rw [List.getElem?_map, ev] <;> rfl]
          rw [e1]
          exact repVs_cons (dvD_rep ex) ih
        · cases h1
      · cases h1
    · rename_i i s j r
      simp only [Bool.and_eq_true, decide_eq_true_eq] at h
      obtain ⟨⟨rfl, hl⟩, h⟩ := h
      have ih := arr_ok rd re l1 l2 s r h
      have ed : es[i]? = some es[i] := List.getElem?_eq_getElem (by omega)
      obtain ⟨v, ev, rv⟩ := re.get ed
      have e1 : gA ((2, i) :: s) vs (dfl.map (He.Dv.v K)) zs = v :: gA s vs (dfl.map (He.Dv.v K)) zs := by
        unfold gA
        rw [List.filterMap_cons, show pick vs (dfl.map (He.Dv.v K)) zs (2, i) = some v from ev]
      have e2 : (ds ++ es).getD (n + i) .non = es[i] := by
        rw [List.getD_eq_getElem?_getD, List.getElem?_append_right (by omega), show n + i - ds.length = i from by omega, ed] <;> rfl
      rw [e1]
      show RepVs K H ((ds ++ es).getD (n + i) .non :: _) _
      rw [e2]
      exact repVs_cons rv ih
    · cases h
/-- a pattern's facts, of whatever heap -/
def PB (rows : List Row) (r : Row) (d : He.DefD) (p : Pat) : Prop := rows[p.f]? = some r ∧ ∀ (K : PySem.W.Frag) (a : Addr) (fd : FuncData), FunD K r.x r.qual r.params r.body r.sc (d.dvs K) (d.kws K) a fd → ∃ (g : List Value → List Value → List Value) (gV : List V → List V → List V), KBn K fd r.ps p.n p.ks g gV ∧
  ∀ H ds vs es zs, RepVs K H ds vs → RepVs K H es zs → ds.length = p.n → es.length = p.ks.length → RepVs K H (arrOf (ds ++ es) p.arr) (gV vs zs)
/-- every parameter is written, there are no defaults -/
theorem pb_plain {rows : List Row} {r : Row} {d : He.DefD} {p : Pat} (h0 : rows[p.f]? = some r) (hd : d.dfl = []) (hk : p.ks = []) (hn : p.n = r.ps.length) (ha : idArr 0 p.arr p.n = true)
    (h : ∀ (kV doc pm : Value) (an : Option Addr) (cdv ct : Value) (us : List Value), us.length = r.ps.length → bindArgs (PySem.W.fnOf r.x r.qual r.params r.body r.sc .none kV doc pm an cdv ct) ⟨us, []⟩ = pure (r.ps.zip us)) : PB rows r d p := ⟨h0, fun K a fd F => by
  have e : d.dvs K = [] := by unfold He.DefD.dvs; rw [hd] <;> rfl
  rw [e] at F
  have b := F.bindsN (ps := r.ps) h
  refine ⟨fun us _ => us, fun vs _ => vs, ⟨fun s us ws X l1 l2 => ?_, fun r1 _ => r1⟩, fun H ds vs es zs rd re l1 l2 => ?_⟩
  · have q := b s us X (by rw [List.append_nil, l1, hn])
    rw [List.append_nil] at q
    rw [hk]
    exact q
  · have z : es = [] := List.eq_nil_of_length_eq_zero (by rw [l2, hk]; rfl)
    rw [z, List.append_nil, idArr_ok (i := 0) (n := p.n) (ds := ds) ha (by omega)]
    exact rd⟩
theorem pb_dfl {rows : List Row} {r : Row} {d : He.DefD} {p : Pat} (src : List (Nat × Nat)) (h0 : rows[p.f]? = some r) (hd : d.dfl ≠ []) (ha : arrC p.n p.ks.length d.dfl src p.arr = true)
    (h : ∀ (T : Addr) (kV doc pm : Value) (an : Option Addr) (cdv ct : Value) (us its ws : List Value), us.length = p.n → its.length = d.dfl.length → ws.length = p.ks.length →
      ∃ k, bindArgs (PySem.W.fnOf r.x r.qual r.params r.body r.sc (.ref T) kV doc pm an cdv ct) ⟨us, p.ks.zip ws⟩ = seqItems? (.ref T) >>= k ∧ k (some its.toArray) = pure (r.ps.zip (gA src us its ws))) : PB rows r d p := ⟨h0, fun K a fd F => by
  have e : d.dvs K ≠ [] := by unfold He.DefD.dvs; exact fun z => hd (List.map_eq_nil_iff.mp z)
  have el : (d.dvs K).length = d.dfl.length := by unfold He.DefD.dvs; rw [List.length_map]
  obtain ⟨its, kb⟩ := F.kbindsD (ps := r.ps) p.n p.ks (gA src) e (fun r1 r2 r3 => gA_vals r1 r2 r3 src) (fun T kV doc pm an cdv ct us its ws l1 l2 l3 => h T kV doc pm an cdv ct us its ws l1 (l2.trans el) l3)
  exact ⟨_, _, kb, fun H ds vs es zs rd re l1 l2 => arr_ok rd re l1 l2 src p.arr ha⟩⟩

/-! ### the facts, from what the Hook says -/
def faOf (names cF : List Str) (cI : List (Str × Int)) (cS : List (Str × Str)) : List He.Fa := names.map .glo ++ (cF.map .free ++ (cI.map (fun p => .int p.1 p.2) ++ cS.map fun p => .str p.1 p.2))
/-- one pattern, all that is seen of it -/
structure PC' (fn : List He.DefD) (names : List Str) (rows : List Row) (p : Pat) : Prop where
  ex : ∃ d r, fn[p.f]? = some d ∧ p.x ∈ names ∧ d.at_ = (p.x, none) ∧ r.x = d.name ∧ r.qual = d.qual ∧ r.params = d.params ∧ r.body = d.body ∧ r.sc = d.scope ∧ PB rows r d p
theorem all_nil {α : Type} {P : α → Prop} : ∀ x ∈ ([] : List α), P x := fun _ h => nomatch h
theorem all_cons {α : Type} {P : α → Prop} {a : α} {l : List α} (h : P a) (t : ∀ x ∈ l, P x) : ∀ x ∈ a :: l, P x := fun x hx => by
  rcases List.mem_cons.mp hx with rfl | hx
  · exact h
  · exact t x hx
theorem facts_ok {names : List Str} {fn : List He.DefD} {K : PySem.W.Frag} {h : Heap} {mg : Str → Option Value} {c : Ctx} {rows : List Row} (X : K.In h) (Gd : h.Ns mainGlobals mg) (says : He.SaysD (faOf names c.cF c.cI c.cS) fn K)
    (hP : ∀ p ∈ c.pats, PC' fn names rows p) : Facts K mg c rows := by
  have fact : ∀ f : He.Fa, f ∈ faOf names c.cF c.cI c.cS → f.ok K = true := fun f hf => by
    obtain ⟨i, hi⟩ := List.getElem?_of_mem hf
    exact says.fact i hi
  unfold faOf at fact
  refine ⟨fun x hx => He.free_ok X Gd (fact _ ?_), fun p hp => ?_, fun p hp => ?_, fun p hp => ?_⟩
  · exact List.mem_append_right _ (List.mem_append_left _ (List.mem_map.mpr ⟨x, hx, rfl⟩))
  · obtain ⟨t, e⟩ := He.int_ok X Gd (fact (.int p.1 p.2) (List.mem_append_right _ (List.mem_append_right _ (List.mem_append_left _ (List.mem_map.mpr ⟨p, hp, rfl⟩)))))
    exact ⟨_, e, t, rfl⟩
  · obtain ⟨t, e⟩ := He.str_ok X Gd (fact (.str p.1 p.2) (List.mem_append_right _ (List.mem_append_right _ (List.mem_append_right _ (List.mem_map.mpr ⟨p, hp, rfl⟩)))))
    exact ⟨_, e, t, rfl⟩
  · obtain ⟨d, r, e1, e2, e3, q1, q2, q3, q4, q5, pb⟩ := (hP p hp).ex
    obtain ⟨fd, F⟩ := says.def_ p.f e1
    rw [← q1, ← q2, ← q3, ← q4, ← q5] at F
    obtain ⟨h0, kb⟩ := pb
    obtain ⟨g, gV, k1, k2⟩ := kb K _ fd F
    refine ⟨r, He.fAd K d.at_, fd, d.dvs K, d.kws K, g, gV, h0, ?_, F, k1, k2⟩
    rw [e3]
    exact He.glo_ok X Gd (fact (.glo p.x) (List.mem_append_left _ (List.mem_map.mpr ⟨_, e2, rfl⟩)))
end DL
set_option Elab.async false
set_option linter.all false
set_option maxRecDepth 100000
set_option maxHeartbeats 4000000
/-! The D layer, exceptions 5: own classes of exceptions, from what a fragment shows. -/
namespace DL
open PySem PySem.Spec PyProof.Rows L2

/-- what they stand on -/
inductive Bs where
  | val | ari | run | idx | lok
def Bs.nm : Bs → String
  | .val => "ValueError" | .ari => "ArithmeticError" | .run => "RuntimeError" | .idx => "IndexError" | .lok => "LookupError"
def Bs.nI : Bs → String
  | .val => "ValueError.__new__" | .ari => "ArithmeticError.__new__" | .run => "RuntimeError.__new__" | .idx => "IndexError.__new__" | .lok => "LookupError.__new__"
def Bs.iI : Bs → String
  | .val => "ValueError.__init__" | .ari => "ArithmeticError.__init__" | .run => "RuntimeError.__init__" | .idx => "IndexError.__init__" | .lok => "LookupError.__init__"
def Bs.bm : Bs → List Value
  | .val => [.type "ValueError", .type "Exception", .type "BaseException", .type "object"]
  | .ari => [.type "ArithmeticError", .type "Exception", .type "BaseException", .type "object"]
  | .run => [.type "RuntimeError", .type "Exception", .type "BaseException", .type "object"]
  | .idx => [.type "IndexError", .type "LookupError", .type "Exception", .type "BaseException", .type "object"]
  | .lok => [.type "LookupError", .type "Exception", .type "BaseException", .type "object"]
theorem Bs.fb : ∀ b : Bs, ExcBaseFacts b.nm b.nI b.iI b.bm
  | .val => PySem.F.excBase_ValueError
  | .ari => PySem.F.excBase_ArithmeticError
  | .run => PySem.F.excBase_RuntimeError
  | .idx => PySem.F.excBase_IndexError
  | .lok => PySem.F.excBase_LookupError
theorem Bs.sf : ∀ b : Bs, StoreFacts b.nm b.bm "object.__setattr__" "object"
  | .val => PySem.F.store_ValueError
  | .ari => PySem.F.store_ArithmeticError
  | .run => PySem.F.store_RuntimeError
  | .idx => PySem.F.store_IndexError
  | .lok => PySem.F.store_LookupError
/-- a class: its name, what it notes, under which name its __init__ takes it -/
structure Xd where
  x : Str
  f : Str
  b : Bs
  pn : Str
def grOf (ds : List Xd) (K : PySem.W.Frag) : Gr := ⟨K, fun c => He.ga K ((ds.map Xd.x).getD c ""), ds.length⟩
def xesOf (ds : List Xd) : List Xe := ds.zipIdx.map fun q => ⟨q.1.x, q.2, q.1.f⟩
def oneB (K : PySem.W.Frag) (C : Addr) (d : Xd) : Bool :=
  PySem.W.excInitIn K C d.b.bm d.b.nI && (PySem.W.excOver K C d.b.bm && (PySem.W.hasDictIn K C && (He.eqO (PySem.W.findIn K (.ref C) "__setattr__") (some (some (.builtin "object.__setattr__"))) &&
  (decide (PySem.W.subIn K (.ref C) (.type "BaseException") = some true) && (decide (PySem.W.typeIn K (.ref C) = some (.type "type")) && (PySem.W.keepIn K (.ref C) &&
  (He.eqO (PySem.W.findIn K (.ref C) "__init__") (some (some (.ref (He.ma K C "__init__")))) && (decide (PySem.W.typeIn K (.ref (He.ma K C "__init__")) = some (.type "function")) && (decide (PySem.W.takerIn K C d.f = some none) &&
  (xfB K C && (He.eqO (PySem.W.findIn K (.ref C) d.f) (some none) && ((PySem.W.clsIn K C).isSome && (He.eqO (PySem.W.findIn K (.ref C) "__class__") (some (some (.builtin "object.__class__"))) &&
  (He.eqO (PySem.W.specialIn K (.builtin "object.__class__") "__get__") (some (some (.builtin "getset_descriptor.__get__"))) && (decide (PySem.W.takesIn K (.builtin "object.__class__") = some true) && decide (PySem.W.mroIn K C (.type "object") = some true))))))))))))))))
def xsB (ds : List Xd) (xi : List (Nat × List CN × Bool)) (K : PySem.W.Frag) : Bool :=
  (ds.all fun d => (He.Fa.glo d.x).ok K && oneB K (He.ga K d.x) d) &&
  ((ds.zipIdx.all fun q => ds.zipIdx.all fun p => decide (PySem.W.exmOne K (.ref (He.ga K q.1.x)) (.ref (He.ga K p.1.x)) = some (decide (q.2 = p.2)))) &&
  (xi.all fun q => decide (PySem.W.kitAny K (.ref ((grOf ds K).cl q.1)) (q.2.1.map (cnV (grOf ds K))) = some q.2.2)))
/-- the def of its __init__, as the text has it -/
structure XD (fn : List He.DefD) (d : Xd) : Prop where
  ex : ∃ (j : Nat) (de : He.DefD) (p1 p2 p3 p4 : Pos), fn[j]? = some de ∧ de.at_ = (d.x, some ("__init__" : Str)) ∧ de.name = "__init__" ∧ de.dfl = [] ∧ de.body = [.Assign [.Attribute (.Name "self" p1) d.f p2] (.Name d.pn p3) p4] ∧ FnScope ["self", d.pn] ["self", d.pn] de.scope ∧
    de.scope.names.lookup ("self" : Str) = some NameKind.local ∧ de.scope.names.lookup d.pn = some NameKind.local ∧ (d.pn == ("__debug__" : Str)) = false ∧ (d.pn == ("__classdict__" : Str)) = false ∧
    ∀ (kV doc pm : Value) (an : Option Addr) (cdv ct : Value) (us : List Value), us.length = 2 → bindArgs (PySem.W.fnOf de.name de.qual de.params de.body de.scope .none kV doc pm an cdv ct) ⟨us, []⟩ = pure ((["self", d.pn] : List Str).zip us)
theorem at_zip {α : Type} {l : List α} {q : α × Nat} (h : q ∈ l.zipIdx) : l[q.2]? = some q.1 := by
  have := List.mem_zipIdx' (x := q.1) (i := q.2) (xs := l) h
  exact (List.getElem?_eq_getElem this.1).trans (congrArg some this.2.symm)
theorem zip_at {α : Type} {l : List α} {i : Nat} {x : α} (h : l[i]? = some x) : (x, i) ∈ l.zipIdx := by
  refine List.mem_iff_getElem?.mpr ⟨i, ?_⟩
  rw [List.getElem?_zipIdx, h]
  simp
theorem cl_at {ds : List Xd} {K : PySem.W.Frag} {i : Nat} {d : Xd} (h : ds[i]? = some d) : (grOf ds K).cl i = He.ga K d.x := by
  show He.ga K ((ds.map Xd.x).getD i "") = _
  rw [List.getD_eq_getElem?_getD, List.getElem?_map, h] <;> rfl
theorem xfacts_ok {ds : List Xd} {xi : List (Nat × List CN × Bool)} {fn : List He.DefD} {fa : List He.Fa} {K : PySem.W.Frag} {h : Heap} {mg : Str → Option Value} (X : K.In h) (Gd : h.Ns mainGlobals mg) (says : He.SaysD fa fn K) (hx : xsB ds xi K = true) (hd : ∀ d ∈ ds, XD fn d) :
    (∀ p ∈ xesOf ds, XFact (grOf ds K) mg p) ∧ ∀ q ∈ xi, PySem.W.kitAny K (.ref ((grOf ds K).cl q.1)) (q.2.1.map (cnV (grOf ds K))) = some q.2.2 := by
  obtain ⟨hx1, hx⟩ := He.ba hx
  obtain ⟨hx2, hx3⟩ := He.ba hx
  rw [List.all_eq_true] at hx1 hx2 hx3
  refine ⟨fun p hp => ?_, fun q hq => of_decide_eq_true (hx3 q hq)⟩
  obtain ⟨⟨d, i⟩, hm, rfl⟩ := List.mem_map.mp hp
  have hi : ds[i]? = some d := at_zip hm
  have dm : d ∈ ds := List.mem_of_getElem? hi
  have il : i < ds.length := (List.getElem?_eq_some_iff.mp hi).1
  have ec := cl_at (K := K) hi
  obtain ⟨g0, o⟩ := He.ba (hx1 d dm)
  obtain ⟨o1, o⟩ := He.ba o
  obtain ⟨o2, o⟩ := He.ba o
  obtain ⟨o3, o⟩ := He.ba o
  obtain ⟨o4, o⟩ := He.ba o
  obtain ⟨o5, o⟩ := He.ba o
  obtain ⟨o6, o⟩ := He.ba o
  obtain ⟨o7, o⟩ := He.ba o
  obtain ⟨o8, o⟩ := He.ba o
  obtain ⟨o9, o⟩ := He.ba o
  obtain ⟨o10, o⟩ := He.ba o
  obtain ⟨o11, o⟩ := He.ba o
  obtain ⟨o12, o⟩ := He.ba o
  obtain ⟨o13, o⟩ := He.ba o
  obtain ⟨o14, o⟩ := He.ba o
  obtain ⟨o15, o⟩ := He.ba o
  obtain ⟨o16, o17⟩ := He.ba o
  obtain ⟨j, de, p1, p2, p3, p4, e1, e2, e3, e4, e5, S, l1, l2, d1, d2, hb⟩ := (hd d dm).ex
  obtain ⟨fd, F⟩ := says.def_ j e1
  have ef : He.fAd K de.at_ = He.ma K (He.ga K d.x) "__init__" := by rw [e2] <;> rfl
  have ev : de.dvs K = [] := by unfold He.DefD.dvs; rw [e4] <;> rfl
  rw [ev] at F
  have B : Binds K fd ["self", d.pn] [] := F.bindsN hb
  rw [ef, e3, e5] at F
  have key : ∀ {P : Addr → Prop}, P (He.ga K d.x) → P ((grOf ds K).cl i) := fun {P} q => by rw [ec]; exact q
  refine ⟨il, key (P := fun C => mg d.x = some (.ref C)) (He.glo_ok X Gd g0), ?_, fun c' hc' => ?_, ?_, ?_, ?_⟩
  · refine ⟨d.b.nm, d.b.nI, d.b.iI, d.b.bm, He.ma K (He.ga K d.x) "__init__", fd, de.qual, d.pn, de.params, de.scope, de.kws K, p1, p2, p3, p4, ?_, ?_, of_decide_eq_true o9, ?_, F, S, l1, l2, d1, d2, B⟩
    · exact key ⟨d.b.fb, d.b.sf, o1, o2, o3, He.eqO_ok o4, of_decide_eq_true o5, of_decide_eq_true o6, o7⟩
    · exact key (P := fun C => PySem.W.findIn K (.ref C) "__init__" = _) (He.eqO_ok o8)
    · exact key (P := fun C => PySem.W.takerIn K C d.f = _) (of_decide_eq_true o10)
  · obtain ⟨d', hd'⟩ : ∃ d', ds[c']? = some d' := ⟨ds[c'], List.getElem?_eq_getElem hc'⟩
    have z := of_decide_eq_true (List.all_eq_true.mp (hx2 (d', c') (zip_at hd')) (d, i) (zip_at hi))
    rw [cl_at hd', ec]
    exact z
  · exact key (xfB_ok o11)
  · exact key (P := fun C => PySem.W.findIn K (.ref C) d.f = _) (He.eqO_ok o12)
  · exact key ⟨o13, He.eqO_ok o14, He.eqO_ok o15, of_decide_eq_true o16, of_decide_eq_true o17⟩
end DL
set_option Elab.async false
set_option linter.all false
set_option maxRecDepth 100000
set_option maxHeartbeats 1000000
/-! The D layer's rules for proofs, 1. -/
namespace DL
open PySem L2
section
variable {Φ : Fns} {E : DX} {σ : DS} {h : MH} {Q : D → MH → Prop} {P : Bool → MH → Prop}
@[simp] theorem wpE_var {i : Nat} : wpE Φ E (.var i) σ h Q = ∃ d, σ[i]? = some (some d) ∧ Q d h := rfl
@[simp] theorem wpE_cst {d : D} : wpE Φ E (.cst d) σ h Q = Q d h := rfl
@[simp] theorem wpE_bin {op : Operator} {a b : Ex} : wpE Φ E (.bin op a b) σ h Q = wpE Φ E a σ h fun x h1 => wpE Φ E b σ h1 fun y h2 => bop op x y h2 Q := rfl
def negD (x : D) (h : MH) (Q : D → MH → Prop) : Prop := match x with
  | .int i => Q (.int (-i)) h
  | _ => False
@[simp] theorem negD_int {i : Int} : negD (.int i) h Q = Q (.int (-i)) h := rfl
@[simp] theorem wpE_neg {a : Ex} : wpE Φ E (.neg a) σ h Q = wpE Φ E a σ h fun x h1 => negD x h1 Q := rfl
@[simp] theorem wpE_not {a : Ex} : wpE Φ E (.not a) σ h Q = wpE Φ E a σ h fun x h1 => tru x h1 fun k => Q (.bl (!k)) h1 := rfl
@[simp] theorem wpE_and {a b : Ex} : wpE Φ E (.and a b) σ h Q = wpE Φ E a σ h fun x h1 => tru x h1 fun k => if k = true then wpE Φ E b σ h1 Q else Q x h1 := rfl
@[simp] theorem wpE_or {a b : Ex} : wpE Φ E (.or a b) σ h Q = wpE Φ E a σ h fun x h1 => tru x h1 fun k => if k = true then Q x h1 else wpE Φ E b σ h1 Q := rfl
@[simp] theorem wpE_ite {c : Te} {a b : Ex} : wpE Φ E (.ite c a b) σ h Q = wpT Φ E c σ h fun k h1 => if k = true then wpE Φ E a σ h1 Q else wpE Φ E b σ h1 Q := rfl
@[simp] theorem wpE_cmp {op : CmpOp} {a b : Ex} : wpE Φ E (.cmp op a b) σ h Q = wpE Φ E a σ h fun x h1 => wpE Φ E b σ h1 fun y h2 => cop op x y h2 fun k => Q (.bl k) h2 := rfl
@[simp] theorem wpE_chn {op op' : CmpOp} {a b c : Ex} : wpE Φ E (.chn op op' a b c) σ h Q = wpE Φ E a σ h fun x h1 => wpE Φ E b σ h1 fun y h2 => cop op x y h2 fun k =>
      if k = true then wpE Φ E c σ h2 fun z h3 => cop op' y z h3 fun k' => Q (.bl k') h3 else Q (.bl false) h2 := rfl
@[simp] theorem wpE_tup {es : List Ex} : wpE Φ E (.tup es) σ h Q = wpEs Φ E es σ h fun ds h1 => Fits ds.length ∧ Q (.tup ds) h1 := rfl
@[simp] theorem wpE_lst {es : List Ex} : wpE Φ E (.lst es) σ h Q = wpEs Φ E es σ h fun ds h1 => Fits ds.length ∧ al (.lst ds) h1 Q := rfl
@[simp] theorem wpE_dsp {ks : List Str} {es : List Ex} : wpE Φ E (.dsp ks es) σ h Q = wpEs Φ E es σ h fun ds h1 => al (.dct ((ks.map Sum.inr).zip ds)) h1 Q := rfl
@[simp] theorem wpE_ix {a i : Ex} : wpE Φ E (.ix a i) σ h Q = wpE Φ E a σ h fun x h1 => wpE Φ E i σ h1 fun y h2 => ixD x y h2 Q := rfl
@[simp] theorem wpE_sl {a : Ex} {lo hi : Option Ex} : wpE Φ E (.sl a lo hi) σ h Q = wpE Φ E a σ h fun x h1 => wpO Φ E lo σ h1 fun l h2 => wpO Φ E hi σ h2 fun u h3 => slD x l u h3 Q := rfl
@[simp] theorem wpE_call {f : Nat} {es : List Ex} : wpE Φ E (.call f es) σ h Q = wpEs Φ E es σ h fun ds h1 => ds.length = es.length ∧ Φ f ds h1 Q E := rfl
@[simp] theorem wpE_callk {f : Nat} {es kes : List Ex} {arr : List (Nat ⊕ D)} : wpE Φ E (.callk f es kes arr) σ h Q = wpEs Φ E es σ h fun ds h1 => wpEs Φ E kes σ h1 fun ks h2 => (ds.length = es.length ∧ ks.length = kes.length) ∧ Φ f (arrOf (ds ++ ks) arr) h2 Q E := rfl
@[simp] theorem wpE_bi {b : Bi} {es : List Ex} : wpE Φ E (.bi b es) σ h Q = wpEs Φ E es σ h fun ds h1 => bi b ds h1 Q := rfl
@[simp] theorem wpE_isi {a : Ex} {ts : List Ty} : wpE Φ E (.isi a ts) σ h Q = wpE Φ E a σ h fun x h1 => isTys x h1 ts fun k => Q (.bl k) h1 := rfl
@[simp] theorem wpE_met {m : Mt} {o : Ex} {es : List Ex} : wpE Φ E (.met m o es) σ h Q = wpE Φ E o σ h fun x h1 => mtTy m x h1 ∧ wpEs Φ E es σ h1 fun ds h2 => met m x ds h2 Q := rfl
@[simp] theorem wpE_lc {el : Ex} {t : Tg} {it : It'} {cd : Option Te} {vs : List Nat} : wpE Φ E (.lc el t it cd vs) σ h Q = wpI Φ E it σ h fun J h1 => lcGo t J.ok (wpC Φ cd) (wpE Φ (fun _ _ _ => False) el) (wipeD σ vs) (fun acc h2 => al (.lst acc) h2 Q) J.its [] h1 := rfl
@[simp] theorem wpE_lc2 {el : Ex} {t : Tg} {it : It'} {cd : Option Te} {t1 : Tg} {it1 : It'} {cd1 : Option Te} {vs vs1 : List Nat} : wpE Φ E (.lc2 el t it cd t1 it1 cd1 vs vs1) σ h Q = wpI Φ E it σ h fun J h1 =>
      lcGo2 t J.ok (wpC Φ cd) (fun σ1 acc h2 K => wpI Φ (fun _ _ _ => False) it1 σ1 h2 fun J1 h3 => lcGo t1 J1.ok (wpC Φ cd1) (wpE Φ (fun _ _ _ => False) el) (wipeD σ1 vs1) K J1.its acc h3)
        (wipeD σ vs) (fun acc h2 => al (.lst acc) h2 Q) J.its [] h1 := rfl
@[simp] theorem wpT_not {a : Te} : wpT Φ E (.not a) σ h P = wpT Φ E a σ h fun k h1 => P (!k) h1 := rfl
@[simp] theorem wpT_and {a b : Te} : wpT Φ E (.and a b) σ h P = wpT Φ E a σ h fun k h1 => if k = true then wpT Φ E b σ h1 P else P false h1 := rfl
@[simp] theorem wpT_or {a b : Te} : wpT Φ E (.or a b) σ h P = wpT Φ E a σ h fun k h1 => if k = true then P true h1 else wpT Φ E b σ h1 P := rfl
@[simp] theorem wpT_cmp {op : CmpOp} {a b : Ex} : wpT Φ E (.cmp op a b) σ h P = wpE Φ E a σ h fun x h1 => wpE Φ E b σ h1 fun y h2 => cop op x y h2 fun k => P k h2 := rfl
@[simp] theorem wpT_chn {op op' : CmpOp} {a b c : Ex} : wpT Φ E (.chn op op' a b c) σ h P = wpE Φ E a σ h fun x h1 => wpE Φ E b σ h1 fun y h2 => cop op x y h2 fun k =>
      if k = true then wpE Φ E c σ h2 fun z h3 => cop op' y z h3 fun k' => P k' h3 else P false h2 := rfl
@[simp] theorem wpT_val {e : Ex} : wpT Φ E (.val e) σ h P = wpE Φ E e σ h fun x h1 => tru x h1 fun k => P k h1 := rfl
@[simp] theorem wpEs_nil {R : List D → MH → Prop} : wpEs Φ E [] σ h R = R [] h := rfl
@[simp] theorem wpEs_cons {e : Ex} {r : List Ex} {R : List D → MH → Prop} : wpEs Φ E (e :: r) σ h R = wpE Φ E e σ h fun x h1 => wpEs Φ E r σ h1 fun xs h2 => R (x :: xs) h2 := rfl
@[simp] theorem wpO_none {R : Option Int → MH → Prop} : wpO Φ E none σ h R = R none h := rfl
def intD (x : D) (h : MH) (R : Option Int → MH → Prop) : Prop := match x with
  | .int i => R (some i) h
  | _ => False
@[simp] theorem intD_int {i : Int} {R : Option Int → MH → Prop} : intD (.int i) h R = R (some i) h := rfl
@[simp] theorem wpO_some {e : Ex} {R : Option Int → MH → Prop} : wpO Φ E (some e) σ h R = wpE Φ E e σ h fun x h1 => intD x h1 R := rfl
@[simp] theorem wpC_none : wpC Φ none σ h P = P true h := rfl
@[simp] theorem wpC_some {t : Te} : wpC Φ (some t) σ h P = wpT Φ (fun _ _ _ => False) t σ h P := rfl
@[simp] theorem wpI_of {e : Ex} {R : ItV → MH → Prop} : wpI Φ E (.of e) σ h R = wpE Φ E e σ h fun x h1 => walkD x h1 fun J => R J h1 := rfl
@[simp] theorem wpI_rng {es : List Ex} {R : ItV → MH → Prop} : wpI Φ E (.rng es) σ h R = wpEs Φ E es σ h fun ds h1 => rngD ds fun J => R J h1 := rfl
@[simp] theorem wpI_zip {a b : Ex} {R : ItV → MH → Prop} : wpI Φ E (.zip a b) σ h R = wpE Φ E a σ h fun x h1 => wpE Φ E b σ h1 fun y h2 => zipD x y h2 fun J => R J h2 := rfl
@[simp] theorem wpI_enm {e : Ex} {R : ItV → MH → Prop} : wpI Φ E (.enm e) σ h R = wpE Φ E e σ h fun x h1 => enmD x h1 fun J => R J h1 := rfl
@[simp] theorem wpI_rev {e : Ex} {R : ItV → MH → Prop} : wpI Φ E (.rev e) σ h R = wpE Φ E e σ h fun x h1 => revD x h1 fun J => R J h1 := rfl
variable {F : DS → DX} {S : DS → MH → Prop}
@[simp] theorem wpLv_nm {i : Nat} {d : D} : wpLv Φ F (.nm i) d σ h S = S (σ.set i (some d)) h := rfl
@[simp] theorem wpLv_sub {o i : Ex} {d : D} : wpLv Φ F (.sub o i) d σ h S = wpE Φ (F σ) o σ h fun x h1 => wpE Φ (F σ) i σ h1 fun k h2 => setD x k d h2 fun h3 => S σ h3 := rfl
@[simp] theorem wpLv_tup {ls : List Lv} {ds : List D} : wpLv Φ F (.tup ls) (.tup ds) σ h S = (ds.length = ls.length ∧ wpLvs Φ F ls ds σ h S) := rfl
@[simp] theorem wpLv_starT {is : List Nat} {r : Nat} {ds : List D} : wpLv Φ F (.star is r) (.tup ds) σ h S = ((is.length ≤ ds.length ∧ ds.length ≤ 16000) ∧ ∀ p, h p = none → S ((setAll σ is (ds.take is.length)).set r (some (.ref p))) (up h p (.lst (ds.drop is.length)))) := rfl
@[simp] theorem wpLv_starL {is : List Nat} {r : Nat} {a : Addr} : wpLv Φ F (.star is r) (.ref a) σ h S = ∃ ds, h a = some (.lst ds) ∧ (is.length ≤ ds.length ∧ ds.length ≤ 16000) ∧ ∀ p, h p = none → S ((setAll σ is (ds.take is.length)).set r (some (.ref p))) (up h p (.lst (ds.drop is.length))) := rfl
@[simp] theorem wpLvs_nil : wpLvs Φ F [] [] σ h S = S σ h := rfl
@[simp] theorem wpLvs_cons {l : Lv} {ls : List Lv} {d : D} {ds : List D} : wpLvs Φ F (l :: ls) (d :: ds) σ h S = wpLv Φ F l d σ h fun σ1 h1 => wpLvs Φ F ls ds σ1 h1 S := rfl
variable {Dn : En}
@[simp] theorem wpS_asg {l : Lv} {e : Ex} : wpS Φ (.asg l e) Dn σ h = wpE Φ (exAt Dn σ) e σ h fun d h1 => wpLv Φ (exAt Dn) l d σ h1 Dn.nx := rfl
@[simp] theorem wpS_aug {i : Nat} {op : Operator} {e : Ex} : wpS Φ (.aug i op e) Dn σ h = ∃ x, σ[i]? = some (some x) ∧ wpE Φ (exAt Dn σ) e σ h fun y h1 => augD op x y h1 fun z h2 => Dn.nx (σ.set i (some z)) h2 := rfl
@[simp] theorem wpS_ex {e : Ex} : wpS Φ (.ex e) Dn σ h = wpE Φ (exAt Dn σ) e σ h fun _ h1 => Dn.nx σ h1 := rfl
@[simp] theorem wpS_ret {e : Ex} : wpS Φ (.ret e) Dn σ h = wpE Φ (exAt Dn σ) e σ h Dn.rt := rfl
@[simp] theorem wpS_retN : wpS Φ .retN Dn σ h = Dn.rt .non h := rfl
@[simp] theorem wpS_ifs {c : Te} {a b : List Sm} : wpS Φ (.ifs c a b) Dn σ h = wpT Φ (exAt Dn σ) c σ h fun k h1 => if k = true then wpB Φ a Dn σ h1 else wpB Φ b Dn σ h1 := rfl
@[simp] theorem wpS_for {t : Tg} {it : It'} {b : List Sm} : wpS Φ (.for t it b) Dn σ h = wpI Φ (exAt Dn σ) it σ h fun J h1 => forGo t J.ok (wpB Φ b) Dn J.its σ h1 := rfl
@[simp] theorem wpS_whl {c : Te} {b : List Sm} : wpS Φ (.whl c b) Dn σ h = whlGo (fun σ h P => wpT Φ (exAt Dn σ) c σ h P) (wpB Φ b) Dn σ h := rfl
@[simp] theorem wpS_brk : wpS Φ .brk Dn σ h = Dn.bk σ h := rfl
@[simp] theorem wpS_cnt : wpS Φ .cnt Dn σ h = Dn.ct σ h := rfl
@[simp] theorem wpS_pas : wpS Φ .pas Dn σ h = Dn.nx σ h := rfl
@[simp] theorem wpS_rai {c : Nat} {f : Str} {e : Ex} : wpS Φ (.rai c f e) Dn σ h = wpE Φ (exAt Dn σ) e σ h fun d h1 => Dn.ex c [(f, d)] σ h1 := rfl
@[simp] theorem wpS_try {b : List Sm} {c i : Nat} {s : List Hs} : wpS Φ (.try b c i s) Dn σ h = wpB Φ b { Dn with ex := fun c' fs σ' h' => if c' = c then (i < σ'.length ∧ fs ≠ []) ∧ wpHs fs s { Dn with nx := fun σ1 h1 => Dn.nx (σ1.set i none) h1, bk := fun σ1 h1 => Dn.bk (σ1.set i none) h1, ct := fun σ1 h1 => Dn.ct (σ1.set i none) h1 } (σ'.set i none) h' else Dn.ex c' fs σ' h' } σ h := rfl
section
variable {fs : List (Str × D)}
@[simp] theorem wpX_cst {d : D} : wpX fs E (.cst d) σ h Q = Q d h := rfl
@[simp] theorem wpX_var {i : Nat} : wpX fs E (.var i) σ h Q = ∃ d, σ[i]? = some (some d) ∧ Q d h := rfl
@[simp] theorem wpX_fld {f : Str} : wpX fs E (.fld f) σ h Q = ((∀ c h', E c [] h') ∧ ∃ d, fs.lookup f = some d ∧ Q d h) := rfl
@[simp] theorem wpX_isi {cs : List CN} {b : Bool} : wpX fs E (.isi cs b) σ h Q = ((∀ c h', E c [] h') ∧ Q (.bl b) h) := rfl
@[simp] theorem wpX_tup {es : List Hx} : wpX fs E (.tup es) σ h Q = wpXs fs E es σ h fun ds h1 => Fits ds.length ∧ Q (.tup ds) h1 := rfl
@[simp] theorem wpX_and {a b : Hx} : wpX fs E (.and a b) σ h Q = wpX fs E a σ h fun x h1 => tru x h1 fun k => if k = true then wpX fs E b σ h1 Q else Q x h1 := rfl
@[simp] theorem wpX_not {a : Hx} : wpX fs E (.not a) σ h Q = wpX fs E a σ h fun x h1 => tru x h1 fun k => Q (.bl (!k)) h1 := rfl
@[simp] theorem wpX_cmp {op : CmpOp} {a b : Hx} : wpX fs E (.cmp op a b) σ h Q = wpX fs E a σ h fun x h1 => wpX fs E b σ h1 fun y h2 => cop op x y h2 fun k => Q (.bl k) h2 := rfl
@[simp] theorem wpXs_nil {R : List D → MH → Prop} : wpXs fs E [] σ h R = R [] h := rfl
@[simp] theorem wpXs_cons {e : Hx} {r : List Hx} {R : List D → MH → Prop} : wpXs fs E (e :: r) σ h R = wpX fs E e σ h fun x h1 => wpXs fs E r σ h1 fun xs h2 => R (x :: xs) h2 := rfl
@[simp] theorem wpHs_nil {Dn : En} : wpHs fs [] Dn σ h = Dn.nx σ h := rfl
@[simp] theorem wpHs_asg {i : Nat} {e : Hx} {r : List Hs} {Dn : En} : wpHs fs (.asg i e :: r) Dn σ h = wpX fs (fun _ _ _ => True) e σ h fun d h1 => wpHs fs r Dn (σ.set i (some d)) h1 := rfl
@[simp] theorem wpHs_ret {e : Hx} {r : List Hs} {Dn : En} : wpHs fs (.ret e :: r) Dn σ h = wpX fs (fun _ _ _ => True) e σ h Dn.rt := rfl
end
@[simp] theorem wpB_nil : wpB Φ [] Dn σ h = Dn.nx σ h := rfl
/-- one statement, then the rest (not for simp) -/
theorem wpB_cons {s : Sm} {r : List Sm} : wpB Φ (s :: r) Dn σ h = wpS Φ s { Dn with nx := fun σ' h' => wpB Φ r Dn σ' h' } σ h := rfl
@[simp] theorem wpB_one {s : Sm} : wpB Φ [s] Dn σ h = wpS Φ s Dn σ h := rfl
end
/-- a call's goal -/
theorem ph_of {prog : List Fn} {d f : Nat} {fn : Fn} {ds : List D} {h : MH} {Q : D → MH → Prop} {E : DX} (e : prog[f]? = some fn) (l : ds.length = fn.ar)
    (w : wpB (Ph prog d) fn.body ⟨fun _ h' => Q .non h', Q, fun _ _ => False, fun _ _ => False, fun c fs _ h' => E c fs h'⟩ (ds.map some ++ List.replicate (fn.n - fn.ar) none) h) : Ph prog (d + 1) f ds h Q E := ⟨fn, e, l, w⟩

/-! ### operations at known values -/
section
variable {h : MH} {Q : D → MH → Prop} {P : Bool → Prop}
end
end DL
namespace DL
open PySem L2
section
variable {h : MH} {Q : D → MH → Prop} {P : Bool → Prop} {R : ItV → Prop}
@[simp] theorem bop_add_int {i j : Int} : bop .Add (.int i) (.int j) h Q = Q (.int (i + j)) h := rfl
@[simp] theorem bop_add_str {i j : Str} : bop .Add (.str i) (.str j) h Q = (Fits (i.length + j.length) ∧ Q (.str (i ++ j)) h) := rfl
@[simp] theorem bop_add_tup {i j : List D} : bop .Add (.tup i) (.tup j) h Q = (Fits (i.length + j.length) ∧ Q (.tup (i ++ j)) h) := rfl
@[simp] theorem bop_add_ref {a b : Addr} : bop .Add (.ref a) (.ref b) h Q = ∃ xs ys, h a = some (.lst xs) ∧ h b = some (.lst ys) ∧ Fits (xs.length + ys.length) ∧ al (.lst (xs ++ ys)) h Q := rfl
@[simp] theorem bop_sub_int {i j : Int} : bop .Sub (.int i) (.int j) h Q = Q (.int (i - j)) h := rfl
@[simp] theorem bop_mul_int {i j : Int} : bop .Mult (.int i) (.int j) h Q = (MulOk i j ∧ Q (.int (i * j)) h) := rfl
@[simp] theorem bop_mul_tup {i : List D} {k : Int} : bop .Mult (.tup i) (.int k) h Q = ((-(2 ^ 63) ≤ k ∧ k < 2 ^ 63) ∧ (k ≤ 1000 ∧ i.length ≤ 1000) ∧ Q (.tup (List.replicate k.toNat i).flatten) h) := rfl
@[simp] theorem bop_mul_str {a : Str} {k : Int} : bop .Mult (.str a) (.int k) h Q = ((k ≤ 1000 ∧ a.length ≤ 1000 ∧ -(2 ^ 63) ≤ k) ∧ Q (.str (Txt.mul a k)) h) := rfl
@[simp] theorem bop_div_int {i j : Int} : bop .FloorDiv (.int i) (.int j) h Q = (DivOk j ∧ Q (.int (i / j)) h) := rfl
@[simp] theorem bop_mod_int {i j : Int} : bop .Mod (.int i) (.int j) h Q = (0 < j ∧ Q (.int (i % j)) h) := rfl
@[simp] theorem bop_pow_int {i j : Int} : bop .Pow (.int i) (.int j) h Q = ((0 ≤ j ∧ j ≤ 1000000 ∧ i.natAbs < 2 ^ 64) ∧ Q (.int (i ^ j.toNat)) h) := rfl
@[simp] theorem tru_bl {b : Bool} : tru (.bl b) h P = P b := rfl
@[simp] theorem tru_non : tru .non h P = P false := rfl
@[simp] theorem tru_int {i : Int} : tru (.int i) h P = P (i != 0) := rfl
@[simp] theorem cop_eq {x y : D} : cop .Eq x y h P = eqD x y h P := rfl
@[simp] theorem cop_ne {x y : D} : cop .NotEq x y h P = eqD x y h fun k => P (!k) := rfl
@[simp] theorem cop_lt {i j : Int} : cop .Lt (.int i) (.int j) h P = P (decide (i < j)) := rfl
@[simp] theorem cop_le {i j : Int} : cop .LtE (.int i) (.int j) h P = P (decide (i ≤ j)) := rfl
@[simp] theorem cop_gt {i j : Int} : cop .Gt (.int i) (.int j) h P = P (decide (j < i)) := rfl
@[simp] theorem cop_ge {i j : Int} : cop .GtE (.int i) (.int j) h P = P (decide (j ≤ i)) := rfl
@[simp] theorem cop_is {x y : D} : cop .Is x y h P = isOp x y P := rfl
@[simp] theorem cop_isnot {x y : D} : cop .IsNot x y h P = isOp x y fun k => P (!k) := rfl
@[simp] theorem cop_in {x y : D} : cop .In x y h P = inOp x y h P := rfl
@[simp] theorem cop_notin {x y : D} : cop .NotIn x y h P = inOp x y h fun k => P (!k) := rfl
@[simp] theorem isOp_bl {a b : Bool} : isOp (.bl a) (.bl b) P = P (decide (a = b)) := rfl
@[simp] theorem eqD_int {i j : Int} : eqD (.int i) (.int j) h P = P (decide (i = j)) := rfl
@[simp] theorem eqD_str {i j : Str} : eqD (.str i) (.str j) h P = P (decide (i = j)) := rfl
@[simp] theorem eqD_bl {i j : Bool} : eqD (.bl i) (.bl j) h P = P (decide (i = j)) := rfl
@[simp] theorem inOp_str {a b : Str} : inOp (.str a) (.str b) h P = P (subStr a b) := rfl
@[simp] theorem ixD_tup {ds : List D} {i : Int} : ixD (.tup ds) (.int i) h Q = ∃ d, atI ds i = some d ∧ Q d h := rfl
@[simp] theorem ixD_scr {ds : List D} {i : Int} : ixD (.scr ds) (.int i) h Q = ∃ d, atI ds i = some d ∧ Q d h := rfl
@[simp] theorem ixD_str {z : Str} {i : Int} : ixD (.str z) (.int i) h Q = (Fits z.length ∧ ∃ c, atI z.cps.toList i = some c ∧ Q (.str ⟨#[c]⟩) h) := rfl
@[simp] theorem slD_tup {ds : List D} {lo hi : Option Int} : slD (.tup ds) lo hi h Q = Q (.tup (cut ds lo hi)) h := rfl
@[simp] theorem slD_scr {ds : List D} {lo hi : Option Int} : slD (.scr ds) lo hi h Q = al (.lst (cut ds lo hi)) h Q := rfl
@[simp] theorem slD_str {z : Str} {lo hi : Option Int} : slD (.str z) lo hi h Q = (Fits z.length ∧ Q (.str ⟨(cut z.cps.toList lo hi).toArray⟩) h) := rfl
@[simp] theorem slD_ref {a : Addr} {lo hi : Option Int} : slD (.ref a) lo hi h Q = ∃ xs, h a = some (.lst xs) ∧ al (.lst (cut xs lo hi)) h Q := rfl
@[simp] theorem walkD_tup {ds : List D} : walkD (.tup ds) h R = R ⟨ds, fun _ => True⟩ := rfl
@[simp] theorem walkD_scr {ds : List D} : walkD (.scr ds) h R = R ⟨ds, fun _ => True⟩ := rfl
@[simp] theorem walkD_str {z : Str} : walkD (.str z) h R = R ⟨z.cps.toList.map fun c => .str ⟨#[c]⟩, fun _ => True⟩ := rfl
@[simp] theorem walkD_ref {a : Addr} : walkD (.ref a) h R = ∃ xs, h a = some (.lst xs) ∧ R ⟨xs, fun h' => h' a = some (.lst xs)⟩ := rfl
@[simp] theorem rngD1 {n : Int} : rngD [.int n] R = ((-(2 ^ 60) < n ∧ n < 2 ^ 60) ∧ R ⟨(List.range n.toNat).map fun (k : Nat) => .int k, fun _ => True⟩) := rfl
@[simp] theorem zipD_tup {a b : List D} : zipD (.tup a) (.tup b) h R = R ⟨(a.zip b).map fun p => .tup [p.1, p.2], fun _ => True⟩ := rfl
@[simp] theorem zipD_ref {a b : Addr} : zipD (.ref a) (.ref b) h R = ∃ xs ys, h a = some (.lst xs) ∧ h b = some (.lst ys) ∧ R ⟨(xs.zip ys).map fun p => .tup [p.1, p.2], fun h' => h' a = some (.lst xs) ∧ h' b = some (.lst ys)⟩ := rfl
@[simp] theorem bi_len_str {z : Str} : bi .len [.str z] h Q = (Fits z.length ∧ Q (.int z.length) h) := rfl
@[simp] theorem bi_len_tup {z : List D} : bi .len [.tup z] h Q = Q (.int z.length) h := rfl
@[simp] theorem bi_len_ref {a : Addr} : bi .len [.ref a] h Q = ∃ xs, h a = some (.lst xs) ∧ Q (.int xs.length) h := rfl
@[simp] theorem bi_len_scr {z : List D} : bi .len [.scr z] h Q = Q (.int z.length) h := rfl
@[simp] theorem bi_abs_int {i : Int} : bi .abs [.int i] h Q = Q (.int (if i < 0 then -i else i)) h := rfl
@[simp] theorem bi_max_int {i j : Int} : bi .max [.int i, .int j] h Q = Q (.int (if j > i then j else i)) h := rfl
@[simp] theorem bi_min_int {i j : Int} : bi .min [.int i, .int j] h Q = Q (.int (if j < i then j else i)) h := rfl
@[simp] theorem bi_sum_ref {a : Addr} : bi .sum [.ref a] h Q = ∃ ds ns, h a = some (.lst ds) ∧ intsOf ds = some ns ∧ Q (.int ns.sum) h := rfl
@[simp] theorem bi_all_ref {a : Addr} : bi .all [.ref a] h Q = ∃ ds ns, h a = some (.lst ds) ∧ blsOf ds = some ns ∧ Q (.bl (ns.all id)) h := rfl
@[simp] theorem bi_list_tup {ds : List D} : bi .list [.tup ds] h Q = al (.lst ds) h Q := rfl
@[simp] theorem bi_list_str {z : Str} : bi .list [.str z] h Q = (Fits z.length ∧ al (.lst (z.cps.toList.map fun c => .str ⟨#[c]⟩)) h Q) := rfl
@[simp] theorem bi_list_ref {a : Addr} : bi .list [.ref a] h Q = ∃ xs, h a = some (.lst xs) ∧ al (.lst xs) h Q := rfl
@[simp] theorem bi_tuple_ref {a : Addr} : bi .tuple [.ref a] h Q = ∃ xs, h a = some (.lst xs) ∧ Q (.tup xs) h := rfl
@[simp] theorem bi_str_int {i : Int} : bi .str [.int i] h Q = (i.natAbs.log2 < 1920 ∧ Q (.str (toString i)) h) := rfl
@[simp] theorem met_append {a : Addr} {y : D} : met .append (.ref a) [y] h Q = ∃ xs, h a = some (.lst xs) ∧ xs.length < sizeLine ∧ Q .non (up h a (.lst (xs ++ [y]))) := rfl
@[simp] theorem met_pop0 {a : Addr} : met .pop (.ref a) [] h Q = ∃ xs d, h a = some (.lst xs) ∧ xs[xs.length - 1]? = some d ∧ Q d (up h a (.lst xs.dropLast)) := rfl
@[simp] theorem mtTy_append {a : Addr} : mtTy .append (.ref a) h = ∃ xs, h a = some (.lst xs) := rfl
@[simp] theorem mtTy_extend {a : Addr} : mtTy .extend (.ref a) h = ∃ xs, h a = some (.lst xs) := rfl
@[simp] theorem mtTy_pop {a : Addr} : mtTy .pop (.ref a) h = ∃ xs, h a = some (.lst xs) := rfl
@[simp] theorem mtTy_get {a : Addr} : mtTy .get (.ref a) h = ∃ xs, h a = some (.dct xs) := rfl
@[simp] theorem mtTy_join {z : Str} : mtTy .join (.str z) h = True := rfl
variable {σ : DS} {S : DS → Prop}
@[simp] theorem bindT_nm {i : Nat} {d : D} : bindT (.nm i) d σ S = S (σ.set i (some d)) := rfl
@[simp] theorem bindT_tp {is : List Nat} {ds : List D} : bindT (.tp is) (.tup ds) σ S = (ds.length = is.length ∧ S (setAll σ is ds)) := rfl
@[simp] theorem setAll_nil {ds : List D} : setAll σ [] ds = σ := rfl
@[simp] theorem setAll_cons {i : Nat} {is : List Nat} {d : D} {ds : List D} : setAll σ (i :: is) (d :: ds) = setAll (σ.set i (some d)) is ds := rfl
@[simp] theorem wipeD_nil : wipeD σ [] = σ := rfl
@[simp] theorem wipeD_cons {v : Nat} {vs : List Nat} : wipeD σ (v :: vs) = (wipeD σ vs).set v none := rfl
@[simp] theorem arrOf_nil {ds : List D} : arrOf ds [] = [] := rfl
@[simp] theorem arrOf_inl {ds : List D} {i : Nat} {r : List (Nat ⊕ D)} : arrOf ds (.inl i :: r) = ds.getD i .non :: arrOf ds r := rfl
@[simp] theorem arrOf_inr {ds : List D} {d : D} {r : List (Nat ⊕ D)} : arrOf ds (.inr d :: r) = d :: arrOf ds r := rfl
theorem and_bl {k c : Bool} : (if k = true then Q (.bl c) h else Q (.bl k) h) = Q (.bl (k && c)) h := by cases k <;> rfl
theorem and_bl' {k c : Bool} : (if k = true then Q (.bl c) h else Q (.bl false) h) = Q (.bl (k && c)) h := by cases k <;> rfl
theorem or_bl {k c : Bool} : (if k = true then Q (.bl k) h else Q (.bl c) h) = Q (.bl (k || c)) h := by cases k <;> rfl
end

/-! ### kinds -/
/-- a reference holds a list or a dict -/
def Kd (h : MH) : D → Prop
  | .ref a => (∃ xs, h a = some (.lst xs)) ∨ ∃ kvs, h a = some (.dct kvs)
  | _ => True
def tyB : D → Ty
  | .non => .non | .bl _ => .bool | .int _ => .int | .str _ => .str | .tup _ => .tuple | .ref _ => .list | .scr _ => .list
theorem isTys_of {h : MH} {x : D} {ts : List Ty} {P : Bool → Prop} (k : Kd h x) (hl : ts.contains .list = false) (hd : ts.contains .dict = false) (p : P (ts.any (subTy (tyB x)))) : isTys x h ts P := by
  unfold isTys
  cases x with
  | ref a =>
    have e : ∀ t : Ty, t = .list ∨ t = .dict → ts.any (subTy t) = false := fun t ht => by
      rw [List.any_eq_false]
      intro u hu
      have h1 : u ≠ .list := fun z => by rw [z] at hu; rw [List.contains_iff_mem.mpr hu] at hl; cases hl
      have h2 : u ≠ .dict := fun z => by rw [z] at hu; rw [List.contains_iff_mem.mpr hu] at hd; cases hd
      rcases ht with rfl | rfl <;> (unfold subTy; simp [Ne.symm h1, Ne.symm h2])
    have e0 : P (ts.any (subTy .list)) := p
    rw [e .list (.inl rfl)] at e0
    rcases k with ⟨xs, g⟩ | ⟨xs, g⟩
    · exact .inl ⟨xs, g, p⟩
    · refine .inr ⟨xs, g, ?_⟩
      show P (ts.any (subTy .dict))
      rw [e .dict (.inr rfl)]; exact e0
  | _ => exact p

/-! ### loops -/
theorem for_rule {t : Tg} {ok : MH → Prop} {body : En → DS → MH → Prop} {Dn : En} (Inv : List D → DS → MH → Prop) (hok : ∀ r σ h, Inv r σ h → ok h) (hd : ∀ σ h, Inv [] σ h → Dn.nx σ h)
    (step : ∀ d r σ h (K : DS → MH → Prop), Inv (d :: r) σ h → (∀ σ' h', Inv r σ' h' → K σ' h') → bindT t d σ fun σ1 => body { Dn with nx := K, ct := K, bk := Dn.nx } σ1 h) : ∀ its σ h, Inv its σ h → forGo t ok body Dn its σ h
  | [], σ, h, i => ⟨hok _ _ _ i, hd _ _ i⟩
  | d :: r, σ, h, i => ⟨hok _ _ _ i, step d r σ h _ i fun σ' h' i' => for_rule Inv hok hd step r σ' h' i'⟩
theorem lc_rule {t : Tg} {ok : MH → Prop} {cd : DT} {elt : DE} {σ : DS} {K : List D → MH → Prop} (Inv : List D → List D → MH → Prop) (hok : ∀ r acc h, Inv r acc h → ok h) (hd : ∀ acc h, Inv [] acc h → K acc h)
    (step : ∀ d r acc h (N : List D → MH → Prop), Inv (d :: r) acc h → (∀ acc' h', Inv r acc' h' → N acc' h') → bindT t d σ fun σ1 => cd σ1 h fun k h1 =>
      if k = true then elt σ1 h1 fun x h2 => acc.length < sizeLine ∧ N (acc ++ [x]) h2 else N acc h1) : ∀ its acc h, Inv its acc h → lcGo t ok cd elt σ K its acc h
  | [], acc, h, i => ⟨hok _ _ _ i, hd _ _ i⟩
  | d :: r, acc, h, i => by
    refine ⟨hok _ _ _ i, step d r acc h (lcGo t ok cd elt σ K r) i fun acc' h' i' => lc_rule Inv hok hd step r acc' h' i'⟩
/-- a comprehension that leaves the heap -/
theorem lc_map {t : Tg} {ok : MH → Prop} {cd : DT} {elt : DE} {σ : DS} {K : List D → MH → Prop} {h : MH} (f : D → List D) (its : List D) (hok : ok h) (hz : its.length ≤ sizeLine)
    (step : ∀ d ∈ its, ∀ (acc : List D) (N : List D → MH → Prop), acc.length < sizeLine → N (acc ++ f d) h → bindT t d σ fun σ1 => cd σ1 h fun k h1 =>
      if k = true then elt σ1 h1 fun x h2 => acc.length < sizeLine ∧ N (acc ++ [x]) h2 else N acc h1) (hf : ∀ d ∈ its, (f d).length ≤ 1) (hd : K (its.flatMap f) h) : lcGo t ok cd elt σ K its [] h := by
  refine lc_rule (fun r acc h' => h' = h ∧ ∃ p, its = p ++ r ∧ acc = p.flatMap f) (fun r acc h' i => i.1 ▸ hok) (fun acc h' i => ?_) (fun d r acc h' N i hN => ?_) its [] h ⟨rfl, [], rfl, rfl⟩
  · obtain ⟨rfl, p, e, rfl⟩ := i
    rw [List.append_nil] at e
    subst e
    exact hd
  · obtain ⟨rfl, p, e, rfl⟩ := i
    have hm : d ∈ its := by rw [e]; exact List.mem_append_right _ List.mem_cons_self
    have hp : (p.flatMap f).length ≤ p.length := by
      have : ∀ q : List D, (∀ x ∈ q, (f x).length ≤ 1) → (q.flatMap f).length ≤ q.length := fun q => by
        induction q with
        | nil => intro _; simp
        | cons x q ih =>
          intro hq
          rw [List.flatMap_cons, List.length_append, List.length_cons]
          have h1 := hq x List.mem_cons_self
          have h2 := ih fun y hy => hq y (List.mem_cons_of_mem _ hy)
          omega
      exact this p fun x hx => hf x (by rw [e]; exact List.mem_append_left _ hx)
    have hl : p.length < its.length := by rw [e, List.length_append, List.length_cons]; omega
    refine step d hm _ _ (by omega) (hN _ _ ⟨rfl, p ++ [d], by rw [e, List.append_assoc]; rfl, ?_⟩)
    rw [List.flatMap_append, List.flatMap_cons, List.flatMap_nil, List.append_nil]
end DL
namespace DL
open PySem L2
/-! ### a heap that grows -/
def Gw (h h' : MH) : Prop := ∀ a o, h a = some o → h' a = some o
section
variable {h h1 h2 : MH}
theorem Gw.refl : Gw h h := fun _ _ e => e
theorem Gw.trans (f : Gw h h1) (g : Gw h1 h2) : Gw h h2 := fun a o e => g a o (f a o e)
theorem Gw.up {p : Addr} {o : MO} (n : h p = none) : Gw h (DL.up h p o) := fun a u e => (up_ne (fun z => by rw [z, n] at e; cases e)).trans e
/-- a newly made object may be written -/
theorem Gw.up2 {p : Addr} {o : MO} (f : Gw h h1) (n : h p = none) : Gw h (DL.up h1 p o) := fun a u e => (up_ne (fun z => by rw [z, n] at e; cases e)).trans (f a u e)
theorem Kd.gw {x : D} (f : Gw h h1) (k : Kd h x) : Kd h1 x := by
  cases x with
  | ref a =>
    rcases k with ⟨xs, e⟩ | ⟨xs, e⟩
    · exact .inl ⟨xs, f _ _ e⟩
    · exact .inr ⟨xs, f _ _ e⟩
  | _ => exact k
end
theorem bls_map : ∀ l : List Bool, blsOf (l.map D.bl) = some l
  | [] => rfl
  | b :: l => by simp [blsOf, bls_map l]
theorem ints_map : ∀ l : List Int, intsOf (l.map D.int) = some l
  | [] => rfl
  | b :: l => by simp [intsOf, ints_map l]
theorem strs_map : ∀ l : List Str, strsOf (l.map D.str) = some l
  | [] => rfl
  | b :: l => by simp [strsOf, strs_map l]
theorem flat_one {α : Type} (f : α → D) (l : List α) (g : D → List D) (w : α → D) (hg : ∀ a ∈ l, g (w a) = [f a]) : (l.map w).flatMap g = l.map f := by
  induction l with
  | nil => rfl
  | cons a l ih => rw [List.map_cons, List.flatMap_cons, hg a List.mem_cons_self, ih fun b hb => hg b (List.mem_cons_of_mem _ hb)]; rfl
end DL
namespace DL
theorem fits_le {n : Nat} (h : n ≤ 16777216) : Fits n := by
  unfold Fits
  rw [PySem.sizeLine_eq]
  exact h
end DL
namespace DL
open PySem L2
theorem ixN_nat (n k : Nat) : ixN n (k : Int) = if k < n then some k else none := by
  unfold ixN
  rw [if_pos (Int.natCast_nonneg k)]
  by_cases h : k < n
  · rw [if_pos (by omega), if_pos h, Int.toNat_natCast]
  · rw [if_neg (by omega), if_neg h]
@[simp] theorem atI_nat {α : Type} {ds : List α} {k : Nat} : atI ds (k : Int) = ds[k]? := by
  unfold atI
  rw [ixN_nat]
  split
  · rfl
  · rw [List.getElem?_eq_none (by omega)]; rfl
@[simp] theorem atI_lit {α : Type} {ds : List α} {k : Nat} : atI ds (no_index (OfNat.ofNat k : Int)) = ds[k]? := atI_nat (k := k)
@[simp] theorem atI_neg1 {α : Type} {ds : List α} : atI ds (-1) = ds[ds.length - 1]? := by
  unfold atI
  cases ds with
  | nil => rfl
  | cons a l =>
    have e : ixN (a :: l).length (-1) = some l.length := by
      unfold ixN
      rw [if_neg (by decide), if_pos (by rw [List.length_cons]; omega)]
      congr 1
      rw [List.length_cons]; omega
    rw [e] <;> rfl
end DL
namespace DL
@[simp] theorem up_self {h : MH} {a : PySem.Addr} {o : MO} : up h a o a = some o := up_same
@[simp] theorem al_eq {o : MO} {h : MH} {Q : D → MH → Prop} : al o h Q = ∀ p, h p = none → Q (.ref p) (up h p o) := rfl
end DL
namespace DL
open PySem L2
/-- a comprehension of pure values; the heap grows -/
theorem lc_mapG {t : Tg} {ok : MH → Prop} {cd : DT} {elt : DE} {σ : DS} {K : List D → MH → Prop} {h0 : MH} (f : D → List D) (its acc0 : List D) (hok : ∀ h, Gw h0 h → ok h) (hz : acc0.length + its.length ≤ sizeLine)
    (step : ∀ d ∈ its, ∀ (acc : List D) (h : MH) (N : List D → MH → Prop), acc.length < sizeLine → Gw h0 h → (∀ h', Gw h h' → N (acc ++ f d) h') → bindT t d σ fun σ1 => cd σ1 h fun k h1 =>
      if k = true then elt σ1 h1 fun x h2 => acc.length < sizeLine ∧ N (acc ++ [x]) h2 else N acc h1) (hf : ∀ d ∈ its, (f d).length ≤ 1) (hd : ∀ h', Gw h0 h' → K (acc0 ++ its.flatMap f) h') : lcGo t ok cd elt σ K its acc0 h0 := by
  refine lc_rule (fun r acc h' => Gw h0 h' ∧ ∃ p, its = p ++ r ∧ acc = acc0 ++ p.flatMap f) (fun r acc h' i => hok _ i.1) (fun acc h' i => ?_) (fun d r acc h' N i hN => ?_) its acc0 h0 ⟨.refl, [], rfl, by simp⟩
  · obtain ⟨g, p, e, rfl⟩ := i
    rw [List.append_nil] at e
    subst e
    exact hd _ g
  · obtain ⟨g, p, e, rfl⟩ := i
    have hm : d ∈ its := by rw [e]; exact List.mem_append_right _ List.mem_cons_self
    have hp : (p.flatMap f).length ≤ p.length := by
      have : ∀ q : List D, (∀ x ∈ q, (f x).length ≤ 1) → (q.flatMap f).length ≤ q.length := fun q => by
        induction q with
        | nil => intro _; simp
        | cons x q ih =>
          intro hq
          rw [List.flatMap_cons, List.length_append, List.length_cons]
          have h1 := hq x List.mem_cons_self
          have h2 := ih fun y hy => hq y (List.mem_cons_of_mem _ hy)
          omega
      exact this p fun x hx => hf x (by rw [e]; exact List.mem_append_left _ hx)
    have hl : p.length < its.length := by rw [e, List.length_append, List.length_cons]; omega
    refine step d hm _ _ _ (by rw [List.length_append]; omega) g fun h2 g2 => hN _ _ ⟨g.trans g2, p ++ [d], by rw [e, List.append_assoc]; rfl, ?_⟩
    rw [List.flatMap_append, List.flatMap_cons, List.flatMap_nil, List.append_nil, List.append_assoc]
/-- two clauses, all of every part -/
theorem lc2_map {t : Tg} {ok : MH → Prop} {cd : DT} {inn : DS → List D → MH → (List D → MH → Prop) → Prop} {σ : DS} {K : List D → MH → Prop} (f : D → List D) : ∀ (its acc : List D) (h0 : MH), (∀ h, ok h) → (acc ++ its.flatMap f).length ≤ sizeLine →
    (∀ d ∈ its, ∀ (acc : List D) (h : MH) (N : List D → MH → Prop), (acc ++ f d).length ≤ sizeLine → N (acc ++ f d) h → bindT t d σ fun σ1 => cd σ1 h fun k h1 => if k = true then inn σ1 acc h1 N else N acc h1) → K (acc ++ its.flatMap f) h0 → lcGo2 t ok cd inn σ K its acc h0
  | [], acc, h0, hok, hz, step, hd => ⟨hok _, by simpa using hd⟩
  | d :: r, acc, h0, hok, hz, step, hd => by
    rw [List.flatMap_cons, ← List.append_assoc] at hz hd
    exact ⟨hok _, step d List.mem_cons_self acc h0 _ (by rw [List.length_append] at hz; omega) (lc2_map f r (acc ++ f d) h0 hok hz (fun x hx => step x (List.mem_cons_of_mem _ hx)) hd)⟩
@[simp] theorem isTys_tup {ds : List D} {h : MH} {ts : List Ty} {P : Bool → Prop} : isTys (.tup ds) h ts P = P (ts.any (subTy .tuple)) := rfl
@[simp] theorem isTys_str {z : Str} {h : MH} {ts : List Ty} {P : Bool → Prop} : isTys (.str z) h ts P = P (ts.any (subTy .str)) := rfl
@[simp] theorem isTys_int {z : Int} {h : MH} {ts : List Ty} {P : Bool → Prop} : isTys (.int z) h ts P = P (ts.any (subTy .int)) := rfl
@[simp] theorem isTys_bl {z : Bool} {h : MH} {ts : List Ty} {P : Bool → Prop} : isTys (.bl z) h ts P = P (ts.any (subTy .bool)) := rfl
theorem cut_from {α : Type} (xs : List α) (k : Nat) : cut xs (some (k : Int)) none = xs.drop k := by
  unfold cut
  rw [HT.sIx_none, HT.sIx_nat, List.take_of_length_le (by rw [List.length_drop]; omega)]
  by_cases h : k ≤ xs.length
  · rw [Nat.min_eq_left h]
  · rw [Nat.min_eq_right (by omega), List.drop_length, List.drop_eq_nil_of_le (by omega)]
theorem cut_to {α : Type} (xs : List α) (k : Nat) : cut xs none (some (k : Int)) = xs.take k := by
  unfold cut
  rw [HT.sIx_none, HT.sIx_nat, List.drop_zero, Nat.sub_zero]
  by_cases h : k ≤ xs.length
  · rw [Nat.min_eq_left h]
  · rw [Nat.min_eq_right (by omega), List.take_length, List.take_of_length_le (by omega)]
end DL
namespace DL
theorem flat_pure {α β : Type} (f : α → β) : ∀ l : List α, (l.flatMap fun x => [f x]) = l.map f
  | [] => rfl
  | a :: l => by rw [List.flatMap_cons, flat_pure f l]; rfl
theorem bls_flat {α : Type} (f : α → Bool) (l : List α) : blsOf (l.flatMap fun x => [D.bl (f x)]) = some (l.map f) := by
  rw [flat_pure, show (fun x => D.bl (f x)) = D.bl ∘ f from rfl, ← List.map_map]; exact bls_map _
theorem ints_flat {α : Type} (f : α → Int) (l : List α) : intsOf (l.flatMap fun x => [D.int (f x)]) = some (l.map f) := by
  rw [flat_pure, show (fun x => D.int (f x)) = D.int ∘ f from rfl, ← List.map_map]; exact ints_map _
end DL
namespace DL
open PySem L2
/-- .. ahead of it acc0; the heap stays -/
theorem lc_mapA {t : Tg} {ok : MH → Prop} {cd : DT} {elt : DE} {σ : DS} {K : List D → MH → Prop} {h : MH} (f : D → List D) (its acc0 : List D) (hok : ok h) (hz : (acc0 ++ its.flatMap f).length ≤ sizeLine)
    (step : ∀ d ∈ its, ∀ (acc : List D) (N : List D → MH → Prop), (acc ++ f d).length ≤ sizeLine → N (acc ++ f d) h → bindT t d σ fun σ1 => cd σ1 h fun k h1 =>
      if k = true then elt σ1 h1 fun x h2 => acc.length < sizeLine ∧ N (acc ++ [x]) h2 else N acc h1) (hd : K (acc0 ++ its.flatMap f) h) : lcGo t ok cd elt σ K its acc0 h := by
  refine lc_rule (fun r acc h' => h' = h ∧ ∃ p, its = p ++ r ∧ acc = acc0 ++ p.flatMap f) (fun r acc h' i => i.1 ▸ hok) (fun acc h' i => ?_) (fun d r acc h' N i hN => ?_) its acc0 h ⟨rfl, [], rfl, by simp⟩
  · obtain ⟨rfl, p, e, rfl⟩ := i
    rw [List.append_nil] at e
    subst e
    exact hd
  · obtain ⟨rfl, p, e, rfl⟩ := i
    have hm : d ∈ its := by rw [e]; exact List.mem_append_right _ List.mem_cons_self
    refine step d hm _ _ ?_ (hN _ _ ⟨rfl, p ++ [d], by rw [e, List.append_assoc]; rfl, ?_⟩)
    · rw [e, List.flatMap_append, List.flatMap_cons] at hz
      simp only [List.length_append] at hz ⊢
      omega
    · rw [List.flatMap_append, List.flatMap_cons, List.flatMap_nil, List.append_nil, List.append_assoc]
/-- the parts of a tuple -/
def part : D → List D
  | .tup ds => ds
  | _ => []
end DL
set_option Elab.async false
set_option linter.all false
set_option maxRecDepth 100000
set_option maxHeartbeats 0
namespace LW
open PySem PySem.Spec PyProof.Rows L2 DL
/-- is_whole: 0 thing 1 low 2 high -/
def f_is_whole : Fn := ⟨3, 3,
  [.ret (.and (.isi (.var 0) [.int]) (.and (.not (.isi (.var 0) [.bool])) (.chn .LtE .LtE (.var 1) (.var 0) (.var 2))))]⟩
/-- is_word: 0 thing 1 sign -/
def f_is_word : Fn := ⟨2, 1,
  [.ret (.and (.isi (.var 0) [.str]) (.and (.chn .Lt .LtE (.cst (.int 0)) (.bi .len [.var 0]) (.cst (.int 8))) (.bi .all [.lc (.cmp .In (.var 1) (.cst (.str "abcdefghijklmnopqrstuvwxyz"))) (.nm 1) (.of (.var 0)) none [1]])))]⟩
/-- are_spools: 0 one 1 other -/
def f_are_spools : Fn := ⟨2, 2,
  [.ret (.and (.callk 0 [.var 0] [.cst (.int 0), .cst (.int 5)] [.inl 0, .inl 1, .inl 2]) (.and (.callk 0 [.var 1] [.cst (.int 0), .cst (.int 5)] [.inl 0, .inl 1, .inl 2]) (.cmp .NotEq (.var 0) (.var 1))))]⟩
/-- is_step: 0 thing 1 word 2 parts -/
def f_is_step : Fn := ⟨3, 1,
  [.ifs (.or (.not (.val (.isi (.var 0) [.tuple]))) (.or (.cmp .Eq (.bi .len [.var 0]) (.cst (.int 0))) (.not (.val (.isi (.ix (.var 0) (.cst (.int 0))) [.str])))))
    [.ret (.cst (.bl false))]
    [],
   .asg (.star [1] 2) (.var 0),
   .ifs (.and (.cmp .Eq (.var 1) (.cst (.str "wind"))) (.cmp .Eq (.bi .len [.var 2]) (.cst (.int 3))))
    [.ret (.and (.call 2 [.ix (.var 2) (.cst (.int 0)), .ix (.var 2) (.cst (.int 1))]) (.callk 0 [.ix (.var 2) (.cst (.int 2))] [.cst (.int 1)] [.inl 0, .inl 1, .inr (.int 1000000000000000000)]))]
    [],
   .ifs (.and (.cmp .Eq (.var 1) (.cst (.str "turn"))) (.cmp .Eq (.bi .len [.var 2]) (.cst (.int 1))))
    [.ret (.callk 0 [.ix (.var 2) (.cst (.int 0))] [.cst (.int 0), .cst (.int 5)] [.inl 0, .inl 1, .inl 2])]
    [],
   .ifs (.and (.cmp .Eq (.var 1) (.cst (.str "swap"))) (.cmp .Eq (.bi .len [.var 2]) (.cst (.int 2))))
    [.ret (.call 2 [.ix (.var 2) (.cst (.int 0)), .ix (.var 2) (.cst (.int 1))])]
    [],
   .ifs (.or (.cmp .NotEq (.var 1) (.cst (.str "do"))) (.cmp .NotEq (.bi .len [.var 2]) (.cst (.int 2))))
    [.ret (.cst (.bl false))]
    [],
   .ret (.and (.call 1 [.ix (.var 2) (.cst (.int 0))]) (.callk 0 [.ix (.var 2) (.cst (.int 1))] [.neg (.cst (.int 9)), .cst (.int 9)] [.inl 0, .inl 1, .inl 2]))]⟩
/-- is_round: 0 thing 1 step -/
def f_is_round : Fn := ⟨2, 1,
  [.ret (.and (.isi (.var 0) [.tuple]) (.and (.cmp .LtE (.bi .len [.var 0]) (.cst (.int 24))) (.bi .all [.lc (.call 3 [.var 1]) (.nm 1) (.of (.var 0)) none [1]])))]⟩
/-- show_step: 0 step 1 part -/
def f_show_step : Fn := ⟨2, 1,
  [.ret (.met .join (.cst (.str " ")) [.lc (.bi .str [.var 1]) (.nm 1) (.of (.var 0)) none [1]])]⟩
/-- show_round: 0 steps 1 step -/
def f_show_round : Fn := ⟨2, 1,
  [.ret (.or (.met .join (.cst (.str "; ")) [.lc (.call 5 [.var 1]) (.nm 1) (.of (.var 0)) none [1]]) (.cst (.str "none")))]⟩
/-- whole_in: 0 text 1 figures 2 sign -/
def f_whole_in : Fn := ⟨3, 1,
  [.asg (.nm 1) (.ite (.val (.met .startswith (.var 0) [.cst (.str "-")])) (.sl (.var 0) (some (.cst (.int 1))) none) (.var 0)),
   .ifs (.or (.not (.chn .Lt .LtE (.cst (.int 0)) (.bi .len [.var 1]) (.cst (.int 19)))) (.not (.val (.bi .all [.lc (.cmp .In (.var 2) (.cst (.str "0123456789"))) (.nm 2) (.of (.var 1)) none [2]]))))
    [.ret (.cst .non)]
    [],
   .ret (.ite (.or (.cmp .NotEq (.ix (.var 1) (.cst (.int 0))) (.cst (.str "0"))) (.cmp .Eq (.var 0) (.cst (.str "0")))) (.bi .int [.var 0]) (.cst .non))]⟩
/-- step_in: 0 text 1 word 2 parts 3 part -/
def f_step_in : Fn := ⟨4, 1,
  [.asg (.star [1] 2) (.met .split (.var 0) [.cst (.str " ")]),
   .ifs (.cmp .Eq (.var 1) (.cst (.str "do")))
    [.ret (.bin .Add (.bin .Add (.tup [.var 1]) (.bi .tuple [.sl (.var 2) none (some (.cst (.int 1)))])) (.bi .tuple [.lc (.call 7 [.var 3]) (.nm 3) (.of (.sl (.var 2) (some (.cst (.int 1))) none)) none [3]]))]
    [],
   .ret (.bin .Add (.tup [.var 1]) (.bi .tuple [.lc (.call 7 [.var 3]) (.nm 3) (.of (.var 2)) none [3]]))]⟩
/-- read_round: 0 text 1 steps 2 part -/
def f_read_round : Fn := ⟨3, 1,
  [.ifs (.not (.val (.isi (.var 0) [.str])))
    [.rai 0 "asked" (.var 0)]
    [],
   .asg (.nm 1) (.ite (.cmp .NotEq (.var 0) (.cst (.str "none"))) (.bi .tuple [.lc (.call 8 [.var 2]) (.nm 2) (.of (.met .split (.var 0) [.cst (.str "; ")])) none [2]]) (.tup [])),
   .ifs (.not (.val (.call 4 [.var 1])))
    [.rai 0 "asked" (.var 0)]
    [],
   .ret (.var 1)]⟩
/-- _law_pen: 0 script -/
def f__law_pen : Fn := ⟨1, 1,
  [.ret (.dsp ["cells", "turn", "left"] [.bi .list [.sl (.var 0) none (some (.cst (.int 63)))], .cst (.int 0), .cst (.int 0)])]⟩
/-- _law_draw: 0 pen 1 many 2 digit 3 turn 4 cell 5 primes 6 prime 7 drawn -/
def f__law_draw : Fn := ⟨8, 2,
  [.ifs (.cmp .Gt (.ix (.var 0) (.cst (.str "left"))) (.cst (.int 0)))
    [.asg (.nm 2) (.bin .Mod (.ix (.var 0) (.cst (.str "left"))) (.var 1)),
     .asg (.sub (.var 0) (.cst (.str "left"))) (.bin .FloorDiv (.ix (.var 0) (.cst (.str "left"))) (.var 1)),
     .ret (.var 2)]
    [],
   .asg (.nm 3) (.ix (.var 0) (.cst (.str "turn"))),
   .asg (.sub (.var 0) (.cst (.str "turn"))) (.bin .Add (.var 3) (.cst (.int 1))),
   .asg (.nm 4) (.bin .Add (.bin .Mult (.cst (.int 31)) (.var 3)) (.cst (.int 11))),
   .ifs (.cmp .NotEq (.ix (.var 0) (.cst (.str "cells"))) (.lst []))
    [.asg (.nm 4) (.ix (.ix (.var 0) (.cst (.str "cells"))) (.bin .Mod (.var 3) (.bi .len [.ix (.var 0) (.cst (.str "cells"))])))]
    [],
   .ifs (.and (.cmp .Lt (.var 3) (.bi .len [.ix (.var 0) (.cst (.str "cells"))])) (.cmp .GtE (.bi .abs [.var 4]) (.bin .Pow (.cst (.int 10)) (.cst (.int 18)))))
    [.asg (.sub (.var 0) (.cst (.str "left"))) (.bin .FloorDiv (.bin .Sub (.bi .abs [.var 4]) (.bin .Pow (.cst (.int 10)) (.cst (.int 18)))) (.var 1)),
     .ret (.bin .Mod (.bin .Sub (.bi .abs [.var 4]) (.bin .Pow (.cst (.int 10)) (.cst (.int 18)))) (.var 1))]
    [],
   .asg (.nm 5) (.lst [.cst (.int 2147483647), .cst (.int 2147483629), .cst (.int 2147483587), .cst (.int 2147483579), .cst (.int 2147483563)]),
   .asg (.nm 6) (.ix (.var 5) (.bin .Mod (.var 3) (.cst (.int 5)))),
   .asg (.nm 7) (.bin .Mod (.bin .Add (.bin .Add (.bin .Mult (.bin .Mod (.var 4) (.var 6)) (.cst (.int 48271))) (.bin .Mult (.bin .Mult (.cst (.int 39373)) (.var 3)) (.var 3))) (.cst (.int 29))) (.var 6)),
   .asg (.nm 7) (.bin .Mod (.bin .Mult (.var 7) (.bin .Add (.var 7) (.cst (.int 69621)))) (.ix (.var 5) (.bin .Mod (.bin .Add (.var 3) (.cst (.int 2))) (.cst (.int 5))))),
   .ret (.bin .Mod (.bin .FloorDiv (.bin .Mod (.bin .Mult (.var 7) (.var 7)) (.cst (.int 2147483549))) (.cst (.int 64))) (.var 1))]⟩
/-- _law_pick: 0 pen 1 some -/
def f__law_pick : Fn := ⟨2, 2,
  [.ret (.ix (.var 1) (.call 11 [.var 0, .bi .len [.var 1]]))]⟩
/-- _law_great: 0 pen 1 figures 2 found 3 k -/
def f__law_great : Fn := ⟨4, 2,
  [.asg (.nm 2) (.cst (.int 0)),
   .for (.nm 3) (.rng [.var 1])
    [.asg (.nm 2) (.bin .Add (.bin .Mult (.cst (.int 10)) (.var 2)) (.call 11 [.var 0, .cst (.int 10)]))],
   .ret (.var 2)]⟩
/-- _law_one_step: 0 pen 1 kind 2 a 3 b 4 name -/
def f__law_one_step : Fn := ⟨5, 1,
  [.asg (.tup [.nm 1, .nm 2]) (.tup [.call 11 [.var 0, .cst (.int 6)], .call 11 [.var 0, .cst (.int 6)]]),
   .asg (.nm 3) (.bin .Mod (.bin .Add (.bin .Add (.var 2) (.cst (.int 1))) (.call 11 [.var 0, .cst (.int 5)])) (.cst (.int 6))),
   .ifs (.cmp .Lt (.var 1) (.cst (.int 3)))
    [.ret (.tup [.cst (.str "wind"), .var 2, .var 3, .ix (.lst [.cst (.int 1), .bin .Pow (.cst (.int 10)) (.cst (.int 18)), .bin .Add (.cst (.int 1)) (.call 13 [.var 0, .cst (.int 18)]), .bin .Add (.cst (.int 1)) (.call 11 [.var 0, .cst (.int 99)])]) (.call 11 [.var 0, .cst (.int 4)])])]
    [],
   .ifs (.cmp .Eq (.var 1) (.cst (.int 3)))
    [.ret (.tup [.cst (.str "turn"), .var 2])]
    [],
   .asg (.nm 4) (.call 12 [.var 0, .lst [.cst (.str "a"), .cst (.str "wind"), .cst (.str "turn"), .cst (.str "do"), .cst (.str "none"), .cst (.str "swap"), .cst (.str "abcdefgh"), .cst (.str "zq")]]),
   .ret (.ite (.cmp .Eq (.var 1) (.cst (.int 4))) (.tup [.cst (.str "swap"), .var 2, .var 3]) (.tup [.cst (.str "do"), .var 4, .bin .Sub (.call 11 [.var 0, .cst (.int 19)]) (.cst (.int 9))]))]⟩
/-- _law_count_in: 0 text 1 low 2 high 3 figures 4 one -/
def f__law_count_in : Fn := ⟨5, 3,
  [.asg (.nm 3) (.ite (.cmp .Eq (.sl (.var 0) none (some (.cst (.int 1)))) (.cst (.str "-"))) (.sl (.var 0) (some (.cst (.int 1))) none) (.var 0)),
   .ifs (.not (.chn .LtE .LtE (.cst (.int 1)) (.bi .len [.var 3]) (.cst (.int 19))))
    [.ret (.cst .non)]
    [],
   .ifs (.cmp .NotEq (.lc (.var 4) (.nm 4) (.of (.var 3)) (some (.cmp .NotIn (.var 4) (.cst (.str "0123456789")))) [4]) (.lst []))
    [.ret (.cst .non)]
    [],
   .ifs (.and (.cmp .Eq (.ix (.var 3) (.cst (.int 0))) (.cst (.str "0"))) (.cmp .NotEq (.var 0) (.cst (.str "0"))))
    [.ret (.cst .non)]
    [],
   .ret (.ite (.chn .LtE .LtE (.var 1) (.bi .int [.var 0]) (.var 2)) (.bi .int [.var 0]) (.cst .non))]⟩
/-- _law_called: 0 text 1 letters 2 one -/
def f__law_called : Fn := ⟨3, 1,
  [.asg (.nm 1) (.cst (.str "abcdefghijklmnopqrstuvwxyz")),
   .ret (.and (.chn .LtE .LtE (.cst (.int 1)) (.bi .len [.var 0]) (.cst (.int 8))) (.cmp .Eq (.lc (.var 2) (.nm 2) (.of (.var 0)) (some (.cmp .NotIn (.var 2) (.var 1))) [2]) (.lst [])))]⟩
/-- _law_step_in: 0 text 1 words 2 parts 3 word -/
def f__law_step_in : Fn := ⟨4, 1,
  [.asg (.nm 1) (.met .split (.var 0) [.cst (.str " ")]),
   .ifs (.cmp .Eq (.ix (.var 1) (.cst (.int 0))) (.cst (.str "do")))
    [.ifs (.or (.cmp .NotEq (.bi .len [.var 1]) (.cst (.int 3))) (.or (.not (.val (.call 16 [.ix (.var 1) (.cst (.int 1))]))) (.cmp .Is (.call 15 [.ix (.var 1) (.cst (.int 2)), .neg (.cst (.int 9)), .cst (.int 9)]) (.cst .non))))
      [.ret (.cst .non)]
      [],
     .ret (.tup [.cst (.str "do"), .ix (.var 1) (.cst (.int 1)), .bi .int [.ix (.var 1) (.cst (.int 2))]])]
    [],
   .ifs (.cmp .NotIn (.lst [.ix (.var 1) (.cst (.int 0)), .bi .len [.var 1]]) (.lst [.lst [.cst (.str "wind"), .cst (.int 4)], .lst [.cst (.str "turn"), .cst (.int 2)], .lst [.cst (.str "swap"), .cst (.int 3)]]))
    [.ret (.cst .non)]
    [],
   .asg (.nm 2) (.lc (.call 15 [.var 3, .cst (.int 0), .cst (.int 5)]) (.nm 3) (.of (.sl (.var 1) (some (.cst (.int 1))) (some (.cst (.int 3))))) none [3]),
   .ifs (.cmp .Eq (.ix (.var 1) (.cst (.int 0))) (.cst (.str "wind")))
    [.ex (.met .append (.var 2) [.call 15 [.ix (.var 1) (.cst (.int 3)), .cst (.int 1), .bin .Pow (.cst (.int 10)) (.cst (.int 18))]])]
    [],
   .ifs (.or (.cmp .In (.cst .non) (.var 2)) (.and (.cmp .NotEq (.ix (.var 1) (.cst (.int 0))) (.cst (.str "turn"))) (.cmp .Eq (.ix (.var 2) (.cst (.int 0))) (.ix (.var 2) (.cst (.int 1))))))
    [.ret (.cst .non)]
    [],
   .ret (.bin .Add (.tup [.ix (.var 1) (.cst (.int 0))]) (.bi .tuple [.var 2]))]⟩
/-- _law_round_due: 0 text 1 steps 2 row -/
def f__law_round_due : Fn := ⟨3, 1,
  [.ifs (.not (.val (.isi (.var 0) [.str])))
    [.ret (.cst .non)]
    [],
   .asg (.nm 1) (.ite (.cmp .NotEq (.var 0) (.cst (.str "none"))) (.lc (.call 17 [.var 2]) (.nm 2) (.of (.met .split (.var 0) [.cst (.str "; ")])) none [2]) (.lst [])),
   .ret (.ite (.or (.cmp .In (.cst .non) (.var 1)) (.cmp .Gt (.bi .len [.var 1]) (.cst (.int 24)))) (.cst .non) (.bi .tuple [.var 1]))]⟩
/-- _law_bent_text: 0 pen 1 text 2 at 3 kind 4 letters 5 one 6 words 7 part 8 some 9 word 10 rows 11 row 12 many -/
def f__law_bent_text : Fn := ⟨13, 2,
  [.asg (.tup [.nm 2, .nm 3]) (.tup [.call 11 [.var 0, .bin .Add (.bi .len [.var 1]) (.cst (.int 1))], .call 11 [.var 0, .cst (.int 7)]]),
   .asg (.nm 4) (.bin .Add (.cst (.str " ;0123456789-+.,abdnoswtuprirAZ_\n")) (.bin .Mult (.cst (.str " ;-0159")) (.cst (.int 3)))),
   .asg (.tup [.nm 5, .nm 6]) (.tup [.call 12 [.var 0, .bi .list [.var 4]], .met .split (.var 1) [.cst (.str " ")]]),
   .asg (.nm 7) (.call 11 [.var 0, .bi .len [.var 6]]),
   .ifs (.cmp .Lt (.var 3) (.cst (.int 3)))
    [.ret (.bin .Add (.bin .Add (.sl (.var 1) none (some (.var 2))) (.ix (.lst [.var 5, .cst (.str ""), .var 5]) (.var 3))) (.sl (.var 1) (some (.bin .Add (.var 2) (.bi .int [.cmp .Gt (.var 3) (.cst (.int 0))]))) none))]
    [],
   .asg (.nm 8) (.lst [.cst (.str "wind"), .cst (.str "turn"), .cst (.str "do"), .cst (.str "swap"), .cst (.str "none"), .cst (.str ""), .cst (.str "0"), .cst (.str "-0"), .cst (.str "05"), .cst (.str "6"), .cst (.str "10"), .cst (.str "-9"), .cst (.str "-10"), .cst (.str "1000000000000000000")]),
   .asg (.nm 9) (.call 12 [.var 0, .bin .Add (.var 8) (.lst [.cst (.str "1000000000000000001"), .cst (.str "99999999999999999999"), .cst (.str "1;"), .cst (.str "a;"), .cst (.str "3;")])]),
   .ifs (.cmp .Eq (.var 3) (.cst (.int 3)))
    [.ret (.met .join (.cst (.str " ")) [.bin .Add (.bin .Add (.sl (.var 6) none (some (.var 7))) (.lst [.var 9])) (.sl (.var 6) (some (.bin .Add (.var 7) (.cst (.int 1)))) none)])]
    [],
   .ifs (.cmp .Eq (.var 3) (.cst (.int 4)))
    [.ret (.met .join (.cst (.str " ")) [.bin .Add (.sl (.var 6) none (some (.var 7))) (.sl (.var 6) (some (.bin .Add (.var 7) (.cst (.int 1)))) none)])]
    [],
   .asg (.nm 10) (.met .split (.var 1) [.cst (.str "; ")]),
   .asg (.nm 11) (.call 11 [.var 0, .bi .len [.var 10]]),
   .asg (.nm 12) (.bin .Sub (.var 3) (.cst (.int 4))),
   .ret (.met .join (.cst (.str "; ")) [.bin .Add (.bin .Add (.sl (.var 10) none (some (.var 11))) (.bin .Mult (.lst [.ix (.var 10) (.var 11)]) (.var 12))) (.sl (.var 10) (some (.bin .Sub (.bin .Add (.var 11) (.var 12)) (.cst (.int 1)))) none)])]⟩
/-- _law_read_of: 0 thing 1 found 2 e 3 others -/
def f__law_read_of : Fn := ⟨4, 1,
  [.asg (.nm 1) (.cst .non),
   .try
    [.asg (.nm 1) (.tup [.cst (.str "round"), .call 9 [.var 0]])] 0 2 [.asg 3 (.isi [.own 6, .own 3, .own 2, .own 5, .own 4, .own 1] false), .asg 1 (.tup [.cst (.str "text"), .fld "asked", .and (.isi [.blt "ValueError"] true) (.not (.var 3))])],
   .ret (.var 1)]⟩
/-- law: 0 script 1 pen 2 bout 3 many 4 steps 5 k 6 rows 7 part 8 step 9 text 10 again 11 bent 12 due 13 thing -/
def f_law : Fn := ⟨14, 1,
  [.asg (.nm 1) (.call 10 [.var 0]),
   .for (.nm 2) (.rng [.bin .Add (.cst (.int 4)) (.bi .min [.cst (.int 8), .bi .len [.var 0]])])
    [.asg (.nm 3) (.call 12 [.var 1, .lst [.call 11 [.var 1, .cst (.int 5)], .call 11 [.var 1, .cst (.int 5)], .cst (.int 24)]]),
     .asg (.nm 4) (.bi .tuple [.lc (.call 14 [.var 1]) (.nm 5) (.rng [.var 3]) none [5]]),
     .asg (.nm 6) (.lc (.met .join (.cst (.str " ")) [.lc (.bi .str [.var 7]) (.nm 7) (.of (.var 8)) none [7]]) (.nm 8) (.of (.var 4)) none [8]),
     .asg (.nm 9) (.ite (.cmp .NotEq (.var 6) (.lst [])) (.met .join (.cst (.str "; ")) [.var 6]) (.cst (.str "none"))),
     .ifs (.or (.cmp .NotEq (.call 6 [.var 4]) (.var 9)) (.cmp .NotEq (.bi .repr [.call 20 [.var 9]]) (.bi .repr [.tup [.cst (.str "round"), .var 4]])))
      [.ret (.cst (.bl false))]
      [],
     .for (.nm 10) (.rng [.cst (.int 6)])
      [.asg (.nm 11) (.call 19 [.var 1, .var 9]),
       .asg (.nm 11) (.ite (.cmp .Gt (.call 11 [.var 1, .cst (.int 3)]) (.cst (.int 0))) (.var 11) (.call 19 [.var 1, .var 11])),
       .asg (.nm 12) (.call 18 [.var 11]),
       .asg (.nm 12) (.ite (.cmp .Is (.var 12) (.cst .non)) (.tup [.cst (.str "text"), .var 11, .cst (.bl true)]) (.tup [.cst (.str "round"), .var 12])),
       .ifs (.cmp .NotEq (.bi .repr [.call 20 [.var 11]]) (.bi .repr [.var 12]))
        [.ret (.cst (.bl false))]
        []],
     .asg (.nm 13) (.call 12 [.var 1, .lst [.cst .non, .cst (.int 0), .cst (.bl true), .tup [], .lst [], .dsp [] [], .lst [.var 9], .tup [.var 9], .var 4]]),
     .ifs (.cmp .NotEq (.bi .repr [.call 20 [.var 13]]) (.bi .repr [.tup [.cst (.str "text"), .var 13, .cst (.bl true)]]))
      [.ret (.cst (.bl false))]
      []],
   .ret (.cst (.bl true))]⟩
def prog : List Fn := [f_is_whole, f_is_word, f_are_spools, f_is_step, f_is_round, f_show_step, f_show_round, f_whole_in, f_step_in, f_read_round, f__law_pen, f__law_draw, f__law_pick, f__law_great, f__law_one_step, f__law_count_in, f__law_called, f__law_step_in, f__law_round_due, f__law_bent_text, f__law_read_of, f_law]
theorem at_is_whole : prog[0]? = some f_is_whole := rfl
theorem at_is_word : prog[1]? = some f_is_word := rfl
theorem at_are_spools : prog[2]? = some f_are_spools := rfl
theorem at_is_step : prog[3]? = some f_is_step := rfl
theorem at_is_round : prog[4]? = some f_is_round := rfl
theorem at_show_step : prog[5]? = some f_show_step := rfl
theorem at_show_round : prog[6]? = some f_show_round := rfl
theorem at_whole_in : prog[7]? = some f_whole_in := rfl
theorem at_step_in : prog[8]? = some f_step_in := rfl
theorem at_read_round : prog[9]? = some f_read_round := rfl
theorem at__law_pen : prog[10]? = some f__law_pen := rfl
theorem at__law_draw : prog[11]? = some f__law_draw := rfl
theorem at__law_pick : prog[12]? = some f__law_pick := rfl
theorem at__law_great : prog[13]? = some f__law_great := rfl
theorem at__law_one_step : prog[14]? = some f__law_one_step := rfl
theorem at__law_count_in : prog[15]? = some f__law_count_in := rfl
theorem at__law_called : prog[16]? = some f__law_called := rfl
theorem at__law_step_in : prog[17]? = some f__law_step_in := rfl
theorem at__law_round_due : prog[18]? = some f__law_round_due := rfl
theorem at__law_bent_text : prog[19]? = some f__law_bent_text := rfl
theorem at__law_read_of : prog[20]? = some f__law_read_of := rfl
theorem at_law : prog[21]? = some f_law := rfl
end LW
set_option Elab.async false
set_option linter.all false
set_option maxRecDepth 100000
set_option maxHeartbeats 0
namespace LW
open PySem PySem.Spec PyProof.Rows L2 DL
def top (i : Nat) : Stmt := PySem.Challenge.pw_spoolrounds_k89_rounds_as_texts.main.body.getD i (.Pass ⟨0, 0, 0, 0⟩)
def dd (i : Nat) (x : Str) (dfl : List He.Dv) : He.DefD := ⟨(x, none), x, x, defArgs (top i), defBody (top i), defScope (top i), dfl, []⟩
def d_is_whole : He.DefD := dd 12 "is_whole" [.int (-1000000000000000000), .int 1000000000000000000]
def d_is_word : He.DefD := dd 13 "is_word" []
def d_are_spools : He.DefD := dd 18 "are_spools" []
def d_is_step : He.DefD := dd 19 "is_step" []
def d_is_round : He.DefD := dd 20 "is_round" []
def d_show_step : He.DefD := dd 26 "show_step" []
def d_show_round : He.DefD := dd 27 "show_round" []
def d_whole_in : He.DefD := dd 28 "whole_in" []
def d_step_in : He.DefD := dd 29 "step_in" []
def d_read_round : He.DefD := dd 30 "read_round" []
def d__law_pen : He.DefD := dd 32 "_law_pen" []
def d__law_draw : He.DefD := dd 33 "_law_draw" []
def d__law_pick : He.DefD := dd 34 "_law_pick" []
def d__law_great : He.DefD := dd 35 "_law_great" []
def d__law_one_step : He.DefD := dd 36 "_law_one_step" []
def d__law_count_in : He.DefD := dd 37 "_law_count_in" []
def d__law_called : He.DefD := dd 38 "_law_called" []
def d__law_step_in : He.DefD := dd 39 "_law_step_in" []
def d__law_round_due : He.DefD := dd 40 "_law_round_due" []
def d__law_bent_text : He.DefD := dd 41 "_law_bent_text" []
def d__law_read_of : He.DefD := dd 42 "_law_read_of" []
def d_law : He.DefD := dd 43 "law" []
def cin (i j : Nat) (x q : Str) : He.DefD := (fun st => ⟨(x, some "__init__"), "__init__", q, defArgs st, defBody st, defScope st, [], []⟩) (match top i with
  | .ClassDef _ _ _ body _ _ _ _ _ _ _ => body.getD j (.Pass ⟨0, 0, 0, 0⟩)
  | s => s)
def i_NoText : He.DefD := cin 1 0 "NoText" "NoText.__init__"
def i_NoStretch : He.DefD := cin 2 0 "NoStretch" "NoStretch.__init__"
def i_NoRound : He.DefD := cin 3 0 "NoRound" "NoRound.__init__"
def i_NoLay : He.DefD := cin 4 0 "NoLay" "NoLay.__init__"
def i_NoStanding : He.DefD := cin 5 0 "NoStanding" "NoStanding.__init__"
def i_NoRow : He.DefD := cin 6 0 "NoRow" "NoRow.__init__"
def i_BadName : He.DefD := cin 7 0 "BadName" "BadName.__init__"
def fn : List He.DefD := [d_is_whole, d_is_word, d_are_spools, d_is_step, d_is_round, d_show_step, d_show_round, d_whole_in, d_step_in, d_read_round, d__law_pen, d__law_draw, d__law_pick, d__law_great, d__law_one_step, d__law_count_in, d__law_called, d__law_step_in, d__law_round_due, d__law_bent_text, d__law_read_of, d_law, i_NoText, i_NoStretch, i_NoRound, i_NoLay, i_NoStanding, i_NoRow, i_BadName]
def xds : List Xd := [⟨"NoText", "asked", .val, "asked"⟩, ⟨"NoStretch", "at", .val, "at"⟩, ⟨"NoRound", "at", .val, "at"⟩, ⟨"NoLay", "part", .val, "part"⟩, ⟨"NoStanding", "part", .val, "part"⟩, ⟨"NoRow", "asked", .val, "asked"⟩, ⟨"BadName", "asked", .val, "asked"⟩]
def xis : List (Nat × List CN × Bool) := [(0, [.own 6, .own 3, .own 2, .own 5, .own 4, .own 1], false), (0, [.blt "ValueError"], true)]
def gnames0 : List Str := ["is_whole", "is_word", "are_spools", "is_step", "is_round", "show_step", "show_round", "whole_in", "step_in", "read_round", "_law_pen", "_law_draw"]
def gnames1 : List Str := ["_law_pick", "_law_great", "_law_one_step", "_law_count_in", "_law_called", "_law_step_in", "_law_round_due", "_law_bent_text", "_law_read_of", "law"]
def gnames : List Str := gnames0 ++ gnames1
def nm0 : List Str := ["__name__", "NoText", "NoStretch", "NoRound", "NoLay", "NoStanding", "NoRow", "BadName", "LETTERS", "MOST_LETTERS", "MOST", "is_whole"]
def nm1 : List Str := ["is_word", "MOST_STEPS", "MOST_TIMES", "LAST_SPOOL", "are_spools", "is_step", "is_round", "FIGURES", "MOST_FIGURES", "BARE", "PART", "show_step"]
def nm2 : List Str := ["show_round", "whole_in", "step_in", "read_round", "_law_pen", "_law_draw", "_law_pick", "_law_great", "_law_one_step", "_law_count_in", "_law_called", "_law_step_in"]
def nm3 : List Str := ["_law_round_due", "_law_bent_text", "_law_read_of"]
def nm : List Str := nm0 ++ nm1 ++ nm2 ++ nm3
def rw (d : He.DefD) (N ps : List Str) : DL.Row := ⟨d.name, d.qual, d.params, d.body, d.scope, N, ps⟩
def r_is_whole : DL.Row := rw d_is_whole ["thing", "low", "high"] ["thing", "low", "high"]
def r_is_word : DL.Row := rw d_is_word ["thing", "sign"] ["thing"]
def r_are_spools : DL.Row := rw d_are_spools ["one", "other"] ["one", "other"]
def r_is_step : DL.Row := rw d_is_step ["thing", "word", "parts"] ["thing"]
def r_is_round : DL.Row := rw d_is_round ["thing", "step"] ["thing"]
def r_show_step : DL.Row := rw d_show_step ["step", "part"] ["step"]
def r_show_round : DL.Row := rw d_show_round ["steps", "step"] ["steps"]
def r_whole_in : DL.Row := rw d_whole_in ["text", "figures", "sign"] ["text"]
def r_step_in : DL.Row := rw d_step_in ["text", "word", "parts", "part"] ["text"]
def r_read_round : DL.Row := rw d_read_round ["text", "steps", "part"] ["text"]
def r__law_pen : DL.Row := rw d__law_pen ["script"] ["script"]
def r__law_draw : DL.Row := rw d__law_draw ["pen", "many", "digit", "turn", "cell", "primes", "prime", "drawn"] ["pen", "many"]
def r__law_pick : DL.Row := rw d__law_pick ["pen", "some"] ["pen", "some"]
def r__law_great : DL.Row := rw d__law_great ["pen", "figures", "found", "k"] ["pen", "figures"]
def r__law_one_step : DL.Row := rw d__law_one_step ["pen", "kind", "a", "b", "name"] ["pen"]
def r__law_count_in : DL.Row := rw d__law_count_in ["text", "low", "high", "figures", "one"] ["text", "low", "high"]
def r__law_called : DL.Row := rw d__law_called ["text", "letters", "one"] ["text"]
def r__law_step_in : DL.Row := rw d__law_step_in ["text", "words", "parts", "word"] ["text"]
def r__law_round_due : DL.Row := rw d__law_round_due ["text", "steps", "row"] ["text"]
def r__law_bent_text : DL.Row := rw d__law_bent_text ["pen", "text", "at", "kind", "letters", "one", "words", "part", "some", "word", "rows", "row", "many"] ["pen", "text"]
def r__law_read_of : DL.Row := rw d__law_read_of ["thing", "found", "e", "others"] ["thing"]
def r_law : DL.Row := rw d_law ["script", "pen", "bout", "many", "steps", "k", "rows", "part", "step", "text", "again", "bent", "due", "thing"] ["script"]
def rows : List DL.Row := [r_is_whole, r_is_word, r_are_spools, r_is_step, r_is_round, r_show_step, r_show_round, r_whole_in, r_step_in, r_read_round, r__law_pen, r__law_draw, r__law_pick, r__law_great, r__law_one_step, r__law_count_in, r__law_called, r__law_step_in, r__law_round_due, r__law_bent_text, r__law_read_of, r_law]
def p0 : Pat := ⟨"is_whole", 0, 1, ["low", "high"], [.inl 0, .inl 1, .inl 2]⟩
def p1 : Pat := ⟨"is_whole", 0, 1, ["low"], [.inl 0, .inl 1, .inr (.int 1000000000000000000)]⟩
def p2 : Pat := ⟨"are_spools", 2, 2, [], [.inl 0, .inl 1]⟩
def p3 : Pat := ⟨"is_word", 1, 1, [], [.inl 0]⟩
def p4 : Pat := ⟨"is_step", 3, 1, [], [.inl 0]⟩
def p5 : Pat := ⟨"show_step", 5, 1, [], [.inl 0]⟩
def p6 : Pat := ⟨"whole_in", 7, 1, [], [.inl 0]⟩
def p7 : Pat := ⟨"step_in", 8, 1, [], [.inl 0]⟩
def p8 : Pat := ⟨"is_round", 4, 1, [], [.inl 0]⟩
def p9 : Pat := ⟨"_law_draw", 11, 2, [], [.inl 0, .inl 1]⟩
def p10 : Pat := ⟨"_law_great", 13, 2, [], [.inl 0, .inl 1]⟩
def p11 : Pat := ⟨"_law_pick", 12, 2, [], [.inl 0, .inl 1]⟩
def p12 : Pat := ⟨"_law_count_in", 15, 3, [], [.inl 0, .inl 1, .inl 2]⟩
def p13 : Pat := ⟨"_law_called", 16, 1, [], [.inl 0]⟩
def p14 : Pat := ⟨"_law_step_in", 17, 1, [], [.inl 0]⟩
def p15 : Pat := ⟨"read_round", 9, 1, [], [.inl 0]⟩
def p16 : Pat := ⟨"_law_pen", 10, 1, [], [.inl 0]⟩
def p17 : Pat := ⟨"_law_one_step", 14, 1, [], [.inl 0]⟩
def p18 : Pat := ⟨"_law_read_of", 20, 1, [], [.inl 0]⟩
def p19 : Pat := ⟨"show_round", 6, 1, [], [.inl 0]⟩
def p20 : Pat := ⟨"_law_bent_text", 19, 2, [], [.inl 0, .inl 1]⟩
def p21 : Pat := ⟨"_law_round_due", 18, 1, [], [.inl 0]⟩
def pats : List Pat := [p0, p1, p2, p3, p4, p5, p6, p7, p8, p9, p10, p11, p12, p13, p14, p15, p16, p17, p18, p19, p20, p21]
def cI : List (Str × Int) := [("MOST_LETTERS", 8), ("MOST", 1000000000000000000), ("MOST_STEPS", 24), ("MOST_TIMES", 9), ("LAST_SPOOL", 5), ("MOST_FIGURES", 19)]
def cS : List (Str × Str) := [("LETTERS", "abcdefghijklmnopqrstuvwxyz"), ("FIGURES", "0123456789"), ("BARE", "none"), ("PART", "; ")]
def cF : List Str := ["ValueError", "abs", "all", "bool", "int", "isinstance", "len", "list", "min", "range", "repr", "str", "tuple"]
def ctx : DL.Ctx := ⟨[], ⟨.function, [], false, false, []⟩, true, pats, cI, cS, cF, xesOf xds, xis⟩
def fa : List He.Fa := faOf gnames ctx.cF ctx.cI ctx.cS
theorem checked : rowsC ctx rows prog = true := by decide +kernel
theorem pb0 : PB rows r_is_whole d_is_whole p0 := pb_dfl [(0, 0), (2, 0), (2, 1)] rfl (List.cons_ne_nil _ _) (by decide +kernel) fun _ _ _ _ _ _ _ us its ws l1 l2 l3 => match us, its, ws, l1, l2, l3 with | [_], [_, _], [_, _], _, _, _ => ⟨_, rfl, rfl⟩
theorem pb1 : PB rows r_is_whole d_is_whole p1 := pb_dfl [(0, 0), (2, 0), (1, 1)] rfl (List.cons_ne_nil _ _) (by decide +kernel) fun _ _ _ _ _ _ _ us its ws l1 l2 l3 => match us, its, ws, l1, l2, l3 with | [_], [_, _], [_], _, _, _ => ⟨_, rfl, rfl⟩
theorem pb2 : PB rows r_are_spools d_are_spools p2 := pb_plain rfl rfl rfl rfl rfl fun _ _ _ _ _ _ us hl => match us, hl with | [_, _], _ => rfl
theorem pb3 : PB rows r_is_word d_is_word p3 := pb_plain rfl rfl rfl rfl rfl fun _ _ _ _ _ _ us hl => match us, hl with | [_], _ => rfl
theorem pb4 : PB rows r_is_step d_is_step p4 := pb_plain rfl rfl rfl rfl rfl fun _ _ _ _ _ _ us hl => match us, hl with | [_], _ => rfl
theorem pb5 : PB rows r_show_step d_show_step p5 := pb_plain rfl rfl rfl rfl rfl fun _ _ _ _ _ _ us hl => match us, hl with | [_], _ => rfl
theorem pb6 : PB rows r_whole_in d_whole_in p6 := pb_plain rfl rfl rfl rfl rfl fun _ _ _ _ _ _ us hl => match us, hl with | [_], _ => rfl
theorem pb7 : PB rows r_step_in d_step_in p7 := pb_plain rfl rfl rfl rfl rfl fun _ _ _ _ _ _ us hl => match us, hl with | [_], _ => rfl
theorem pb8 : PB rows r_is_round d_is_round p8 := pb_plain rfl rfl rfl rfl rfl fun _ _ _ _ _ _ us hl => match us, hl with | [_], _ => rfl
theorem pb9 : PB rows r__law_draw d__law_draw p9 := pb_plain rfl rfl rfl rfl rfl fun _ _ _ _ _ _ us hl => match us, hl with | [_, _], _ => rfl
theorem pb10 : PB rows r__law_great d__law_great p10 := pb_plain rfl rfl rfl rfl rfl fun _ _ _ _ _ _ us hl => match us, hl with | [_, _], _ => rfl
theorem pb11 : PB rows r__law_pick d__law_pick p11 := pb_plain rfl rfl rfl rfl rfl fun _ _ _ _ _ _ us hl => match us, hl with | [_, _], _ => rfl
theorem pb12 : PB rows r__law_count_in d__law_count_in p12 := pb_plain rfl rfl rfl rfl rfl fun _ _ _ _ _ _ us hl => match us, hl with | [_, _, _], _ => rfl
theorem pb13 : PB rows r__law_called d__law_called p13 := pb_plain rfl rfl rfl rfl rfl fun _ _ _ _ _ _ us hl => match us, hl with | [_], _ => rfl
theorem pb14 : PB rows r__law_step_in d__law_step_in p14 := pb_plain rfl rfl rfl rfl rfl fun _ _ _ _ _ _ us hl => match us, hl with | [_], _ => rfl
theorem pb15 : PB rows r_read_round d_read_round p15 := pb_plain rfl rfl rfl rfl rfl fun _ _ _ _ _ _ us hl => match us, hl with | [_], _ => rfl
theorem pb16 : PB rows r__law_pen d__law_pen p16 := pb_plain rfl rfl rfl rfl rfl fun _ _ _ _ _ _ us hl => match us, hl with | [_], _ => rfl
theorem pb17 : PB rows r__law_one_step d__law_one_step p17 := pb_plain rfl rfl rfl rfl rfl fun _ _ _ _ _ _ us hl => match us, hl with | [_], _ => rfl
theorem pb18 : PB rows r__law_read_of d__law_read_of p18 := pb_plain rfl rfl rfl rfl rfl fun _ _ _ _ _ _ us hl => match us, hl with | [_], _ => rfl
theorem pb19 : PB rows r_show_round d_show_round p19 := pb_plain rfl rfl rfl rfl rfl fun _ _ _ _ _ _ us hl => match us, hl with | [_], _ => rfl
theorem pb20 : PB rows r__law_bent_text d__law_bent_text p20 := pb_plain rfl rfl rfl rfl rfl fun _ _ _ _ _ _ us hl => match us, hl with | [_, _], _ => rfl
theorem pb21 : PB rows r__law_round_due d__law_round_due p21 := pb_plain rfl rfl rfl rfl rfl fun _ _ _ _ _ _ us hl => match us, hl with | [_], _ => rfl
theorem hP : ∀ p ∈ ctx.pats, PC' fn gnames rows p := all_cons ⟨d_is_whole, r_is_whole, rfl, by decide +kernel, rfl, rfl, rfl, rfl, rfl, rfl, pb0⟩ (
  all_cons ⟨d_is_whole, r_is_whole, rfl, by decide +kernel, rfl, rfl, rfl, rfl, rfl, rfl, pb1⟩ (
  all_cons ⟨d_are_spools, r_are_spools, rfl, by decide +kernel, rfl, rfl, rfl, rfl, rfl, rfl, pb2⟩ (
  all_cons ⟨d_is_word, r_is_word, rfl, by decide +kernel, rfl, rfl, rfl, rfl, rfl, rfl, pb3⟩ (
  all_cons ⟨d_is_step, r_is_step, rfl, by decide +kernel, rfl, rfl, rfl, rfl, rfl, rfl, pb4⟩ (
  all_cons ⟨d_show_step, r_show_step, rfl, by decide +kernel, rfl, rfl, rfl, rfl, rfl, rfl, pb5⟩ (
  all_cons ⟨d_whole_in, r_whole_in, rfl, by decide +kernel, rfl, rfl, rfl, rfl, rfl, rfl, pb6⟩ (
  all_cons ⟨d_step_in, r_step_in, rfl, by decide +kernel, rfl, rfl, rfl, rfl, rfl, rfl, pb7⟩ (
  all_cons ⟨d_is_round, r_is_round, rfl, by decide +kernel, rfl, rfl, rfl, rfl, rfl, rfl, pb8⟩ (
  all_cons ⟨d__law_draw, r__law_draw, rfl, by decide +kernel, rfl, rfl, rfl, rfl, rfl, rfl, pb9⟩ (
  all_cons ⟨d__law_great, r__law_great, rfl, by decide +kernel, rfl, rfl, rfl, rfl, rfl, rfl, pb10⟩ (
  all_cons ⟨d__law_pick, r__law_pick, rfl, by decide +kernel, rfl, rfl, rfl, rfl, rfl, rfl, pb11⟩ (
  all_cons ⟨d__law_count_in, r__law_count_in, rfl, by decide +kernel, rfl, rfl, rfl, rfl, rfl, rfl, pb12⟩ (
  all_cons ⟨d__law_called, r__law_called, rfl, by decide +kernel, rfl, rfl, rfl, rfl, rfl, rfl, pb13⟩ (
  all_cons ⟨d__law_step_in, r__law_step_in, rfl, by decide +kernel, rfl, rfl, rfl, rfl, rfl, rfl, pb14⟩ (
  all_cons ⟨d_read_round, r_read_round, rfl, by decide +kernel, rfl, rfl, rfl, rfl, rfl, rfl, pb15⟩ (
  all_cons ⟨d__law_pen, r__law_pen, rfl, by decide +kernel, rfl, rfl, rfl, rfl, rfl, rfl, pb16⟩ (
  all_cons ⟨d__law_one_step, r__law_one_step, rfl, by decide +kernel, rfl, rfl, rfl, rfl, rfl, rfl, pb17⟩ (
  all_cons ⟨d__law_read_of, r__law_read_of, rfl, by decide +kernel, rfl, rfl, rfl, rfl, rfl, rfl, pb18⟩ (
  all_cons ⟨d_show_round, r_show_round, rfl, by decide +kernel, rfl, rfl, rfl, rfl, rfl, rfl, pb19⟩ (
  all_cons ⟨d__law_bent_text, r__law_bent_text, rfl, by decide +kernel, rfl, rfl, rfl, rfl, rfl, rfl, pb20⟩ (
  all_cons ⟨d__law_round_due, r__law_round_due, rfl, by decide +kernel, rfl, rfl, rfl, rfl, rfl, rfl, pb21⟩ (all_nil))))))))))))))))))))))
theorem xd_NoText : XD fn ⟨"NoText", "asked", .val, "asked"⟩ := ⟨22, i_NoText, _, _, _, _, rfl, rfl, rfl, rfl, rfl, scC_ok (by decide +kernel), by decide +kernel, by decide +kernel, by decide +kernel, by decide +kernel, fun _ _ _ _ _ _ us hl => match us, hl with | [_, _], _ => rfl⟩
theorem xd_NoStretch : XD fn ⟨"NoStretch", "at", .val, "at"⟩ := ⟨23, i_NoStretch, _, _, _, _, rfl, rfl, rfl, rfl, rfl, scC_ok (by decide +kernel), by decide +kernel, by decide +kernel, by decide +kernel, by decide +kernel, fun _ _ _ _ _ _ us hl => match us, hl with | [_, _], _ => rfl⟩
theorem xd_NoRound : XD fn ⟨"NoRound", "at", .val, "at"⟩ := ⟨24, i_NoRound, _, _, _, _, rfl, rfl, rfl, rfl, rfl, scC_ok (by decide +kernel), by decide +kernel, by decide +kernel, by decide +kernel, by decide +kernel, fun _ _ _ _ _ _ us hl => match us, hl with | [_, _], _ => rfl⟩
theorem xd_NoLay : XD fn ⟨"NoLay", "part", .val, "part"⟩ := ⟨25, i_NoLay, _, _, _, _, rfl, rfl, rfl, rfl, rfl, scC_ok (by decide +kernel), by decide +kernel, by decide +kernel, by decide +kernel, by decide +kernel, fun _ _ _ _ _ _ us hl => match us, hl with | [_, _], _ => rfl⟩
theorem xd_NoStanding : XD fn ⟨"NoStanding", "part", .val, "part"⟩ := ⟨26, i_NoStanding, _, _, _, _, rfl, rfl, rfl, rfl, rfl, scC_ok (by decide +kernel), by decide +kernel, by decide +kernel, by decide +kernel, by decide +kernel, fun _ _ _ _ _ _ us hl => match us, hl with | [_, _], _ => rfl⟩
theorem xd_NoRow : XD fn ⟨"NoRow", "asked", .val, "asked"⟩ := ⟨27, i_NoRow, _, _, _, _, rfl, rfl, rfl, rfl, rfl, scC_ok (by decide +kernel), by decide +kernel, by decide +kernel, by decide +kernel, by decide +kernel, fun _ _ _ _ _ _ us hl => match us, hl with | [_, _], _ => rfl⟩
theorem xd_BadName : XD fn ⟨"BadName", "asked", .val, "asked"⟩ := ⟨28, i_BadName, _, _, _, _, rfl, rfl, rfl, rfl, rfl, scC_ok (by decide +kernel), by decide +kernel, by decide +kernel, by decide +kernel, by decide +kernel, fun _ _ _ _ _ _ us hl => match us, hl with | [_, _], _ => rfl⟩
theorem hX : ∀ d ∈ xds, XD fn d := all_cons xd_NoText (all_cons xd_NoStretch (all_cons xd_NoRound (all_cons xd_NoLay (all_cons xd_NoStanding (all_cons xd_NoRow (all_cons xd_BadName (all_nil)))))))
abbrev R : PySem.W.OpenRow := PySem.W.OpenLaw.row PySem.Challenge.rw_spoolrounds_k89_rounds_as_texts
abbrev hk : PySem.W.Hook := hookX 6 fa fn (xsB xds xis)
def ob (s : PySem.W.SharedT) : He.AlD × Bool × Bool := obX 6 fa fn (xsB xds xis) s
theorem run (w : World) : HandSHeadRun.RunEq R (PySem.W.view R.prog [43]) hk ob 4000 nm w := by
  intro os
  kernel_rfl
theorem facts (K : PySem.W.Frag) (mg : Str → Option Value) (h : Heap) (X : K.In h) (Gd : h.Ns mainGlobals mg) (says : He.SaysD fa fn K) (xk : xsB xds xis K = true) : Facts K mg ctx rows ∧ (∀ p ∈ ctx.xs, XFact (grOf xds K) mg p) ∧ (∀ q ∈ ctx.xi, PySem.W.kitAny K (.ref ((grOf xds K).cl q.1)) (q.2.1.map (cnV (grOf xds K))) = some q.2.2) ∧
    ∃ (a : Addr) (fd : FuncData), mg "law" = some (.ref a) ∧ FunD K r_law.x r_law.qual r_law.params r_law.body r_law.sc (d_law.dvs K) (d_law.kws K) a fd ∧ ∀ (s : Shared) (u : Value), BindsTo s fd ⟨[u], []⟩ [(("script" : Str), u)] := by
  obtain ⟨q1, q2⟩ := xfacts_ok X Gd says xk hX
  refine ⟨facts_ok X Gd says hP, q1, q2, ?_⟩
  obtain ⟨fd, F⟩ := says.def_ 21 (d := d_law) rfl
  refine ⟨_, fd, ?_, F, fun s u => ?_⟩
  · have q : He.Fa.ok K (.glo "law") = true := says.fact 21 rfl
    exact He.glo_ok X Gd q
  · exact FunD.bindsA (ps := ["script"]) F (fun _ _ _ _ _ _ us hl => match us, hl with | [_], _ => rfl) s [u] rfl
end LW
set_option Elab.async false
set_option linter.all false
set_option maxRecDepth 100000
set_option maxHeartbeats 1000000
set_option exponentiation.threshold 20000
namespace LW
open PySem L2 DL
/-! ### what the two tests ask for, plainly -/
abbrev M18 : Int := 1000000000000000000
def letters : Str := "abcdefghijklmnopqrstuvwxyz"
def isWh (lo hi : Int) : D → Bool
  | .int i => decide (lo ≤ i) && decide (i ≤ hi)
  | _ => false
def isWd : D → Bool
  | .str z => decide (0 < z.length) && (decide (z.length ≤ 8) && z.cps.toList.all fun c => subStr ⟨#[c]⟩ letters)
  | _ => false
def isWy : D → Bool
  | .int i => 1 == i || -1 == i
  | _ => false
/-! everything within is of a kind -/
mutual
def Wf (h : MH) : D → Prop
  | .ref a => Kd h (.ref a)
  | .str z => Fits z.length ∧ PyData.strOk z = true
  | .tup ds => ds.length ≤ 1000 ∧ Wfs h ds
  | .scr _ => False
  | .non => True
  | .bl _ => True
  | .int _ => True
def Wfs (h : MH) : List D → Prop
  | [] => True
  | d :: ds => Wf h d ∧ Wfs h ds
end
theorem Wf.kd {h : MH} {x : D} (w : Wf h x) : Kd h x := by
  cases x <;> first | trivial | exact w
theorem Wfs.mem {h : MH} : ∀ {ds : List D}, Wfs h ds → ∀ d ∈ ds, Wf h d
  | [], _, _, hd => nomatch hd
  | x :: ds, w, d, hd => by
    have w : Wf h x ∧ Wfs h ds := by simpa only [Wfs] using w
    rcases List.mem_cons.mp hd with rfl | hd
    · exact w.1
    · exact Wfs.mem w.2 d hd
theorem wfs_of {h : MH} : ∀ {ds : List D}, (∀ d ∈ ds, Wf h d) → Wfs h ds
  | [], _ => by simp only [Wfs]
  | x :: ds, w => by simp only [Wfs]; exact ⟨w x List.mem_cons_self, wfs_of fun d hd => w d (List.mem_cons_of_mem _ hd)⟩
theorem wf_tup {h : MH} {ds : List D} : Wf h (.tup ds) ↔ ds.length ≤ 1000 ∧ ∀ d ∈ ds, Wf h d := by
  simp only [Wf]
  exact ⟨fun w => ⟨w.1, w.2.mem⟩, fun w => ⟨w.1, wfs_of w.2⟩⟩
mutual
theorem Wf.gw {h h' : MH} (f : Gw h h') : ∀ {x : D}, Wf h x → Wf h' x
  | .ref a, w => by simp only [Wf] at w ⊢; exact w.gw f
  | .str _, w => w
  | .tup ds, w => by simp only [Wf] at w ⊢; exact ⟨w.1, Wfs.gw f w.2⟩
  | .scr _, w => w
  | .non, w => w
  | .bl _, w => w
  | .int _, w => w
theorem Wfs.gw {h h' : MH} (f : Gw h h') : ∀ {ds : List D}, Wfs h ds → Wfs h' ds
  | [], _ => by simp only [Wfs]
  | x :: ds, w => by
    simp only [Wfs] at w ⊢
    exact ⟨Wf.gw f w.1, Wfs.gw f w.2⟩
end
section
variable {d : Nat} {h : MH} {Q : D → MH → Prop} {E : DX}
theorem whole_ok {x : D} {lo hi : Int} (k : Kd h x) (q : Q (.bl (isWh lo hi x)) h) : Ph prog (d + 1) 0 [x, .int lo, .int hi] h Q E := by
  refine ph_of at_is_whole rfl ?_
  simp [f_is_whole]
  refine isTys_of k rfl rfl ?_
  cases x <;> simp [tyB, subTy] <;> try exact q
  rename_i i
  by_cases c : lo ≤ i <;> simpa [tyB, subTy, isWh, c] using q
theorem word_ok {x : D} (w : Wf h x) (q : ∀ h', Gw h h' → Q (.bl (isWd x)) h') : Ph prog (d + 1) 1 [x] h Q E := by
  refine ph_of at_is_word rfl ?_
  simp [f_is_word]
  refine isTys_of w.kd rfl rfl ?_
  cases x <;> simp [tyB, subTy] <;> try exact q h .refl
  rename_i z
  refine ⟨w.1, ?_⟩
  by_cases c : 0 < z.length
  · by_cases c2 : z.length ≤ 8
    · simp [c, c2, show (z.length : Int) ≤ 8 by omega, show (0 : Int) < z.length by omega]
      refine lc_map (fun d => match d with
        | .str w => [.bl (subStr w letters)]
        | _ => []) _ trivial (by simp; exact w.1) (fun d hd acc N ha hN => ?_) (fun d hd => ?_) ?_
      · obtain ⟨c, _, rfl⟩ := List.mem_map.mp hd
        simp
        exact ⟨ha, hN⟩
      · obtain ⟨c, _, rfl⟩ := List.mem_map.mp hd
        simp
      · intro p hp
        refine ⟨_, by rw [flat_one (fun c => D.bl (subStr ⟨#[c]⟩ letters)) _ _ _ fun _ _ => rfl, ← Function.comp_def D.bl, ← List.map_map]; exact bls_map _, ?_⟩
        have key : ((z.cps.toList.map fun c => subStr ⟨#[c]⟩ letters).all id) = isWd (.str z) := by simp [isWd, c, c2, List.all_map]
        rw [key]
        exact q _ (Gw.up hp)
    · simp [c, c2, show ¬ (z.length : Int) ≤ 8 by omega, show (0 : Int) < z.length by omega]
      have := q h .refl
      simpa [isWd, c, c2] using this
  · have := q h .refl
    simp [c, show ¬ (0 : Int) < z.length by omega]
    simpa [isWd, c] using this
end
end LW

namespace LW
open PySem L2 DL
@[simp] theorem ixD_ref_int {a : Addr} {i : Int} {h : MH} {Q : D → MH → Prop} : ixD (.ref a) (.int i) h Q = ((∃ xs d, h a = some (.lst xs) ∧ atI xs i = some d ∧ Q d h) ∨ (∃ kvs d, h a = some (.dct kvs) ∧ getK kvs (.inl i) = some d ∧ Q d h)) := by
  apply propext
  constructor
  · rintro (⟨xs, j, d, e, r⟩ | ⟨kvs, k, d, e, r⟩)
    · cases e; exact .inl ⟨xs, d, r⟩
    · cases e; exact .inr ⟨kvs, d, r⟩
  · rintro (⟨xs, d, r⟩ | ⟨kvs, d, r⟩)
    · exact .inl ⟨xs, i, d, rfl, r⟩
    · exact .inr ⟨kvs, .inl i, d, rfl, r⟩
end LW

namespace DL
open PySem L2
@[simp] theorem ixD_ref_str {a : Addr} {k : Str} {h : MH} {Q : D → MH → Prop} : ixD (.ref a) (.str k) h Q = ∃ kvs d, h a = some (.dct kvs) ∧ getK kvs (.inr k) = some d ∧ Q d h := by
  apply propext
  constructor
  · rintro (⟨xs, j, d, e, r⟩ | ⟨kvs, k', d, e, r⟩)
    · cases e
    · cases e; exact ⟨kvs, d, r⟩
  · rintro ⟨kvs, d, r⟩
    exact .inr ⟨kvs, _, d, rfl, r⟩
@[simp] theorem setD_ref_str {a : Addr} {k : Str} {v : D} {h : MH} {P : MH → Prop} : setD (.ref a) (.str k) v h P = ∃ kvs, h a = some (.dct kvs) ∧ kvs.length < sizeLine ∧ P (up h a (.dct (putK kvs (.inr k) v))) := by
  apply propext
  constructor
  · rintro (⟨xs, j, d, e, r⟩ | ⟨kvs, k', e, r⟩)
    · cases e
    · cases e; exact ⟨kvs, r⟩
  · rintro ⟨kvs, r⟩
    exact .inr ⟨kvs, _, rfl, r⟩
/-- a pen's dict -/
def penL (c : Addr) (t l : Int) : List (Key × D) := [(.inr "cells", .ref c), (.inr "turn", .int t), (.inr "left", .int l)]
section
variable {c : Addr} {t l : Int}
@[simp] theorem penL_cells : getK (penL c t l) (.inr "cells") = some (.ref c) := by simp [penL, getK]
@[simp] theorem penL_turn : getK (penL c t l) (.inr "turn") = some (.int t) := by
  have : ("cells" : Str) ≠ "turn" := by decide
  simp [penL, getK, this]
@[simp] theorem penL_left : getK (penL c t l) (.inr "left") = some (.int l) := by
  have h1 : ("cells" : Str) ≠ "left" := by decide
  have h2 : ("turn" : Str) ≠ "left" := by decide
  simp [penL, getK, h1, h2]
@[simp] theorem penL_len : (penL c t l).length < sizeLine := by rw [sizeLine_eq]; show 3 < _; decide
@[simp] theorem penL_putT {t' : Int} : putK (penL c t l) (.inr "turn") (.int t') = penL c t' l := by
  have h1 : ("cells" : Str) ≠ "turn" := by decide
  have h2 : ("left" : Str) ≠ "turn" := by decide
  simp [penL, putK, h1, h2]
@[simp] theorem penL_putL {t' : Int} : putK (penL c t l) (.inr "left") (.int t') = penL c t t' := by
  have h1 : ("cells" : Str) ≠ "left" := by decide
  have h2 : ("turn" : Str) ≠ "left" := by decide
  simp [penL, putK, h1, h2]
end
/-- a pen that has drawn at most n numbers -/
def Pen (h : MH) (p c : Addr) (n : Nat) : Prop := ∃ cs t l, h p = some (.dct (penL c t l)) ∧ h c = some (.lst (List.map D.int cs)) ∧ cs.length ≤ 63 ∧ 0 ≤ t ∧ t ≤ n ∧ 0 ≤ l
/-- everything but the pen stays -/
def Gx (p : Addr) (h h' : MH) : Prop := (∀ a o, a ≠ p → h a = some o → h' a = some o) ∧ ((∃ kvs, h p = some (.dct kvs)) → ∃ kvs, h' p = some (.dct kvs))
theorem Gx.refl {p : Addr} {h : MH} : Gx p h h := ⟨fun _ _ _ e => e, fun e => e⟩
theorem Gx.trans {p : Addr} {h h1 h2 : MH} (f : Gx p h h1) (g : Gx p h1 h2) : Gx p h h2 := ⟨fun a o n e => g.1 a o n (f.1 a o n e), fun e => g.2 (f.2 e)⟩
theorem Gw.gx {p : Addr} {h h1 : MH} (f : Gw h h1) : Gx p h h1 := ⟨fun a o _ e => f a o e, fun ⟨k, e⟩ => ⟨k, f _ _ e⟩⟩
theorem Gx.pen {p : Addr} {h h1 : MH} {kvs : List (Key × D)} (f : Gx p h h1) (e : ∃ k, h1 p = some (.dct k)) : Gx p h (up h1 p (.dct kvs)) :=
  ⟨fun a o n e => (up_ne n).trans (f.1 a o n e), fun _ => ⟨kvs, up_same⟩⟩
theorem Gx.new {p q : Addr} {h h1 : MH} {o : MO} (f : Gx p h h1) (hq : h q = none) (np : p ≠ q) : Gx p h (up h1 q o) :=
  ⟨fun a u n e => (up_ne (fun z => by rw [z, hq] at e; cases e)).trans (f.1 a u n e), fun e => by
    obtain ⟨k, e⟩ := f.2 e
    exact ⟨k, (up_ne np).trans e⟩⟩
section
variable {p c q : Addr} {h h1 : MH} {n m : Nat} {o : MO}
theorem Gx.fresh (f : Gx p h h1) (np : p ≠ q) (e : h1 q = none) : h q = none := by
  cases z : h q with
  | none => rfl
  | some o => rw [f.1 _ _ (Ne.symm np) z] at e; cases e
theorem Pen.gw (f : Gw h h1) : Pen h p c n → Pen h1 p c n
  | ⟨cs, t, l, e, ec, r⟩ => ⟨cs, t, l, f _ _ e, f _ _ ec, r⟩
theorem Pen.mono (hm : n ≤ m) : Pen h p c n → Pen h p c m
  | ⟨cs, t, l, e, ec, a, b, d, r⟩ => ⟨cs, t, l, e, ec, a, b, by omega, r⟩
theorem Pen.has : Pen h p c n → ∃ kvs, h p = some (.dct kvs)
  | ⟨cs, t, l, e, _⟩ => ⟨_, e⟩
theorem Pen.nep : Pen h p c n → h q = none → p ≠ q
  | ⟨cs, t, l, e, _⟩, n => fun z => by rw [z, n] at e; cases e
theorem Pen.nec : Pen h p c n → h q = none → c ≠ q
  | ⟨cs, t, l, e, ec, _⟩, n => fun z => by rw [z, n] at ec; cases ec
theorem Pen.cp : Pen h p c n → c ≠ p
  | ⟨cs, t, l, e, ec, _⟩ => fun z => by rw [z, e] at ec; cases ec
/-- another object is written -/
theorem Pen.put (np : p ≠ q) (nc : c ≠ q) : Pen h p c n → Pen (up h q o) p c n
  | ⟨cs, t, l, e, ec, r⟩ => ⟨cs, t, l, (up_ne np).trans e, (up_ne nc).trans ec, r⟩
end
theorem Gx.kd {p : Addr} {h h1 : MH} {x : D} {c : Addr} {n : Nat} (pn : Pen h p c n) (f : Gx p h h1) (k : Kd h x) : Kd h1 x := by
  cases x with
  | ref a =>
    by_cases z : a = p
    · subst z
      rcases k with ⟨xs, e⟩ | ⟨xs, e⟩
      · obtain ⟨kvs, e2⟩ := pn.has; rw [e] at e2; cases e2
      · exact .inr (f.2 ⟨xs, e⟩)
    · rcases k with ⟨xs, e⟩ | ⟨xs, e⟩
      · exact .inl ⟨xs, f.1 _ _ z e⟩
      · exact .inr ⟨xs, f.1 _ _ z e⟩
  | _ => exact k
theorem eqD_lsts {a b : Addr} {xs ys : List D} {h : MH} {P : Bool → Prop} (e : h a = some (.lst xs)) (f : h b = some (.lst ys)) (z : xs = [] ∨ ys = []) (q : P (decide (xs.length = ys.length))) : eqD (.ref a) (.ref b) h P := by
  by_cases l : xs.length = ys.length
  · have : xs = [] ∧ ys = [] := by
      rcases z with rfl | rfl
      · exact ⟨rfl, List.length_eq_zero_iff.mp l.symm⟩
      · exact ⟨List.length_eq_zero_iff.mp l, rfl⟩
    obtain ⟨rfl, rfl⟩ := this
    exact .inl ⟨.list [], .list [], .lst e rfl (fun i d t hd => by simp at hd), .lst f rfl (fun i d t hd => by simp at hd), by decide, by decide, q⟩
  · rw [decide_eq_false l] at q
    exact .inr ⟨xs, ys, e, f, l, q⟩
end DL
namespace DL
open PySem L2
/-- one statement, what holds behind it, the rest -/
theorem wpB_seq {Φ : Fns} {s : Sm} {rest : List Sm} {Dn : En} {σ : DS} {h : MH} (R : DS → MH → Prop) (w : ∀ K : DS → MH → Prop, (∀ σ h, R σ h → K σ h) → wpS Φ s { Dn with nx := K } σ h) (tail : ∀ σ h, R σ h → wpB Φ rest Dn σ h) : wpB Φ (s :: rest) Dn σ h := by
  rw [wpB_cons]
  exact w _ tail
theorem mulL {i j : Int} (h : i.natAbs < 2 ^ 64) : MulOk i j := .inl h
theorem mulR {i j : Int} (h : j.natAbs < 2 ^ 64) : MulOk i j := .inr (.inl h)
theorem divOk {j : Int} (m0 : 0 < j) (mb : j.natAbs < 2 ^ 64) : DivOk j := ⟨m0, Nat.lt_trans mb (Nat.pow_lt_pow_right (by decide) (by decide))⟩
end DL
namespace LW
open PySem L2 DL
section
variable {d : Nat} {h : MH} {Q : D → MH → Prop} {E : DX} {p c : Addr} {n : Nat}
theorem pen_ok {ns : List Int} (q : ∀ p c h', Pen h' p c 0 → Gw h h' → Q (.ref p) h') : Ph prog (d + 1) 10 [.scr (ns.map D.int)] h Q E := by
  refine ph_of at__law_pen rfl ?_
  simp [f__law_pen]
  intro p0 h0 c hc p hp
  have e1 : cut (ns.map D.int) none (some 63) = (ns.take 63).map D.int := by rw [show (63 : Int) = ((63 : Nat) : Int) from rfl, cut_to, List.map_take]
  have nc : p ≠ c := fun z => by rw [z, up_self] at hp; cases hp
  refine q p c _ ⟨ns.take 63, 0, 0, up_self, (up_ne nc.symm).trans (by rw [up_self, e1]), by rw [List.length_take]; omega, Int.le_refl _, Int.le_refl _, Int.le_refl _⟩ (((Gw.up h0).trans (Gw.up hc)).trans (Gw.up hp))
def primes : List D := [.int 2147483647, .int 2147483629, .int 2147483587, .int 2147483579, .int 2147483563]
theorem primes_at (t : Int) : ∃ v : Int, atI primes (t % 5) = some (.int v) ∧ 0 < v ∧ v < 2 ^ 31 := by
  have : t % 5 = 0 ∨ t % 5 = 1 ∨ t % 5 = 2 ∨ t % 5 = 3 ∨ t % 5 = 4 := by omega
  rcases this with e | e | e | e | e <;> rw [e] <;> exact ⟨_, rfl, by decide, by decide⟩
theorem draw_ok {many : Int} (pn : Pen h p c n) (m0 : 0 < many) (mb : many.natAbs < 2 ^ 64) (hn : n < 2 ^ 60) (q : ∀ v h', 0 ≤ v → v < many → Pen h' p c (n + 1) → Gx p h h' → Q (.int v) h') : Ph prog (d + 1) 11 [.ref p, .int many] h Q E := by
  have np : p ≠ c := pn.cp.symm
  have kp : ∃ kvs, h p = some (.dct kvs) := pn.has
  obtain ⟨cs, t, l, e, ec, cl, t0, tn, l0⟩ := pn
  have dv : DivOk many := divOk m0 mb
  have vm : ∀ x : Int, 0 ≤ x % many ∧ x % many < many := fun x => ⟨Int.emod_nonneg _ (by omega), Int.emod_lt_of_pos _ m0⟩
  refine ph_of at__law_draw rfl ?_
  simp only [f__law_draw]
  rw [wpB_cons]
  simp [e]
  by_cases c1 : 0 < l
  · rw [if_pos c1]
    rw [wpB_cons]
    simp [e]
    refine ⟨m0, ?_⟩
    rw [wpB_cons]
    simp [e]
    refine ⟨dv, q _ _ (vm l).1 (vm l).2 ⟨cs, t, l / many, up_self, (up_ne np.symm).trans ec, cl, t0, by omega, Int.ediv_nonneg l0 (by omega)⟩ (Gx.refl.pen kp)⟩
  · rw [if_neg c1]
    rw [wpB_cons]
    simp [e]
    rw [wpB_cons]
    simp [e]
    rw [wpB_cons]
    simp [e]
    refine ⟨mulL (by decide), ?_⟩
    have e2 : up h p (MO.dct (penL c (t + 1) l)) p = some (.dct (penL c (t + 1) l)) := up_self
    have ec2 : up h p (MO.dct (penL c (t + 1) l)) c = some (.lst (cs.map D.int)) := (up_ne np.symm).trans ec
    have g2 : Gx p h (up h p (MO.dct (penL c (t + 1) l))) := Gx.refl.pen kp
    generalize up h p (MO.dct (penL c (t + 1) l)) = h2 at e2 ec2 g2 ⊢
    generalize 31 * t + 11 = cell0
    refine wpB_seq (fun σ h3 => ∃ cell : Int, σ = [some (D.ref p), some (D.int many), none, some (D.int t), some (D.int cell), none, none, none] ∧ h3 p = some (.dct (penL c (t + 1) l)) ∧ h3 c = some (.lst (cs.map D.int)) ∧ Gx p h h3) (fun K hK => ?_) fun σ h3 ⟨cell, es, e3, ec3, g3⟩ => ?_
    · simp [e2]
      refine ⟨fits_le (by decide), fun q1 hq1 => ?_⟩
      have n1 : p ≠ q1 := fun z => by rw [z, hq1] at e2; cases e2
      have n2 : c ≠ q1 := fun z => by rw [z, hq1] at ec2; cases ec2
      have g3 : Gx p h (up h2 q1 (.lst [])) := g2.trans ((Gw.up hq1).gx)
      have e3 : up h2 q1 (.lst []) p = _ := (up_ne n1).trans e2
      have ec3 : up h2 q1 (.lst []) c = _ := (up_ne n2).trans ec2
      refine eqD_lsts ec3 up_self (.inr rfl) ?_
      cases cs with
      | nil =>
        simp
        exact hK _ _ ⟨_, rfl, e3, ec3, g3⟩
      | cons x xs =>
        simp [e3, ec3]
        have hl : (0 : Int) < (xs.length : Int) + 1 := by omega
        have hm := Int.emod_nonneg t (Int.ne_of_gt hl)
        have hm2 := Int.emod_lt_of_pos t hl
        obtain ⟨k, hk⟩ := Int.eq_ofNat_of_zero_le hm
        rw [hk]
        have kl : k < (x :: xs).length := by rw [List.length_cons]; omega
        refine ⟨D.int ((x :: xs)[k]'kl), ?_, hK _ _ ⟨_, rfl, e3, ec3, g3⟩⟩
        show atI (D.int x :: List.map D.int xs) (k : Int) = _
        rw [DL.atI_nat, ← List.map_cons, List.getElem?_map, List.getElem?_eq_getElem kl]; rfl
    · subst es
      refine wpB_seq (fun σ h4 => σ = [some (D.ref p), some (D.int many), none, some (D.int t), some (D.int cell), none, none, none] ∧ h4 = h3) (fun K hK => ?_) fun σ h4 ⟨es, e4⟩ => ?_
      · have k0 := hK _ _ ⟨rfl, rfl⟩
        simp [e3, ec3]
        by_cases c3 : t < (cs.length : Int)
        · rw [if_pos c3]
          by_cases c4 : 1000000000000000000 ≤ if cell < 0 then -cell else cell
          · rw [if_pos c4]
            rw [wpB_cons]
            simp [e3]
            refine ⟨dv, m0, q _ _ (vm _).1 (vm _).2 ⟨cs, t + 1, _, up_self, (up_ne np.symm).trans ec3, cl, by omega, by omega, Int.ediv_nonneg (by omega) (by omega)⟩ (g3.pen ⟨_, e3⟩)⟩
          · rw [if_neg c4]; exact k0
        · rw [if_neg c3]; exact k0
      · subst es e4
        rw [wpB_cons]
        simp
        refine ⟨fits_le (by decide), fun q1 hq1 => ?_⟩
        have n1 : p ≠ q1 := fun z => by rw [z, hq1] at e3; cases e3
        have n2 : c ≠ q1 := fun z => by rw [z, hq1] at ec3; cases ec3
        have g4 : Gx p h (up h4 q1 (.lst primes)) := g3.trans ((Gw.up hq1).gx)
        have e4 : up h4 q1 (.lst primes) p = _ := (up_ne n1).trans e3
        have ec4 : up h4 q1 (.lst primes) c = _ := (up_ne n2).trans ec3
        have e5 : up h4 q1 (.lst primes) q1 = _ := up_self
        show wpB _ _ _ _ (up h4 q1 (.lst primes))
        generalize up h4 q1 (.lst primes) = h5 at g4 e4 ec4 e5 ⊢
        obtain ⟨v1, a1, b1, d1⟩ := primes_at t
        obtain ⟨v2, a2, b2, d2⟩ := primes_at (t + 2)
        rw [wpB_cons]
        simp [e5, a1]
        have tb : t.natAbs < 2 ^ 64 := by omega
        have tr : ∀ x y : Int, 0 < y → y < 2 ^ 31 → (x % y).natAbs < 2 ^ 64 := fun x y hy hz => by
          have := Int.emod_nonneg x (Int.ne_of_gt hy)
          have := Int.emod_lt_of_pos x hy
          omega
        rw [wpB_cons]
        simp
        refine ⟨b1, mulR (by decide), mulL (by decide), mulR tb, b1, ?_⟩
        rw [wpB_cons]
        simp [e5, a2]
        refine ⟨mulL (tr _ _ b1 d1), b2, ?_⟩
        refine ⟨mulL (tr _ _ b2 d2), divOk (by decide) (by decide), m0, q _ _ (vm _).1 (vm _).2 ⟨cs, t + 1, l, e4, ec4, cl, by omega, by omega, l0⟩ g4⟩
end
end LW

namespace LW
open PySem L2 DL
section
variable {d : Nat} {h : MH} {Q : D → MH → Prop} {E : DX} {p c : Addr} {n : Nat}
theorem ixD_lst {a : Addr} {xs : List D} {i : Int} {x : D} (ea : h a = some (.lst xs)) (e : atI xs i = some x) (q : Q x h) : ixD (.ref a) (.int i) h Q := .inl ⟨xs, i, x, rfl, ea, e, q⟩
/-- one of a list -/
theorem pick_ok {a : Addr} {xs : List D} (pn : Pen h p c n) (hn : n < 2 ^ 60) (ea : h a = some (.lst xs)) (x0 : xs ≠ []) (xl : xs.length ≤ 16777216) (q : ∀ v h', v ∈ xs → Pen h' p c (n + 1) → Gx p h h' → Q v h') : Ph prog (d + 2) 12 [.ref p, .ref a] h Q E := by
  refine ph_of at__law_pick rfl ?_
  have l0 : 0 < xs.length := List.length_pos_iff.mpr x0
  have na : a ≠ p := fun z => by obtain ⟨k, e⟩ := pn.has; rw [← z, ea] at e; cases e
  simp [f__law_pick, ea]
  refine draw_ok (d := d) pn (by omega) (by omega) hn fun v h' v0 vm p' g => ?_
  obtain ⟨k, rfl⟩ := Int.eq_ofNat_of_zero_le v0
  have kl : k < xs.length := by omega
  refine ixD_lst (g.1 _ _ na ea) ?_ (q _ _ (List.getElem_mem kl) p' g)
  rw [DL.atI_nat, List.getElem?_eq_getElem kl]
/-- one sign of a text -/
theorem pickS_ok {z : Str} (pn : Pen h p c n) (hn : n < 2 ^ 60) (x0 : 0 < z.length) (xl : z.length ≤ 16777216) (q : ∀ v h', v ∈ z.cps.toList → Pen h' p c (n + 1) → Gx p h h' → Q (.str ⟨#[v]⟩) h') : Ph prog (d + 2) 12 [.ref p, .str z] h Q E := by
  refine ph_of at__law_pick rfl ?_
  simp [f__law_pick]
  refine ⟨fits_le xl, draw_ok (d := d) pn (by omega) (by omega) hn fun v h' v0 vm p' g => ?_⟩
  obtain ⟨k, rfl⟩ := Int.eq_ofNat_of_zero_le v0
  have kl : k < z.cps.toList.length := by
    have : z.length = z.cps.toList.length := by simp [Str.length]
    omega
  refine ⟨fits_le xl, z.cps.toList[k], ?_, q _ _ (List.getElem_mem _) p' g⟩
  rw [DL.atI_nat, List.getElem?_eq_getElem kl]
/-- a number of so many figures -/
theorem great_ok {k : Nat} (pn : Pen h p c n) (hn : n + k < 2 ^ 60) (hk : k ≤ 1000) (q : ∀ (v : Int) h', 0 ≤ v → v < 10 ^ k → Pen h' p c (n + k) → Gx p h h' → Q (.int v) h') : Ph prog (d + 2) 13 [.ref p, .int k] h Q E := by
  refine ph_of at__law_great rfl ?_
  simp only [f__law_great]
  rw [wpB_cons]
  simp
  rw [wpB_cons]
  simp
  refine ⟨by omega, ?_⟩
  refine for_rule (fun r σ h' => ∃ j v x, r.length + j = k ∧ σ = [some (D.ref p), some (D.int k), some (D.int v), x] ∧ 0 ≤ v ∧ v < 10 ^ j ∧ Pen h' p c (n + j) ∧ Gx p h h')
    (fun _ _ _ _ => trivial) (fun σ h' ⟨j, v, x, e1, e2, v0, vj, pn, g⟩ => ?_) (fun dd r σ h' K ⟨j, v, x, e1, e2, v0, vj, pn, g⟩ hK => ?_) _ _ _ ⟨0, 0, none, by simp, rfl, by decide, by simp, pn, .refl⟩
  · simp at e1; subst e1 e2
    simp
    exact q _ _ v0 vj pn g
  · subst e2
    rw [List.length_cons] at e1
    simp
    refine ⟨mulL (by decide), draw_ok (d := d) pn (by decide) (by decide) (by omega) fun w h2 w0 wm pn2 g2 => ?_⟩
    simp
    refine hK _ _ ⟨j + 1, 10 * v + w, _, by omega, rfl, by omega, ?_, pn2, g.trans g2⟩
    have : (10 : Int) ^ (j + 1) = 10 ^ j * 10 := Int.pow_succ _ _
    omega
end
end LW

namespace LW
open PySem L2 DL
/-! ### things that can be shown -/
def Ok80 (k w : Nat) (t : PyData) : Prop := t.showable = true ∧ t.leavesShort 80 = true ∧ t.bulk ≤ w ∧ t.depth ≤ k
def Gd (h : MH) (k w : Nat) (x : D) : Prop := Wf h x ∧ ∃ t, Den h x t ∧ Ok80 k w t
section
variable {p c : Addr} {h h1 : MH} {n k w : Nat} {x : D}
theorem Ok80.mono {t : PyData} {k' w' : Nat} (hk : k ≤ k') (hw : w ≤ w') : Ok80 k w t → Ok80 k' w' t
  | ⟨a, b, c, d⟩ => ⟨a, b, Nat.le_trans c hw, Nat.le_trans d hk⟩
theorem Gd.mono {k' w' : Nat} (hk : k ≤ k') (hw : w ≤ w') : Gd h k w x → Gd h k' w' x
  | ⟨a, t, b, c⟩ => ⟨a, t, b, c.mono hk hw⟩
theorem Gx.den (pn : Pen h p c n) (f : Gx p h h1) {t : PyData} (e : Den h x t) : Den h1 x t := by
  obtain ⟨cs, tt, l, ep, _⟩ := pn
  induction e with
  | non => exact .non
  | bl b => exact .bl b
  | int i => exact .int i
  | str x => exact .str x
  | tup hl hs ih => exact .tup hl fun i d t a b => ih i d t a b
  | lst ha hl hs ih => exact .lst (f.1 _ _ (fun z => by rw [z, ep] at ha; cases ha) ha) hl fun i d t a b => ih i d t a b
  | dct0 ha => exact .dct0 (f.1 _ _ (fun z => by rw [z, ep] at ha; cases ha) ha)
mutual
theorem Gx.wf (pn : Pen h p c n) (f : Gx p h h1) : ∀ {x : D}, Wf h x → Wf h1 x
  | .ref a, w => by simp only [Wf] at w ⊢; exact f.kd pn w
  | .str _, w => w
  | .tup ds, w => by simp only [Wf] at w ⊢; exact ⟨w.1, Gx.wfs pn f w.2⟩
  | .scr _, w => w
  | .non, w => w
  | .bl _, w => w
  | .int _, w => w
theorem Gx.wfs (pn : Pen h p c n) (f : Gx p h h1) : ∀ {ds : List D}, Wfs h ds → Wfs h1 ds
  | [], w => by simp only [Wfs]
  | d :: ds, w => by
    have w : Wf h d ∧ Wfs h ds := by simpa only [Wfs] using w
    simp only [Wfs]
    exact ⟨Gx.wf pn f w.1, Gx.wfs pn f w.2⟩
end
theorem Gd.gx (pn : Pen h p c n) (f : Gx p h h1) : Gd h k w x → Gd h1 k w x
  | ⟨a, t, b, c⟩ => ⟨Gx.wf pn f a, t, Gx.den pn f b, c⟩
theorem gd_non : Gd h 0 0 .non := ⟨trivial, _, .non, rfl, rfl, Nat.le_refl _, Nat.le_refl _⟩
theorem gd_bl {b : Bool} : Gd h 0 0 (.bl b) := ⟨trivial, _, .bl b, rfl, rfl, Nat.le_refl _, Nat.le_refl _⟩
theorem gd_int {i : Int} (hi : i.natAbs < 2 ^ 79) : Gd h 0 0 (.int i) := by
  have hl : i.natAbs.log2 < 79 := by
    by_cases z : i.natAbs = 0
    · rw [z]; decide
    · exact (Nat.log2_lt z).mpr hi
  refine ⟨trivial, _, .int i, ?_, ?_, Nat.le_refl _, Nat.le_refl _⟩
  · show decide (i.natAbs.log2 < 1920) = true
    exact decide_eq_true (by omega)
  · show decide (Str.length (Str.ofString (toString i)) ≤ 80) = true
    refine decide_eq_true ?_
    rw [ofString_length]
    exact int_text_length_le (by decide) hl
theorem gd_str {z : Str} (hz : z.length ≤ w) (hw : w ≤ 100000) (ok : PyData.strOk z = true) : Gd h 0 w (.str z) := by
  refine ⟨⟨fits_le (by omega), ok⟩, _, .str z, rfl, ?_, hz, Nat.zero_le _⟩
  show (z.cps.toList.all fun c => decide (c < 16 ^ 8)) = true
  rw [List.all_eq_true]
  intro x hx
  have ok : Array.all z.cps (· < 0x110000) = true := ok
  rw [Array.all_eq_true_iff_forall_mem] at ok
  have := of_decide_eq_true (ok x (by simpa using hx))
  exact decide_eq_true (by omega)
theorem gd_items : ∀ {ds : List D}, (∀ d ∈ ds, Gd h k w d) → ∃ ts, ts.length = ds.length ∧ (∀ (i : Nat) d t, ds[i]? = some d → ts[i]? = some t → Den h d t) ∧ PyData.showableAll ts = true ∧ PyData.leavesShortAll 80 ts = true ∧ PyData.bulkAll ts ≤ ds.length * (w + 1) ∧ PyData.depthAll ts ≤ k
  | [], _ => ⟨[], rfl, (fun i d t a => by simp at a), rfl, rfl, Nat.zero_le _, Nat.zero_le _⟩
  | d :: ds, H => by
    obtain ⟨ts, a, b, c1, c2, c3, c4⟩ := gd_items fun x hx => H x (List.mem_cons_of_mem _ hx)
    obtain ⟨_, t, e, o1, o2, o3, o4⟩ := H d List.mem_cons_self
    refine ⟨t :: ts, by rw [List.length_cons, List.length_cons, a], fun i x y hx hy => ?_, ?_, ?_, ?_, ?_⟩
    · cases i with
      | zero => cases hx; cases hy; exact e
      | succ i => exact b i x y hx hy
    · simp only [PyData.showableAll, o1, c1, Bool.and_self]
    · simp only [PyData.leavesShortAll, o2, c2, Bool.and_self]
    · simp only [PyData.bulkAll, List.length_cons, Nat.succ_mul]
      omega
    · simp only [PyData.depthAll]
      omega
theorem gd_tup {ds : List D} {m : Nat} (H : ∀ d ∈ ds, Gd h k w d) (hl : ds.length ≤ m) (hm : m ≤ 1000) : Gd h (k + 1) (m * (w + 1)) (.tup ds) := by
  obtain ⟨ts, a, b, c1, c2, c3, c4⟩ := gd_items H
  refine ⟨wf_tup.mpr ⟨by omega, fun d hd => (H d hd).1⟩, .tuple ts, .tup a b, ?_, ?_, ?_, ?_⟩
  · simp only [PyData.showable]; exact c1
  · simp only [PyData.leavesShort]; exact c2
  · simp only [PyData.bulk]; exact Nat.le_trans c3 (Nat.mul_le_mul_right _ hl)
  · simp only [PyData.depth]; omega
theorem gd_lst {a : Addr} {ds : List D} {m : Nat} (ea : h a = some (.lst ds)) (H : ∀ d ∈ ds, Gd h k w d) (hl : ds.length ≤ m) : Gd h (k + 1) (m * (w + 1)) (.ref a) := by
  obtain ⟨ts, z, b, c1, c2, c3, c4⟩ := gd_items H
  refine ⟨?_, .list ts, .lst ea z b, ?_, ?_, ?_, ?_⟩
  · simp only [Wf]; exact .inl ⟨_, ea⟩
  · simp only [PyData.showable]; exact c1
  · simp only [PyData.leavesShort]; exact c2
  · simp only [PyData.bulk]; exact Nat.le_trans c3 (Nat.mul_le_mul_right _ hl)
  · simp only [PyData.depth]; omega
theorem gd_dct {a : Addr} (ea : h a = some (.dct [])) : Gd h 1 0 (.ref a) := by
  refine ⟨?_, .dict [], .dct0 ea, ?_, ?_, ?_, ?_⟩
  · simp only [Wf]; exact .inr ⟨_, ea⟩
  · rfl
  · rfl
  · exact Nat.le_refl _
  · exact Nat.le_refl _
end
section
variable {d : Nat} {h : MH} {Q : D → MH → Prop} {E : DX} {p c : Addr} {n : Nat}
/-- a thing that is no row of rows -/
def Fl (v : D) : Prop := ∀ ds, v = .tup ds → ds.length ≤ 2 ∧ ∀ es, .tup es ∉ ds
theorem al_rule {o : MO} {h : MH} {Q : D → MH → Prop} (H : ∀ q h', h q = none → Gw h h' → h' q = some o → Q (.ref q) h') : al o h Q := fun q hq => H q _ hq (Gw.up hq) up_self
end
end LW
set_option Elab.async false
set_option linter.all false
set_option maxRecDepth 100000
set_option maxHeartbeats 1000000
namespace LW
open PySem L2 DL TL
/-! ### figures, plainly -/
theorem sub_mem (c : Nat) (z : Str) : subStr ⟨#[c]⟩ z = decide (c ∈ tl z) := StrLaws.found_one z c
def dig (c : Nat) : Bool := subStr ⟨#[c]⟩ "0123456789"
theorem dig_iff {c : Nat} : dig c = true ↔ 48 ≤ c ∧ c ≤ 57 := by
  unfold dig
  rw [sub_mem, decide_eq_true_eq, show tl ("0123456789" : Str) = [48,49,50,51,52,53,54,55,56,57] by decide +kernel]
  simp
  omega
theorem neg_iff {z : Str} : Txt.startswith z "-" = true ↔ (tl z)[0]? = some 45 := by
  have := StrLaws.subAt_one z 45 0
  rw [← this]
  unfold Txt.startswith
  rw [Bool.and_eq_true, decide_eq_true_eq]
  exact Iff.rfl
/-- the figures of a text -/
def fgS (z : Str) : Str := if Txt.startswith z "-" = true then ⟨((tl z).drop 1).toArray⟩ else z
structure Wh (z : Str) : Prop where
  l1 : 0 < (fgS z).length
  l2 : (fgS z).length ≤ 19
  d : (tl (fgS z)).all dig = true
  h : (tl (fgS z))[0]? ≠ some 48 ∨ z = "0"
instance (z : Str) : Decidable (Wh z) := decidable_of_iff (0 < (fgS z).length ∧ (fgS z).length ≤ 19 ∧ (tl (fgS z)).all dig = true ∧ ((tl (fgS z))[0]? ≠ some 48 ∨ z = "0")) ⟨fun ⟨a, b, c, d⟩ => ⟨a, b, c, d⟩, fun w => ⟨w.l1, w.l2, w.d, w.h⟩⟩
def whole (z : Str) : Option Int := if Wh z then intText? z else none
theorem Wh.int {z : Str} (w : Wh z) : ∃ n, intText? z = some n ∧ z.length ≤ 640 := by
  have hd : NumText.AllDigits (tl (fgS z)) := fun c hc => dig_iff.mp (List.all_eq_true.mp w.d c hc)
  have hl1 := w.l1
  have hl2 := w.l2
  by_cases c : Txt.startswith z "-" = true
  · have e : fgS z = ⟨((tl z).drop 1).toArray⟩ := if_pos c
    have h0 := neg_iff.mp c
    rw [e] at hd hl1 hl2
    rw [len_tl, tl_mk] at hl1 hl2
    rw [tl_mk] at hd
    cases ht : tl z with
    | nil => rw [ht] at h0; simp at h0
    | cons a r =>
      rw [ht] at h0 hd hl1 hl2
      simp at h0 hl1 hl2
      subst h0
      have hz : z.length ≤ 640 := by rw [len_tl, ht]; simp; omega
      exact ⟨_, PySem.intText_neg ht (by simpa using hd) (fun z => by rw [z] at hl1; simp at hl1) (by omega), hz⟩
  · have e : fgS z = z := if_neg c
    rw [e] at hd hl1 hl2
    refine ⟨_, PySem.intText_digits hd (fun q => ?_) (by omega), by omega⟩
    rw [len_tl, show tl z = [] from q] at hl1
    simp at hl1
def optD : Option Int → D
  | some i => .int i
  | none => .non
/-! ### numbers written -/
theorem tl_nat (n : Nat) : tl (Str.ofString (toString ((n : Nat) : Int))) = numL n := tl_num n
theorem numL_dig (n : Nat) : (numL n).all dig = true := List.all_eq_true.mpr fun c hc => dig_iff.mpr (numL_digits n c hc)
theorem numL_head {n : Nat} (h : (numL n)[0]? = some 48) : n = 0 := by
  induction n using Nat.strongRecOn with
  | _ n ih =>
    by_cases c : n < 10
    · rw [numL_lt c] at h; simp at h; exact h
    · rw [numL_step (by omega)] at h
      have hl : 0 < (numL (n / 10)).length := List.length_pos_iff.mpr (numL_ne _)
      rw [List.getElem?_append_left hl] at h
      have := ih (n / 10) (by omega) h
      omega
theorem whole_nat {n : Nat} (h : n < 10 ^ 19) : whole (Str.ofString (toString ((n : Nat) : Int))) = some (n : Int) := by
  have hl := numL_len (k := 19) (by decide) h
  have e := tl_nat n
  have hp : 0 < (numL n).length := List.length_pos_iff.mpr (numL_ne n)
  have ns : ¬ Txt.startswith (Str.ofString (toString ((n : Nat) : Int))) "-" = true := fun q => by
    have q := neg_iff.mp q
    rw [e] at q
    have := numL_digits n 45 (List.mem_of_getElem? q)
    omega
  have ef : fgS (Str.ofString (toString ((n : Nat) : Int))) = Str.ofString (toString ((n : Nat) : Int)) := if_neg ns
  have w : Wh (Str.ofString (toString ((n : Nat) : Int))) := by
    refine ⟨by rw [ef, len_tl, e]; exact hp, by rw [ef, len_tl, e]; exact hl, by rw [ef, e]; exact numL_dig n, ?_⟩
    rw [ef, e]
    by_cases z : (numL n)[0]? = some 48
    · have := numL_head z
      subst this
      exact .inr rfl
    · exact .inl z
  unfold whole
  rw [if_pos w]
  exact int_num (by omega)
theorem neg_text {n : Nat} (h : 0 < n) : tl (Str.ofString (toString (-(n : Int)))) = 45 :: numL n := by
  cases n with
  | zero => omega
  | succ m =>
    rw [show (-((m + 1 : Nat) : Int)) = Int.negSucc m from rfl]
    show tl (Str.ofString ("-" ++ (toString ((m + 1 : Nat))))) = _
    rw [tl_ofString, String.toList_append, List.map_append, ← tl_ofString, ← tl_ofString]
    show tl "-" ++ tl (Str.ofString (toString ((m + 1 : Nat) : Int))) = _
    rw [tl_nat]
    rfl
theorem whole_neg {n : Nat} (h0 : 0 < n) (h : n < 10 ^ 19) : whole (Str.ofString (toString (-(n : Int)))) = some (-(n : Int)) := by
  have hl := numL_len (k := 19) (by decide) h
  have e := neg_text h0
  have hp : 0 < (numL n).length := List.length_pos_iff.mpr (numL_ne n)
  have ns : Txt.startswith (Str.ofString (toString (-(n : Int)))) "-" = true := neg_iff.mpr (by rw [e]; rfl)
  have ef : fgS (Str.ofString (toString (-(n : Int)))) = ⟨(numL n).toArray⟩ := by
    unfold fgS
    rw [if_pos ns, e]
    rfl
  have w : Wh (Str.ofString (toString (-(n : Int)))) := by
    refine ⟨by rw [ef, len_tl, tl_mk]; exact hp, by rw [ef, len_tl, tl_mk]; exact hl, by rw [ef, tl_mk]; exact numL_dig n, .inl ?_⟩
    rw [ef, tl_mk]
    intro z
    have := numL_head z
    omega
  unfold whole
  rw [if_pos w]
  have := PySem.intText_neg e (numL_digits n) (numL_ne n) (by rw [len_tl, e]; simp; omega)
  rw [this, numL_val]
theorem whole_int {i : Int} (h : i.natAbs < 10 ^ 19) : whole (Str.ofString (toString i)) = some i := by
  by_cases c : 0 ≤ i
  · obtain ⟨n, rfl⟩ := Int.eq_ofNat_of_zero_le c
    exact whole_nat (by simpa using h)
  · obtain ⟨n, hn⟩ : ∃ n : Nat, i = -(n : Int) := ⟨i.natAbs, by omega⟩
    subst hn
    exact whole_neg (by omega) (by simpa using h)
end LW
set_option Elab.async false
set_option linter.all false
set_option maxRecDepth 100000
set_option maxHeartbeats 1000000
namespace LW
open PySem L2 DL TL
theorem strs_map : ∀ l : List Str, strsOf (l.map D.str) = some l
  | [] => rfl
  | z :: l => by rw [List.map_cons, strsOf, strs_map l]; rfl
section
variable {d : Nat} {h : MH} {Q : D → MH → Prop} {E : DX}
@[simp] theorem mtT_sw {z : Str} : mtTy .startswith (.str z) h = True := rfl
@[simp] theorem mtT_sp {z : Str} : mtTy .split (.str z) h = True := rfl
@[simp] theorem mtT_jn {z : Str} : mtTy .join (.str z) h = True := rfl
@[simp] theorem met_sw {z b : Str} : met .startswith (.str z) [.str b] h Q = Q (.bl (Txt.startswith z b)) h := rfl
theorem met_sp {z b : Str} : met .split (.str z) [.str b] h Q = (((b.length == 0) = false ∧ Fits (z.length + 2)) ∧ al (.lst ((Txt.split z b).map D.str)) h Q) := rfl
theorem met_jn {z : Str} {a : Addr} {ts : List Str} (e : h a = some (.lst (ts.map D.str))) (l : (ts.map (·.length)).sum + ts.length * z.length ≤ 16777216) (q : Q (.str (Txt.join z ts)) h) : met .join (.str z) [.ref a] h Q := ⟨_, ts, e, strs_map ts, l, q⟩
theorem cut1 {α : Type} (xs : List α) : cut xs (some 1) none = xs.drop 1 := cut_from xs 1
theorem cut01 {α : Type} (xs : List α) : cut xs none (some 1) = xs.take 1 := cut_to xs 1
theorem dig0 {z : Str} (l : 0 < z.length) : ∃ c, (tl z)[0]? = some c ∧ atI z.cps.toList 0 = some c := by
  rw [len_tl] at l
  refine ⟨(tl z)[0], List.getElem?_eq_getElem l, ?_⟩
  rw [show (0 : Int) = ((0 : Nat) : Int) from rfl, DL.atI_nat, List.getElem?_eq_getElem l]
theorem one_eq {c v : Nat} : ((⟨#[c]⟩ : Str) = ⟨#[v]⟩) ↔ c = v := by simp
theorem whole_in_ok {z : Str} (hl : z.length ≤ 16000) (q : ∀ h', Gw h h' → Q (optD (whole z)) h') : Ph prog (d + 1) 7 [.str z] h Q E := by
  refine ph_of at_whole_in rfl ?_
  simp only [f_whole_in]
  refine wpB_seq (fun σ h1 => σ = [some (.str z), some (.str (fgS z)), none] ∧ h1 = h) (fun K hK => ?_) fun σ h1 ⟨es, eh⟩ => ?_
  · simp
    by_cases c : Txt.startswith z "-" = true
    · rw [if_pos c]
      refine ⟨fits_le (by omega), hK _ _ ⟨?_, rfl⟩⟩
      simp [fgS, c, cut1]
    · rw [if_neg c]
      refine hK _ _ ⟨?_, rfl⟩
      simp [fgS, c]
  · subst es eh
    rw [wpB_cons]
    simp [-al_eq, -ixD_ref_int]
    have non : ¬ Wh z → ∀ h', Gw h1 h' → Q .non h' := fun w h' g => by
      have := q h' g
      unfold whole at this
      rw [if_neg w] at this
      exact this
    have fl : (fgS z).length ≤ 16000 := by
      unfold fgS
      split
      · rw [len_tl, tl_mk, List.length_drop]
        rw [len_tl] at hl
        omega
      · exact hl
    refine ⟨fits_le (by omega), ?_⟩
    by_cases c1 : 0 < (fgS z).length
    · rw [if_pos c1]
      by_cases c2 : (fgS z).length ≤ 19
      · rw [if_pos (by omega)]
        refine lc_map (fun d => match d with
          | .str w => [.bl (subStr w "0123456789")]
          | _ => []) _ trivial (by simp [sizeLine_eq]; rw [len_tl] at c2; exact Nat.le_trans c2 (by decide)) (fun d hd acc N ha hN => ?_) (fun d hd => ?_) ?_
        · obtain ⟨c, _, rfl⟩ := List.mem_map.mp hd
          simp
          exact ⟨ha, hN⟩
        · obtain ⟨c, _, rfl⟩ := List.mem_map.mp hd
          simp
        · refine al_rule fun p h' hp g e => ⟨_, _, e, by rw [flat_one (fun c => D.bl (dig c)) _ _ _ fun _ _ => rfl, ← Function.comp_def D.bl, ← List.map_map]; exact bls_map _, ?_⟩
          have key : (((fgS z).cps.toList.map dig).all id) = (tl (fgS z)).all dig := by simp [List.all_map]
          rw [key]
          cases cd : (tl (fgS z)).all dig with
          | false => exact non (fun w => by have := w.d; rw [cd] at this; cases this) h' g
          | true =>
            simp
            obtain ⟨c, e1, e2⟩ := dig0 c1
            refine ⟨fits_le (by omega), c, by simpa using e1, ?_⟩
            have fin : Wh z → bi .int [.str z] h' Q := fun w => by
              obtain ⟨n, en, le⟩ := w.int
              refine ⟨n, en, le, ?_⟩
              have := q h' g
              unfold whole at this
              rw [if_pos w, en] at this
              exact this
            by_cases c3 : (⟨#[c]⟩ : Str) = "0"
            · rw [if_pos c3]
              have c3' : c = 48 := one_eq.mp c3
              by_cases c4 : z = "0"
              · rw [if_pos c4]; exact fin ⟨c1, c2, cd, .inr c4⟩
              · rw [if_neg c4]
                refine non (fun w => ?_) h' g
                rcases w.h with w | w
                · exact w (by rw [e1, c3'])
                · exact c4 w
            · rw [if_neg c3]
              exact fin ⟨c1, c2, cd, .inl fun z => c3 (by rw [e1] at z; cases z; rfl)⟩
      · rw [if_neg (by omega)]
        exact non (fun w => c2 w.l2) h1 .refl
    · rw [if_neg c1]
      exact non (fun w => c1 w.l1) h1 .refl
def cnt (lo hi : Int) (z : Str) : Option Int := match whole z with
  | some n => if lo ≤ n ∧ n ≤ hi then some n else none
  | none => none
theorem take1 {z : Str} : ((⟨((tl z).take 1).toArray⟩ : Str) = "-") ↔ Txt.startswith z "-" = true := by
  rw [neg_iff]
  constructor
  · intro e
    have : tl (⟨((tl z).take 1).toArray⟩ : Str) = [45] := by rw [e]; rfl
    rw [tl_mk] at this
    cases ht : tl z with
    | nil => rw [ht] at this; simp at this
    | cons a r => rw [ht] at this; simp at this; simp [this]
  · intro e
    cases ht : tl z with
    | nil => rw [ht] at e; simp at e
    | cons a r =>
      rw [ht] at e
      simp at e
      subst e
      rfl
theorem nodig {l : List Nat} {L : Str} : (l.flatMap fun c => if (!subStr ⟨#[c]⟩ L) = true then [D.str ⟨#[c]⟩] else []).length = 0 ↔ (l.all fun c => subStr ⟨#[c]⟩ L) = true := by
  rw [List.length_eq_zero_iff, List.flatMap_eq_nil_iff, List.all_eq_true]
  constructor
  · intro H c hc
    have := H c hc
    by_cases z : subStr ⟨#[c]⟩ L = true
    · exact z
    · simp [z] at this
  · intro H c hc
    simp [H c hc]
theorem sift {z L : Str} {σ : DS} {i : Nat} {K : List D → MH → Prop} {h : MH} {cd : DT} {el : DE} (hz : z.length ≤ 16000) (hcd : ∀ c R, cd (σ.set i (some (.str ⟨#[c]⟩))) h R = R (!subStr ⟨#[c]⟩ L) h) (hel : ∀ c R, el (σ.set i (some (.str ⟨#[c]⟩))) h R = R (.str ⟨#[c]⟩) h)
    (q : ∀ xs, (xs.length = 0 ↔ ((tl z).all fun c => subStr ⟨#[c]⟩ L) = true) → xs.length ≤ 16000 → K xs h) :
    lcGo (.nm i) (fun _ => True) cd el σ K (z.cps.toList.map fun c => .str ⟨#[c]⟩) [] h := by
  refine lc_map (fun d => match d with
    | .str w => if (!subStr w L) = true then [.str w] else []
    | _ => []) _ trivial (by rw [List.length_map, sizeLine_eq]; rw [len_tl] at hz; exact Nat.le_trans hz (by decide)) (fun d hd acc N ha hN => ?_) (fun d hd => ?_) ?_
  · obtain ⟨c, _, rfl⟩ := List.mem_map.mp hd
    show cd _ h _
    rw [hcd]
    have hN : N (acc ++ if (!subStr ⟨#[c]⟩ L) = true then [D.str ⟨#[c]⟩] else []) h := hN
    by_cases z : (!subStr ⟨#[c]⟩ L) = true
    · rw [if_pos z, hel]
      rw [if_pos z] at hN
      exact ⟨ha, hN⟩
    · rw [if_neg z]
      rw [if_neg z, List.append_nil] at hN
      exact hN
  · obtain ⟨c, _, rfl⟩ := List.mem_map.mp hd
    show (if (!subStr ⟨#[c]⟩ L) = true then [D.str ⟨#[c]⟩] else []).length ≤ 1
    split <;> simp
  · rw [List.flatMap_map]
    refine q _ nodig ?_
    have : ∀ l : List Nat, (l.flatMap fun c => if (!subStr ⟨#[c]⟩ L) = true then [D.str ⟨#[c]⟩] else []).length ≤ l.length := fun l => by
      induction l with
      | nil => simp
      | cons c l ih =>
        rw [List.flatMap_cons, List.length_append, List.length_cons]
        have h1 : (if (!subStr ⟨#[c]⟩ L) = true then [D.str ⟨#[c]⟩] else []).length ≤ 1 := by split <;> simp
        omega
    exact Nat.le_trans (this _) (by rw [len_tl] at hz; exact hz)
theorem count_ok {z : Str} {lo hi : Int} (hl : z.length ≤ 16000) (q : ∀ h', Gw h h' → Q (optD (cnt lo hi z)) h') : Ph prog (d + 1) 15 [.str z, .int lo, .int hi] h Q E := by
  refine ph_of at__law_count_in rfl ?_
  simp only [f__law_count_in]
  have fl : (fgS z).length ≤ 16000 := by
    unfold fgS
    split
    · rw [len_tl, tl_mk, List.length_drop]
      rw [len_tl] at hl
      omega
    · exact hl
  refine wpB_seq (fun σ h1 => σ = [some (.str z), some (.int lo), some (.int hi), some (.str (fgS z)), none] ∧ h1 = h) (fun K hK => ?_) fun σ h1 ⟨es, eh⟩ => ?_
  · simp
    refine ⟨fits_le (by omega), ?_⟩
    rw [cut01]
    by_cases c : Txt.startswith z "-" = true
    · rw [if_pos (take1.mpr c)]
      refine ⟨fits_le (by omega), hK _ _ ⟨?_, rfl⟩⟩
      simp [fgS, c, cut1]
    · rw [if_neg (fun e => c (take1.mp e))]
      refine hK _ _ ⟨?_, rfl⟩
      simp [fgS, c]
  · subst es eh
    have non : ¬ Wh z → ∀ h', Gw h1 h' → Q .non h' := fun w h' g => by
      have := q h' g
      unfold cnt whole at this
      rw [if_neg w] at this
      exact this
    rw [wpB_cons]
    simp [-al_eq, -ixD_ref_int]
    refine ⟨fits_le (by omega), ?_⟩
    by_cases c1 : 0 < (fgS z).length
    · rw [if_pos (by omega)]
      by_cases c2 : (fgS z).length ≤ 19
      · rw [if_pos (by omega)]
        rw [wpB_cons]
        simp [-al_eq, -ixD_ref_int]
        refine sift (L := "0123456789") fl (fun c R => ?_) (fun c R => ?_) fun xs hx xl => ?_
        · simp
        · simp
        · refine al_rule fun p h' hp g e => ⟨fits_le (by decide), al_rule fun p2 h2 hp2 g2 e2 => eqD_lsts (g2 _ _ e) e2 (.inr rfl) ?_⟩
          have g := g.trans g2
          cases cd : (tl (fgS z)).all dig with
          | false =>
            have nx : ¬ xs.length = ([] : List D).length := fun z' => by
              have := hx.mp z'
              have cd : ((tl (fgS z)).all fun c => subStr ⟨#[c]⟩ "0123456789") = false := cd
              rw [cd] at this; cases this
            rw [decide_eq_false nx]
            simp
            exact non (fun w => by have := w.d; rw [cd] at this; cases this) h2 g
          | true =>
            have nx : xs.length = ([] : List D).length := hx.mpr cd
            rw [decide_eq_true nx]
            simp
            rw [wpB_cons]
            simp [-al_eq, -ixD_ref_int]
            obtain ⟨c, e1, e2⟩ := dig0 c1
            refine ⟨fits_le (by omega), c, by simpa using e1, ?_⟩
            have fin : Wh z → bi .int [.str z] h2 (fun x h3 => cop .LtE (.int lo) x h3 fun k => if k = true then cop .LtE x (.int hi) h3 fun k => if k = true then bi .int [.str z] h3 Q else Q .non h3 else Q .non h3) := fun w => by
              obtain ⟨n, en, le⟩ := w.int
              refine ⟨n, en, le, ?_⟩
              have := q h2 g
              unfold cnt whole at this
              rw [if_pos w, en] at this
              simp at this
              simp
              by_cases a1 : lo ≤ n
              · by_cases a2 : n ≤ hi
                · rw [if_pos a1, if_pos a2]
                  rw [if_pos ⟨a1, a2⟩] at this
                  exact ⟨n, en, le, this⟩
                · rw [if_pos a1, if_neg a2]
                  rw [if_neg (fun z => a2 z.2)] at this
                  exact this
              · rw [if_neg a1]
                rw [if_neg (fun z => a1 z.1)] at this
                exact this
            by_cases c3 : (⟨#[c]⟩ : Str) = "0"
            · rw [if_pos c3]
              have c3' : c = 48 := one_eq.mp c3
              by_cases c4 : z = "0"
              · rw [if_pos c4]; exact fin ⟨c1, c2, cd, .inr c4⟩
              · rw [if_neg c4]
                refine non (fun w => ?_) h2 g
                rcases w.h with w | w
                · exact w (by rw [e1, c3'])
                · exact c4 w
            · rw [if_neg c3]
              exact fin ⟨c1, c2, cd, .inl fun z => c3 (by rw [e1] at z; cases z; rfl)⟩
      · rw [if_neg (by omega)]
        exact non (fun w => c2 w.l2) h1 .refl
    · rw [if_neg (by omega)]
      exact non (fun w => c1 w.l1) h1 .refl
theorem called_ok {z : Str} (hl : z.length ≤ 16000) (q : ∀ h', Gw h h' → Q (.bl (isWd (.str z))) h') : Ph prog (d + 1) 16 [.str z] h Q E := by
  refine ph_of at__law_called rfl ?_
  simp only [f__law_called]
  rw [wpB_cons]
  simp [-al_eq, -ixD_ref_int]
  refine ⟨fits_le (by omega), ?_⟩
  by_cases c1 : 0 < z.length
  · rw [if_pos (by omega)]
    by_cases c2 : z.length ≤ 8
    · rw [if_pos (by omega)]
      refine sift (L := letters) hl (fun c R => ?_) (fun c R => ?_) fun xs hx xl => ?_
      · simp [letters]
      · simp
      · refine al_rule fun p h' hp g e => ⟨fits_le (by decide), al_rule fun p2 h2 hp2 g2 e2 => eqD_lsts (g2 _ _ e) e2 (.inr rfl) ?_⟩
        have key : decide (xs.length = ([] : List D).length) = isWd (.str z) := by
          rw [Bool.eq_iff_iff, decide_eq_true_eq, show ([] : List D).length = 0 from rfl, hx]
          simp [isWd, c1, c2]
        rw [key]
        exact q _ (g.trans g2)
    · have := q h .refl
      rw [show isWd (.str z) = false by simp [isWd, c2]] at this
      simp [show ¬ (z.length : Int) ≤ 8 by omega]
      exact this
  · have := q h .refl
    rw [show isWd (.str z) = false by simp [isWd, c1]] at this
    simp [show ¬ (1 : Int) ≤ z.length by omega]
    exact this
/-! ### steps -/
def sameI : D → D → Bool
  | .int i, .int j => decide (i = j)
  | _, _ => false
def spl2 (a b : D) : Bool := isWh 0 5 a && (isWh 0 5 b && !sameI a b)
theorem spools_ok {a b : D} (ka : Kd h a) (kb : Kd h b) (q : Q (.bl (spl2 a b)) h) : Ph prog (d + 2) 2 [a, b] h Q E := by
  refine ph_of at_are_spools rfl ?_
  simp [f_are_spools, -al_eq, -ixD_ref_int]
  refine whole_ok (d := d) ka ?_
  cases ca : isWh 0 5 a with
  | false => rw [show spl2 a b = false by simp [spl2, ca]] at q; simpa using q
  | true =>
    simp [-al_eq, -ixD_ref_int]
    refine whole_ok (d := d) kb ?_
    cases cb : isWh 0 5 b with
    | false => rw [show spl2 a b = false by simp [spl2, cb]] at q; simpa using q
    | true =>
      obtain ⟨i, rfl, _⟩ : ∃ i, a = .int i ∧ 0 ≤ i := by cases a <;> simp [isWh] at ca; exact ⟨_, rfl, ca.1⟩
      obtain ⟨j, rfl, _⟩ : ∃ i, b = .int i ∧ 0 ≤ i := by cases b <;> simp [isWh] at cb; exact ⟨_, rfl, cb.1⟩
      rw [show spl2 (.int i) (.int j) = !decide (i = j) by simp [spl2, ca, cb, sameI]] at q
      simpa using q
def isStp (w : Str) (ps : List D) : Bool :=
  if w = "wind" ∧ ps.length = 3 then spl2 (ps.getD 0 .non) (ps.getD 1 .non) && isWh 1 M18 (ps.getD 2 .non)
  else if w = "turn" ∧ ps.length = 1 then isWh 0 5 (ps.getD 0 .non)
  else if w = "swap" ∧ ps.length = 2 then spl2 (ps.getD 0 .non) (ps.getD 1 .non)
  else if w = "do" ∧ ps.length = 2 then isWd (ps.getD 0 .non) && isWh (-9) 9 (ps.getD 1 .non)
  else false
theorem is_step_ok {w : Str} {ps : List D} (hl : ps.length ≤ 15000) (hw : w.length ≤ 16000) (wf : ∀ x ∈ ps, Wf h x) (q : ∀ h', Gw h h' → Q (.bl (isStp w ps)) h') : Ph prog (d + 3) 3 [.tup (.str w :: ps)] h Q E := by
  refine ph_of at_is_step rfl ?_
  simp only [f_is_step]
  rw [wpB_cons]
  simp [-al_eq, -ixD_ref_int]
  rw [if_pos (by decide), if_neg (by omega), if_pos (by decide)]
  rw [wpB_cons]
  simp [-al_eq, -ixD_ref_int, setAll]
  refine ⟨by omega, fun q2 hq2 => ?_⟩
  have g : Gw h (up h q2 (.lst ps)) := Gw.up hq2
  have e2 : up h q2 (.lst ps) q2 = some (.lst ps) := up_self
  generalize up h q2 (.lst ps) = h1 at g e2 ⊢
  have wf1 : ∀ x ∈ ps, Wf h1 x := fun x hx => (wf x hx).gw g
  have ix : ∀ {i : Nat} {x : D} {R : D → MH → Prop} {h'}, h' q2 = some (.lst ps) → ps[i]? = some x → R x h' → ixD (.ref q2) (.int (i : Nat)) h' R := fun {i x R h'} e ex r => ixD_lst e (by rw [DL.atI_nat]; exact ex) r
  have L : ∀ {n : Nat}, ((ps.length : Int) = (n : Int)) ↔ ps.length = n := by intro n; omega
  have ix0 := fun {x : D} {R : D → MH → Prop} {h'} => @ix 0 x R h'
  have ix1 := fun {x : D} {R : D → MH → Prop} {h'} => @ix 1 x R h'
  have ix2 := fun {x : D} {R : D → MH → Prop} {h'} => @ix 2 x R h'
  refine wpB_seq (fun σ h' => σ = [some (.tup (.str w :: ps)), some (.str w), some (.ref q2)] ∧ h' = h1 ∧ ¬ (w = "wind" ∧ ps.length = 3)) (fun K hK => ?_) fun σ h' ⟨es, eh, n1⟩ => ?_
  · have k0 := fun n1 => hK _ h1 ⟨rfl, rfl, n1⟩
    simp [-al_eq, -ixD_ref_int]
    by_cases c1 : w = "wind"
    · rw [if_pos c1]
      refine ⟨_, e2, ?_⟩
      by_cases c2 : ps.length = 3
      · rw [if_pos (by omega)]
        obtain ⟨a, b, c, rfl⟩ : ∃ a b c, ps = [a, b, c] := by match ps, c2 with | [a, b, c], _ => exact ⟨a, b, c, rfl⟩
        refine ix0 e2 rfl (ix1 e2 rfl (spools_ok (d := d) (wf1 a (by simp)).kd (wf1 b (by simp)).kd ?_))
        have qq := q _ g
        have ei : isStp w [a, b, c] = (spl2 a b && isWh 1 M18 c) := by simp [isStp, c1]
        rw [ei] at qq
        cases cs : spl2 a b with
        | false => rw [cs] at qq; simpa using qq
        | true =>
          rw [cs] at qq
          simp [-al_eq, -ixD_ref_int]
          refine ix2 e2 rfl ?_
          exact whole_ok (d := d + 1) (wf1 c (by simp)).kd (by simpa using qq)
      · rw [if_neg (by omega)]
        exact k0 (fun z => c2 z.2)
    · rw [if_neg c1]
      exact k0 (fun z => c1 z.1)
  · subst es
    rw [eh]
    refine wpB_seq (fun σ h' => σ = [some (.tup (.str w :: ps)), some (.str w), some (.ref q2)] ∧ h' = h1 ∧ ¬ (w = "turn" ∧ ps.length = 1)) (fun K hK => ?_) fun σ h' ⟨es, eh, n2⟩ => ?_
    · have k0 := fun n2 => hK _ h1 ⟨rfl, rfl, n2⟩
      simp [-al_eq, -ixD_ref_int]
      by_cases c1 : w = "turn"
      · rw [if_pos c1]
        refine ⟨_, e2, ?_⟩
        by_cases c2 : ps.length = 1
        · rw [if_pos (by omega)]
          obtain ⟨a, rfl⟩ : ∃ a, ps = [a] := by match ps, c2 with | [a], _ => exact ⟨a, rfl⟩
          refine ix0 e2 rfl ?_
          have qq := q _ g
          have ei : isStp w [a] = isWh 0 5 a := by simp [isStp, n1, c1]
          rw [ei] at qq
          exact whole_ok (d := d + 1) (wf1 a (by simp)).kd (by simpa using qq)
        · rw [if_neg (by omega)]
          exact k0 (fun z => c2 z.2)
      · rw [if_neg c1]
        exact k0 (fun z => c1 z.1)
    · subst es
      rw [eh]
      refine wpB_seq (fun σ h' => σ = [some (.tup (.str w :: ps)), some (.str w), some (.ref q2)] ∧ h' = h1 ∧ ¬ (w = "swap" ∧ ps.length = 2)) (fun K hK => ?_) fun σ h' ⟨es, eh, n3⟩ => ?_
      · have k0 := fun n3 => hK _ h1 ⟨rfl, rfl, n3⟩
        simp [-al_eq, -ixD_ref_int]
        by_cases c1 : w = "swap"
        · rw [if_pos c1]
          refine ⟨_, e2, ?_⟩
          by_cases c2 : ps.length = 2
          · rw [if_pos (by omega)]
            obtain ⟨a, b, rfl⟩ : ∃ a b, ps = [a, b] := by match ps, c2 with | [a, b], _ => exact ⟨a, b, rfl⟩
            have qq := q _ g
            have ei : isStp w [a, b] = spl2 a b := by simp [isStp, n1, n2, c1]
            rw [ei] at qq
            refine ix0 e2 rfl (ix1 e2 rfl (spools_ok (d := d) (wf1 a (by simp)).kd (wf1 b (by simp)).kd ?_))
            simpa using qq
          · rw [if_neg (by omega)]
            exact k0 (fun z => c2 z.2)
        · rw [if_neg c1]
          exact k0 (fun z => c1 z.1)
      · subst es
        rw [eh]
        have qq := q _ g
        have ei : isStp w ps = (if w = "do" ∧ ps.length = 2 then isWd (ps.getD 0 .non) && isWh (-9) 9 (ps.getD 1 .non) else false) := by
          unfold isStp
          rw [if_neg n1, if_neg n2, if_neg n3]
        rw [ei] at qq
        rw [wpB_cons]
        simp [-al_eq, -ixD_ref_int]
        by_cases c1 : w = "do"
        · rw [if_pos c1]
          refine ⟨_, e2, ?_⟩
          by_cases c2 : ps.length = 2
          · rw [if_pos (by omega)]
            obtain ⟨a, b, rfl⟩ : ∃ a b, ps = [a, b] := by match ps, c2 with | [a, b], _ => exact ⟨a, b, rfl⟩
            rw [if_pos ⟨c1, rfl⟩] at qq
            have qq : Q (.bl (isWd a && isWh (-9) 9 b)) h1 := qq
            refine ix0 e2 rfl ?_
            refine word_ok (d := d + 1) (wf1 a (by simp)) fun h3 g3 => ?_
            have q3 := q _ (g.trans g3)
            rw [ei, if_pos ⟨c1, rfl⟩] at q3
            have q3 : Q (.bl (isWd a && isWh (-9) 9 b)) h3 := q3
            cases ca : isWd a with
            | false => rw [ca] at q3; simpa using q3
            | true =>
              rw [ca] at q3
              simp [-al_eq, -ixD_ref_int]
              refine ix1 (g3 _ _ e2) rfl ?_
              exact whole_ok (d := d + 1) ((wf1 b (by simp)).gw g3).kd (by simpa using q3)
          · rw [if_neg (by omega)]
            rw [if_neg (fun z => c2 z.2)] at qq
            exact qq
        · rw [if_neg c1]
          rw [if_neg (fun z => c1 z.1)] at qq
          exact qq
end
end LW
set_option Elab.async false
set_option linter.all false
set_option maxRecDepth 100000
set_option maxHeartbeats 1000000
namespace LW
open PySem L2 DL TL
/-! ### texts joined and split -/
def Jw (k : Nat) (l : List Str) : Nat := (l.map fun p => p.length + k).sum
theorem joinL_len (S : List Nat) : ∀ ps : List (List Nat), ps ≠ [] → (joinL S ps).length + S.length = (ps.map fun p => p.length + S.length).sum
  | [], h => absurd rfl h
  | [p], _ => by simp [joinL]
  | p :: q :: r, _ => by
    have := joinL_len S (q :: r) (by simp)
    rw [List.map_cons, List.sum_cons, ← this]
    simp only [joinL, List.length_append]
    omega
theorem joinL_mem {S : List Nat} {c : Nat} : ∀ {ps : List (List Nat)}, c ∈ joinL S ps → c ∈ S ∨ ∃ p ∈ ps, c ∈ p
  | [], h => by simp [joinL] at h
  | [p], h => .inr ⟨p, by simp, h⟩
  | p :: q :: r, h => by
    simp only [joinL, List.mem_append] at h
    rcases h with h | h | h
    · exact .inr ⟨p, by simp, h⟩
    · exact .inl h
    · rcases joinL_mem h with h | ⟨p', h1, h2⟩
      · exact .inl h
      · exact .inr ⟨p', by simp [h1], h2⟩
theorem mem_joinL {S : List Nat} {c : Nat} {p : List Nat} (hc : c ∈ p) : ∀ {ps : List (List Nat)}, p ∈ ps → c ∈ joinL S ps
  | [q], h => by rw [List.mem_singleton.mp h] at hc; exact hc
  | q :: q2 :: r, h => by
    simp only [joinL, List.mem_append]
    rcases List.mem_cons.mp h with rfl | h
    · exact .inl hc
    · exact .inr (.inr (mem_joinL hc h))
theorem jw_map {k : Nat} (l : List Str) : ((l.map tl).map fun p => p.length + k).sum = Jw k l := by
  unfold Jw
  rw [List.map_map]
  congr 1
theorem join_len {y : Str} {l : List Str} (h : l ≠ []) : (Txt.join y l).length + y.length = Jw y.length l := by
  rw [join_eq, len_tl, tl_join, len_tl y, joinL_len _ _ (fun e => h (List.map_eq_nil_iff.mp e)), jw_map]
theorem join_le (y : Str) (l : List Str) : (Txt.join y l).length ≤ Jw y.length l := by
  by_cases h : l = []
  · subst h; simp [join_eq, len_tl, tl_join, joinL, Jw]
  · have := join_len (y := y) h
    omega
theorem spl_ne (S : List Nat) : ∀ (l : List Nat) (k : Nat) (acc : List Nat), spl S k acc l ≠ []
  | [], k, acc => by cases k <;> simp [spl]
  | c :: r, 0, acc => by
    simp only [spl]
    split
    · simp
    · exact spl_ne S r 0 _
  | c :: r, k + 1, acc => spl_ne S r k acc
theorem split_ne {z y : Str} (hy : tl y ≠ []) (hk : y.cps.all (· < 256) = true) : Txt.split z y ≠ [] := fun e => by
  have := split_spl z y hy (kind_ok hk)
  rw [e] at this
  exact spl_ne _ _ _ _ this.symm
theorem split_len {z y : Str} (hy : tl y ≠ []) (hk : y.cps.all (· < 256) = true) : Jw y.length (Txt.split z y) = z.length + y.length := by
  rw [← join_len (split_ne hy hk), join_eq, StrLaws.join_split]
theorem jw_mem {k : Nat} {p : Str} : ∀ {l : List Str}, p ∈ l → p.length + k + k * (l.length - 1) ≤ Jw k l
  | [q], h => by rw [List.mem_singleton.mp h]; simp [Jw]
  | q :: q2 :: r, h => by
    have e : Jw k (q :: q2 :: r) = q.length + k + Jw k (q2 :: r) := by simp [Jw]
    rw [e]
    have e2 : k * ((q :: q2 :: r).length - 1) = k + k * ((q2 :: r).length - 1) := by
      rw [show (q :: q2 :: r).length - 1 = ((q2 :: r).length - 1) + 1 by simp, Nat.mul_succ]
      omega
    rcases List.mem_cons.mp h with rfl | h
    · have := jw_mem (k := k) (p := q2) (l := q2 :: r) (by simp)
      omega
    · have := jw_mem (k := k) h
      omega
/-- a text of at most n signs -/
structure Tx (n : Nat) (z : Str) : Prop where
  l : z.length ≤ n
  o : ∀ c ∈ tl z, c < 1114112
theorem Tx.ok {n : Nat} {z : Str} (t : Tx n z) : PyData.strOk z = true := by
  show Array.all z.cps (fun x => decide (x < 1114112)) = true
  rw [Array.all_eq_true_iff_forall_mem]
  exact fun x hx => decide_eq_true (t.o x (by simpa using hx))
theorem Tx.mono {n m : Nat} {z : Str} (t : Tx n z) (h : n ≤ m) : Tx m z := ⟨Nat.le_trans t.l h, t.o⟩
theorem tx_split {n : Nat} {z y : Str} (t : Tx n z) (hy : tl y ≠ []) (hk : y.cps.all (· < 256) = true) : (∀ p ∈ Txt.split z y, Tx n p) ∧ (Txt.split z y).length ≤ n + 1 := by
  have hl := split_len (z := z) hy hk
  have y1 : 0 < y.length := by rw [len_tl]; exact List.length_pos_iff.mpr hy
  have tz := t.l
  refine ⟨fun p hp => ⟨?_, fun c hc => t.o c ?_⟩, ?_⟩
  · have := jw_mem (k := y.length) hp
    omega
  · have e : tl z = joinL (tl y) ((Txt.split z y).map tl) := by rw [← tl_join, StrLaws.join_split]
    rw [e]
    exact mem_joinL hc (List.mem_map.mpr ⟨p, hp, rfl⟩)
  · cases e : Txt.split z y with
    | nil => simp
    | cons w ps =>
      have := jw_mem (k := y.length) (p := w) (l := Txt.split z y) (by rw [e]; simp)
      rw [hl] at this
      rw [e] at this
      simp at this ⊢
      have h2 : 1 * ps.length ≤ y.length * ps.length := Nat.mul_le_mul_right _ y1
      omega
theorem tx_join {n m : Nat} {y : Str} {l : List Str} (h : ∀ p ∈ l, Tx n p) (hy : ∀ c ∈ tl y, c < 1114112) (hm : Jw y.length l ≤ m) : Tx m (Txt.join y l) := by
  refine ⟨Nat.le_trans (join_le y l) hm, fun c hc => ?_⟩
  rw [join_eq, tl_join] at hc
  rcases joinL_mem hc with hc | ⟨p, hp, hc⟩
  · exact hy c hc
  · obtain ⟨q, hq, rfl⟩ := List.mem_map.mp hp
    exact (h q hq).o c hc
theorem sp_ne : tl (" " : Str) ≠ [] := by decide
theorem sc_ne : tl ("; " : Str) ≠ [] := by decide
theorem sp_k : (" " : Str).cps.all (· < 256) = true := by decide +kernel
theorem sc_k : ("; " : Str).cps.all (· < 256) = true := by decide +kernel
end LW
set_option Elab.async false
set_option linter.all false
set_option maxRecDepth 100000
set_option maxHeartbeats 1000000
namespace LW
open PySem L2 DL TL
def wD (p : Str) : D := optD (whole p)
theorem wf_optD {h : MH} (o : Option Int) : Wf h (optD o) := by cases o <;> trivial
def partsOf (w : Str) (ps : List Str) : List D := if w = "do" then (ps.take 1).map .str ++ (ps.drop 1).map wD else ps.map wD
section
variable {d : Nat} {h : MH} {Q : D → MH → Prop} {E : DX}
/-- several texts read as numbers -/
theorem wholes {t : Nat} {σ : DS} {ok : MH → Prop} {K : List D → MH → Prop} {ps : List Str} (hp : ∀ p ∈ ps, p.length ≤ 16000) (hl : ps.length ≤ 16000) (ht : t < σ.length) (hok : ∀ h', Gw h h' → ok h') (q : ∀ h', Gw h h' → K (ps.map wD) h') :
    lcGo (.nm t) ok (wpC (Ph prog (d + 1)) none) (wpE (Ph prog (d + 1)) (fun _ _ _ => False) (.call 7 [.var t])) σ K (ps.map D.str) [] h := by
  refine lc_rule (fun r acc h' => ∃ done rest : List Str, ps = done ++ rest ∧ r = rest.map D.str ∧ acc = done.map wD ∧ Gw h h') (fun r acc h' ⟨_, _, _, _, _, g⟩ => hok h' g) (fun acc h' ⟨done, rest, e1, e2, e3, g⟩ => ?_) (fun dd r acc h' N ⟨done, rest, e1, e2, e3, g⟩ hN => ?_) _ _ _ ⟨[], ps, rfl, rfl, rfl, .refl⟩
  all_goals first
    | (cases rest with
      | cons _ _ => cases e2
      | nil => rw [List.append_nil] at e1; subst e1 e3; exact q _ g)
    | (cases rest with
      | nil => cases e2
      | cons p rest =>
        rw [List.map_cons] at e2
        cases e2
        subst e3
        have hpl := hp p (by rw [e1]; simp)
        have dl : done.length < 16000 := by rw [e1] at hl; simp at hl; omega
        simp [ht]
        refine whole_in_ok (d := d) hpl fun h2 g2 => ⟨by rw [sizeLine_eq]; omega, ?_⟩
        refine hN _ _ ⟨done ++ [p], rest, by rw [e1, List.append_assoc]; rfl, rfl, by simp [wD], g.trans g2⟩)
theorem step_in_ok {z : Str} {w : Str} {ps : List Str} (t : Tx 15000 z) (e : Txt.split z " " = w :: ps) (q : ∀ h', Gw h h' → Q (.tup (.str w :: partsOf w ps)) h') : Ph prog (d + 2) 8 [.str z] h Q E := by
  obtain ⟨ht, hn⟩ := tx_split t sp_ne sp_k
  rw [e] at ht hn
  have hn : ps.length ≤ 15000 := by simp at hn; omega
  have tl0 := t.l
  refine ph_of at_step_in rfl ?_
  simp only [f_step_in]
  rw [wpB_cons]
  simp [-al_eq, -ixD_ref_int]
  rw [met_sp]
  refine ⟨⟨by decide, fits_le (by omega)⟩, al_rule fun q1 h1 hq1 g1 e1 => ?_⟩
  simp [-al_eq, -ixD_ref_int]
  refine ⟨_, e1, ⟨by rw [e]; simp, by rw [e]; simp; omega⟩, fun q2 hq2 => ?_⟩
  rw [e]
  simp [setAll, -al_eq, -ixD_ref_int]
  have g2 : Gw h1 (up h1 q2 (.lst (ps.map D.str))) := Gw.up hq2
  have e2 : up h1 q2 (.lst (ps.map D.str)) q2 = some (.lst (ps.map D.str)) := up_self
  generalize up h1 q2 (.lst (ps.map D.str)) = h2 at g2 e2 ⊢
  have g := g1.trans g2
  rw [wpB_cons]
  simp [-al_eq, -ixD_ref_int]
  by_cases c : w = "do"
  · rw [if_pos c]
    refine ⟨fits_le (by decide), _, e2, al_rule fun q3 h3 hq3 g3 e3 => ⟨_, e3, ?_⟩⟩
    simp [-al_eq, -ixD_ref_int]
    rw [cut01]
    refine ⟨fits_le (by simp; omega), _, g3 _ _ e2, al_rule fun q4 h4 hq4 g4 e4 => ?_⟩
    rw [cut1, show (ps.map D.str).drop 1 = (ps.drop 1).map D.str from (List.map_drop ..).symm] at e4
    rw [show (ps.map D.str).take 1 = (ps.take 1).map D.str from (List.map_take ..).symm]
    refine ⟨_, e4, ?_⟩
    refine wholes (fun p hp => ?_) (by rw [List.length_drop]; omega) (by simp) (fun h' g' => g' _ _ e4) fun h5 g5 => al_rule fun q6 h6 hq6 g6 e6 => ⟨_, e6, ?_⟩
    · have := (ht p (List.mem_cons_of_mem _ (List.mem_of_mem_drop hp))).l
      omega
    · show bop _ (.tup _) (.tup _) _ _
      rw [bop_add_tup]
      have qq := q h6 (((g.trans g3).trans (g4.trans g5)).trans g6)
      unfold partsOf at qq
      rw [if_pos c] at qq
      exact ⟨fits_le (by simp only [List.length_cons, List.length_map, List.length_take, List.length_drop]; omega), qq⟩
  · rw [if_neg c]
    refine ⟨fits_le (by decide), _, e2, ?_⟩
    refine wholes (fun p hp => ?_) (by omega) (by simp) (fun h' g' => g' _ _ e2) fun h5 g5 => al_rule fun q6 h6 hq6 g6 e6 => ⟨_, e6, ?_⟩
    · have := (ht p (List.mem_cons_of_mem _ hp)).l
      omega
    · show bop _ (.tup _) (.tup _) _ _
      rw [bop_add_tup]
      have qq := q h6 ((g.trans g5).trans g6)
      unfold partsOf at qq
      rw [if_neg c] at qq
      exact ⟨fits_le (by simp only [List.length_cons, List.length_nil, List.length_map]; omega), qq⟩
/-! ### rounds -/
/-- a text's words -/
def hd (z : Str) : Str := (Txt.split z " ").headD ""
def prts (z : Str) : List D := partsOf (hd z) ((Txt.split z " ").drop 1)
def stepT (z : Str) : D := .tup (.str (hd z) :: prts z)
def isT (z : Str) : Bool := isStp (hd z) (prts z)
theorem split_hd (z : Str) : Txt.split z " " = hd z :: (Txt.split z " ").drop 1 := by
  have := split_ne (z := z) sp_ne sp_k
  unfold hd
  cases e : Txt.split z " " with
  | nil => exact absurd e this
  | cons w ps => rfl
theorem step_in2 {z : Str} (t : Tx 15000 z) (q : ∀ h', Gw h h' → Q (stepT z) h') : Ph prog (d + 2) 8 [.str z] h Q E := step_in_ok t (split_hd z) q
theorem prts_len {n : Nat} {z : Str} (t : Tx n z) : (prts z).length ≤ n ∧ (hd z).length ≤ n ∧ Tx n (hd z) ∧ ∀ x ∈ prts z, x = .non ∨ (∃ i, x = .int i) ∨ ∃ p, x = .str p ∧ Tx n p := by
  obtain ⟨ht, hn⟩ := tx_split t sp_ne sp_k
  rw [split_hd z] at ht hn
  simp at hn
  have t0 := ht (hd z) (by simp)
  have wd : ∀ p, wD p = .non ∨ (∃ i, wD p = .int i) ∨ ∃ s, wD p = .str s ∧ Tx n s := fun p => by
    unfold wD
    cases whole p with
    | none => exact .inl rfl
    | some i => exact .inr (.inl ⟨i, rfl⟩)
  refine ⟨?_, t0.l, t0, ?_⟩
  · unfold prts partsOf
    split <;> simp <;> omega
  · unfold prts partsOf
    intro x hx
    split at hx
    · rcases List.mem_append.mp hx with hx | hx
      · obtain ⟨p, hp, rfl⟩ := List.mem_map.mp hx
        exact .inr (.inr ⟨p, rfl, ht p (List.mem_cons_of_mem _ (List.mem_of_mem_take hp))⟩)
      · obtain ⟨p, hp, rfl⟩ := List.mem_map.mp hx
        exact wd p
    · obtain ⟨p, hp, rfl⟩ := List.mem_map.mp hx
      exact wd p
theorem is_step2 {z : Str} (t : Tx 15000 z) (q : ∀ h', Gw h h' → Q (.bl (isT z)) h') : Ph prog (d + 3) 3 [stepT z] h Q E := by
  obtain ⟨h1, h2, h3, h4⟩ := prts_len t
  refine is_step_ok (d := d) h1 (by omega) (fun x hx => ?_) q
  rcases h4 x hx with rfl | ⟨i, rfl⟩ | ⟨p, rfl, tp⟩
  · trivial
  · trivial
  · exact ⟨fits_le (by have := tp.l; omega), tp.ok⟩
theorem is_round_ok {zs : List Str} (hz : zs.length ≤ 16000) (t : ∀ z ∈ zs, Tx 15000 z) (q : ∀ h', Gw h h' → Q (.bl (decide (zs.length ≤ 24) && zs.all isT)) h') : Ph prog (d + 4) 4 [.tup (zs.map stepT)] h Q E := by
  refine ph_of at_is_round rfl ?_
  simp only [f_is_round]
  rw [wpB_cons]
  simp [-al_eq, -ixD_ref_int]
  rw [if_pos (by decide)]
  by_cases c : zs.length ≤ 24
  · rw [if_pos (by omega)]
    refine lc_rule (fun r acc h' => ∃ done rest : List Str, zs = done ++ rest ∧ r = rest.map stepT ∧ acc = done.map (fun z => D.bl (isT z)) ∧ Gw h h') (fun _ _ _ _ => trivial) (fun acc h' ⟨done, rest, e1, e2, e3, g⟩ => ?_) (fun dd r acc h' N ⟨done, rest, e1, e2, e3, g⟩ hN => ?_) _ _ _ ⟨[], zs, rfl, rfl, rfl, .refl⟩
    all_goals first
      | (cases rest with
        | cons _ _ => cases e2
        | nil =>
          rw [List.append_nil] at e1
          subst e1 e3
          refine al_rule fun p h2 hp g2 e => ⟨_, (zs.map isT), e, ?_, ?_⟩
          · rw [show (zs.map fun z => D.bl (isT z)) = (zs.map isT).map D.bl by rw [List.map_map]; rfl]; exact bls_map _
          · have qq := q h2 (g.trans g2)
            rw [decide_eq_true c, Bool.true_and] at qq
            rw [List.all_map]
            exact qq)
      | (cases rest with
        | nil => cases e2
        | cons p rest =>
          rw [List.map_cons] at e2
          cases e2
          subst e3
          have hpt := t p (by rw [e1]; simp)
          have dl : done.length < 24 := by rw [e1] at c; simp at c; omega
          simp
          refine is_step2 (d := d) hpt fun h2 g2 => ⟨by rw [sizeLine_eq]; omega, ?_⟩
          refine hN _ _ ⟨done ++ [p], rest, by rw [e1, List.append_assoc]; rfl, rfl, by simp, g.trans g2⟩)
  · rw [if_neg (by omega)]
    have qq := q h .refl
    rw [decide_eq_false c, Bool.false_and] at qq
    rw [decide_eq_false (by omega)]
    exact qq
/-- the round that a text writes -/
def rndOf (z : Str) : Option (List Str) := if z = "none" then some [] else if (decide ((Txt.split z "; ").length ≤ 24) && (Txt.split z "; ").all isT) = true then some (Txt.split z "; ") else none
theorem read_ok {z : Str} (t : Tx 15000 z) (q : ∀ zs h', rndOf z = some zs → Gw h h' → Q (.tup (zs.map stepT)) h') (qe : ∀ h', rndOf z = none → Gw h h' → E 0 [("asked", .str z)] h') : Ph prog (d + 5) 9 [.str z] h Q E := by
  obtain ⟨ht, hn⟩ := tx_split t sc_ne sc_k
  refine ph_of at_read_round rfl ?_
  simp only [f_read_round]
  rw [wpB_cons]
  simp [-al_eq, -ixD_ref_int]
  rw [if_pos (by decide)]
  have tl0 := t.l
  have rd : ∀ (zs : List Str) (b : Bool), (∀ z ∈ zs, Tx 15000 z) → zs.length ≤ 16000 → (decide (zs.length ≤ 24) && zs.all isT) = b → (rndOf z = if b = true then some zs else none) → ∀ h1, Gw h h1 →
      wpB (Ph prog (d + 4)) (f_read_round.body.drop 2) ⟨fun _ h' => Q .non h', Q, fun _ _ => False, fun _ _ => False, fun c fs _ h' => E c fs h'⟩ [some (.str z), some (.tup (zs.map stepT)), none] h1 := fun zs b tz lz eb er h1 g1 => by
    show wpB _ [_, _] _ _ _
    rw [wpB_cons]
    simp [-al_eq, -ixD_ref_int]
    refine is_round_ok (d := d) lz tz fun h2 g2 => ?_
    rw [eb]
    cases b with
    | true => simp; exact q zs h2 (by rw [er]; rfl) (g1.trans g2)
    | false => simp; exact qe h2 (by rw [er]; rfl) (g1.trans g2)
  rw [wpB_cons]
  simp [-al_eq, -ixD_ref_int]
  by_cases c : z = "none"
  · rw [if_pos c]
    exact ⟨fits_le (by decide), rd [] true (fun _ hz => nomatch hz) (by decide) rfl (by unfold rndOf; rw [if_pos c]; rfl) h .refl⟩
  · rw [if_neg c]
    rw [met_sp]
    refine ⟨⟨by decide, fits_le (by omega)⟩, al_rule fun q1 h1 hq1 g1 e1 => ⟨_, e1, ?_⟩⟩
    refine lc_rule (fun r acc h' => ∃ done rest : List Str, Txt.split z "; " = done ++ rest ∧ r = rest.map D.str ∧ acc = done.map stepT ∧ Gw h1 h') (fun _ _ h' ⟨_, _, _, _, _, g⟩ => g _ _ e1) (fun acc h' ⟨done, rest, a1, a2, a3, g⟩ => ?_) (fun dd r acc h' N ⟨done, rest, a1, a2, a3, g⟩ hN => ?_) _ _ _ ⟨[], _, rfl, rfl, rfl, .refl⟩
    all_goals first
      | (cases rest with
        | cons _ _ => cases a2
        | nil =>
          rw [List.append_nil] at a1
          subst a1 a3
          refine al_rule fun p h2 hp g2 e => ⟨_, e, ?_⟩
          exact rd (Txt.split z "; ") _ ht (by omega) rfl (by unfold rndOf; rw [if_neg c]) h2 ((g1.trans g).trans g2))
      | (cases rest with
        | nil => cases a2
        | cons p rest =>
          rw [List.map_cons] at a2
          cases a2
          subst a3
          have hpt := ht p (by rw [a1]; simp)
          have dl : done.length < 15001 := by rw [a1] at hn; simp at hn; omega
          simp
          refine step_in2 (d := d + 2) hpt fun h2 g2 => ⟨by rw [sizeLine_eq]; omega, ?_⟩
          refine hN _ _ ⟨done ++ [p], rest, by rw [a1, List.append_assoc]; rfl, rfl, by simp, g.trans g2⟩)
end
end LW
set_option Elab.async false
set_option linter.all false
set_option maxRecDepth 100000
set_option maxHeartbeats 1000000
namespace LW
open PySem L2 DL TL
/-- what the law's own reading of a step tells -/
def lawT (z : Str) : D := if isT z = true then stepT z else .non
theorem den_two {h : MH} {a : Addr} {w : Str} {k : Int} (e : h a = some (.lst [.str w, .int k])) : Den h (.ref a) (.list [.str w, .int k]) := .lst e rfl fun i d t hd ht => by
  match i with
  | 0 => simp at hd ht; subst hd ht; exact .str w
  | 1 => simp at hd ht; subst hd ht; exact .int k
  | n + 2 => simp at hd
theorem shaped_two {w : Str} {k : Int} (hw : PyData.strOk w = true) : SeqAt.shaped (.list [.str w, .int k]) = true := by
  simp [SeqAt.shaped, PyData.canLay0, PyData.canLayAll0, PyData.depth, PyData.depthAll, hw]
theorem den_tab {h : MH} {a a1 a2 a3 : Addr} {w1 w2 w3 : Str} {k1 k2 k3 : Int} (e : h a = some (.lst [.ref a1, .ref a2, .ref a3])) (e1 : h a1 = some (.lst [.str w1, .int k1])) (e2 : h a2 = some (.lst [.str w2, .int k2])) (e3 : h a3 = some (.lst [.str w3, .int k3])) :
    Den h (.ref a) (.list [.list [.str w1, .int k1], .list [.str w2, .int k2], .list [.str w3, .int k3]]) := .lst e rfl fun i d t hd ht => by
  match i with
  | 0 => simp at hd ht; subst hd ht; exact den_two e1
  | 1 => simp at hd ht; subst hd ht; exact den_two e2
  | 2 => simp at hd ht; subst hd ht; exact den_two e3
  | n + 3 => simp at hd
theorem in_tab {h : MH} {q a a1 a2 a3 : Addr} {w : Str} {k : Int} {P : Bool → Prop} (hw : PyData.strOk w = true) (eq : h q = some (.lst [.str w, .int k])) (e : h a = some (.lst [.ref a1, .ref a2, .ref a3])) (e1 : h a1 = some (.lst [.str "wind", .int 4])) (e2 : h a2 = some (.lst [.str "turn", .int 2])) (e3 : h a3 = some (.lst [.str "swap", .int 3]))
    (p : P (decide ((w = "wind" ∧ k = 4) ∨ (w = "turn" ∧ k = 2) ∨ (w = "swap" ∧ k = 3)))) : inOp (.ref q) (.ref a) h P := by
  refine .inr (.inr ⟨_, _, den_two eq, den_tab e e1 e2 e3, shaped_two hw, ?_, ?_⟩)
  · decide +kernel
  · have k1 : ∀ (w1 : Str) (n : Int), PyData.eqv (.list [.str w1, .int n]) (.list [.str w, .int k]) = (decide (w = w1) && decide (k = n)) := fun w1 n => by
      rw [Bool.eq_iff_iff]
      simp [PyData.eqv, PyData.eqvAll]
      exact ⟨fun ⟨a, b⟩ => ⟨a.symm, b.symm⟩, fun ⟨a, b⟩ => ⟨a.symm, b.symm⟩⟩
    have : ([PyData.list [.str "wind", .int 4], .list [.str "turn", .int 2], .list [.str "swap", .int 3]].any fun z => PyData.eqv z (.list [.str w, .int k])) = decide ((w = "wind" ∧ k = 4) ∨ (w = "turn" ∧ k = 2) ∨ (w = "swap" ∧ k = 3)) := by
      rw [List.any_cons, List.any_cons, List.any_cons, List.any_nil, k1, k1, k1, Bool.eq_iff_iff]
      simp
    rw [this]
    exact p
theorem n_dw : ("do" : Str) ≠ "wind" := by decide +kernel
theorem n_dt : ("do" : Str) ≠ "turn" := by decide +kernel
theorem n_ds : ("do" : Str) ≠ "swap" := by decide +kernel
theorem n_wt : ("wind" : Str) ≠ "turn" := by decide +kernel
theorem n_ws : ("wind" : Str) ≠ "swap" := by decide +kernel
theorem n_ts : ("turn" : Str) ≠ "swap" := by decide +kernel
theorem isStp_do {ps : List D} : isStp "do" ps = if ps.length = 2 then isWd (ps.getD 0 .non) && isWh (-9) 9 (ps.getD 1 .non) else false := by
  unfold isStp
  rw [if_neg (fun z => n_dw z.1), if_neg (fun z => n_dt z.1), if_neg (fun z => n_ds z.1)]
  by_cases c : ps.length = 2 <;> simp [c]
theorem isStp_wind {ps : List D} : isStp "wind" ps = if ps.length = 3 then spl2 (ps.getD 0 .non) (ps.getD 1 .non) && isWh 1 M18 (ps.getD 2 .non) else false := by
  unfold isStp
  rw [if_neg (fun (z : _ ∧ ps.length = 1) => n_wt z.1), if_neg (fun (z : _ ∧ ps.length = 2) => n_ws z.1), if_neg (fun (z : _ ∧ ps.length = 2) => n_dw z.1.symm)]
  by_cases c : ps.length = 3 <;> simp [c]
theorem isStp_turn {ps : List D} : isStp "turn" ps = if ps.length = 1 then isWh 0 5 (ps.getD 0 .non) else false := by
  unfold isStp
  rw [if_neg (fun (z : _ ∧ ps.length = 3) => n_wt z.1.symm), if_neg (fun (z : _ ∧ ps.length = 2) => n_ts z.1), if_neg (fun (z : _ ∧ ps.length = 2) => n_dt z.1.symm)]
  by_cases c : ps.length = 1 <;> simp [c]
theorem isStp_swap {ps : List D} : isStp "swap" ps = if ps.length = 2 then spl2 (ps.getD 0 .non) (ps.getD 1 .non) else false := by
  unfold isStp
  rw [if_neg (fun (z : _ ∧ ps.length = 3) => n_ws z.1.symm), if_neg (fun (z : _ ∧ ps.length = 1) => n_ts z.1.symm)]
  by_cases c : ps.length = 2
  · rw [if_pos ⟨rfl, c⟩, if_pos c]
  · rw [if_neg (fun z => c z.2), if_neg c, if_neg (fun z => n_ds z.1.symm)]
theorem isStp_no {w : Str} {ps : List D} (h : ¬ ((w = "wind" ∧ ps.length = 3) ∨ (w = "turn" ∧ ps.length = 1) ∨ (w = "swap" ∧ ps.length = 2))) (nd : w ≠ "do") : isStp w ps = false := by
  unfold isStp
  rw [if_neg (fun z => h (.inl z)), if_neg (fun z => h (.inr (.inl z))), if_neg (fun z => h (.inr (.inr z))), if_neg (fun z => nd z.1)]
theorem cnt_some {lo hi i : Int} {z : Str} (h : cnt lo hi z = some i) : whole z = some i ∧ lo ≤ i ∧ i ≤ hi := by
  unfold cnt at h
  split at h
  · rename_i n e
    split at h
    · rename_i c; cases h; exact ⟨e, c⟩
    · cases h
  · cases h
theorem isWh_wD {lo hi : Int} {z : Str} : isWh lo hi (wD z) = (cnt lo hi z).isSome := by
  unfold wD cnt
  cases whole z with
  | none => rfl
  | some n =>
    simp only [optD, isWh]
    by_cases c : lo ≤ n ∧ n ≤ hi
    · rw [if_pos c]; simp [c]
    · rw [if_neg c]
      simp
      intro h; omega
theorem cnt_wD {lo hi i : Int} {z : Str} (h : cnt lo hi z = some i) : wD z = .int i := by
  unfold wD
  rw [(cnt_some h).1]
  rfl
theorem int_of {i : Int} {z : Str} {h : MH} {Q : D → MH → Prop} (e : whole z = some i) (q : Q (.int i) h) : bi .int [.str z] h Q := by
  unfold whole at e
  split at e
  · rename_i w
    obtain ⟨n, en, le⟩ := w.int
    rw [en] at e
    cases e
    exact ⟨_, en, le, q⟩
  · cases e
section
variable {d : Nat} {h : MH} {Q : D → MH → Prop} {E : DX}
@[simp] theorem isOp_in {i : Int} {P : Bool → Prop} : isOp (.int i) .non P = P false := rfl
@[simp] theorem isOp_nn {P : Bool → Prop} : isOp .non .non P = P true := rfl
theorem counts {σ : DS} {ok : MH → Prop} {K : List D → MH → Prop} {ps : List Str} (hp : ∀ p ∈ ps, p.length ≤ 16000) (hl : ps.length ≤ 16000) (ht : 3 < σ.length) (hok : ∀ h', Gw h h' → ok h') (q : ∀ h', Gw h h' → K (ps.map fun p => optD (cnt 0 5 p)) h') :
    lcGo (.nm 3) ok (wpC (Ph prog (d + 1)) none) (wpE (Ph prog (d + 1)) (fun _ _ _ => False) (.call 15 [.var 3, .cst (.int 0), .cst (.int 5)])) σ K (ps.map D.str) [] h := by
  refine lc_rule (fun r acc h' => ∃ done rest : List Str, ps = done ++ rest ∧ r = rest.map D.str ∧ acc = done.map (fun p => optD (cnt 0 5 p)) ∧ Gw h h') (fun r acc h' ⟨_, _, _, _, _, g⟩ => hok h' g) (fun acc h' ⟨done, rest, e1, e2, e3, g⟩ => ?_) (fun dd r acc h' N ⟨done, rest, e1, e2, e3, g⟩ hN => ?_) _ _ _ ⟨[], ps, rfl, rfl, rfl, .refl⟩
  all_goals first
    | (cases rest with
      | cons _ _ => cases e2
      | nil => rw [List.append_nil] at e1; subst e1 e3; exact q _ g)
    | (cases rest with
      | nil => cases e2
      | cons p rest =>
        rw [List.map_cons] at e2
        cases e2
        subst e3
        have hpl := hp p (by rw [e1]; simp)
        have dl : done.length < 16000 := by rw [e1] at hl; simp at hl; omega
        simp [ht]
        refine count_ok (d := d) hpl fun h2 g2 => ⟨by rw [sizeLine_eq]; omega, ?_⟩
        refine hN _ _ ⟨done ++ [p], rest, by rw [e1, List.append_assoc]; rfl, rfl, by simp, g.trans g2⟩)
theorem inD_non : ∀ os : List (Option Int), inD .non (os.map optD) = !os.all Option.isSome
  | [] => rfl
  | o :: os => by
    have := inD_non os
    unfold inD at this ⊢
    rw [List.map_cons, List.any_cons, this]
    cases o with
    | none => simp [optD, toV, eqV]
    | some i => simp [optD, toV, eqV]
theorem flat_optD (os : List (Option Int)) : (os.map optD).all flat = true := by
  rw [List.all_eq_true]
  intro x hx
  obtain ⟨o, _, rfl⟩ := List.mem_map.mp hx
  cases o <;> rfl
theorem law_tail {Dn : En} {q1 q3 : Addr} {w : Str} {ps : List Str} {x0 x3 : Option D} {os : List (Option Int)} (o1 : 1 ≤ os.length) (o3 : os.length ≤ 3) (nt : w ≠ "turn" → 2 ≤ os.length) (e1 : h q1 = some (.lst ((w :: ps).map D.str))) (e3 : h q3 = some (.lst (os.map optD)))
    (q : Dn.rt (if os.all Option.isSome = true ∧ (w = "turn" ∨ os[0]? ≠ os[1]?) then .tup (.str w :: os.map optD) else .non) h) : wpB (Ph prog (d + 1)) (f__law_step_in.body.drop 5) Dn [x0, some (.ref q1), some (.ref q3), x3] h := by
  have ix0 : ∀ {R : D → MH → Prop}, R (.str w) h → ixD (.ref q1) (.int 0) h R := fun {R} r => ixD_lst (i := ((0 : Nat) : Int)) e1 (by rw [DL.atI_nat]; rfl) r
  have iy : ∀ {i : Nat} {o : Option Int} {R : D → MH → Prop}, os[i]? = some o → R (optD o) h → ixD (.ref q3) (.int (i : Nat)) h R := fun {i o R} eo r => ixD_lst e3 (by rw [DL.atI_nat, List.getElem?_map, eo]; rfl) r
  show wpB _ [_, _] _ _ _
  rw [wpB_cons]
  simp [-al_eq, -ixD_ref_int]
  refine .inl ⟨_, e3, rfl, flat_optD os, ?_⟩
  rw [inD_non]
  cases ca : os.all Option.isSome with
  | false =>
    rw [if_neg (fun z => by rw [ca] at z; cases z.1)] at q
    simpa using q
  | true =>
    simp [-al_eq, -ixD_ref_int]
    refine ix0 ?_
    have fin : (w = "turn" ∨ os[0]? ≠ os[1]?) → ixD (.ref q1) (.int 0) h fun x h1 => Fits 1 ∧ bi .tuple [.ref q3] h1 fun y h2 => bop .Add (.tup [x]) y h2 Dn.rt := fun hh => by
      rw [if_pos ⟨ca, hh⟩] at q
      refine ix0 ⟨fits_le (by decide), _, e3, ?_⟩
      show bop _ (.tup _) (.tup _) _ _
      rw [bop_add_tup]
      exact ⟨fits_le (by simp; omega), q⟩
    simp [-al_eq, -ixD_ref_int]
    by_cases c : w = "turn"
    · rw [if_pos c]
      exact fin (.inl c)
    · rw [if_neg c]
      have o2 := nt c
      obtain ⟨i, ei⟩ : ∃ i, os[0]? = some (some i) := by
        have h1 : os[0]? = some os[0] := List.getElem?_eq_getElem (by omega)
        have h2 := List.all_eq_true.mp ca os[0] (List.getElem_mem _)
        obtain ⟨i, hi⟩ := Option.isSome_iff_exists.mp h2
        exact ⟨i, by rw [h1, hi]⟩
      obtain ⟨j, ej⟩ : ∃ i, os[1]? = some (some i) := by
        have h1 : os[1]? = some os[1] := List.getElem?_eq_getElem (by omega)
        have h2 := List.all_eq_true.mp ca os[1] (List.getElem_mem _)
        obtain ⟨i, hi⟩ := Option.isSome_iff_exists.mp h2
        exact ⟨i, by rw [h1, hi]⟩
      refine iy (i := 0) ei (iy (i := 1) ej ?_)
      simp [optD, -al_eq, -ixD_ref_int]
      by_cases ce : i = j
      · rw [if_pos ce]
        rw [if_neg (fun z => by rcases z.2 with z | z; exact c z; exact z (by rw [ei, ej, ce]))] at q
        exact q
      · rw [if_neg ce]
        exact fin (.inr (by rw [ei, ej]; simpa using ce))
theorem law_step_ok {z : Str} (t : Tx 15000 z) (q : ∀ h', Gw h h' → Q (lawT z) h') : Ph prog (d + 2) 17 [.str z] h Q E := by
  obtain ⟨ht, hn⟩ := tx_split t sp_ne sp_k
  have tl0 := t.l
  have es := split_hd z
  have eT : lawT z = if isStp (hd z) (partsOf (hd z) ((Txt.split z " ").drop 1)) = true then .tup (.str (hd z) :: partsOf (hd z) ((Txt.split z " ").drop 1)) else .non := rfl
  rw [eT] at q
  rw [es] at ht hn
  generalize hd z = w at *
  generalize (Txt.split z " ").drop 1 = ps at *
  have hn : ps.length ≤ 15000 := by simp at hn; omega
  refine ph_of at__law_step_in rfl ?_
  simp only [f__law_step_in]
  rw [wpB_cons]
  simp [-al_eq, -ixD_ref_int]
  rw [met_sp, es]
  refine ⟨⟨by decide, fits_le (by omega)⟩, al_rule fun q1 h1 hq1 g1 e1 => ?_⟩
  have hl : ∀ p ∈ w :: ps, p.length ≤ 16000 := fun p hp => by have := (ht p hp).l; omega
  have ix : ∀ {i : Nat} {x : Str} {R : D → MH → Prop} {h'}, h' q1 = some (.lst ((w :: ps).map D.str)) → (w :: ps)[i]? = some x → R (.str x) h' → ixD (.ref q1) (.int (i : Nat)) h' R := fun {i x R h'} e ex r => ixD_lst e (by rw [DL.atI_nat, List.getElem?_map, ex]; rfl) r
  refine wpB_seq (fun σ h' => σ = [some (.str z), some (.ref q1), none, none] ∧ h' = h1 ∧ w ≠ "do") (fun K hK => ?_) fun σ h' ⟨eσ, eh, nd⟩ => ?_
  · simp [-al_eq, -ixD_ref_int]
    refine ix (i := 0) e1 rfl ?_
    simp [-al_eq, -ixD_ref_int]
    by_cases c : w = "do"
    · rw [if_pos c]
      rw [wpB_cons]
      simp [-al_eq, -ixD_ref_int]
      refine ⟨_, e1, ?_⟩
      by_cases c2 : ps.length = 2
      · obtain ⟨a, b, rfl⟩ : ∃ a b, ps = [a, b] := by match ps, c2 with | [a, b], _ => exact ⟨a, b, rfl⟩
        have q' : ∀ h', Gw h h' → Q (if (isWd (.str a) && (cnt (-9) 9 b).isSome) = true then .tup [.str w, .str a, wD b] else .non) h' := fun h' g => by
          have := q h' g
          unfold partsOf at this
          rw [if_pos c] at this
          subst c
          rw [isStp_do] at this
          simpa [isWh_wD] using this
        rw [if_pos (by simp)]
        refine ix (i := 1) e1 rfl ?_
        refine called_ok (d := d) (hl a (by simp)) fun h2 g2 => ?_
        cases ca : isWd (.str a) with
        | false =>
          have := q' h2 (g1.trans g2)
          rw [ca] at this
          simpa using this
        | true =>
          rw [ca] at q'
          simp [-al_eq, -ixD_ref_int]
          refine ix (i := 2) (g2 _ _ e1) rfl ?_
          refine count_ok (d := d) (hl b (by simp)) fun h3 g3 => ?_
          have := q' h3 (g1.trans (g2.trans g3))
          cases cb : cnt (-9) 9 b with
          | none => rw [cb] at this; simpa [optD] using this
          | some n =>
            rw [cb] at this
            simp [optD, -al_eq, -ixD_ref_int]
            have e3 := (g2.trans g3) _ _ e1
            refine ix (i := 1) e3 rfl (ix (i := 2) e3 rfl (int_of (cnt_some cb).1 ⟨fits_le (by decide), ?_⟩))
            rw [cnt_wD cb] at this
            simpa [c] using this
      · rw [if_neg (by simp; omega)]
        have := q h1 g1
        unfold partsOf at this
        rw [if_pos c] at this
        have n : isStp w ((ps.take 1).map D.str ++ (ps.drop 1).map wD) = false := by
          have l2 : ((ps.take 1).map D.str ++ (ps.drop 1).map wD).length = ps.length := by simp; omega
          subst c
          rw [isStp_do, l2, if_neg c2]
        rw [n] at this
        simpa using this
    · rw [if_neg c]
      exact hK _ _ ⟨rfl, rfl, c⟩
  · subst eσ
    rw [eh]
    rw [wpB_cons]
    simp [-al_eq, -ixD_ref_int]
    refine ix (i := 0) e1 rfl ⟨_, e1, fits_le (by decide), al_rule fun a0 h2 n0 g2 f0 => ⟨fits_le (by decide), al_rule fun a1 h3 m1 g3 f1 => ⟨fits_le (by decide), al_rule fun a2 h4 m2 g4 f2 => ⟨fits_le (by decide), al_rule fun a3 h5 m3 g5 f3 => ⟨fits_le (by decide), al_rule fun a4 h6 m4 g6 f4 => ?_⟩⟩⟩⟩⟩
    have f3 := g6 _ _ f3
    have f2 := (g5.trans g6) _ _ f2
    have f1 := (g4.trans (g5.trans g6)) _ _ f1
    have f0 := (g3.trans (g4.trans (g5.trans g6))) _ _ f0
    have g26 := g2.trans (g3.trans (g4.trans (g5.trans g6)))
    have e6 := g26 _ _ e1
    have g06 := g1.trans g26
    clear g2 g3 g4 g5 g6
    have q : ∀ h', Gw h6 h' → Q (if isStp w (ps.map wD) = true then .tup (.str w :: ps.map wD) else .non) h' := fun h' g' => by
      have := q h' (g06.trans g')
      unfold partsOf at this
      rw [if_neg nd] at this
      exact this
    have L4 : (((w :: ps).map D.str).length : Int) = 4 ↔ ps.length = 3 := by rw [List.length_map, List.length_cons]; omega
    have L2 : (((w :: ps).map D.str).length : Int) = 2 ↔ ps.length = 1 := by rw [List.length_map, List.length_cons]; omega
    have L3 : (((w :: ps).map D.str).length : Int) = 3 ↔ ps.length = 2 := by rw [List.length_map, List.length_cons]; omega
    refine in_tab (ht w (by simp)).ok f0 f4 f1 f2 f3 ?_
    by_cases cc : (w = "wind" ∧ ps.length = 3) ∨ (w = "turn" ∧ ps.length = 1) ∨ (w = "swap" ∧ ps.length = 2)
    · rw [decide_eq_true (by rw [L4, L2, L3]; exact cc)]
      rw [if_pos rfl, wpB_cons]
      simp [-al_eq, -ixD_ref_int]
      refine ⟨_, e6, al_rule fun q7 h7 hq7 g7 e7 => ?_⟩
      have sl : cut ((w :: ps).map D.str) (some 1) (some 3) = (ps.take 2).map D.str := by
        rcases cc with ⟨_, l⟩ | ⟨_, l⟩ | ⟨_, l⟩
        · match ps, l with
          | [a, b, c], _ => rfl
        · match ps, l with
          | [a], _ => rfl
        · match ps, l with
          | [a, b], _ => rfl
      rw [sl] at e7
      refine ⟨_, e7, ?_⟩
      refine counts (d := d) (fun p hp => hl p (List.mem_cons_of_mem _ (List.mem_of_mem_take hp))) (by rw [List.length_take]; omega) (by simp) (fun h' g' => g' _ _ e7) fun h8 g8 => al_rule fun q9 h9 hq9 g9 e9 => ?_
      have g78 := g7.trans g8
      have e68 := g78 _ _ e6
      have q := fun h' g' => q h' (g78.trans g')
      have fin : ∀ os : List (Option Int), 1 ≤ os.length → os.length ≤ 3 → (w ≠ "turn" → 2 ≤ os.length) → (if os.all Option.isSome = true ∧ (w = "turn" ∨ os[0]? ≠ os[1]?) then D.tup (.str w :: os.map optD) else .non) = (if isStp w (ps.map wD) = true then .tup (.str w :: ps.map wD) else .non) → ∀ h', Gw h8 h' → h' q9 = some (.lst (os.map optD)) →
          wpB (Ph prog (d + 1)) (f__law_step_in.body.drop 5) ⟨fun _ h' => Q .non h', Q, fun _ _ => False, fun _ _ => False, fun c fs _ h' => E c fs h'⟩ [some (.str z), some (.ref q1), some (.ref q9), none] h' := fun os o1 o3 nt eo h' g' e' => law_tail o1 o3 nt (g' _ _ e68) e' (by rw [eo]; exact q h' g')
      rw [wpB_cons]
      simp [-al_eq, -ixD_ref_int]
      refine ix (i := 0) (g9 _ _ e68) rfl ?_
      simp [-al_eq, -ixD_ref_int]
      by_cases cw : w = "wind"
      · rw [if_pos cw]
        have l3 : ps.length = 3 := by
          rcases cc with ⟨_, l⟩ | ⟨z, _⟩ | ⟨z, _⟩
          · exact l
          · exact absurd (cw.symm.trans z) n_wt
          · exact absurd (cw.symm.trans z) n_ws
        obtain ⟨a, b, c, rfl⟩ : ∃ a b c, ps = [a, b, c] := by match ps, l3 with | [a, b, c], _ => exact ⟨a, b, c, rfl⟩
        refine ⟨⟨_, e9⟩, ix (i := 3) (g9 _ _ e68) rfl (count_ok (d := d) (hl c (by simp)) fun h10 g10 => ?_)⟩
        refine ⟨_, g10 _ _ e9, by rw [sizeLine_eq]; simp, ?_⟩
        refine fin [cnt 0 5 a, cnt 0 5 b, cnt 1 1000000000000000000 c] (by simp) (by simp) (fun _ => by simp) ?_ _ ((g9.trans g10).up2 hq9) (by simp)
        subst cw
        rw [isStp_wind]
        simp [spl2, isWh_wD]
        cases ca : cnt 0 5 a <;> cases cb : cnt 0 5 b <;> cases c3 : cnt 1 1000000000000000000 c <;> simp [M18, c3, n_wt]
        rw [cnt_wD ca, cnt_wD cb, cnt_wD c3]
        simp [sameI, optD]
      · rw [if_neg cw]
        refine fin ((ps.take 2).map (cnt 0 5)) ?_ ?_ ?_ ?_ _ g9 (by rw [e9, List.map_map]; rfl)
        · rw [List.length_map, List.length_take]
          rcases cc with ⟨_, l⟩ | ⟨_, l⟩ | ⟨_, l⟩ <;> omega
        · rw [List.length_map, List.length_take]; omega
        · intro nt
          rw [List.length_map, List.length_take]
          rcases cc with ⟨z, _⟩ | ⟨z, _⟩ | ⟨_, l⟩
          · exact absurd z cw
          · exact absurd z nt
          · omega
        · rcases cc with ⟨z, _⟩ | ⟨z, l⟩ | ⟨z, l⟩
          · exact absurd z cw
          · obtain ⟨a, rfl⟩ : ∃ a, ps = [a] := by match ps, l with | [a], _ => exact ⟨a, rfl⟩
            subst z
            rw [isStp_turn]
            simp [isWh_wD]
            cases ca : cnt 0 5 a <;> simp
            rw [cnt_wD ca]
            rfl
          · obtain ⟨a, b, rfl⟩ : ∃ a b, ps = [a, b] := by match ps, l with | [a, b], _ => exact ⟨a, b, rfl⟩
            subst z
            rw [isStp_swap]
            simp [spl2, isWh_wD]
            cases ca : cnt 0 5 a <;> cases cb : cnt 0 5 b <;> simp [n_ts.symm]
            rw [cnt_wD ca, cnt_wD cb]
            simp [sameI, optD]
    · rw [decide_eq_false (by rw [L4, L2, L3]; exact cc)]
      have := q h6 .refl
      rw [isStp_no (by simpa using cc) nd] at this
      simpa using this
end
end LW
set_option Elab.async false
set_option linter.all false
set_option maxRecDepth 100000
set_option maxHeartbeats 1000000
namespace LW
open PySem L2 DL TL
/-- data that can be compared, of some depth -/
def Cm (k : Nat) (x : D) : Prop := imm x = true ∧ (toP x).canLay0 = true ∧ (toP x).depth ≤ k
theorem cm_all {k : Nat} : ∀ {ds : List D}, (∀ x ∈ ds, Cm k x) → imms ds = true ∧ PyData.canLayAll0 (toPs ds) = true ∧ PyData.depthAll (toPs ds) ≤ k
  | [], _ => ⟨rfl, rfl, Nat.zero_le _⟩
  | x :: ds, H => by
    obtain ⟨a, b, c⟩ := cm_all fun y hy => H y (List.mem_cons_of_mem _ hy)
    obtain ⟨a', b', c'⟩ := H x List.mem_cons_self
    refine ⟨by rw [imms, a, a']; rfl, by rw [toPs, PyData.canLayAll0, b, b']; rfl, by rw [toPs, PyData.depthAll]; omega⟩
theorem cm_tup {k : Nat} {ds : List D} (H : ∀ x ∈ ds, Cm k x) : Cm (k + 1) (.tup ds) := by
  obtain ⟨a, b, c⟩ := cm_all H
  refine ⟨by rw [imm]; exact a, by rw [toP, PyData.canLay0]; exact b, by rw [toP, PyData.depth]; omega⟩
theorem cm_leaf {x : D} (h : x = .non ∨ (∃ i, x = .int i) ∨ ∃ p n, x = .str p ∧ Tx n p) : Cm 0 x := by
  rcases h with rfl | ⟨i, rfl⟩ | ⟨p, n, rfl, t⟩
  · exact ⟨rfl, rfl, Nat.le_refl _⟩
  · exact ⟨rfl, rfl, Nat.le_refl _⟩
  · exact ⟨rfl, by rw [toP, PyData.canLay0]; exact t.ok, by rw [toP, PyData.depth]; exact Nat.le_refl _⟩
theorem cm_lawT {n : Nat} {z : Str} (t : Tx n z) : Cm 1 (lawT z) := by
  unfold lawT
  split
  · obtain ⟨_, _, h3, h4⟩ := prts_len t
    refine cm_tup fun x hx => cm_leaf ?_
    rcases List.mem_cons.mp hx with rfl | hx
    · exact .inr (.inr ⟨_, n, rfl, h3⟩)
    · rcases h4 x hx with h | h | ⟨p, h, tp⟩
      · exact .inl h
      · exact .inr (.inl h)
      · exact .inr (.inr ⟨p, n, h, tp⟩)
  · exact ⟨rfl, rfl, Nat.zero_le _⟩
theorem toPs_map : ∀ ds : List D, toPs ds = ds.map toP
  | [] => rfl
  | d :: ds => by rw [toPs, toPs_map ds]; rfl
theorem non_in {h : MH} {a : Addr} {ds : List D} {k : Nat} {P : Bool → Prop} (e : h a = some (.lst ds)) (H : ∀ x ∈ ds, Cm k x) (hk : k ≤ 60) (p : P (ds.any fun x => PyData.eqv (toP x) .none)) : inOp .non (.ref a) h P := by
  obtain ⟨c1, c2, c3⟩ := cm_all H
  refine .inr (.inr ⟨.none, ds.map toP, .non, .lst e (by simp) (fun i d t hd ht => ?_), rfl, ?_, ?_⟩)
  · rw [List.getElem?_map, hd] at ht
    cases ht
    exact imm_den (H d (List.mem_of_getElem? hd)).1
  · rw [← toPs_map]
    unfold SeqAt.shaped
    rw [PyData.canLay0, PyData.depth, c2, Bool.true_and]
    exact decide_eq_true (by omega)
  · rw [List.any_map]
    exact p
theorem eqv_lawT (z : Str) : PyData.eqv (toP (lawT z)) .none = !isT z := by
  unfold lawT
  cases isT z with
  | true => rfl
  | false => rfl
section
variable {d : Nat} {h : MH} {Q : D → MH → Prop} {E : DX}
/-- what the law's reading tells of a text -/
def dueT (z : Str) : D := match rndOf z with
  | some zs => .tup (zs.map stepT)
  | none => .non
theorem law_round_ok {z : Str} (t : Tx 15000 z) (q : ∀ h', Gw h h' → Q (dueT z) h') : Ph prog (d + 3) 18 [.str z] h Q E := by
  obtain ⟨ht, hn⟩ := tx_split t sc_ne sc_k
  have tl0 := t.l
  refine ph_of at__law_round_due rfl ?_
  simp only [f__law_round_due]
  rw [wpB_cons]
  simp [-al_eq, -ixD_ref_int]
  rw [if_pos (by decide)]
  have fin : ∀ (zs : List Str) (p : Addr) h1, (∀ z ∈ zs, Tx 15000 z) → zs.length ≤ 16000 → (rndOf z = if (decide (zs.length ≤ 24) && zs.all isT) = true then some zs else none) → Gw h h1 → h1 p = some (.lst (zs.map lawT)) →
      (inOp D.non (.ref p) h1 fun k => if k = true then Q D.non h1 else
        bi Bi.len [D.ref p] h1 fun x h1 => cop .Gt x (D.int 24) h1 fun k => if k = true then Q D.non h1 else bi Bi.tuple [D.ref p] h1 Q) := fun zs p h1 tz lz er g1 e1 => by
    refine non_in e1 (fun x hx => ?_) (k := 1) (by decide) ?_
    · obtain ⟨y, hy, rfl⟩ := List.mem_map.mp hx
      exact cm_lawT (tz y hy)
    have qq := q h1 g1
    unfold dueT at qq
    rw [er] at qq
    have ea : ((zs.map lawT).any fun x => PyData.eqv (toP x) .none) = !zs.all isT := by
      rw [List.any_map]
      show (zs.any fun x => PyData.eqv (toP (lawT x)) .none) = _
      simp only [eqv_lawT]
      rw [List.not_all_eq_any_not]
    rw [ea]
    cases ca : zs.all isT with
    | false =>
      rw [ca] at qq
      simpa using qq
    | true =>
      rw [ca] at qq
      simp [-al_eq, -ixD_ref_int]
      refine ⟨_, e1, ?_⟩
      by_cases c : zs.length ≤ 24
      · rw [if_neg (by simp; omega)]
        rw [decide_eq_true c] at qq
        refine ⟨_, e1, ?_⟩
        have em : zs.map lawT = zs.map stepT := List.map_congr_left fun y hy => by
          unfold lawT
          rw [if_pos (List.all_eq_true.mp ca y hy)]
        rw [em]
        exact qq
      · rw [if_pos (by simp; omega)]
        rw [decide_eq_false c] at qq
        exact qq
  rw [wpB_cons]
  simp [-al_eq, -ixD_ref_int]
  by_cases c : z = "none"
  · rw [if_pos c]
    exact ⟨fits_le (by decide), al_rule fun p h1 hp g1 e1 => fin [] p h1 (fun _ hz => nomatch hz) (by decide) (by unfold rndOf; rw [if_pos c]; rfl) g1 e1⟩
  · rw [if_neg c]
    rw [met_sp]
    refine ⟨⟨by decide, fits_le (by omega)⟩, al_rule fun q1 h1 hq1 g1 e1 => ⟨_, e1, ?_⟩⟩
    refine lc_rule (fun r acc h' => ∃ done rest : List Str, Txt.split z "; " = done ++ rest ∧ r = rest.map D.str ∧ acc = done.map lawT ∧ Gw h1 h') (fun _ _ h' ⟨_, _, _, _, _, g⟩ => g _ _ e1) (fun acc h' ⟨done, rest, a1, a2, a3, g⟩ => ?_) (fun dd r acc h' N ⟨done, rest, a1, a2, a3, g⟩ hN => ?_) _ _ _ ⟨[], _, rfl, rfl, rfl, .refl⟩
    · cases rest with
      | nil => cases a2
      | cons p rest =>
        rw [List.map_cons] at a2
        cases a2
        subst a3
        have hpt := ht p (by rw [a1]; simp)
        have dl : done.length < 15001 := by rw [a1] at hn; simp at hn; omega
        simp
        refine law_step_ok (d := d) hpt fun h2 g2 => ?_
        refine ⟨by rw [sizeLine_eq]; omega, hN _ _ ⟨done ++ [p], rest, by rw [a1, List.append_assoc]; rfl, rfl, by simp, g.trans g2⟩⟩
    · cases rest with
      | cons _ _ => cases a2
      | nil =>
        rw [List.append_nil] at a1
        subst a1 a3
        refine al_rule fun p h2 hp g2 e => ?_
        exact fin (Txt.split z "; ") p h2 ht (by omega) (by unfold rndOf; rw [if_neg c]) ((g1.trans g).trans g2) e
theorem ex0 {C : En} {σ : DS} {fs : List (Str × D)} {h' : MH} (p : C.ex 0 fs σ h') : exAt C σ 0 fs h' := p
/-- what is read of a thing -/
def readD (x : D) : D := match x with
  | .str z => (match rndOf z with
    | some zs => .tup [.str "round", .tup (zs.map stepT)]
    | none => .tup [.str "text", .str z, .bl true])
  | x => .tup [.str "text", x, .bl true]
theorem read_of_str {z : Str} (t : Tx 15000 z) (q : ∀ h', Gw h h' → Q (readD (.str z)) h') : Ph prog (d + 6) 20 [.str z] h Q E := by
  refine ph_of at__law_read_of rfl ?_
  simp only [f__law_read_of]
  rw [wpB_cons]
  simp [-al_eq, -ixD_ref_int]
  rw [wpB_cons]
  simp [-al_eq, -ixD_ref_int]
  refine read_ok (d := d) t (fun zs h' e g => ?_) (fun h' e g => ?_)
  · have qq := q h' g
    simp only [readD, e] at qq
    exact ⟨fits_le (by decide), qq⟩
  · have qq := q h' g
    simp only [readD, e] at qq
    refine ex0 ?_
    refine ⟨⟨by simp, by simp⟩, _, rfl, _, rfl, ?_⟩
    simp [-al_eq, -ixD_ref_int]
    exact ⟨fits_le (by decide), qq⟩
theorem isTys_no {x : D} (k : Kd h x) {P : Bool → Prop} (ns : ∀ z, x ≠ .str z) (p : P false) : isTys x h [.str] P := by
  refine isTys_of k rfl rfl ?_
  cases x <;> first | exact absurd rfl (ns _) | (simp [tyB, subTy]; exact p)
theorem read_of_else {x : D} (k : Kd h x) (ns : ∀ z, x ≠ .str z) (q : Q (.tup [.str "text", x, .bl true]) h) : Ph prog (d + 6) 20 [x] h Q E := by
  refine ph_of at__law_read_of rfl ?_
  simp only [f__law_read_of]
  rw [wpB_cons]
  simp [-al_eq, -ixD_ref_int]
  rw [wpB_cons]
  simp [-al_eq, -ixD_ref_int]
  refine ph_of at_read_round rfl ?_
  simp only [f_read_round]
  rw [wpB_cons]
  simp [-al_eq, -ixD_ref_int]
  refine isTys_no k ns ?_
  simp [-al_eq, -ixD_ref_int]
  refine ex0 ?_
  refine ⟨⟨by simp, by simp⟩, _, rfl, _, rfl, ?_⟩
  simp [-al_eq, -ixD_ref_int]
  exact ⟨fits_le (by decide), q⟩
end
end LW
set_option Elab.async false
set_option linter.all false
set_option maxRecDepth 100000
set_option maxHeartbeats 1000000
set_option exponentiation.threshold 20000
namespace LW
open PySem L2 DL TL
/-! ### steps as they are drawn -/
/-- a leaf's text -/
def nT : D → Str
  | .str z => z
  | .int i => toString i
  | _ => ""
structure Lf (x : D) : Prop where
  l : (nT x).length ≤ 20
  o : ∀ c ∈ TL.tl (nT x), c ≠ 32 ∧ c ≠ 59 ∧ c < 1114112
  k : (∃ z, x = .str z) ∨ ∃ i, x = .int i ∧ i.natAbs ≤ 1000000000000000000
theorem lf_int {i : Int} (h : i.natAbs ≤ 1000000000000000000) : Lf (.int i) := by
  have key : ∀ n : Nat, n ≤ 1000000000000000000 → (numL n).length ≤ 19 := fun n hn => numL_len (k := 19) (by decide) (by omega)
  have dg : ∀ n : Nat, ∀ c ∈ numL n, c ≠ 32 ∧ c ≠ 59 ∧ c < 1114112 := fun n c hc => by
    have := numL_digits n c hc
    omega
  have ex : (∃ n : Nat, n ≤ 1000000000000000000 ∧ TL.tl (nT (.int i)) = numL n) ∨ ∃ n : Nat, n ≤ 1000000000000000000 ∧ TL.tl (nT (.int i)) = 45 :: numL n := by
    by_cases c : 0 ≤ i
    · obtain ⟨n, rfl⟩ := Int.eq_ofNat_of_zero_le c
      exact .inl ⟨n, by omega, tl_nat n⟩
    · obtain ⟨n, hn⟩ : ∃ n : Nat, i = -(n : Int) := ⟨i.natAbs, by omega⟩
      subst hn
      exact .inr ⟨n, by omega, neg_text (by omega)⟩
  rcases ex with ⟨n, hn, e⟩ | ⟨n, hn, e⟩
  · exact ⟨by rw [len_tl, e]; have := key n hn; omega, fun c hc => dg n c (e ▸ hc), .inr ⟨i, rfl, h⟩⟩
  · refine ⟨by rw [len_tl, e]; have := key n hn; simp; omega, fun c hc => ?_, .inr ⟨i, rfl, h⟩⟩
    rw [e] at hc
    rcases List.mem_cons.mp hc with rfl | hc
    · decide
    · exact dg n c hc
def names : List Str := ["a", "wind", "turn", "do", "none", "swap", "abcdefgh", "zq"]
theorem lf_str {z : Str} (h : z ∈ names) : Lf (.str z) := by
  have key : ∀ z ∈ names, z.length ≤ 20 ∧ ∀ c ∈ TL.tl z, c ≠ 32 ∧ c ≠ 59 ∧ c < 1114112 := by decide +kernel
  exact ⟨(key z h).1, (key z h).2, .inl ⟨z, rfl⟩⟩
structure Sp (w : Str) (ps : List D) : Prop where
  wl : Lf (.str w)
  w0 : 0 < w.length
  psl : ∀ x ∈ ps, Lf x
  ok : isStp w ps = true
  l : ps.length ≤ 3
  e : partsOf w (ps.map nT) = ps
def SpD (x : D) : Prop := ∃ w ps, x = .tup (.str w :: ps) ∧ Sp w ps
def tD : D → Str
  | .tup ds => Txt.join " " (ds.map nT)
  | _ => ""
theorem jw_le {k n : Nat} : ∀ {l : List Str}, (∀ p ∈ l, p.length ≤ n) → Jw k l ≤ l.length * (n + k)
  | [], _ => by simp [Jw]
  | p :: l, H => by
    have := jw_le (k := k) (n := n) (l := l) fun q hq => H q (List.mem_cons_of_mem _ hq)
    have h0 := H p (by simp)
    rw [List.length_cons, Nat.succ_mul]
    have e : Jw k (p :: l) = p.length + k + Jw k l := by simp [Jw]
    omega
section
variable {w : Str} {ps : List D}
theorem Sp.all (s : Sp w ps) : ∀ x ∈ (.str w :: ps : List D), Lf x := fun x hx => by
  rcases List.mem_cons.mp hx with rfl | hx
  · exact s.wl
  · exact s.psl x hx
theorem Sp.split (s : Sp w ps) : Txt.split (tD (.tup (.str w :: ps))) " " = w :: ps.map nT := by
  refine TL.split_join (s := 32) (S := []) rfl sp_k (by simp) fun p hp => ?_
  obtain ⟨x, hx, rfl⟩ := List.mem_map.mp hp
  exact fun z => ((s.all x hx).o 32 z).1 rfl
theorem Sp.stepT (s : Sp w ps) : stepT (tD (.tup (.str w :: ps))) = .tup (.str w :: ps) := by
  unfold LW.stepT hd prts hd
  rw [s.split]
  show D.tup (.str w :: partsOf w (ps.map nT)) = _
  rw [s.e]
theorem Sp.isT (s : Sp w ps) : isT (tD (.tup (.str w :: ps))) = true := by
  unfold LW.isT prts hd
  rw [s.split]
  show isStp w (partsOf w (ps.map nT)) = _
  rw [s.e]
  exact s.ok
theorem Sp.tx (s : Sp w ps) : Tx 84 (tD (.tup (.str w :: ps))) := by
  have hl : ∀ p ∈ (.str w :: ps : List D).map nT, p.length ≤ 20 ∧ ∀ c ∈ TL.tl p, c < 1114112 := fun p hp => by
    obtain ⟨x, hx, rfl⟩ := List.mem_map.mp hp
    exact ⟨(s.all x hx).l, fun c hc => ((s.all x hx).o c hc).2.2⟩
  refine tx_join (n := 20) (fun p hp => ⟨(hl p hp).1, (hl p hp).2⟩) (by decide) ?_
  have := jw_le (k := (" " : Str).length) (n := 20) fun p hp => (hl p hp).1
  have e1 : (" " : Str).length = 1 := by decide
  rw [e1] at this ⊢
  have h3 := s.l
  simp only [List.length_map, List.length_cons] at this
  omega
theorem Sp.no59 (s : Sp w ps) : 59 ∉ TL.tl (tD (.tup (.str w :: ps))) := fun hc => by
  have e : tD (.tup (.str w :: ps)) = Txt.join " " ((.str w :: ps : List D).map nT) := rfl
  rw [e, TL.join_eq, TL.tl_join] at hc
  rcases joinL_mem hc with hc | ⟨p, hp, hc⟩
  · revert hc; decide
  · obtain ⟨q, hq, rfl⟩ := List.mem_map.mp hp
    obtain ⟨x, hx, rfl⟩ := List.mem_map.mp hq
    exact ((s.all x hx).o 59 hc).2.1 rfl
theorem Sp.pos (s : Sp w ps) : 0 < (tD (.tup (.str w :: ps))).length := by
  have e : tD (.tup (.str w :: ps)) = Txt.join " " ((.str w :: ps : List D).map nT) := rfl
  have h1 := join_len (y := " ") (l := (.str w :: ps : List D).map nT) (by simp)
  have h2 := jw_mem (k := (" " : Str).length) (p := w) (l := (.str w :: ps : List D).map nT) (by simp [nT])
  rw [← e] at h1
  have := s.w0
  omega
end
/-- a round's text -/
def rT (xs : List D) : Str := if xs = [] then "none" else Txt.join "; " (xs.map tD)
theorem tx_none : Tx 4 "none" := ⟨by decide, by decide +kernel⟩
section
variable {xs : List D}
theorem rt_all (H : ∀ x ∈ xs, SpD x) : ∀ z ∈ xs.map tD, Tx 84 z ∧ isT z = true ∧ 59 ∉ TL.tl z ∧ 0 < z.length := fun z hz => by
  obtain ⟨x, hx, rfl⟩ := List.mem_map.mp hz
  obtain ⟨w, ps, rfl, s⟩ := H x hx
  exact ⟨s.tx, s.isT, s.no59, s.pos⟩
theorem rt_tx (H : ∀ x ∈ xs, SpD x) (hl : xs.length ≤ 24) : Tx 2064 (rT xs) := by
  unfold rT
  split
  · exact tx_none.mono (by decide)
  · have A := rt_all H
    refine tx_join (n := 84) (fun p hp => (A p hp).1) (by decide) ?_
    have := jw_le (k := ("; " : Str).length) (n := 84) fun p hp => (A p hp).1.l
    have e1 : ("; " : Str).length = 2 := by decide
    rw [e1] at this ⊢
    rw [List.length_map] at this
    omega
theorem rt_pos (H : ∀ x ∈ xs, SpD x) (ne : xs ≠ []) : 0 < (Txt.join "; " (xs.map tD)).length := by
  have A := rt_all H
  cases xs with
  | nil => exact absurd rfl ne
  | cons x xs =>
    have h1 := join_len (y := "; ") (l := (x :: xs).map tD) (by simp)
    have h2 := jw_mem (k := ("; " : Str).length) (p := tD x) (l := (x :: xs).map tD) (by simp)
    have h3 := (A (tD x) (by simp)).2.2.2
    omega
theorem not_none : isT "none" = false := by decide +kernel
theorem rt_split (H : ∀ x ∈ xs, SpD x) (ne : xs ≠ []) : Txt.split (Txt.join "; " (xs.map tD)) "; " = xs.map tD :=
  TL.split_join (s := 59) (S := [32]) rfl sc_k (by simpa using ne) fun p hp => (rt_all H p hp).2.2.1
theorem rt_rnd (H : ∀ x ∈ xs, SpD x) (hl : xs.length ≤ 24) : rndOf (rT xs) = some (xs.map tD) := by
  unfold rT
  by_cases ne : xs = []
  · subst ne; rfl
  · rw [if_neg ne]
    have es := rt_split H ne
    have al : (xs.map tD).all isT = true := List.all_eq_true.mpr fun z hz => (rt_all H z hz).2.1
    unfold rndOf
    rw [if_neg, es]
    · rw [al, if_pos (by simpa using hl)]
    · intro z
      have := split_join (y := "; ") (s := 59) (S := [32]) rfl sc_k (parts := ["none"]) (by simp) (by decide +kernel)
      rw [show Txt.join "; " ["none"] = "none" by decide +kernel] at this
      have e2 := es
      rw [z, this] at e2
      rw [← e2] at al
      rw [List.all_cons, not_none] at al
      cases al
theorem rt_steps (H : ∀ x ∈ xs, SpD x) : (xs.map tD).map stepT = xs := by
  rw [List.map_map]
  refine (List.map_congr_left fun x hx => ?_).trans (List.map_id xs)
  obtain ⟨w, ps, rfl, s⟩ := H x hx
  exact s.stepT
theorem rt_read (H : ∀ x ∈ xs, SpD x) (hl : xs.length ≤ 24) : readD (.str (rT xs)) = .tup [.str "round", .tup xs] := by
  simp only [readD, rt_rnd H hl, rt_steps H]
end
section
variable {d : Nat} {h : MH} {Q : D → MH → Prop} {E : DX}
/-- the leaves' texts -/
theorem strs_lc {t : Nat} {σ : DS} {ok : MH → Prop} {Φ : Fns} {X : DX} {K : List D → MH → Prop} {ds : List D} (hp : ∀ x ∈ ds, Lf x) (hl : ds.length ≤ 16000) (ht : t < σ.length) (hok : ok h) (q : K ((ds.map nT).map D.str) h) :
    lcGo (.nm t) ok (wpC Φ none) (wpE Φ X (.bi .str [.var t])) σ K ds [] h := by
  refine lc_rule (fun r acc h' => h' = h ∧ ∃ done rest : List D, ds = done ++ rest ∧ r = rest ∧ acc = (done.map nT).map D.str) (fun r acc h' ⟨e, _⟩ => e ▸ hok) (fun acc h' ⟨e, done, rest, e1, e2, e3⟩ => ?_) (fun dd r acc h' N ⟨e, done, rest, e1, e2, e3⟩ hN => ?_) _ _ _ ⟨rfl, [], ds, rfl, rfl, rfl⟩
  · subst e e2 e3
    have dl : done.length < 16000 := by rw [e1] at hl; simp at hl; omega
    have pl := hp dd (by rw [e1]; simp)
    have nx : done.length < sizeLine ∧ N (((done.map nT).map D.str) ++ [.str (nT dd)]) h' := ⟨by rw [sizeLine_eq]; omega, hN _ _ ⟨rfl, done ++ [dd], r, by rw [e1, List.append_assoc]; rfl, rfl, by simp⟩⟩
    rcases pl.k with ⟨z, rfl⟩ | ⟨i, rfl, hi⟩
    · simp [ht]
      have nx := nx
      simp [nT] at nx
      exact nx
    · simp [ht]
      refine ⟨?_, by simpa [nT] using nx⟩
      by_cases z : i.natAbs = 0
      · rw [show i = 0 by omega]; decide
      · have := (Nat.log2_lt (n := i.natAbs) (k := 60) z).mpr (by omega)
        omega
  · subst e e2 e3
    rw [List.append_nil] at e1
    subst e1
    exact q
theorem sum_le {n : Nat} : ∀ {l : List Str}, (∀ p ∈ l, p.length ≤ n) → (l.map (·.length)).sum ≤ l.length * n
  | [], _ => by simp
  | p :: l, H => by
    have := sum_le (n := n) (l := l) fun q hq => H q (List.mem_cons_of_mem _ hq)
    have h0 := H p (by simp)
    rw [List.length_cons, Nat.succ_mul, List.map_cons, List.sum_cons]
    omega
theorem join_leaves {ds : List D} {a : Addr} (hp : ∀ x ∈ ds, Lf x) (hl : ds.length ≤ 4) (e : h a = some (.lst ((ds.map nT).map D.str))) (q : Q (.str (tD (.tup ds))) h) : met .join (.str " ") [.ref a] h Q := by
  refine met_jn e ?_ q
  have := sum_le (n := 20) (l := ds.map nT) fun p hp' => by
    obtain ⟨x, hx, rfl⟩ := List.mem_map.mp hp'
    exact (hp x hx).l
  rw [List.length_map] at this ⊢
  have e1 : (" " : Str).length = 1 := by decide
  rw [e1]
  omega
theorem join_rows {xs : List D} {a : Addr} (H : ∀ x ∈ xs, SpD x) (hl : xs.length ≤ 24) (e : h a = some (.lst ((xs.map tD).map D.str))) (q : Q (.str (Txt.join "; " (xs.map tD))) h) : met .join (.str "; ") [.ref a] h Q := by
  refine met_jn e ?_ q
  have := sum_le (n := 84) (l := xs.map tD) fun p hp => (rt_all H p hp).1.l
  rw [List.length_map] at this ⊢
  have e1 : ("; " : Str).length = 2 := by decide
  rw [e1]
  omega
theorem show_step_ok {ds : List D} (hp : ∀ x ∈ ds, Lf x) (hl : ds.length ≤ 4) (q : ∀ h', Gw h h' → Q (.str (tD (.tup ds))) h') : Ph prog (d + 1) 5 [.tup ds] h Q E := by
  refine ph_of at_show_step rfl ?_
  simp only [f_show_step]
  rw [wpB_cons]
  simp [-al_eq, -ixD_ref_int]
  refine strs_lc hp (by omega) (by simp) trivial (al_rule fun a h1 ha g1 e1 => ?_)
  exact join_leaves hp hl e1 (q h1 g1)
theorem show_round_ok {xs : List D} (H : ∀ x ∈ xs, SpD x) (hl : xs.length ≤ 24) (q : ∀ h', Gw h h' → Q (.str (rT xs)) h') : Ph prog (d + 2) 6 [.tup xs] h Q E := by
  refine ph_of at_show_round rfl ?_
  simp only [f_show_round]
  rw [wpB_cons]
  simp [-al_eq, -ixD_ref_int]
  refine lc_rule (fun r acc h' => ∃ done rest : List D, xs = done ++ rest ∧ r = rest ∧ acc = (done.map tD).map D.str ∧ Gw h h') (fun _ _ _ _ => trivial) (fun acc h' ⟨done, rest, e1, e2, e3, g⟩ => ?_) (fun dd r acc h' N ⟨done, rest, e1, e2, e3, g⟩ hN => ?_) _ _ _ ⟨[], xs, rfl, rfl, rfl, .refl⟩
  · subst e2 e3
    have dl : done.length < 24 := by rw [e1] at hl; simp at hl; omega
    obtain ⟨w, ps, rfl, s⟩ := H dd (by rw [e1]; simp)
    simp
    refine show_step_ok (d := d) s.all (by have := s.l; simp; omega) fun h2 g2 => ⟨by rw [sizeLine_eq]; omega, ?_⟩
    exact hN _ _ ⟨done ++ [_], r, by rw [e1, List.append_assoc]; rfl, rfl, by simp, g.trans g2⟩
  · subst e2 e3
    rw [List.append_nil] at e1
    subst e1
    refine al_rule fun a h2 ha g2 e => join_rows H hl e ?_
    have qq := q h2 (g.trans g2)
    unfold rT at qq
    by_cases ne : xs = []
    · rw [if_pos ne] at qq
      subst ne
      rw [show Txt.join "; " ([].map tD) = "" by decide +kernel]
      refine ⟨fits_le (by decide), ?_⟩
      show if _ = true then _ else _
      rw [if_neg (by decide)]
      exact qq
    · rw [if_neg ne] at qq
      have h0 := rt_pos H ne
      have h1 := (rt_tx H hl).l
      unfold rT at h1
      rw [if_neg ne] at h1
      refine ⟨fits_le (by omega), ?_⟩
      show if _ = true then _ else _
      rw [if_pos (by simp; omega)]
      exact qq
/-! ### a step is drawn -/
variable {p c : Addr} {n : Nat}
theorem sp_wind {a b m : Int} (a0 : 0 ≤ a) (a6 : a < 6) (b0 : 0 ≤ b) (b6 : b < 6) (ab : a ≠ b) (m1 : 1 ≤ m) (m2 : m ≤ 1000000000000000000) : SpD (.tup [.str "wind", .int a, .int b, .int m]) := by
  refine ⟨"wind", [.int a, .int b, .int m], rfl, lf_str (by decide), by decide, ?_, ?_, by simp, ?_⟩
  · intro x hx
    simp at hx
    rcases hx with rfl | rfl | rfl <;> exact lf_int (by omega)
  · rw [isStp_wind]
    simp [spl2, isWh, sameI, M18]
    omega
  · unfold partsOf
    rw [if_neg n_dw.symm]
    simp only [List.map_cons, List.map_nil, nT, wD]
    rw [whole_int (by omega), whole_int (by omega), whole_int (by omega)]
    rfl
theorem sp_turn {a : Int} (a0 : 0 ≤ a) (a6 : a < 6) : SpD (.tup [.str "turn", .int a]) := by
  refine ⟨"turn", [.int a], rfl, lf_str (by decide), by decide, ?_, ?_, by simp, ?_⟩
  · intro x hx
    simp at hx
    subst hx
    exact lf_int (by omega)
  · rw [isStp_turn]
    simp [isWh]
    omega
  · unfold partsOf
    rw [if_neg n_dt.symm]
    simp only [List.map_cons, List.map_nil, nT, wD]
    rw [whole_int (by omega)]
    rfl
theorem sp_swap {a b : Int} (a0 : 0 ≤ a) (a6 : a < 6) (b0 : 0 ≤ b) (b6 : b < 6) (ab : a ≠ b) : SpD (.tup [.str "swap", .int a, .int b]) := by
  refine ⟨"swap", [.int a, .int b], rfl, lf_str (by decide), by decide, ?_, ?_, by simp, ?_⟩
  · intro x hx
    simp at hx
    rcases hx with rfl | rfl <;> exact lf_int (by omega)
  · rw [isStp_swap]
    simp [spl2, isWh, sameI]
    omega
  · unfold partsOf
    rw [if_neg n_ds.symm]
    simp only [List.map_cons, List.map_nil, nT, wD]
    rw [whole_int (by omega), whole_int (by omega)]
    rfl
theorem wd_names : ∀ z ∈ names, isWd (.str z) = true := by decide +kernel
theorem sp_do {z : Str} {k : Int} (hz : z ∈ names) (k0 : -9 ≤ k) (k9 : k ≤ 9) : SpD (.tup [.str "do", .str z, .int k]) := by
  refine ⟨"do", [.str z, .int k], rfl, lf_str (by decide), by decide, ?_, ?_, by simp, ?_⟩
  · intro x hx
    simp at hx
    rcases hx with rfl | rfl
    · exact lf_str hz
    · exact lf_int (by omega)
  · rw [isStp_do]
    simp [isWh, wd_names z hz]
    omega
  · unfold partsOf
    rw [if_pos rfl]
    simp only [List.map_cons, List.map_nil, nT, wD]
    show [D.str z, optD (whole _)] = _
    rw [whole_int (by omega)]
    rfl
theorem one_ok (pn : Pen h p c n) (hn : n + 100 < 2 ^ 60) (q : ∀ x h', SpD x → Pen h' p c (n + 30) → Gx p h h' → Q x h') : Ph prog (d + 3) 14 [.ref p] h Q E := by
  refine ph_of at__law_one_step rfl ?_
  simp only [f__law_one_step]
  rw [wpB_cons]
  simp [-al_eq, -ixD_ref_int]
  refine draw_ok (d := d + 1) pn (by decide) (by decide) (by omega) fun kd h1 k0 k6 pn1 g1 => ?_
  try simp [-al_eq, -ixD_ref_int]
  refine draw_ok (d := d + 1) pn1 (by decide) (by decide) (by omega) fun a h2 a0 a6 pn2 g2 => ?_
  have g2 := g1.trans g2
  try simp [-al_eq, -ixD_ref_int]
  refine ⟨fits_le (by decide), ?_⟩
  rw [wpB_cons]
  simp [-al_eq, -ixD_ref_int]
  refine draw_ok (d := d + 1) pn2 (by decide) (by decide) (by omega) fun b h3 b0 b5 pn3 g3 => ?_
  have g3 := g2.trans g3
  try simp [-al_eq, -ixD_ref_int]
  have c0 : 0 ≤ (a + 1 + b) % 6 := Int.emod_nonneg _ (by decide)
  have c6 : (a + 1 + b) % 6 < 6 := Int.emod_lt_of_pos _ (by decide)
  have ca : a ≠ (a + 1 + b) % 6 := by omega
  generalize (a + 1 + b) % 6 = b at c0 c6 ca ⊢
  rw [wpB_cons]
  simp [-al_eq, -ixD_ref_int]
  by_cases c1 : kd < 3
  · rw [if_pos c1]
    refine great_ok (d := d) (k := 18) pn3 (by omega) (by decide) fun v h4 v0 v18 pn4 g4 => ?_
    have g4 := g3.trans g4
    try simp [-al_eq, -ixD_ref_int]
    refine draw_ok (d := d + 1) pn4 (by decide) (by decide) (by omega) fun w h5 w0 w9 pn5 g5 => ?_
    have g5 := g4.trans g5
    try simp [-al_eq, -ixD_ref_int]
    refine ⟨fits_le (by decide), al_rule fun q1 h6 hq1 g6 e6 => ?_⟩
    have g6' := g5.trans g6.gx
    have n1 : q1 ≠ p := (pn5.nep hq1).symm
    try simp [-al_eq, -ixD_ref_int]
    refine draw_ok (d := d + 1) (pn5.gw g6) (by decide) (by decide) (by omega) fun j h7 j0 j4 pn7 g7 => ?_
    have e7 := g7.1 _ _ n1 e6
    have jj : j = 0 ∨ j = 1 ∨ j = 2 ∨ j = 3 := by omega
    have v18 : v < 1000000000000000000 := by simpa using v18
    have fin : ∀ m : Int, 1 ≤ m → m ≤ 1000000000000000000 → Fits 4 ∧ Q (.tup [.str "wind", .int a, .int b, .int m]) h7 := fun m m1 m2 => ⟨fits_le (by decide), q _ _ (sp_wind a0 a6 c0 c6 ca m1 m2) (pn7.mono (by omega)) (g6'.trans g7)⟩
    rcases jj with rfl | rfl | rfl | rfl
    · exact ixD_lst e7 rfl (fin _ (by decide) (by decide))
    · exact ixD_lst e7 rfl (fin _ (by decide) (by decide))
    · exact ixD_lst e7 rfl (fin _ (by omega) (by omega))
    · exact ixD_lst e7 rfl (fin _ (by omega) (by omega))
  · rw [if_neg c1]
    rw [wpB_cons]
    simp [-al_eq, -ixD_ref_int]
    by_cases c2 : kd = 3
    · rw [if_pos c2]
      refine ⟨fits_le (by decide), ?_⟩; exact q _ _ (sp_turn a0 a6) (pn3.mono (by omega)) g3
    · rw [if_neg c2]
      rw [wpB_cons]
      simp [-al_eq, -ixD_ref_int]
      refine ⟨fits_le (by decide), al_rule fun q1 h6 hq1 g6 e6 => ?_⟩
      have g6' := g3.trans g6.gx
      refine pick_ok (d := d) (pn3.gw g6) (by omega) e6 (by simp) (by decide) fun v h7 hv pn7 g7 => ?_
      have g7 := g6'.trans g7
      obtain ⟨z, hz, rfl⟩ : ∃ z, z ∈ names ∧ v = .str z := by
        obtain ⟨z, hz, e⟩ := List.mem_map.mp (show v ∈ names.map D.str from hv)
        exact ⟨z, hz, e.symm⟩
      try simp [-al_eq, -ixD_ref_int]
      by_cases c4 : kd = 4
      · rw [if_pos c4]
        refine ⟨fits_le (by decide), ?_⟩; exact q _ _ (sp_swap a0 a6 c0 c6 ca) (pn7.mono (by omega)) g7
      · rw [if_neg c4]
        refine draw_ok (d := d + 1) pn7 (by decide) (by decide) (by omega) fun k h8 k0 k19 pn8 g8 => ?_
        try simp [-al_eq, -ixD_ref_int]
        refine ⟨fits_le (by decide), ?_⟩
        exact q _ _ (sp_do hz (k := k - 9) (by omega) (by omega)) (pn8.mono (by omega)) (g7.trans g8)
end
end LW
set_option Elab.async false
set_option linter.all false
set_option maxRecDepth 100000
set_option maxHeartbeats 1000000
set_option exponentiation.threshold 20000
namespace LW
open PySem L2 DL TL
/-! ### a bent text -/
theorem jw_sum (k : Nat) : ∀ l : List Str, (l.map (·.length)).sum + l.length * k = Jw k l
  | [] => by simp [Jw]
  | p :: l => by
    have := jw_sum k l
    have e : Jw k (p :: l) = p.length + k + Jw k l := by simp [Jw]
    rw [List.length_cons, Nat.succ_mul, List.map_cons, List.sum_cons, e]
    omega
theorem jw_app (k : Nat) (a b : List Str) : Jw k (a ++ b) = Jw k a + Jw k b := by simp [Jw]
theorem jw_one (k : Nat) (a : Str) : Jw k [a] = a.length + k := by simp [Jw]
theorem jw_cut (k i : Nat) (l : List Str) : Jw k (l.take i) + Jw k (l.drop i) = Jw k l := by rw [← jw_app, List.take_append_drop]
theorem jw_drop1 (k i : Nat) (l : List Str) : Jw k (l.drop (i + 1)) ≤ Jw k (l.drop i) := by
  cases e : l.drop i with
  | nil => rw [show l.drop (i + 1) = [] by rw [List.drop_eq_nil_iff] at e ⊢; omega]; exact Nat.le_refl _
  | cons p r =>
    rw [show l.drop (i + 1) = r by rw [← List.drop_drop, e]; rfl]
    simp [Jw]
def letT : Str := " ;0123456789-+.,abdnoswtuprirAZ_\n" ++ Txt.mul " ;-0159" 3
theorem let_ok : ∀ v ∈ letT.cps.toList, v < 1114112 := by decide +kernel
theorem let_len : letT.cps.toList.length ≤ 1000 ∧ letT.cps.toList ≠ [] := by decide +kernel
def badW : List Str := ["wind", "turn", "do", "swap", "none", "", "0", "-0", "05", "6", "10", "-9", "-10", "1000000000000000000", "1000000000000000001", "99999999999999999999", "1;", "a;", "3;"]
theorem bad_tx : ∀ z ∈ badW, Tx 20 z := by
  have : ∀ z ∈ badW, z.length ≤ 20 ∧ ∀ c ∈ TL.tl z, c < 1114112 := by decide +kernel
  exact fun z hz => ⟨(this z hz).1, (this z hz).2⟩
section
variable {d : Nat} {h : MH} {Q : D → MH → Prop} {E : DX} {p c : Addr} {n : Nat}
theorem tx_cat {a b : Str} {i j : Nat} (ha : Tx i a) (hb : Tx j b) : Tx (i + j) (a ++ b) := ⟨by have := ha.l; have := hb.l; rw [len_tl, TL.tl_append, List.length_append, ← len_tl, ← len_tl]; omega, fun c hc => by
  rw [TL.tl_append] at hc
  rcases List.mem_append.mp hc with hc | hc
  · exact ha.o c hc
  · exact hb.o c hc⟩
theorem tx_cut {a : Str} {i : Nat} {l : List Nat} (ha : Tx i a) (hl : l.length ≤ i) (hs : ∀ c ∈ l, c ∈ TL.tl a) : Tx i ⟨l.toArray⟩ := ⟨by rw [len_tl, tl_mk]; exact hl, fun c hc => by rw [tl_mk] at hc; exact ha.o c (hs c hc)⟩
theorem tx_one {v : Nat} (hv : v < 1114112) : Tx 1 ⟨#[v]⟩ := ⟨Nat.le_refl _, fun c hc => by
  have : c ∈ [v] := hc
  rw [List.mem_singleton.mp this]; exact hv⟩
theorem join_any {l : List Str} {y : Str} {a : Addr} {m : Nat} (hm : Jw y.length l ≤ m) (hb : m ≤ 16777216) (e : h a = some (.lst (l.map D.str))) (q : Q (.str (Txt.join y l)) h) : met .join (.str y) [.ref a] h Q := by
  refine met_jn e ?_ q
  rw [jw_sum]
  omega
theorem bent_ok {z : Str} {m : Nat} (pn : Pen h p c n) (hn : n + 100 < 2 ^ 60) (t : Tx m z) (hm : m ≤ 5000) (q : ∀ y h', Tx (2 * m + 30) y → Pen h' p c (n + 10) → Gx p h h' → Q (.str y) h') : Ph prog (d + 3) 19 [.ref p, .str z] h Q E := by
  have zl := t.l
  refine ph_of at__law_bent_text rfl ?_
  simp only [f__law_bent_text]
  rw [wpB_cons]
  simp [-al_eq, -ixD_ref_int]
  refine ⟨fits_le (by omega), ?_⟩
  refine draw_ok (d := d + 1) pn (by omega) (by omega) (by omega) fun a h1 a0 a1 pn1 g1 => ?_
  try simp [-al_eq, -ixD_ref_int]
  refine draw_ok (d := d + 1) pn1 (by decide) (by decide) (by omega) fun kd h2 k0 k7 pn2 g2 => ?_
  have g2 := g1.trans g2
  try simp [-al_eq, -ixD_ref_int]
  refine ⟨fits_le (by decide), ?_⟩
  rw [wpB_cons]
  simp [-al_eq, -ixD_ref_int]
  refine ⟨by decide, fits_le (by decide), ?_⟩
  rw [show ((" ;0123456789-+.,abdnoswtuprirAZ_\n" : Str) ++ Txt.mul " ;-0159" 3) = letT from rfl]
  rw [wpB_cons]
  simp [-al_eq, -ixD_ref_int]
  refine ⟨fits_le (by decide +kernel), al_rule fun q1 h3 hq1 g3 e3 => ?_⟩
  have g3' := g2.trans g3.gx
  refine pick_ok (d := d) (pn2.gw g3) (by omega) e3 (by simpa using let_len.2) (by rw [List.length_map]; exact Nat.le_trans let_len.1 (by decide)) fun o h4 ho pn4 g4 => ?_
  have g4 := g3'.trans g4
  obtain ⟨v, hv, rfl⟩ := List.mem_map.mp ho
  have vo := tx_one (let_ok v hv)
  try simp [-al_eq, -ixD_ref_int]
  rw [met_sp]
  refine ⟨⟨by decide, fits_le (by omega)⟩, al_rule fun q2 h5 hq2 g5 e5 => ?_⟩
  try simp [-al_eq, -ixD_ref_int]
  refine ⟨fits_le (by decide), ?_⟩
  have g5' := g4.trans g5.gx
  have n2 : q2 ≠ p := (pn4.nep hq2).symm
  have pn5 := pn4.gw g5
  obtain ⟨wt, wn⟩ := tx_split t sp_ne sp_k
  have wne := split_ne (z := z) sp_ne sp_k
  have wj := split_len (z := z) sp_ne sp_k
  generalize Txt.split z " " = ws at e5 wt wn wne wj
  have w0 : 0 < ws.length := List.length_pos_iff.mpr wne
  rw [wpB_cons]
  simp [-al_eq, -ixD_ref_int]
  refine ⟨_, e5, draw_ok (d := d + 1) pn5 (by simp; omega) (by simp; omega) (by omega) fun pa h6 pa0 pa1 pn6 g6 => ?_⟩
  have e6 := g6.1 _ _ n2 e5
  have g6 := g5'.trans g6
  obtain ⟨i, rfl⟩ := Int.eq_ofNat_of_zero_le pa0
  simp only [List.length_map] at pa1
  try simp [-al_eq, -ixD_ref_int]
  rw [wpB_cons]
  simp [-al_eq, -ixD_ref_int]
  obtain ⟨ai, rfl⟩ := Int.eq_ofNat_of_zero_le a0
  by_cases c1 : kd < 3
  · rw [if_pos c1]
    refine ⟨fits_le (by omega), fits_le (by decide), al_rule fun q3 h7 hq3 g7 e7 => ?_⟩
    have G7 := g6.trans g7.gx
    obtain ⟨o1, to1, ex, s1, es⟩ : ∃ o, Tx 1 o ∧ atI [D.str ⟨#[v]⟩, .str "", .str ⟨#[v]⟩] kd = some (.str o) ∧ ∃ s : Nat, ∀ (R : D → MH → Prop) (h' : MH), R (.int (s : Int)) h' → bi .int [.bl (decide (0 < kd))] h' R := by
      have : kd = 0 ∨ kd = 1 ∨ kd = 2 := by omega
      rcases this with rfl | rfl | rfl
      · exact ⟨_, vo, rfl, 0, fun R h' r => r⟩
      · exact ⟨"", ⟨by decide, by decide⟩, rfl, 1, fun R h' r => r⟩
      · exact ⟨_, vo, rfl, 1, fun R h' r => r⟩
    refine ixD_lst e7 ex ?_
    have t1 : Tx m (⟨(z.cps.toList.take ai).toArray⟩ : Str) := tx_cut t (by rw [List.length_take]; have : z.cps.toList.length = z.length := by simp [Str.length]
                                                                            omega) fun c hc => List.mem_of_mem_take hc
    have t2 : Tx m (⟨(z.cps.toList.drop (ai + s1)).toArray⟩ : Str) := tx_cut t (by rw [List.length_drop]; have : z.cps.toList.length = z.length := by simp [Str.length]
                                                                                   omega) fun c hc => List.mem_of_mem_drop hc
    rw [cut_to]
    have l1 := t1.l
    have l2 := t2.l
    have l3 := to1.l
    have t12 := tx_cat t1 to1
    have l12 := t12.l
    refine ⟨fits_le (by omega), ?_⟩
    refine es _ _ ?_
    rw [bop_add_int, intD_int]
    rw [show ((ai : Int) + (s1 : Int)) = ((ai + s1 : Nat) : Int) by omega]
    refine ⟨fits_le (by omega), ?_⟩
    rw [cut_from]
    exact ⟨fits_le (by omega), q _ _ ((tx_cat t12 t2).mono (by omega)) ((pn6.gw g7).mono (by omega)) G7⟩
  · rw [if_neg c1]
    rw [wpB_cons]
    simp [-al_eq, -ixD_ref_int]
    refine ⟨fits_le (by decide), al_rule fun q3 h7 hq3 g7 e7 => ?_⟩
    rw [wpB_cons]
    simp [-al_eq, -ixD_ref_int]
    refine ⟨fits_le (by decide), al_rule fun q4 h8 hq4 g8 e8 => ?_⟩
    refine ⟨_, _, g8 _ _ e7, e8, fits_le (by decide), al_rule fun q5 h9 hq5 g9 e9 => ?_⟩
    have g9' := (g7.trans g8).trans g9
    refine pick_ok (d := d) (pn6.gw g9') (by omega) e9 (by simp) (by decide) fun o h10 ho pn10 g10 => ?_
    obtain ⟨b, hb, rfl⟩ : ∃ b, b ∈ badW ∧ o = .str b := by
      obtain ⟨b, hb, e⟩ := List.mem_map.mp (show o ∈ badW.map D.str from ho)
      exact ⟨b, hb, e.symm⟩
    have tb := bad_tx b hb
    have e10 := g10.1 _ _ n2 (g9' _ _ e6)
    have G10 := (g6.trans g9'.gx).trans g10
    clear ho e9 e8 e7
    try simp [-al_eq, -ixD_ref_int]
    rw [wpB_cons]
    simp [-al_eq, -ixD_ref_int]
    have lsp : (" " : Str).length = 1 := by decide
    have jc := jw_cut 1 i ws
    have jd := jw_drop1 1 i ws
    rw [lsp] at wj
    by_cases c3 : kd = 3
    · rw [if_pos c3]
      refine ⟨_, e10, al_rule fun q6 h11 hq6 g11 e11 => ⟨fits_le (by decide), al_rule fun q7 h12 hq7 g12 e12 => ⟨_, _, g12 _ _ e11, e12, fits_le ?_, al_rule fun q8 h13 hq8 g13 e13 => ⟨_, g13 _ _ (g12 _ _ (g11 _ _ e10)), al_rule fun q9 h14 hq9 g14 e14 => ⟨_, _, g14 _ _ e13, e14, fits_le ?_, al_rule fun q10 h15 hq10 g15 e15 => ?_⟩⟩⟩⟩⟩
      · simp only [cut_to, List.length_take, List.length_map, List.length_cons, List.length_nil]; omega
      · rw [show ((i : Int) + 1) = ((i + 1 : Nat) : Int) by omega, cut_from, cut_to]
        simp only [List.length_append, List.length_drop, List.length_take, List.length_map, List.length_cons, List.length_nil]; omega
      · rw [cut_to, show ((i : Int) + 1) = ((i + 1 : Nat) : Int) by omega, cut_from, ← List.map_take, ← List.map_drop] at e15
        have e15 : h15 q10 = some (.lst ((ws.take i ++ [b] ++ ws.drop (i + 1)).map D.str)) := by rw [e15]; simp
        have jj : Jw (" " : Str).length (ws.take i ++ [b] ++ ws.drop (i + 1)) ≤ m + 30 := by
          rw [lsp, jw_app, jw_app, jw_one]
          have := tb.l
          omega
        refine join_any jj (by omega) e15 (q _ _ ((tx_join (n := m + 20) (fun p hp => ?_) (by decide) jj).mono (by omega)) ((pn10.gw (g11.trans (g12.trans (g13.trans (g14.trans g15))))).mono (by omega)) (G10.trans (g11.trans (g12.trans (g13.trans (g14.trans g15)))).gx))
        rcases List.mem_append.mp hp with hp | hp
        · rcases List.mem_append.mp hp with hp | hp
          · exact (wt p (List.mem_of_mem_take hp)).mono (by omega)
          · rw [List.mem_singleton.mp hp]; exact tb.mono (by omega)
        · exact (wt p (List.mem_of_mem_drop hp)).mono (by omega)
    · rw [if_neg c3]
      rw [wpB_cons]
      simp [-al_eq, -ixD_ref_int]
      by_cases c4 : kd = 4
      · rw [if_pos c4]
        refine ⟨_, e10, al_rule fun q6 h11 hq6 g11 e11 => ⟨_, g11 _ _ e10, al_rule fun q9 h14 hq9 g14 e14 => ⟨_, _, g14 _ _ e11, e14, fits_le ?_, al_rule fun q10 h15 hq10 g15 e15 => ?_⟩⟩⟩
        · rw [show ((i : Int) + 1) = ((i + 1 : Nat) : Int) by omega, cut_from, cut_to]
          simp only [List.length_append, List.length_drop, List.length_take, List.length_map, List.length_cons, List.length_nil]; omega
        · rw [cut_to, show ((i : Int) + 1) = ((i + 1 : Nat) : Int) by omega, cut_from, ← List.map_take, ← List.map_drop] at e15
          have e15 : h15 q10 = some (.lst ((ws.take i ++ ws.drop (i + 1)).map D.str)) := by rw [e15]; simp
          have jj : Jw (" " : Str).length (ws.take i ++ ws.drop (i + 1)) ≤ m + 30 := by
            rw [lsp, jw_app]
            omega
          refine join_any jj (by omega) e15 (q _ _ ((tx_join (n := m + 20) (fun p hp => ?_) (by decide) jj).mono (by omega)) ((pn10.gw (g11.trans (g14.trans g15))).mono (by omega)) (G10.trans (g11.trans (g14.trans g15)).gx))
          rcases List.mem_append.mp hp with hp | hp
          · exact (wt p (List.mem_of_mem_take hp)).mono (by omega)
          · exact (wt p (List.mem_of_mem_drop hp)).mono (by omega)
      · rw [if_neg c4]
        rw [wpB_cons]
        simp [-al_eq, -ixD_ref_int]
        rw [met_sp]
        refine ⟨⟨by decide, fits_le (by omega)⟩, al_rule fun q6 h11 hq6 g11 e11 => ?_⟩
        have pn11 := pn10.gw g11
        have G11 := G10.trans g11.gx
        have n6 : q6 ≠ p := (pn10.nep hq6).symm
        obtain ⟨rt, rn⟩ := tx_split t sc_ne sc_k
        have rne := split_ne (z := z) sc_ne sc_k
        have rj := split_len (z := z) sc_ne sc_k
        generalize Txt.split z "; " = rs at e11 rt rn rne rj
        have r0 : 0 < rs.length := List.length_pos_iff.mpr rne
        rw [wpB_cons]
        simp [-al_eq, -ixD_ref_int]
        refine ⟨_, e11, draw_ok (d := d + 1) pn11 (by simp; omega) (by simp; omega) (by omega) fun ra h12 ra0 ra1 pn12 g12 => ?_⟩
        have e12 := g12.1 _ _ n6 e11
        have G12 := G11.trans g12
        obtain ⟨j, rfl⟩ := Int.eq_ofNat_of_zero_le ra0
        simp only [List.length_map] at ra1
        try simp [-al_eq, -ixD_ref_int]
        rw [wpB_cons]
        simp [-al_eq, -ixD_ref_int]
        obtain ⟨k, ek, k1, k2⟩ : ∃ k : Nat, kd - 4 = k ∧ 1 ≤ k ∧ k ≤ 2 := ⟨(kd - 4).toNat, by omega, by omega, by omega⟩
        rw [ek]
        have jl : j < rs.length := by omega
        have er : rs[j]? = some rs[j] := List.getElem?_eq_getElem jl
        have mr : rs[j] ∈ rs := List.getElem_mem jl
        have dr : rs.drop j = rs[j] :: rs.drop (j + 1) := List.drop_eq_getElem_cons jl
        generalize rs[j] = r at er mr dr
        have ea : atI (rs.map D.str) (j : Int) = some (.str r) := by rw [DL.atI_nat, List.getElem?_map, er]; rfl
        have lsc : ("; " : Str).length = 2 := by decide
        rw [lsc] at rj
        have rc := jw_cut 2 j rs
        have rm := jw_mem (k := 2) mr
        have kj : (j : Int) + (k : Int) - 1 = ((j + k - 1 : Nat) : Int) := by omega
        have fl : (List.replicate k [D.str r]).flatten = (List.replicate k r).map D.str := by
          have : k = 1 ∨ k = 2 := by omega
          rcases this with rfl | rfl <;> rfl
        refine ⟨_, e12, al_rule fun q7 h13 hq7 g13 e13 => ixD_lst (g13 _ _ e12) ea ⟨fits_le (by decide), al_rule fun q8 h14 hq8 g14 e14 => ⟨_, e14, by omega, fits_le ?_, al_rule fun q9 h15 hq9 g15 e15 => ⟨_, _, g15 _ _ (g14 _ _ e13), e15, fits_le ?_, al_rule fun q10 h16 hq10 g16 e16 =>
          ⟨_, g16 _ _ (g15 _ _ (g14 _ _ (g13 _ _ e12))), al_rule fun q11 h17 hq11 g17 e17 => ⟨_, _, g17 _ _ e16, e17, fits_le ?_, al_rule fun q12 h18 hq12 g18 e18 => ?_⟩⟩⟩⟩⟩⟩
        · rw [Int.toNat_natCast]
          simp only [List.length_cons, List.length_nil]; omega
        · rw [cut_to, Int.toNat_natCast, fl]
          simp only [List.length_append, List.length_drop, List.length_take, List.length_map, List.length_replicate, List.length_cons, List.length_nil]; omega
        · rw [kj, cut_to, cut_from, Int.toNat_natCast, fl]
          simp only [List.length_append, List.length_drop, List.length_take, List.length_map, List.length_replicate, List.length_cons, List.length_nil]; omega
        · rw [kj, cut_to, cut_from, Int.toNat_natCast, fl, ← List.map_take, ← List.map_drop] at e18
          have e18 : h18 q12 = some (.lst ((rs.take j ++ List.replicate k r ++ rs.drop (j + k - 1)).map D.str)) := by rw [e18]; simp
          have jj : Jw ("; " : Str).length (rs.take j ++ List.replicate k r ++ rs.drop (j + k - 1)) ≤ 2 * m + 30 := by
            rw [lsc, jw_app, jw_app]
            have dj : Jw 2 (rs.drop j) = r.length + 2 + Jw 2 (rs.drop (j + 1)) := by rw [dr]; simp [Jw]
            have : k = 1 ∨ k = 2 := by omega
            rcases this with rfl | rfl
            · have e1 : Jw 2 (List.replicate 1 r) = r.length + 2 := by simp [Jw]
              rw [e1, show j + 1 - 1 = j by omega]
              omega
            · have e1 : Jw 2 (List.replicate 2 r) = r.length + 2 + (r.length + 2) := by simp [Jw, List.replicate]
              rw [e1, show j + 2 - 1 = j + 1 by omega]
              omega
          have gg := g13.trans (g14.trans (g15.trans (g16.trans (g17.trans g18))))
          refine join_any jj (by omega) e18 (q _ _ (tx_join (n := m) (fun p hp => ?_) (by decide) jj) ((pn12.gw gg).mono (by omega)) (G12.trans gg.gx))
          rcases List.mem_append.mp hp with hp | hp
          · rcases List.mem_append.mp hp with hp | hp
            · exact rt p (List.mem_of_mem_take hp)
            · rw [List.eq_of_mem_replicate hp]; exact rt r mr
          · exact rt p (List.mem_of_mem_drop hp)
end
end LW
set_option Elab.async false
set_option linter.all false
set_option maxRecDepth 100000
set_option maxHeartbeats 1000000
set_option exponentiation.threshold 20000
namespace LW
open PySem L2 DL TL
/-! ### what is shown -/
theorem isStp_sh {w : Str} {ps : List D} (e : isStp w ps = true) : w.length ≤ 4 ∧ ps.length ≤ 3 ∧ ∀ x ∈ ps, (∃ i, x = .int i ∧ i.natAbs ≤ 1000000000000000000) ∨ ∃ z, x = .str z ∧ z.length ≤ 8 := by
  have wh : ∀ {lo hi : Int} {x : D}, -9 ≤ lo → hi ≤ 1000000000000000000 → isWh lo hi x = true → ∃ i, x = .int i ∧ i.natAbs ≤ 1000000000000000000 := fun {lo hi x} h1 h2 e => by
    cases x <;> simp [isWh] at e
    exact ⟨_, rfl, by omega⟩
  have sp : ∀ {a b : D}, spl2 a b = true → (∃ i, a = .int i ∧ i.natAbs ≤ 1000000000000000000) ∧ ∃ i, b = .int i ∧ i.natAbs ≤ 1000000000000000000 := fun {a b} e => by
    unfold spl2 at e
    simp only [Bool.and_eq_true] at e
    exact ⟨wh (by decide) (by decide) e.1, wh (by decide) (by decide) e.2.1⟩
  unfold isStp at e
  split at e
  · rename_i c
    obtain ⟨rfl, hl⟩ := c
    match ps, hl with
    | [a, b, c], _ =>
      simp only [Bool.and_eq_true] at e
      have s := sp (a := a) (b := b) e.1
      have m := wh (x := c) (by decide) (by decide) e.2
      refine ⟨by decide, by simp, fun x hx => .inl ?_⟩
      simp at hx
      rcases hx with rfl | rfl | rfl
      · exact s.1
      · exact s.2
      · exact m
  · split at e
    · rename_i c
      obtain ⟨rfl, hl⟩ := c
      match ps, hl with
      | [a], _ =>
        have m := wh (x := a) (by decide) (by decide) e
        refine ⟨by decide, by simp, fun x hx => .inl ?_⟩
        simp at hx
        exact hx ▸ m
    · split at e
      · rename_i c
        obtain ⟨rfl, hl⟩ := c
        match ps, hl with
        | [a, b], _ =>
          have s := sp (a := a) (b := b) e
          refine ⟨by decide, by simp, fun x hx => .inl ?_⟩
          simp at hx
          rcases hx with rfl | rfl
          · exact s.1
          · exact s.2
      · split at e
        · rename_i c
          obtain ⟨rfl, hl⟩ := c
          match ps, hl with
          | [a, b], _ =>
            simp only [Bool.and_eq_true] at e
            have m := wh (x := b) (by decide) (by decide) e.2
            refine ⟨by decide, by simp, fun x hx => ?_⟩
            simp at hx
            rcases hx with rfl | rfl
            · have e := e.1
              simp only [List.getD_cons_zero] at e
              cases x <;> simp [isWd] at e
              exact .inr ⟨_, rfl, e.2.1⟩
            · exact .inl m
        · cases e
section
variable {h : MH}
theorem gd_step {w : Str} {ps : List D} (e : isStp w ps = true) (hw : PyData.strOk w = true) (hp : ∀ z, .str z ∈ ps → PyData.strOk z = true) : Gd h 1 36 (.tup (.str w :: ps)) := by
  obtain ⟨h1, h2, h3⟩ := isStp_sh e
  refine gd_tup (m := 4) (w := 8) (fun x hx => ?_) (by rw [List.length_cons]; omega) (by decide)
  rcases List.mem_cons.mp hx with rfl | hx
  · exact gd_str (by omega) (by decide) hw
  · rcases h3 x hx with ⟨i, rfl, hi⟩ | ⟨z, rfl, hz⟩
    · exact (gd_int (by omega)).mono (by decide) (by decide)
    · exact gd_str hz (by decide) (hp z hx)
theorem gd_stepT {z : Str} {n : Nat} (t : Tx n z) (e : isT z = true) : Gd h 1 36 (stepT z) := by
  obtain ⟨_, _, h3, h4⟩ := prts_len t
  refine gd_step e h3.ok fun y hy => ?_
  rcases h4 _ hy with h | ⟨i, h⟩ | ⟨p, h, tp⟩
  · cases h
  · cases h
  · cases h; exact tp.ok
theorem gd_spD {x : D} (s : SpD x) : Gd h 1 36 x := by
  obtain ⟨w, ps, rfl, s⟩ := s
  have ok : ∀ x ∈ (.str w :: ps : List D), ∀ z, x = .str z → PyData.strOk z = true := fun x hx z e => by
    have l := s.all x hx
    subst e
    exact Tx.ok (n := 20) ⟨l.l, fun c hc => (l.o c hc).2.2⟩
  exact gd_step s.ok (ok _ (by simp) w rfl) fun z hz => ok _ (List.mem_cons_of_mem _ hz) z rfl
theorem gd_word {z : Str} (hz : z.length ≤ 8) (ok : PyData.strOk z = true) {w : Nat} (hw : 8 ≤ w) : Gd h 0 w (.str z) := (gd_str (h := h) hz (by decide) ok).mono (by decide) hw
theorem gd_round {xs : List D} (H : ∀ x ∈ xs, Gd h 1 36 x) (hl : xs.length ≤ 24) : Gd h 3 50000 (.tup [.str "round", .tup xs]) := by
  refine (gd_tup (k := 2) (w := 888) (m := 2) (fun x hx => ?_) (by simp) (by decide)).mono (by decide) (by decide)
  simp at hx
  rcases hx with rfl | rfl
  · exact (gd_word (by decide) (by decide +kernel) (Nat.le_refl _)).mono (by decide) (by decide)
  · exact (gd_tup (k := 1) (w := 36) (m := 24) H hl (by decide)).mono (by decide) (by decide)
theorem gd_text {x : D} {k w : Nat} (g : Gd h k w x) (hk : k ≤ 3) (hw : w ≤ 15000) : Gd h 4 50000 (.tup [.str "text", x, .bl true]) := by
  refine (gd_tup (k := 3) (w := 15000) (m := 3) (fun x hx => ?_) (by simp) (by decide)).mono (by decide) (by decide)
  simp at hx
  rcases hx with rfl | rfl | rfl
  · exact (gd_word (by decide) (by decide +kernel) (Nat.le_refl _)).mono (by decide) (by decide)
  · exact g.mono hk hw
  · exact gd_bl.mono (by decide) (by decide)
theorem rnd_all {z : Str} {zs : List Str} (t : Tx 15000 z) (e : rndOf z = some zs) : zs.length ≤ 24 ∧ ∀ y ∈ zs, Tx 15000 y ∧ isT y = true := by
  unfold rndOf at e
  split at e
  · cases e; exact ⟨by decide, fun _ hy => nomatch hy⟩
  · split at e
    · rename_i c
      cases e
      simp only [Bool.and_eq_true] at c
      exact ⟨of_decide_eq_true c.1, fun y hy => ⟨(tx_split t sc_ne sc_k).1 y hy, List.all_eq_true.mp c.2 y hy⟩⟩
    · cases e
theorem gd_read {z : Str} (t : Tx 15000 z) : Gd h 4 50000 (readD (.str z)) := by
  simp only [readD]
  cases e : rndOf z with
  | none => exact gd_text (k := 0) (w := 15000) (gd_str t.l (by decide) t.ok) (by decide) (by decide)
  | some zs =>
    obtain ⟨hl, H⟩ := rnd_all t e
    refine (gd_round (fun x hx => ?_) (by rw [List.length_map]; exact hl)).mono (by decide) (by decide)
    obtain ⟨y, hy, rfl⟩ := List.mem_map.mp hx
    exact gd_stepT (H y hy).1 (H y hy).2
theorem Gd.fits {k w : Nat} {x : D} (hw : w ≤ 127300) (hk : k ≤ 60) : Gd h k w x → ∃ t, Den h x t ∧ t.showable = true ∧ Fits t.shown.length ∧ t.depth ≤ 60
  | ⟨_, t, e, o1, o2, o3, o4⟩ => ⟨t, e, o1, fits_le (by
      have := PyData.shown_le_bulk 80 (by decide) t o2
      omega), by omega⟩
theorem bi_repr {x : D} {Q : D → MH → Prop} {t : PyData} (e : Den h x t) (s : t.showable = true) (f : Fits t.shown.length) (dp : t.depth ≤ 60) (q : Q (.str t.shown) h) : bi .repr [x] h Q := ⟨t, e, s, f, dp, q⟩
/-- two reprs of the same thing -/
theorem repr_two {x : D} {k w : Nat} (hw : w ≤ 127300) (hk : k ≤ 60) (g : Gd h k w x) (K : D → D → MH → Prop) (q : ∀ s : Str, K (.str s) (.str s) h) : bi .repr [x] h fun a h1 => bi .repr [x] h1 fun b h2 => K a b h2 := by
  obtain ⟨t, e, s, f, dp⟩ := Gd.fits hw hk g
  exact bi_repr e s f dp (bi_repr e s f dp (q _))
end
theorem is_no {ds : List D} {P : Bool → Prop} (p : P false) : isOp (.tup ds) .non P := p
section
variable {d : Nat} {h : MH} {Q : D → MH → Prop} {E : DX} {p c : Addr} {n : Nat}
def inner : List Sm := match f_law.body with
  | _ :: .for _ _ b :: _ => match b with
    | [_, _, _, _, _, .for _ _ b', _, _] => b'
    | _ => []
  | _ => []
theorem inner_ok {Dn : En} {x0 x2 x3 x4 x5 x6 x7 x8 x10 x11 x12 x13 : Option D} {z : Str} (pn : Pen h p c n) (hn : n + 4000 < 2 ^ 60) (t : Tx 2064 z)
    (q : ∀ (y11 y12 : Option D) h', Pen h' p c (n + 30) → Gx p h h' → Dn.nx [x0, some (.ref p), x2, x3, x4, x5, x6, x7, x8, some (.str z), x10, y11, y12, x13] h') :
    wpB (Ph prog (d + 6)) inner Dn [x0, some (.ref p), x2, x3, x4, x5, x6, x7, x8, some (.str z), x10, x11, x12, x13] h := by
  show wpB _ [_, _, _, _, _] _ _ _
  rw [wpB_cons]
  simp [-al_eq, -ixD_ref_int]
  refine bent_ok (d := d + 3) pn (by omega) t (by decide) fun y h1 ty pn1 g1 => ?_
  try simp [-al_eq, -ixD_ref_int]
  refine wpB_seq (fun σ h2 => ∃ y2, σ = [x0, some (.ref p), x2, x3, x4, x5, x6, x7, x8, some (.str z), x10, some (.str y2), x12, x13] ∧ Tx 15000 y2 ∧ Pen h2 p c (n + 21) ∧ Gx p h h2) (fun K hK => ?_) fun σ h2 ⟨y2, es, t2, pn2, g2⟩ => ?_
  · simp [-al_eq, -ixD_ref_int]
    refine draw_ok (d := d + 5) pn1 (by decide) (by decide) (by omega) fun v h2 v0 v3 pn2 g2 => ?_
    try simp [-al_eq, -ixD_ref_int]
    by_cases cv : 0 < v
    · rw [if_pos cv]
      exact hK _ _ ⟨y, rfl, ty.mono (by decide), pn2.mono (by omega), g1.trans g2⟩
    · rw [if_neg cv]
      exact bent_ok (d := d + 3) pn2 (by omega) ty (by decide) fun y3 h3 t3 pn3 g3 => hK _ _ ⟨y3, rfl, t3.mono (by decide), pn3.mono (by omega), (g1.trans g2).trans g3⟩
  · subst es
    rw [wpB_cons]
    simp [-al_eq, -ixD_ref_int]
    refine law_round_ok (d := d + 3) t2 fun h3 g3 => ?_
    try simp [-al_eq, -ixD_ref_int]
    refine wpB_seq (fun σ h4 => σ = [x0, some (.ref p), x2, x3, x4, x5, x6, x7, x8, some (.str z), x10, some (.str y2), some (readD (.str y2)), x13] ∧ h4 = h3) (fun K hK => ?_) fun σ h4 ⟨es, e4⟩ => ?_
    · have k0 := hK _ _ ⟨rfl, rfl⟩
      simp only [readD] at k0
      unfold dueT
      cases er : rndOf y2 with
      | none =>
        rw [er] at k0
        simp [-al_eq, -ixD_ref_int]
        exact ⟨fits_le (by decide), k0⟩
      | some zs =>
        rw [er] at k0
        simp [-al_eq, -ixD_ref_int]
        exact is_no ⟨fits_le (by decide), k0⟩
    · subst es e4
      rw [wpB_cons]
      simp [-al_eq, -ixD_ref_int]
      refine read_of_str (d := d) t2 fun h5 g5 => ?_
      refine repr_two (k := 4) (w := 50000) (by decide) (by decide) (gd_read t2) _ fun s => ?_
      simp [-al_eq, -ixD_ref_int]
      exact q _ _ _ ((pn2.gw (g3.trans g5)).mono (by omega)) (g2.trans (g3.trans g5).gx)
def outer : List Sm := match f_law.body with
  | _ :: .for _ _ b :: _ => b
  | _ => []
theorem outer_ok {Dn : En} {x0 x2 x3 x4 x5 x6 x7 x8 x9 x10 x11 x12 x13 : Option D} (pn : Pen h p c n) (hn : n + 9000 < 2 ^ 60)
    (q : ∀ (y3 y4 y5 y6 y7 y8 y9 y10 y11 y12 y13 : Option D) h', Pen h' p c (n + 1000) → Gx p h h' → Dn.nx [x0, some (.ref p), x2, y3, y4, y5, y6, y7, y8, y9, y10, y11, y12, y13] h') :
    wpB (Ph prog (d + 6)) outer Dn [x0, some (.ref p), x2, x3, x4, x5, x6, x7, x8, x9, x10, x11, x12, x13] h := by
  show wpB _ [_, _, _, _, _, .for _ _ inner, _, _] _ _ _
  rw [wpB_cons]
  simp [-al_eq, -ixD_ref_int]
  refine draw_ok (d := d + 5) pn (by decide) (by decide) (by omega) fun a h1 a0 a5 pn1 g1 => ?_
  try simp [-al_eq, -ixD_ref_int]
  refine draw_ok (d := d + 5) pn1 (by decide) (by decide) (by omega) fun b h2 b0 b5 pn2 g2 => ?_
  try simp [-al_eq, -ixD_ref_int]
  refine ⟨fits_le (by decide), al_rule fun q1 h3 hq1 g3 e3 => ?_⟩
  refine pick_ok (d := d + 4) (pn2.gw g3) (by omega) e3 (by simp) (by simp) fun mv h4 hm pn4 g4 => ?_
  have G4 := ((g1.trans g2).trans g3.gx).trans g4
  obtain ⟨k, rfl, hk⟩ : ∃ k : Nat, mv = .int k ∧ k ≤ 24 := by
    simp at hm
    rcases hm with rfl | rfl | rfl
    · exact ⟨a.toNat, by rw [Int.toNat_of_nonneg a0], by omega⟩
    · exact ⟨b.toNat, by rw [Int.toNat_of_nonneg b0], by omega⟩
    · exact ⟨24, rfl, by decide⟩
  clear g1 g2 g3 g4 e3 hm
  try simp [-al_eq, -ixD_ref_int]
  rw [wpB_cons]
  simp [-al_eq, -ixD_ref_int]
  refine ⟨by omega, ?_⟩
  refine lc_rule (fun r acc h' => acc.length + r.length = k ∧ (∀ x ∈ acc, SpD x) ∧ Pen h' p c (n + 3 + 30 * acc.length) ∧ Gx p h h') (fun _ _ _ _ => trivial) (fun acc h' ⟨el, H, pn, g⟩ => ?_) (fun dd r acc h' N ⟨el, H, pn, g⟩ hN => ?_) _ _ _ ⟨by simp, (fun _ hx => nomatch hx), pn4, G4⟩
  · simp
    rw [List.length_cons] at el
    refine one_ok (d := d + 3) pn (by omega) fun x h5 sx pn5 g5 => ⟨by rw [sizeLine_eq]; omega, hN _ _ ⟨by rw [List.length_append]; simp; omega, fun y hy => ?_, pn5.mono (by rw [List.length_append]; simp; omega), g.trans g5⟩⟩
    rcases List.mem_append.mp hy with hy | hy
    · exact H y hy
    · rw [List.mem_singleton.mp hy]; exact sx
  · rw [List.length_nil] at el
    have xl : acc.length ≤ 24 := by omega
    refine al_rule fun q2 h5 hq2 g5 e5 => ⟨_, e5, ?_⟩
    have pn5 := (pn.gw g5).mono (m := n + 800) (by omega)
    have G5 := g.trans g5.gx
    clear pn g pn4 G4 el e5 g5 pn1 pn2
    try simp [-al_eq, -ixD_ref_int]
    rw [wpB_cons]
    simp [-al_eq, -ixD_ref_int]
    refine lc_rule (fun r acc1 h' => ∃ done, acc = done ++ r ∧ acc1 = (done.map tD).map D.str ∧ Gw h5 h') (fun _ _ _ _ => trivial) (fun acc1 h6 ⟨done, e1, e2, g⟩ => ?_) (fun dd r acc1 h' N ⟨done, e1, e2, g⟩ hN => ?_) _ _ _ ⟨[], rfl, rfl, .refl⟩
    · subst e2
      obtain ⟨w, ps, rfl, s⟩ := H dd (by rw [e1]; simp)
      have dl : done.length < 24 := by rw [e1] at xl; simp at xl; omega
      simp [-al_eq, -ixD_ref_int]
      refine strs_lc s.all (by have := s.l; simp; omega) (by simp) trivial (al_rule fun q3 h6 hq3 g6 e6 => ?_)
      refine join_leaves s.all (by have := s.l; simp; omega) e6 ⟨by rw [sizeLine_eq]; omega, ?_⟩
      have := hN _ _ ⟨done ++ [_], by rw [e1, List.append_assoc]; rfl, rfl, g.trans g6⟩
      simpa using this
    · rw [List.append_nil] at e1
      subst e1 e2
      refine al_rule fun q3 h7 hq3 g7 e7 => ?_
      have pn7 := pn5.gw (g.trans g7)
      have G7 := G5.trans (g.trans g7).gx
      clear g g7 pn5 G5
      refine wpB_seq (fun σ h8 => ∃ y7 y8, σ = [x0, some (.ref p), x2, some (.int k), some (.tup acc), x5, some (.ref q3), y7, y8, some (.str (rT acc)), x10, x11, x12, x13] ∧ Gw h7 h8) (fun K hK => ?_) fun σ h8 ⟨y7, y8, es, g8⟩ => ?_
      · simp [-al_eq, -ixD_ref_int]
        refine ⟨fits_le (by decide), al_rule fun q4 h8 hq4 g8 e8 => eqD_lsts (g8 _ _ e7) e8 (.inr rfl) ?_⟩
        by_cases ne : acc = []
        · have er : rT acc = "none" := if_pos ne
          rw [if_pos (by rw [ne]; decide)]
          exact hK _ _ ⟨_, _, by rw [er], g8⟩
        · have er : rT acc = Txt.join "; " (acc.map tD) := if_neg ne
          rw [if_neg (by simpa using ne)]
          exact join_rows H xl (g8 _ _ e7) (hK _ _ ⟨_, _, by rw [er], g8⟩)
      · subst es
        have pn8 := pn7.gw g8
        have G8 := G7.trans g8.gx
        have tx := rt_tx H xl
        rw [wpB_cons]
        simp [-al_eq, -ixD_ref_int]
        refine show_round_ok (d := d + 4) H xl fun h9 g9 => ?_
        show eqD _ _ _ _
        rw [eqD_str, if_pos (by simp)]
        refine read_of_str (d := d) (tx.mono (by decide)) fun h10 g10 => ?_
        rw [rt_read H xl]
        have gst : ∀ {h : MH}, ∀ x ∈ acc, Gd h 1 36 x := fun x hx => gd_spD (H x hx)
        obtain ⟨t1, e1, s1, f1, dp1⟩ := Gd.fits (h := h10) (by decide) (by decide) (gd_round gst xl)
        refine bi_repr e1 s1 f1 dp1 ⟨fits_le (by decide), bi_repr e1 s1 f1 dp1 ?_⟩
        rw [eqD_str, if_pos (by simp)]
        have pn10 := pn8.gw (g9.trans g10)
        have G10 := G8.trans (g9.trans g10).gx
        clear g9 g10 pn8 G8 e1 s1 f1 dp1 pn7 G7 g8
        rw [wpB_cons]
        simp [-al_eq, -ixD_ref_int]
        refine for_rule (fun r σ h' => ∃ (j : Nat) (y10 y11 y12 : Option D), r.length + j = 6 ∧ σ = [x0, some (.ref p), x2, some (.int k), some (.tup acc), x5, some (.ref q3), y7, y8, some (.str (rT acc)), y10, y11, y12, x13] ∧ Pen h' p c (n + 800 + 30 * j) ∧ Gx p h h')
          (fun _ _ _ _ => trivial) (fun σ h' ⟨j, y10, y11, y12, l1, es, pn, g⟩ => ?_) (fun dd r σ h' K ⟨j, y10, y11, y12, l1, es, pn, g⟩ hK => ?_) _ _ _ ⟨0, _, _, _, rfl, rfl, pn10, G10⟩
        · subst es
          rw [List.length_nil] at l1
          show wpB _ [_, _] _ _ _
          rw [wpB_cons]
          simp [-al_eq, -ixD_ref_int]
          refine ⟨fits_le (by decide), al_rule fun r1 h1 hr1 g1 e1 => al_rule fun r2 h2 hr2 g2 e2 => ⟨fits_le (by decide), al_rule fun r3 h3 hr3 g3 e3 => ⟨fits_le (by decide), fits_le (by decide), al_rule fun r4 h4 hr4 g4 e4 => ?_⟩⟩⟩
          have gg := g1.trans (g2.trans (g3.trans g4))
          have pn4 := pn.gw gg
          have gz : Gd h4 0 2064 (.str (rT acc)) := gd_str tx.l (by decide) tx.ok
          have P : ∀ v ∈ [D.non, D.int 0, D.bl true, D.tup [], .ref r1, .ref r2, .ref r3, D.tup [D.str (rT acc)], D.tup acc], Gd h4 3 2200 v ∧ ∀ z, v ≠ .str z := fun v hv => by
            simp at hv
            rcases hv with rfl | rfl | rfl | rfl | rfl | rfl | rfl | rfl | rfl
            · exact ⟨gd_non.mono (by decide) (by decide), fun z e => nomatch e⟩
            · exact ⟨(gd_int (by decide)).mono (by decide) (by decide), fun z e => nomatch e⟩
            · exact ⟨gd_bl.mono (by decide) (by decide), fun z e => nomatch e⟩
            · exact ⟨(gd_tup (k := 0) (w := 0) (m := 0) (fun _ hx => absurd hx (by simp)) (by decide) (by decide)).mono (by decide) (by decide), fun z e => nomatch e⟩
            · exact ⟨(gd_lst (k := 0) (w := 0) (m := 0) (g4 _ _ (g3 _ _ (g2 _ _ e1))) (fun _ hx => absurd hx (by simp)) (by decide)).mono (by decide) (by decide), fun z e => nomatch e⟩
            · exact ⟨(gd_dct (g4 _ _ (g3 _ _ e2))).mono (by decide) (by decide), fun z e => nomatch e⟩
            · exact ⟨(gd_lst (k := 0) (w := 2064) (m := 1) (g4 _ _ e3) (fun x hx => by rw [List.mem_singleton.mp hx]; exact gz) (by simp)).mono (by decide) (by decide), fun z e => nomatch e⟩
            · exact ⟨(gd_tup (k := 0) (w := 2064) (m := 1) (fun x hx => by rw [List.mem_singleton.mp hx]; exact gz) (by simp) (by decide)).mono (by decide) (by decide), fun z e => nomatch e⟩
            · exact ⟨(gd_tup (k := 1) (w := 36) (m := 24) gst xl (by decide)).mono (by decide) (by decide), fun z e => nomatch e⟩
          refine pick_ok (d := d + 4) pn4 (by omega) e4 (by simp) (by simp) fun v h5 hv pn5 g5 => ?_
          obtain ⟨gv, nstr⟩ := P v hv
          have gv5 := Gd.gx pn4 g5 gv
          refine read_of_else (d := d) gv5.1.kd nstr ?_
          obtain ⟨t1, e1, s1, f1, dp1⟩ := Gd.fits (by decide) (by decide) (gd_text gv5 (by decide) (by decide))
          refine bi_repr e1 s1 f1 dp1 ⟨fits_le (by decide), bi_repr e1 s1 f1 dp1 ?_⟩
          rw [eqD_str, if_pos (by simp)]
          exact q _ _ _ _ _ _ _ _ _ _ _ _ (pn5.mono (by omega)) ((g.trans gg.gx).trans g5)
        · subst es
          rw [List.length_cons] at l1
          simp only [bindT_nm, List.set]
          exact inner_ok (d := d) pn (by omega) tx fun y11 y12 h11 pn11 g11 => hK _ _ ⟨j + 1, _, _, _, by omega, rfl, pn11.mono (by omega), g.trans g11⟩
theorem law_ok {ns : List Int} (q : ∀ h', Q (.bl true) h') : Ph prog (d + 7) 21 [.scr (ns.map D.int)] h Q E := by
  refine ph_of at_law rfl ?_
  show wpB _ [_, .for _ _ outer, _] _ _ _
  rw [wpB_cons]
  simp [-al_eq, -ixD_ref_int]
  refine pen_ok (d := d + 5) fun p c h1 pn1 g1 => ?_
  try simp [-al_eq, -ixD_ref_int]
  rw [wpB_cons]
  simp [-al_eq, -ixD_ref_int]
  refine ⟨by split <;> omega, ?_⟩
  have hm : (4 + if (ns.length : Int) < 8 then (ns.length : Int) else 8).toNat ≤ 12 := by split <;> omega
  generalize (4 + if (ns.length : Int) < 8 then (ns.length : Int) else 8).toNat = m at hm
  refine for_rule (fun r σ h' => ∃ (j : Nat) (x2 x3 x4 x5 x6 x7 x8 x9 x10 x11 x12 x13 : Option D), r.length + j ≤ 12 ∧ σ = [some (.scr (ns.map D.int)), some (.ref p), x2, x3, x4, x5, x6, x7, x8, x9, x10, x11, x12, x13] ∧ Pen h' p c (1000 * j))
    (fun _ _ _ _ => trivial) (fun σ h' ⟨j, x2, x3, x4, x5, x6, x7, x8, x9, x10, x11, x12, x13, l1, es, pn⟩ => ?_) (fun dd r σ h' K ⟨j, x2, x3, x4, x5, x6, x7, x8, x9, x10, x11, x12, x13, l1, es, pn⟩ hK => ?_) _ _ _ ⟨0, none, none, none, none, none, none, none, none, none, none, none, none, by simpa using hm, rfl, pn1⟩
  · exact q h'
  · subst es
    rw [List.length_cons] at l1
    simp only [bindT_nm, List.set]
    exact outer_ok (d := d) pn (by omega) fun y3 y4 y5 y6 y7 y8 y9 y10 y11 y12 y13 h2 pn2 g2 => hK _ _ ⟨j + 1, _, _, _, _, _, _, _, _, _, _, _, _, by omega, rfl, pn2.mono (by omega)⟩
end
end LW
set_option Elab.async false
set_option linter.all false
set_option maxRecDepth 100000
set_option maxHeartbeats 0
open PySem PySem.W PySem.Calls PyProof.Rows
theorem PySem.Challenge.cw_spoolrounds_k89_rounds_as_texts_holds : PySem.Challenge.rw_spoolrounds_k89_rounds_as_texts.Holds := by
  w_on; o_law
  refine HandSHeadRun.head_any (r := LW.R) (q := view LW.R.prog [43]) (H := LW.hk) (ob := LW.ob) (M := 4000) (loose := LW.nm) (d := HandSHeadRun.topDef LW.R.prog 43) (kwd := []) (fun s => DL.obX_eq s)
    (by kernel_rfl) (fun s => by kernel_rfl) LW.run (by kernel_rfl) (by kernel_rfl) (by kernel_rfl) (by rfl) (by first | assumption | decide +kernel) (by decide +kernel) ⟨rfl, rfl, rfl, rfl, rfl, by decide +kernel⟩ ?hw ?hc
  case hw => w_witness2
  case hc =>
    refine DL.walk_ofD (l := PySem.Challenge.rw_spoolrounds_k89_rounds_as_texts) (n := 63) (k := 12) (i := 21) (c := LW.ctx) (rows := LW.rows) (prog := LW.prog) (r := LW.r_law) (dvs := LW.d_law.dvs) (kws := LW.d_law.kws) rfl (by decide) (by kernel_rfl) ⟨rfl, by decide, by decide⟩ LW.checked rfl rfl (DL.grOf LW.xds) (fun _ => rfl) ?F (fun ns _ => LW.law_ok (d := 5) fun _ => rfl)
    intro K mg h X Gd says xk
    have e : (HandSHeadRun.topDef LW.R.prog 43).name = ("law" : PySem.Str) := by kernel_rfl
    rw [e]
    exact LW.facts K mg h X Gd says xk
