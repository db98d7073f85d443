import PyProof.Rows.All
import Wide.All
import OpenK.AllK
import Wide.FinOn
import HandS.ForMost
import HandS.ForExc
import HandS.Defaults
import HandS.Flow
import HandS.Style
import HandS.Zip
import HandS.Rev
import HandS.IsInst
import HandS.TupAny
import HandS.TupMul
import HandS.Wide
import HandS.ExcInit
import HandS.ExcField
import HandS.Conv
import HandS.Small
import HandS.Codes
import KE.SortData
import PyProof.ReprReads
import HandS.Deep
import HandS.RaiseMore
import KE.DataMinMax
import KE.KTupSum
import HandS.More
import KE.GoesMore
import KE.KExcInit
import KE.KUnpackStar
import HandS.ExcOwn
import KE.KExcIs
import HandS.Head0
import HandS.Head1
import HandS.Head2
import HandS.HeadEnd
import HandS.HeadHook1
import HandS.HeadHook2
import HandS.MakeKw
import KE.KStateDown
import Lean
import PySem.Challenge.RW_spoolrounds_k79_whole_two_spools_slide
import KE.KxText
import PyProof.ReprBulk
import KE.Datum
import HandS.Text
set_option Elab.async false
set_option linter.all false
set_option maxRecDepth 100000
/-! The D layer, 1: values without addresses for what never changes, a small heap for what changes; how both stand for the hand layer's. -/
namespace DL
open PySem PySem.Spec PyProof.Rows L2

inductive D where
  | non | bl (b : Bool) | int (i : Int) | str (x : Str) | tup (ds : List D) | ref (a : Addr) | scr (ds : List D)

/-- what stands at an address -/
inductive MO where
  | lst (xs : List D)
  | dct (kvs : List (Key × D))
  | ins (c : Nat) (fs : List (Str × D))

abbrev MH := Addr → Option MO
abbrev DS := List (Option D)

def up (h : MH) (a : Addr) (o : MO) : MH := fun b => if b = a then some o else h b
theorem up_same {h : MH} {a : Addr} {o : MO} : up h a o a = some o := if_pos rfl
theorem up_ne {h : MH} {a b : Addr} {o : MO} (n : b ≠ a) : up h a o b = h b := if_neg n
theorem up_up {h : MH} {a : Addr} {o u : MO} : up (up h a o) a u = up h a u := by
  funext b; unfold up; split <;> rfl

/-- the ground: the written part, the classes' places -/
structure Gr where
  K : PySem.W.Frag
  cl : Nat → Addr
  nc : Nat

/-- a list that nobody changes (the script) -/
def FzL (K : PySem.W.Frag) (H : Hp) (a : Addr) (xs : List V) : Prop :=
  (∃ ob, H a = some (.frz ob (.lst xs))) ∨
    ∃ (o : Obj) (its : Array Value) (n : Nat), K.lookup a = some o ∧ o.cls = .type "list" ∧ o.dict = none ∧ o.data = .seq its n ∧ its.size ≤ sizeLine ∧ Vals xs its.toList
theorem FzL.sq {K : PySem.W.Frag} {H : Hp} {a : Addr} {xs : List V} (q : FzL K H a xs) : SqL K H a xs := by
  rcases q with ⟨ob, q⟩ | q
  · exact .inl (.inr ⟨ob, q⟩)
  · exact .inr q
/-- what never changes is kept -/
structure Pst (K : PySem.W.Frag) (H H' : Hp) : Prop where
  t : ∀ a xs, SqT K H a xs → SqT K H' a xs
  l : ∀ a xs, FzL K H a xs → FzL K H' a xs

section
variable (K : PySem.W.Frag) (H : Hp)
mutual
def RepV : D → V → Prop
  | .non, v => v = .non
  | .bl b, v => v = .bl b
  | .int i, v => v = .int i
  | .str x, v => v = .str x
  | .ref a, v => v = .ref a
  | .tup ds, v => ∃ a vs, v = .ref a ∧ SqT K H a vs ∧ RepVs ds vs
  | .scr ds, v => ∃ a vs, v = .ref a ∧ FzL K H a vs ∧ RepVs ds vs
def RepVs : List D → List V → Prop
  | [], vs => vs = []
  | d :: ds, vs => ∃ v r, vs = v :: r ∧ RepV d v ∧ RepVs ds r
end
end

section
variable {K : PySem.W.Frag} {H H' : Hp}
theorem RepVs.length : ∀ {ds : List D} {vs : List V}, RepVs K H ds vs → vs.length = ds.length
  | [], vs, h => by
    have e : vs = [] := by simpa only [RepVs] using h
    rw [e]; rfl
  | d :: ds, vs, h => by
    obtain ⟨v, r, rfl, _, h2⟩ : ∃ v r, vs = v :: r ∧ RepV K H d v ∧ RepVs K H ds r := by simpa only [RepVs] using h
    rw [List.length_cons, List.length_cons, RepVs.length h2]
theorem repVs_nil : RepVs K H [] [] := by simp only [RepVs]
theorem repVs_cons {d : D} {ds : List D} {v : V} {vs : List V} (h1 : RepV K H d v) (h2 : RepVs K H ds vs) : RepVs K H (d :: ds) (v :: vs) := by
  simp only [RepVs]; exact ⟨v, vs, rfl, h1, h2⟩
theorem RepVs.cons_inv {d : D} {ds : List D} {vs : List V} (h : RepVs K H (d :: ds) vs) : ∃ v r, vs = v :: r ∧ RepV K H d v ∧ RepVs K H ds r := by simpa only [RepVs] using h
theorem RepVs.nil_inv {vs : List V} (h : RepVs K H [] vs) : vs = [] := by simpa only [RepVs] using h
theorem RepVs.get : ∀ {ds : List D} {vs : List V} {i : Nat} {d : D}, RepVs K H ds vs → ds[i]? = some d → ∃ v, vs[i]? = some v ∧ RepV K H d v
  | [], _, _, _, _, e => by simp at e
  | d :: ds, vs, 0, x, h, e => by
    obtain ⟨v, r, rfl, h1, _⟩ := h.cons_inv
    simp at e; subst e
    exact ⟨v, rfl, h1⟩
  | d :: ds, vs, i + 1, x, h, e => by
    obtain ⟨v, r, rfl, _, h2⟩ := h.cons_inv
    obtain ⟨u, a, b⟩ := RepVs.get (i := i) (d := x) h2 (by simpa using e)
    exact ⟨u, by simpa using a, b⟩
theorem RepVs.get' : ∀ {ds : List D} {vs : List V} {i : Nat} {v : V}, RepVs K H ds vs → vs[i]? = some v → ∃ d, ds[i]? = some d ∧ RepV K H d v
  | [], vs, i, v, h, e => by rw [h.nil_inv] at e; simp at e
  | d :: ds, vs, 0, x, h, e => by
    obtain ⟨v, r, rfl, h1, _⟩ := h.cons_inv
    simp at e; subst e
    exact ⟨d, rfl, h1⟩
  | d :: ds, vs, i + 1, x, h, e => by
    obtain ⟨v, r, rfl, _, h2⟩ := h.cons_inv
    obtain ⟨u, a, b⟩ := RepVs.get' (i := i) (v := x) h2 (by simpa using e)
    exact ⟨u, by simpa using a, b⟩
theorem RepVs.append : ∀ {ds es : List D} {vs us : List V}, RepVs K H ds vs → RepVs K H es us → RepVs K H (ds ++ es) (vs ++ us)
  | [], _, vs, _, h, g => by rw [h.nil_inv]; exact g
  | d :: ds, es, vs, us, h, g => by
    obtain ⟨v, r, rfl, h1, h2⟩ := h.cons_inv
    exact repVs_cons h1 (RepVs.append h2 g)
theorem RepVs.drop : ∀ {ds : List D} {vs : List V} (n : Nat), RepVs K H ds vs → RepVs K H (ds.drop n) (vs.drop n)
  | _, _, 0, h => h
  | [], vs, n + 1, h => by rw [h.nil_inv]; exact repVs_nil
  | d :: ds, vs, n + 1, h => by
    obtain ⟨v, r, rfl, h1, h2⟩ := h.cons_inv
    exact RepVs.drop n h2
theorem RepVs.take : ∀ {ds : List D} {vs : List V} (n : Nat), RepVs K H ds vs → RepVs K H (ds.take n) (vs.take n)
  | _, _, 0, h => repVs_nil
  | [], vs, n + 1, h => by rw [h.nil_inv]; exact repVs_nil
  | d :: ds, vs, n + 1, h => by
    obtain ⟨v, r, rfl, h1, h2⟩ := h.cons_inv
    exact repVs_cons h1 (RepVs.take n h2)
theorem RepVs.set {d : D} {v : V} (q : RepV K H d v) : ∀ {ds : List D} {vs : List V} (n : Nat), RepVs K H ds vs → RepVs K H (ds.set n d) (vs.set n v)
  | [], vs, n, h => by rw [h.nil_inv]; exact repVs_nil
  | e :: ds, vs, 0, h => by
    obtain ⟨v, r, rfl, h1, h2⟩ := h.cons_inv
    exact repVs_cons q h2
  | e :: ds, vs, n + 1, h => by
    obtain ⟨v, r, rfl, h1, h2⟩ := h.cons_inv
    exact repVs_cons h1 (RepVs.set q n h2)
theorem RepVs.reverse {ds : List D} {vs : List V} (h : RepVs K H ds vs) : RepVs K H ds.reverse vs.reverse := by
  induction ds generalizing vs with
  | nil => rw [h.nil_inv]; exact repVs_nil
  | cons d ds ih =>
    obtain ⟨v, r, rfl, h1, h2⟩ := h.cons_inv
    rw [List.reverse_cons, List.reverse_cons]
    exact (ih h2).append (repVs_cons h1 repVs_nil)
theorem RepVs.eraseIdx : ∀ {ds : List D} {vs : List V} (n : Nat), RepVs K H ds vs → RepVs K H (ds.eraseIdx n) (vs.eraseIdx n)
  | [], vs, n, h => by rw [h.nil_inv]; exact repVs_nil
  | e :: ds, vs, 0, h => by
    obtain ⟨v, r, rfl, h1, h2⟩ := h.cons_inv
    exact h2
  | e :: ds, vs, n + 1, h => by
    obtain ⟨v, r, rfl, h1, h2⟩ := h.cons_inv
    exact repVs_cons h1 (RepVs.eraseIdx n h2)
theorem RepVs.dropLast {ds : List D} {vs : List V} (h : RepVs K H ds vs) : RepVs K H ds.dropLast vs.dropLast := by
  rw [List.dropLast_eq_take, List.dropLast_eq_take, h.length]
  exact h.take _
theorem RepVs.flat {ds : List D} {vs : List V} (h : RepVs K H ds vs) : ∀ k : Nat, RepVs K H (List.replicate k ds).flatten (List.replicate k vs).flatten
  | 0 => repVs_nil
  | k + 1 => by
    rw [List.replicate_succ, List.replicate_succ, List.flatten_cons, List.flatten_cons]
    exact h.append (h.flat k)
mutual
theorem RepV.mono (t : Pst K H H') : ∀ {d : D} {v : V}, RepV K H d v → RepV K H' d v
  | .non, _, h => by simpa only [RepV] using h
  | .bl _, _, h => by simpa only [RepV] using h
  | .int _, _, h => by simpa only [RepV] using h
  | .str _, _, h => by simpa only [RepV] using h
  | .ref _, _, h => by simpa only [RepV] using h
  | .tup ds, v, h => by
    obtain ⟨a, vs, rfl, h1, h2⟩ : ∃ a vs, v = .ref a ∧ SqT K H a vs ∧ RepVs K H ds vs := by simpa only [RepV] using h
    simp only [RepV]
    exact ⟨a, vs, rfl, t.t _ _ h1, RepVs.mono t h2⟩
  | .scr ds, v, h => by
    obtain ⟨a, vs, rfl, h1, h2⟩ : ∃ a vs, v = .ref a ∧ FzL K H a vs ∧ RepVs K H ds vs := by simpa only [RepV] using h
    simp only [RepV]
    exact ⟨a, vs, rfl, t.l _ _ h1, RepVs.mono t h2⟩
theorem RepVs.mono (t : Pst K H H') : ∀ {ds : List D} {vs : List V}, RepVs K H ds vs → RepVs K H' ds vs
  | [], vs, h => by rw [h.nil_inv]; exact repVs_nil
  | d :: ds, vs, h => by
    obtain ⟨v, r, rfl, h1, h2⟩ := h.cons_inv
    exact repVs_cons (RepV.mono t h1) (RepVs.mono t h2)
end
theorem repV_tup {ds : List D} {v : V} : RepV K H (.tup ds) v ↔ ∃ a vs, v = .ref a ∧ SqT K H a vs ∧ RepVs K H ds vs := by simp only [RepV]
theorem repV_scr {ds : List D} {v : V} : RepV K H (.scr ds) v ↔ ∃ a vs, v = .ref a ∧ FzL K H a vs ∧ RepVs K H ds vs := by simp only [RepV]
theorem repV_int {i : Int} : RepV K H (.int i) (.int i) := by simp only [RepV]
theorem repV_bl {i : Bool} : RepV K H (.bl i) (.bl i) := by simp only [RepV]
theorem repV_str {i : Str} : RepV K H (.str i) (.str i) := by simp only [RepV]
theorem repV_non : RepV K H .non .non := by simp only [RepV]
theorem repV_ref {a : Addr} : RepV K H (.ref a) (.ref a) := by simp only [RepV]
theorem RepV.int_inv {i : Int} {v : V} (h : RepV K H (.int i) v) : v = .int i := by simpa only [RepV] using h
theorem RepV.bl_inv {i : Bool} {v : V} (h : RepV K H (.bl i) v) : v = .bl i := by simpa only [RepV] using h
theorem RepV.str_inv {i : Str} {v : V} (h : RepV K H (.str i) v) : v = .str i := by simpa only [RepV] using h
theorem RepV.non_inv {v : V} (h : RepV K H .non v) : v = .non := by simpa only [RepV] using h
theorem RepV.ref_inv {a : Addr} {v : V} (h : RepV K H (.ref a) v) : v = .ref a := by simpa only [RepV] using h
end

/-- pairs -/
def RepF (K : PySem.W.Frag) (H : Hp) {κ : Type} : List (κ × D) → List (κ × V) → Prop
  | [], l => l = []
  | (k, d) :: r, l => ∃ v s, l = (k, v) :: s ∧ RepV K H d v ∧ RepF K H r s
/-- an object of the small heap and the hand layer's -/
def RepO (G : Gr) (h : MH) (H : Hp) (a : Addr) : MO → Prop
  | .lst ds => ∃ vs, H a = some (.lst vs) ∧ RepVs G.K H ds vs
  | .dct kvs => ∃ ks, H a = some (.dK ks) ∧ RepF G.K H kvs ks
  | .ins c fs => ∃ dx gs, H a = some (.ins (G.cl c) dx gs) ∧ RepF G.K H fs gs ∧ H dx = some (.own a) ∧ h dx = none
def RepH (G : Gr) (h : MH) (H : Hp) : Prop := ∀ a o, h a = some o → RepO G h H a o
/-- what stands outside of the small heap stays -/
def Fm (h : MH) (H : Hp) (h' : MH) (H' : Hp) : Prop := ∀ a o, h a = none → H a = some o → h' a = none ∧ H' a = some o
def RepS (K : PySem.W.Frag) (H : Hp) (σd : DS) (σ : L2.St) : Prop := σd.length = σ.length ∧ ∀ (i : Nat) (d : D), σd[i]? = some (some d) → ∃ v, σ[i]? = some (some v) ∧ RepV K H d v

section
variable {G : Gr} {h h1 h2 h' : MH} {H H1 H2 H' : Hp}
theorem RepF.mono {κ : Type} (t : Pst G.K H H') : ∀ {l : List (κ × D)} {m : List (κ × V)}, RepF G.K H l m → RepF G.K H' l m
  | [], _, q => q
  | (k, d) :: r, m, q => by
    obtain ⟨v, s, e, q1, q2⟩ := q
    exact ⟨v, s, e, q1.mono t, RepF.mono t q2⟩
theorem RepF.length {κ : Type} : ∀ {l : List (κ × D)} {m : List (κ × V)}, RepF G.K H l m → m.length = l.length
  | [], _, q => by rw [show _ = [] from q]; rfl
  | (k, d) :: r, m, q => by
    obtain ⟨v, s, rfl, q1, q2⟩ := q
    simp only [List.length_cons, RepF.length q2]
/-- what stands in the small heap can be written -/
theorem RepH.kinds (R : RepH G h H) {a : Addr} {o : MO} (e : h a = some o) : (∃ vs, H a = some (.lst vs)) ∨ (∃ ks, H a = some (.dK ks)) ∨ ∃ C dx gs, H a = some (.ins C dx gs) := by
  have r := R a o e
  cases o with
  | lst ds => obtain ⟨vs, z, _⟩ := r; exact .inl ⟨vs, z⟩
  | dct ds => obtain ⟨vs, z, _⟩ := r; exact .inr (.inl ⟨vs, z⟩)
  | ins c fs => obtain ⟨dx, gs, z, _⟩ := r; exact .inr (.inr ⟨_, dx, gs, z⟩)
theorem RepH.free (R : RepH G h H) {a : Addr} (n : H a = none) : h a = none := by
  cases e : h a with
  | none => rfl
  | some o => rcases R.kinds e with ⟨_, z⟩ | ⟨_, z⟩ | ⟨_, _, _, z⟩ <;> · rw [n] at z; cases z
theorem RepH.notup (R : RepH G h H) {a : Addr} {xs : List V} (q : Rd H a (.tup xs)) : h a = none := by
  cases e : h a with
  | none => rfl
  | some o => rcases q with q | ⟨ob, q⟩ <;> rcases R.kinds e with ⟨_, z⟩ | ⟨_, z⟩ | ⟨_, _, _, z⟩ <;> · rw [q] at z; cases z
theorem RepH.nofz (R : RepH G h H) {a : Addr} {ob : Obj} {u : HO} (q : H a = some (.frz ob u)) : h a = none := by
  cases e : h a with
  | none => rfl
  | some o => rcases R.kinds e with ⟨_, z⟩ | ⟨_, z⟩ | ⟨_, _, _, z⟩ <;> · rw [q] at z; cases z
theorem Fm.pst (R : RepH G h H) (f : Fm h H h' H') : Pst G.K H H' := ⟨fun a xs q => by
    rcases q with q | q
    · have n := R.notup q
      rcases q with q | ⟨ob, q⟩
      · exact .inl (.inl (f a _ n q).2)
      · exact .inl (.inr ⟨ob, (f a _ n q).2⟩)
    · exact .inr q, fun a xs q => by
    rcases q with ⟨ob, q⟩ | q
    · exact .inl ⟨ob, (f a _ (R.nofz q) q).2⟩
    · exact .inr q⟩
theorem Fm.refl : Fm h H h H := fun _ _ n q => ⟨n, q⟩
theorem Fm.trans (f : Fm h H h1 H1) (g : Fm h1 H1 h2 H2) : Fm h H h2 H2 := fun a o n q => g a o (f a o n q).1 (f a o n q).2
theorem RepV.fm {d : D} {v : V} (q : RepV G.K H d v) (R : RepH G h H) (f : Fm h H h' H') : RepV G.K H' d v := q.mono (f.pst R)
theorem RepVs.fm {d : List D} {v : List V} (q : RepVs G.K H d v) (R : RepH G h H) (f : Fm h H h' H') : RepVs G.K H' d v := q.mono (f.pst R)
theorem RepS.fm {d : DS} {v : L2.St} (q : RepS G.K H d v) (R : RepH G h H) (f : Fm h H h' H') : RepS G.K H' d v :=
  ⟨q.1, fun i x e => let ⟨u, a, b⟩ := q.2 i x e; ⟨u, a, b.fm R f⟩⟩
theorem RepS.set {σd : DS} {σ : L2.St} {i : Nat} {d : D} {v : V} (q : RepS G.K H σd σ) (r : RepV G.K H d v) : RepS G.K H (σd.set i (some d)) (σ.set i (some v)) := by
  refine ⟨by rw [List.length_set, List.length_set]; exact q.1, fun j x e => ?_⟩
  by_cases hj : j = i
  · subst hj
    by_cases hl : j < σd.length
    · rw [List.getElem?_set_self hl] at e
      injection e with e; injection e with e; subst e
      exact ⟨v, by rw [List.getElem?_set_self (by rw [← q.1]; exact hl)], r⟩
    · rw [List.getElem?_eq_none (by rw [List.length_set]; omega)] at e; cases e
  · rw [List.getElem?_set_ne (Ne.symm hj)] at e
    rw [List.getElem?_set_ne (Ne.symm hj)]
    exact q.2 j x e
/-- less is known -/
theorem RepS.less {σd σd' : DS} {σ : L2.St} (q : RepS G.K H σd σ) (hl : σd'.length = σd.length) (w : ∀ (i : Nat) d, σd'[i]? = some (some d) → σd[i]? = some (some d)) : RepS G.K H σd' σ :=
  ⟨hl.trans q.1, fun i d e => q.2 i d (w i d e)⟩
/-- an object's reading stays where its own place and what it leans on stay -/
theorem RepO.stay {a : Addr} {o : MO} (r : RepO G h H a o) (ha : H' a = H a) (t : Pst G.K H H') (n : ∀ dx, H dx = some (.own a) → h dx = none → H' dx = some (.own a) ∧ h' dx = none) : RepO G h' H' a o := by
  cases o with
  | lst ds => obtain ⟨vs, z, q⟩ := r; exact ⟨vs, ha.trans z, q.mono t⟩
  | dct ds => obtain ⟨vs, z, q⟩ := r; exact ⟨vs, ha.trans z, q.mono t⟩
  | ins c fs => obtain ⟨dx, gs, z, q, y, e⟩ := r; exact ⟨dx, gs, ha.trans z, q.mono t, (n dx y e).1, (n dx y e).2⟩
theorem pst_new {p : Addr} {o : HO} (n : H p = none) : Pst G.K H (L2.upd H p o) := ⟨fun a xs q => by
    rcases q with (q | ⟨ob, q⟩) | q
    · exact .inl (.inl (by rw [upd_ne (ne_of_none q n)]; exact q))
    · exact .inl (.inr ⟨ob, by rw [upd_ne (ne_of_none q n)]; exact q⟩)
    · exact .inr q, fun a xs q => by
    rcases q with ⟨ob, q⟩ | q
    · exact .inl ⟨ob, by rw [upd_ne (ne_of_none q n)]; exact q⟩
    · exact .inr q⟩
/-- what may be written here -/
def Wr : HO → Prop
  | .lst _ => True
  | .dK _ => True
  | .ins _ _ _ => True
  | _ => False
theorem pst_wr {p : Addr} {o u : HO} (n : H p = some u) (w : Wr u) : Pst G.K H (L2.upd H p o) := ⟨fun a xs q => by
    rcases q with (q | ⟨ob, q⟩) | q
    · exact .inl (.inl (by rw [upd_ne (fun z => by rw [z, n] at q; cases q; exact w)]; exact q))
    · exact .inl (.inr ⟨ob, by rw [upd_ne (fun z => by rw [z, n] at q; cases q; exact w)]; exact q⟩)
    · exact .inr q, fun a xs q => by
    rcases q with ⟨ob, q⟩ | q
    · exact .inl ⟨ob, by rw [upd_ne (fun z => by rw [z, n] at q; cases q; exact w)]; exact q⟩
    · exact .inr q⟩
/-- a tuple (or what no small heap holds) is laid -/
theorem RepH.aside {p : Addr} {o : HO} (R : RepH G h H) (n : H p = none) : RepH G h (L2.upd H p o) := fun a u e =>
  (R a u e).stay (upd_ne (fun z => by rw [z, R.free n] at e; cases e)) (pst_new n) fun dx y z => ⟨by rw [upd_ne (ne_of_none y n)]; exact y, z⟩
theorem Fm.aside {p : Addr} {o : HO} (n : H p = none) : Fm h H h (L2.upd H p o) := fun a u e q => ⟨e, by rw [upd_ne (ne_of_none q n)]; exact q⟩
/-- an object of the small heap is laid -/
theorem RepH.new {p : Addr} {o : HO} {u : MO} (R : RepH G h H) (n : H p = none) (new : RepO G (up h p u) (L2.upd H p o) p u) : RepH G (up h p u) (L2.upd H p o) := fun a x e => by
  by_cases ha : a = p
  · subst ha; rw [up_same] at e; cases e; exact new
  · rw [up_ne ha] at e
    exact (R a x e).stay (upd_ne ha) (pst_new n) fun dx y z => ⟨by rw [upd_ne (ne_of_none y n)]; exact y, by rw [up_ne (ne_of_none y n)]; exact z⟩
theorem Fm.new {p : Addr} {o : HO} {u : MO} (n : H p = none) : Fm h H (up h p u) (L2.upd H p o) := fun a x e q => ⟨by rw [up_ne (ne_of_none q n)]; exact e, by rw [upd_ne (ne_of_none q n)]; exact q⟩
/-- an object of the small heap is written -/
theorem RepH.write {p : Addr} {o w : HO} {u : MO} (R : RepH G h H) (n : H p = some w) (wr : Wr w)
    (new : RepO G (up h p u) (L2.upd H p o) p u) : RepH G (up h p u) (L2.upd H p o) := fun a x e => by
  by_cases ha : a = p
  · subst ha; rw [up_same] at e; cases e; exact new
  · rw [up_ne ha] at e
    have ne : ∀ dx, H dx = some (.own a) → dx ≠ p := fun dx y z => by rw [z, n] at y; cases y; exact wr
    exact (R a x e).stay (upd_ne ha) (pst_wr n wr) fun dx y z => ⟨by rw [upd_ne (ne dx y)]; exact y, by rw [up_ne (ne dx y)]; exact z⟩
theorem Fm.write {p : Addr} {o : HO} {u : MO} {x : MO} (n : h p = some x) : Fm h H (up h p u) (L2.upd H p o) := fun a y e q => by
  have ne : a ≠ p := fun z => by rw [z, n] at e; cases e
  exact ⟨by rw [up_ne ne]; exact e, by rw [upd_ne ne]; exact q⟩
/-- the usual ones -/
theorem RepH.newLst {p : Addr} {ds : List D} {vs : List V} (R : RepH G h H) (n : H p = none) (q : RepVs G.K H ds vs) : RepH G (up h p (.lst ds)) (L2.upd H p (.lst vs)) :=
  R.new n ⟨vs, upd_same, q.mono (pst_new n)⟩
theorem RepH.wrLst {p : Addr} {es ds : List D} {vs : List V} (R : RepH G h H) (e : h p = some (.lst es)) (q : RepVs G.K H ds vs) : RepH G (up h p (.lst ds)) (L2.upd H p (.lst vs)) := by
  obtain ⟨us, z, _⟩ := R p _ e
  exact R.write z trivial ⟨vs, upd_same, q.mono (pst_wr z trivial)⟩
theorem RepV.tupNew {p : Addr} {ds : List D} {vs : List V} (n : H p = none) (q : RepVs G.K H ds vs) : RepV G.K (L2.upd H p (.tup vs)) (.tup ds) (.ref p) :=
  repV_tup.mpr ⟨p, vs, rfl, SqT.of upd_same, q.mono (pst_new n)⟩
end
end DL
set_option Elab.async false
set_option linter.all false
set_option maxRecDepth 100000
/-! The D layer, 2: a small language, and what must hold so that a piece of it runs to what is wanted. -/
namespace DL
open PySem L2

/-- built-in functions -/
inductive Bi where
  | len | abs | min | max | sum | all | any | sorted | list | tuple | str | int | repr
  deriving DecidableEq
/-- what isinstance is asked for -/
inductive Ty where
  | int | bool | str | list | tuple | dict | non
  deriving DecidableEq
/-- methods of built-in kinds -/
inductive Mt where
  | append | extend | pop | get | join | split | startswith | index | insert | reverse | partition
  deriving DecidableEq
/-- targets of loops -/
inductive Tg where
  | nm (i : Nat) | tp (is : List Nat)

mutual
inductive Ex where
  | var (i : Nat)
  | cst (d : D)
  | bin (op : Operator) (a b : Ex)
  | neg (a : Ex)
  | not (a : Ex)
  | and (a b : Ex)
  | or (a b : Ex)
  | ite (c : Te) (a b : Ex)
  | cmp (op : CmpOp) (a b : Ex)
  | chn (op op' : CmpOp) (a b c : Ex)
  | tup (es : List Ex)
  | lst (es : List Ex)
  | dsp (ks : List Str) (es : List Ex)
  | ix (a i : Ex)
  | sl (a : Ex) (lo hi : Option Ex)
  | rsl (a : Ex)
  | call (f : Nat) (es : List Ex)
  | callk (f : Nat) (es kes : List Ex) (arr : List (Nat ⊕ D))
  | bi (b : Bi) (es : List Ex)
  | isi (a : Ex) (ts : List Ty)
  | met (m : Mt) (o : Ex) (es : List Ex)
  | lc (elt : Ex) (tg : Tg) (it : It') (cd : Option Te) (vs : List Nat)
  | lc2 (elt : Ex) (tg : Tg) (it : It') (cd : Option Te) (tg1 : Tg) (it1 : It') (cd1 : Option Te) (vs vs1 : List Nat)
/-- a test -/
inductive Te where
  | val (e : Ex)
  | not (t : Te)
  | and (a b : Te)
  | or (a b : Te)
  | cmp (op : CmpOp) (a b : Ex)
  | chn (op op' : CmpOp) (a b c : Ex)
/-- what a loop walks -/
inductive It' where
  | of (e : Ex) | rng (es : List Ex) | zip (a b : Ex) | enm (a : Ex) | rev (a : Ex)
end
/-- targets of assignments -/
inductive Lv where
  | nm (i : Nat) | sub (o i : Ex) | fld (o : Ex) (f : Str) | tup (ls : List Lv) | star (is : List Nat) (r : Nat)
/-- a class: one of the text's own by its number, or a built-in one -/
inductive CN where
  | own (c : Nat) | blt (n : String)
  deriving DecidableEq
/-- what a handler says of what it caught: a field, of which class it is (told ahead) -/
inductive Hx where
  | cst (d : D) | var (i : Nat) | fld (f : Str) | isi (cs : List CN) (b : Bool) | tup (es : List Hx) | and (a b : Hx) | not (a : Hx) | cmp (op : CmpOp) (a b : Hx)
inductive Hs where
  | asg (i : Nat) (e : Hx) | ret (e : Hx)
inductive Sm where
  | asg (l : Lv) (e : Ex)
  | aug (i : Nat) (op : Operator) (e : Ex)
  | augs (a i : Ex) (op : Operator) (e : Ex)
  | ex (e : Ex)
  | ret (e : Ex)
  | retN
  | ifs (c : Te) (a b : List Sm)
  | for (t : Tg) (it : It') (b : List Sm)
  | whl (c : Te) (b : List Sm)
  | brk | cnt | pas
  | ded
  | rai (c : Nat) (f : Str) (e : Ex)
  | try (b : List Sm) (c i : Nat) (s : List Hs)

/-! ### operations on values -/
/-- a value's data, lists through the heap -/
inductive Den (h : MH) : D → PyData → Prop
  | non : Den h .non .none
  | bl (b : Bool) : Den h (.bl b) (.bool b)
  | int (i : Int) : Den h (.int i) (.int i)
  | str (x : Str) : Den h (.str x) (.str x)
  | tup {ds : List D} {ts : List PyData} (hl : ts.length = ds.length) (hs : ∀ (i : Nat) d t, ds[i]? = some d → ts[i]? = some t → Den h d t) : Den h (.tup ds) (.tuple ts)
  | lst {a : Addr} {ds : List D} {ts : List PyData} (ha : h a = some (.lst ds)) (hl : ts.length = ds.length) (hs : ∀ (i : Nat) d t, ds[i]? = some d → ts[i]? = some t → Den h d t) : Den h (.ref a) (.list ts)
  | dct0 {a : Addr} (ha : h a = some (.dct [])) : Den h (.ref a) (.dict [])

def MulOk (i j : Int) : Prop := i.natAbs < 2 ^ 64 ∨ j.natAbs < 2 ^ 64 ∨ (i.natAbs < 2 ^ 20000 ∧ j.natAbs < 2 ^ 20000)
def DivOk (j : Int) : Prop := 0 < j ∧ j.natAbs < 2 ^ 8000
def Fits (n : Nat) : Prop := n ≤ sizeLine
/-- a new object -/
def al (o : MO) (h : MH) (Q : D → MH → Prop) : Prop := ∀ p, h p = none → Q (.ref p) (up h p o)

def bop (op : Operator) (x y : D) (h : MH) (Q : D → MH → Prop) : Prop :=
  match op, x, y with
  | .Add, .int i, .int j => Q (.int (i + j)) h
  | .Add, .str a, .str b => Fits (a.length + b.length) ∧ Q (.str (a ++ b)) h
  | .Add, .tup a, .tup b => Fits (a.length + b.length) ∧ Q (.tup (a ++ b)) h
  | .Add, .ref a, .ref b => ∃ xs ys, h a = some (.lst xs) ∧ h b = some (.lst ys) ∧ Fits (xs.length + ys.length) ∧ al (.lst (xs ++ ys)) h Q
  | .Sub, .int i, .int j => Q (.int (i - j)) h
  | .Mult, .int i, .int j => MulOk i j ∧ Q (.int (i * j)) h
  | .Mult, .ref a, .int k => ∃ xs, h a = some (.lst xs) ∧ (-(2 ^ 63) ≤ k ∧ k < 2 ^ 63) ∧ Fits (xs.length * k.toNat) ∧ al (.lst (List.replicate k.toNat xs).flatten) h Q
  | .Mult, .tup a, .int k => (-(2 ^ 63) ≤ k ∧ k < 2 ^ 63) ∧ (k ≤ 1000 ∧ a.length ≤ 1000) ∧ Q (.tup (List.replicate k.toNat a).flatten) h
  | .Mult, .str a, .int k => (k ≤ 1000 ∧ a.length ≤ 1000 ∧ -(2 ^ 63) ≤ k) ∧ Q (.str (Txt.mul a k)) h
  | .FloorDiv, .int i, .int j => DivOk j ∧ Q (.int (i / j)) h
  | .Mod, .int i, .int j => 0 < j ∧ Q (.int (i % j)) h
  | .Pow, .int i, .int j => (0 ≤ j ∧ j ≤ 1000000 ∧ i.natAbs < 2 ^ 64) ∧ Q (.int (i ^ j.toNat)) h
  | _, _, _ => False

/-- x op= y of a name, nothing that changes -/
def augD (op : Operator) (x y : D) (h : MH) (Q : D → MH → Prop) : Prop :=
  match op, x, y with
  | .Add, .int i, .int j => Q (.int (i + j)) h
  | .Add, .str a, .str b => Fits (a.length + b.length) ∧ Q (.str (a ++ b)) h
  | .Sub, .int i, .int j => Q (.int (i - j)) h
  | .Mult, .int i, .int j => (-(2 ^ 64) < i ∧ i < 2 ^ 64) ∧ Q (.int (i * j)) h
  | _, _, _ => False

/-- truth -/
def tru (x : D) (h : MH) (P : Bool → Prop) : Prop :=
  match x with
  | .non => P false
  | .bl b => P b
  | .int i => P (i != 0)
  | .str y => Fits y.length ∧ P ((y.length : Int) != 0)
  | .tup ds => P (!ds.isEmpty)
  | .ref a => ∃ xs, h a = some (.lst xs) ∧ P (!xs.isEmpty)
  | .scr ds => P (!ds.isEmpty)

/-- one scalar -/
def flat : D → Bool
  | .bl _ => true | .int _ => true | .str _ => true | .non => true
  | _ => false
def toV : D → V
  | .non => .non | .bl b => .bl b | .int i => .int i | .str x => .str x | .ref a => .ref a
  | _ => .non
def inD (x : D) (ys : List D) : Bool := ys.any fun y => eqV (toV y) (toV x)
def subStr (a b : Str) : Bool := !(Builtin.Str.occurrences b a 0 b.length 1).isEmpty
/-- a key -/
def keyD : D → Option Key
  | .int i => some (.inl i)
  | .str x => some (.inr x)
  | _ => none
def getK (kvs : List (Key × D)) (k : Key) : Option D := (kvs.find? fun kv => decide (kv.1 = k)).map (·.2)
def putK (kvs : List (Key × D)) (k : Key) (v : D) : List (Key × D) :=
  if (kvs.any fun kv => decide (kv.1 = k)) = true then kvs.map (fun kv => if kv.1 = k then (kv.1, v) else kv) else kvs ++ [(k, v)]

def deepEq (x y : D) (h : MH) (P : Bool → Prop) : Prop :=
  ∃ t u, Den h x t ∧ Den h y u ∧ SeqAt.shaped t = true ∧ SeqAt.shaped u = true ∧ P (PyData.eqv t u)
def eqD (x y : D) (h : MH) (P : Bool → Prop) : Prop :=
  match x, y with
  | .int i, .int j => P (decide (i = j))
  | .str a, .str b => P (decide (a = b))
  | .non, .non => P true
  | .bl a, .bl b => P (decide (a = b))
  | .ref a, .ref b => deepEq x y h P ∨ ∃ xs ys, h a = some (.lst xs) ∧ h b = some (.lst ys) ∧ xs.length ≠ ys.length ∧ P false
  | _, _ => deepEq x y h P
/-- x in a list, items of any depth -/
def deepIn (x : D) (a : Addr) (h : MH) (P : Bool → Prop) : Prop :=
  ∃ t us, Den h x t ∧ Den h (.ref a) (.list us) ∧ SeqAt.shaped t = true ∧ SeqAt.shaped (.list us) = true ∧ P (us.any fun z => PyData.eqv z t)
def inOp (x y : D) (h : MH) (P : Bool → Prop) : Prop :=
  match x, y with
  | .str a, .str b => P (subStr a b)
  | x, .tup ys => flat x = true ∧ ys.all flat = true ∧ P (inD x ys)
  | x, .ref a => (∃ ys, h a = some (.lst ys) ∧ flat x = true ∧ ys.all flat = true ∧ P (inD x ys)) ∨ (∃ kvs k, h a = some (.dct kvs) ∧ keyD x = some k ∧ P (getK kvs k).isSome) ∨ deepIn x a h P
  | _, _ => False
def isOp (x y : D) (P : Bool → Prop) : Prop :=
  match x, y with
  | .non, .non => P true
  | .bl a, .bl b => P (decide (a = b))
  | _, .non => P false
  | _, _ => False
def cop (op : CmpOp) (x y : D) (h : MH) (P : Bool → Prop) : Prop :=
  match op with
  | .Eq => eqD x y h P
  | .NotEq => eqD x y h fun k => P (!k)
  | .Lt => match x, y with
    | .int i, .int j => P (decide (i < j))
    | _, _ => False
  | .LtE => match x, y with
    | .int i, .int j => P (decide (i ≤ j))
    | _, _ => False
  | .Gt => match x, y with
    | .int i, .int j => P (decide (j < i))
    | _, _ => False
  | .GtE => match x, y with
    | .int i, .int j => P (decide (j ≤ i))
    | _, _ => False
  | .Is => isOp x y P
  | .IsNot => isOp x y fun k => P (!k)
  | .In => inOp x y h P
  | .NotIn => inOp x y h fun k => P (!k)

/-- x[i] -/
def ixD (x i : D) (h : MH) (Q : D → MH → Prop) : Prop :=
  match x, i with
  | .tup ds, .int i => ∃ d, atI ds i = some d ∧ Q d h
  | .scr ds, .int i => ∃ d, atI ds i = some d ∧ Q d h
  | .str z, .int i => Fits z.length ∧ ∃ c, atI z.cps.toList i = some c ∧ Q (.str ⟨#[c]⟩) h
  | .ref a, k => (∃ xs i d, k = .int i ∧ h a = some (.lst xs) ∧ atI xs i = some d ∧ Q d h) ∨ (∃ kvs k' d, keyD k = some k' ∧ h a = some (.dct kvs) ∧ getK kvs k' = some d ∧ Q d h)
  | _, _ => False
/-- x[lo:hi] -/
def cut {α : Type} (xs : List α) (lo hi : Option Int) : List α := (xs.drop (HT.sIx xs.length 0 lo)).take (HT.sIx xs.length xs.length hi - HT.sIx xs.length 0 lo)
def slD (x : D) (lo hi : Option Int) (h : MH) (Q : D → MH → Prop) : Prop :=
  match x with
  | .tup ds => Q (.tup (cut ds lo hi)) h
  | .scr ds => al (.lst (cut ds lo hi)) h Q
  | .str z => Fits z.length ∧ Q (.str ⟨(cut z.cps.toList lo hi).toArray⟩) h
  | .ref a => ∃ xs, h a = some (.lst xs) ∧ al (.lst (cut xs lo hi)) h Q
  | _ => False
/-- x[::-1] of a list, a tuple -/
def rslD (x : D) (h : MH) (Q : D → MH → Prop) : Prop :=
  match x with
  | .ref a => ∃ xs, h a = some (.lst xs) ∧ al (.lst xs.reverse) h Q
  | .tup ds => Q (.tup ds.reverse) h
  | _ => False
/-- x[i] of a list, i not below 0 -/
def ixL (x i : D) (h : MH) (Q : D → MH → Prop) : Prop :=
  match x, i with
  | .ref a, .int k => ∃ (j : Nat) (xs : List D) (d : D), k = (j : Int) ∧ h a = some (.lst xs) ∧ xs[j]? = some d ∧ Q d h
  | _, _ => False
/-- x[i] = v -/
def setD (x i v : D) (h : MH) (P : MH → Prop) : Prop :=
  match x with
  | .ref a => (∃ xs k j, i = .int k ∧ h a = some (.lst xs) ∧ ixN xs.length k = some j ∧ P (up h a (.lst (xs.set j v)))) ∨
      (∃ kvs k, keyD i = some k ∧ h a = some (.dct kvs) ∧ kvs.length < sizeLine ∧ P (up h a (.dct (putK kvs k v))))
  | _ => False

def intsOf : List D → Option (List Int)
  | [] => some []
  | .int i :: r => (intsOf r).map (i :: ·)
  | _ => none
def blsOf : List D → Option (List Bool)
  | [] => some []
  | .bl i :: r => (blsOf r).map (i :: ·)
  | _ => none
def strsOf : List D → Option (List Str)
  | [] => some []
  | .str i :: r => (strsOf r).map (i :: ·)
  | _ => none
/-- the items of a list or tuple -/
def itemsOf (x : D) (h : MH) (P : List D → Prop) : Prop :=
  match x with
  | .tup ds => P ds
  | .scr ds => P ds
  | .ref a => ∃ xs, h a = some (.lst xs) ∧ P xs
  | _ => False
mutual
/-- what never changes, as data -/
def toP : D → PyData
  | .non => .none
  | .bl b => .bool b
  | .int i => .int i
  | .str x => .str x
  | .tup ds => .tuple (toPs ds)
  | .ref _ => .none
  | .scr ds => .none
def toPs : List D → List PyData
  | [] => []
  | d :: ds => toP d :: toPs ds
end
mutual
/-- nothing within it changes -/
def imm : D → Bool
  | .non => true
  | .bl b => true
  | .int i => true
  | .str x => true
  | .tup ds => imms ds
  | .ref _ => false
  | .scr _ => false
def imms : List D → Bool
  | [] => true
  | d :: ds => imm d && imms ds
end
def bi (b : Bi) (xs : List D) (h : MH) (Q : D → MH → Prop) : Prop :=
  match b, xs with
  | .len, [.str y] => Fits y.length ∧ Q (.int y.length) h
  | .len, [x] => itemsOf x h fun ds => Q (.int ds.length) h
  | .abs, [.int i] => Q (.int (if i < 0 then -i else i)) h
  | .max, [.int i, .int j] => Q (.int (if j > i then j else i)) h
  | .max, [x] => itemsOf x h fun ds => ∃ n ns, intsOf ds = some (n :: ns) ∧ ∀ m : Int, m ∈ n :: ns → (∀ y, y ∈ n :: ns → y ≤ m) → Q (.int m) h
  | .min, [.int i, .int j] => Q (.int (if j < i then j else i)) h
  | .sum, [.tup ds] => ∃ ns, intsOf ds = some ns ∧ Q (.int ns.sum) h
  | .sum, [.ref a] => ∃ ds ns, h a = some (.lst ds) ∧ intsOf ds = some ns ∧ Q (.int ns.sum) h
  | .all, [.ref a] => ∃ ds ns, h a = some (.lst ds) ∧ blsOf ds = some ns ∧ Q (.bl (ns.all id)) h
  | .any, [.ref a] => ∃ ds ns, h a = some (.lst ds) ∧ blsOf ds = some ns ∧ Q (.bl (ns.any id)) h
  | .list, [.str z] => Fits z.length ∧ al (.lst (z.cps.toList.map fun c => .str ⟨#[c]⟩)) h Q
  | .list, [x] => itemsOf x h fun ds => al (.lst ds) h Q
  | .tuple, [x] => itemsOf x h fun ds => Q (.tup ds) h
  | .int, [.int i] => Q (.int i) h
  | .int, [.bl k] => Q (.int (if k then 1 else 0)) h
  | .int, [.str z] => ∃ n, PySem.intText? z = some n ∧ z.length ≤ 640 ∧ Q (.int n) h
  | .str, [.int i] => i.natAbs.log2 < 1920 ∧ Q (.str (toString i)) h
  | .str, [.str z] => Q (.str z) h
  | .repr, [x] => ∃ t, Den h x t ∧ PyData.showable t = true ∧ Fits t.shown.length ∧ PyData.depth t ≤ 60 ∧ Q (.str t.shown) h
  | .sorted, [.ref a] => ∃ ds, h a = some (.lst ds) ∧ imms ds = true ∧ PySem.W.AllAlike (ds.map toP) ∧ PySem.W.Sortable (ds.map toP) ∧ (∀ d, d ∈ ds → (toP d).depth ≤ 60) ∧ al (.lst (ds.mergeSort (PySem.W.dataLe false toP))) h Q
  | _, _ => False
/-- isinstance -/
def kindOf (x : D) (h : MH) (P : Ty → Prop) : Prop :=
  match x with
  | .int _ => P .int
  | .bl _ => P .bool
  | .str _ => P .str
  | .non => P .non
  | .tup _ => P .tuple
  | .scr _ => P .list
  | .ref a => (∃ xs, h a = some (.lst xs) ∧ P .list) ∨ (∃ kvs, h a = some (.dct kvs) ∧ P .dict)
def subTy (k t : Ty) : Bool := decide (k = t) || (decide (k = .bool) && decide (t = .int))
def isTys (x : D) (h : MH) (ts : List Ty) (P : Bool → Prop) : Prop := kindOf x h fun k => P (ts.any (subTy k))

/-- of which kind the method is -/
def mtTy (m : Mt) (x : D) (h : MH) : Prop :=
  match m with
  | .append | .extend | .pop | .index | .insert | .reverse => match x with
    | .ref a => ∃ xs, h a = some (.lst xs)
    | _ => False
  | .get => match x with
    | .ref a => ∃ kvs, h a = some (.dct kvs)
    | _ => False
  | .join | .split | .startswith | .partition => match x with
    | .str _ => True
    | _ => False
def met (m : Mt) (x : D) (ys : List D) (h : MH) (Q : D → MH → Prop) : Prop :=
  match m, x, ys with
  | .append, .ref a, [y] => ∃ xs, h a = some (.lst xs) ∧ xs.length < sizeLine ∧ Q .non (up h a (.lst (xs ++ [y])))
  | .insert, .ref a, [.int i, y] => ∃ xs, h a = some (.lst xs) ∧ xs.length < sizeLine ∧ 0 ≤ i ∧ i < 2 ^ 63 ∧ Q .non (up h a (.lst (xs.take i.toNat ++ [y] ++ xs.drop i.toNat)))
  | .extend, .ref a, [.ref b] => ∃ xs zs, h a = some (.lst xs) ∧ h b = some (.lst zs) ∧ Fits (xs.length + zs.length) ∧ Q .non (up h a (.lst (xs ++ zs)))
  | .pop, .ref a, [] => ∃ xs d, h a = some (.lst xs) ∧ xs[xs.length - 1]? = some d ∧ Q d (up h a (.lst xs.dropLast))
  | .pop, .ref a, [.int i] => ∃ xs k d, h a = some (.lst xs) ∧ ixN xs.length i = some k ∧ xs[k]? = some d ∧ xs.length < 2 ^ 62 ∧ Q d (up h a (.lst (xs.eraseIdx k)))
  | .reverse, .ref a, [] => ∃ xs, h a = some (.lst xs) ∧ Q .non (up h a (.lst xs.reverse))
  | .get, .ref a, [k, v] => ∃ kvs k', keyD k = some k' ∧ h a = some (.dct kvs) ∧ Q ((getK kvs k').getD v) h
  | .join, .str s, [.ref a] => ∃ ds ts, h a = some (.lst ds) ∧ strsOf ds = some ts ∧ (ts.map (·.length)).sum + ts.length * s.length ≤ 16777216 ∧ Q (.str (Txt.join s ts)) h
  | .split, .str s, [.str b] => ((b.length == 0) = false ∧ Fits (s.length + 2)) ∧ al (.lst ((Txt.split s b).map D.str)) h Q
  | .startswith, .str s, [.str b] => Q (.bl (Txt.startswith s b)) h
  | _, _, _ => False

/-! ### loops -/
structure ItV where
  its : List D
  ok : MH → Prop
def setAll (σ : DS) : List Nat → List D → DS
  | i :: is, d :: ds => setAll (σ.set i (some d)) is ds
  | _, _ => σ
def bindT (t : Tg) (d : D) (σ : DS) (P : DS → Prop) : Prop :=
  match t with
  | .nm i => P (σ.set i (some d))
  | .tp is => match d with
    | .tup ds => ds.length = is.length ∧ P (setAll σ is ds)
    | _ => False
def wipeD (σ : DS) : List Nat → DS
  | [] => σ
  | v :: vs => (wipeD σ vs).set v none
abbrev DT := DS → MH → (Bool → MH → Prop) → Prop
abbrev DE := DS → MH → (D → MH → Prop) → Prop
/-- a comprehension's loop -/
def lcGo (t : Tg) (ok : MH → Prop) (cd : DT) (elt : DE) (σ : DS) (K : List D → MH → Prop) : List D → List D → MH → Prop
  | [], acc, h => ok h ∧ K acc h
  | d :: r, acc, h => ok h ∧ bindT t d σ fun σ1 => cd σ1 h fun k h1 =>
      if k = true then elt σ1 h1 fun x h2 => acc.length < sizeLine ∧ lcGo t ok cd elt σ K r (acc ++ [x]) h2
      else lcGo t ok cd elt σ K r acc h1
/-- two clauses: inn is the inner loop, handed what follows -/
def lcGo2 (t : Tg) (ok : MH → Prop) (cd : DT) (inn : DS → List D → MH → (List D → MH → Prop) → Prop) (σ : DS) (K : List D → MH → Prop) : List D → List D → MH → Prop
  | [], acc, h => ok h ∧ K acc h
  | d :: r, acc, h => ok h ∧ bindT t d σ fun σ1 => cd σ1 h fun k h1 =>
      if k = true then inn σ1 acc h1 (lcGo2 t ok cd inn σ K r)
      else lcGo2 t ok cd inn σ K r acc h1

/-- what follows a statement -/
structure En where
  nx : DS → MH → Prop
  rt : D → MH → Prop
  bk : DS → MH → Prop
  ct : DS → MH → Prop
  ex : Nat → List (Str × D) → DS → MH → Prop
abbrev DX := Nat → List (Str × D) → MH → Prop
abbrev Fns := Nat → List D → MH → (D → MH → Prop) → DX → Prop
def forGo (t : Tg) (ok : MH → Prop) (body : En → DS → MH → Prop) (Dn : En) : List D → DS → MH → Prop
  | [], σ, h => ok h ∧ Dn.nx σ h
  | d :: r, σ, h => ok h ∧ bindT t d σ fun σ1 => body { Dn with nx := forGo t ok body Dn r, ct := forGo t ok body Dn r, bk := Dn.nx } σ1 h
def whlGo (c : DT) (body : En → DS → MH → Prop) (Dn : En) (σ : DS) (h : MH) : Prop :=
  ∃ W : Nat → DS → MH → Prop, (∃ m, W m σ h) ∧ ∀ m σ h, W m σ h → c σ h fun k h1 =>
    if k = true then body { Dn with nx := fun σ' h' => ∃ m', m' < m ∧ W m' σ' h', ct := fun σ' h' => ∃ m', m' < m ∧ W m' σ' h', bk := Dn.nx } σ h1
    else Dn.nx σ h1

def arrOf (ds : List D) : List (Nat ⊕ D) → List D
  | [] => []
  | .inl i :: r => ds.getD i .non :: arrOf ds r
  | .inr d :: r => d :: arrOf ds r
def rngD (xs : List D) (P : ItV → Prop) : Prop :=
  match xs with
  | [.int n] => (-(2 ^ 60) < n ∧ n < 2 ^ 60) ∧ P ⟨(List.range n.toNat).map fun (k : Nat) => .int k, fun _ => True⟩
  | [.int a, .int b] => (-(2 ^ 60) < a ∧ a < 2 ^ 60 ∧ b < 2 ^ 60 ∧ -(2 ^ 60) < b) ∧ P ⟨(List.range (b - a).toNat).map fun (k : Nat) => .int (a + k), fun _ => True⟩
  | [.int a, .int b, .int c] => (-(2 ^ 60) < a ∧ a < 2 ^ 60 ∧ b < 2 ^ 60 ∧ -(2 ^ 60) < b ∧ c = -1) ∧ P ⟨(List.range (a - b).toNat).map fun (k : Nat) => .int (a - k), fun _ => True⟩
  | _ => False
/-- what a list, a tuple, a text gives to a loop -/
def walkD (x : D) (h : MH) (P : ItV → Prop) : Prop :=
  match x with
  | .tup ds => P ⟨ds, fun _ => True⟩
  | .scr ds => P ⟨ds, fun _ => True⟩
  | .str z => P ⟨z.cps.toList.map fun c => .str ⟨#[c]⟩, fun _ => True⟩
  | .ref a => ∃ xs, h a = some (.lst xs) ∧ P ⟨xs, fun h' => h' a = some (.lst xs)⟩
  | _ => False
def zipD (x y : D) (h : MH) (P : ItV → Prop) : Prop :=
  match x, y with
  | .tup xs, .tup ys => P ⟨(xs.zip ys).map fun p => .tup [p.1, p.2], fun _ => True⟩
  | .ref a, .ref b => ∃ xs ys, h a = some (.lst xs) ∧ h b = some (.lst ys) ∧ P ⟨(xs.zip ys).map fun p => .tup [p.1, p.2], fun h' => h' a = some (.lst xs) ∧ h' b = some (.lst ys)⟩
  | _, _ => False
def revD (x : D) (h : MH) (P : ItV → Prop) : Prop :=
  match x with
  | .tup ds => P ⟨ds.reverse, fun _ => True⟩
  | .ref a => ∃ xs, h a = some (.lst xs) ∧ P ⟨xs.reverse, fun h' => h' a = some (.lst xs)⟩
  | _ => False
def enmD (x : D) (h : MH) (P : ItV → Prop) : Prop :=
  match x with
  | .ref a => ∃ xs, h a = some (.lst xs) ∧ P ⟨xs.zipIdx.map fun p => .tup [.int p.2, p.1], fun h' => h' a = some (.lst xs)⟩
  | .tup ds => P ⟨ds.zipIdx.map fun p => .tup [.int p.2, p.1], fun _ => True⟩
  | _ => False

section
variable (Φ : Fns)
mutual
def wpE (E : DX) : Ex → DS → MH → (D → MH → Prop) → Prop
  | .var i, σ, h, Q => ∃ d, σ[i]? = some (some d) ∧ Q d h
  | .cst d, _, h, Q => Q d h
  | .bin op a b, σ, h, Q => wpE E a σ h fun x h1 => wpE E b σ h1 fun y h2 => bop op x y h2 Q
  | .neg a, σ, h, Q => wpE E a σ h fun x h1 => match x with
    | .int i => Q (.int (-i)) h1
    | _ => False
  | .not a, σ, h, Q => wpE E a σ h fun x h1 => tru x h1 fun k => Q (.bl (!k)) h1
  | .and a b, σ, h, Q => wpE E a σ h fun x h1 => tru x h1 fun k => if k = true then wpE E b σ h1 Q else Q x h1
  | .or a b, σ, h, Q => wpE E a σ h fun x h1 => tru x h1 fun k => if k = true then Q x h1 else wpE E b σ h1 Q
  | .ite c a b, σ, h, Q => wpT E c σ h fun k h1 => if k = true then wpE E a σ h1 Q else wpE E b σ h1 Q
  | .cmp op a b, σ, h, Q => wpE E a σ h fun x h1 => wpE E b σ h1 fun y h2 => cop op x y h2 fun k => Q (.bl k) h2
  | .chn op op' a b c, σ, h, Q => wpE E a σ h fun x h1 => wpE E b σ h1 fun y h2 => cop op x y h2 fun k =>
      if k = true then wpE E c σ h2 fun z h3 => cop op' y z h3 fun k' => Q (.bl k') h3 else Q (.bl false) h2
  | .tup es, σ, h, Q => wpEs E es σ h fun ds h1 => Fits ds.length ∧ Q (.tup ds) h1
  | .lst es, σ, h, Q => wpEs E es σ h fun ds h1 => Fits ds.length ∧ al (.lst ds) h1 Q
  | .dsp ks es, σ, h, Q => wpEs E es σ h fun ds h1 => al (.dct ((ks.map Sum.inr).zip ds)) h1 Q
  | .ix a i, σ, h, Q => wpE E a σ h fun x h1 => wpE E i σ h1 fun y h2 => ixD x y h2 Q
  | .rsl a, σ, h, Q => wpE E a σ h fun x h1 => rslD x h1 Q
  | .sl a lo hi, σ, h, Q => wpE E a σ h fun x h1 => wpO E lo σ h1 fun l h2 => wpO E hi σ h2 fun u h3 => slD x l u h3 Q
  | .call f es, σ, h, Q => wpEs E es σ h fun ds h1 => ds.length = es.length ∧ Φ f ds h1 Q E
  | .callk f es kes arr, σ, h, Q => wpEs E es σ h fun ds h1 => wpEs E kes σ h1 fun ks h2 => (ds.length = es.length ∧ ks.length = kes.length) ∧ Φ f (arrOf (ds ++ ks) arr) h2 Q E
  | .bi b es, σ, h, Q => wpEs E es σ h fun ds h1 => bi b ds h1 Q
  | .isi a ts, σ, h, Q => wpE E a σ h fun x h1 => isTys x h1 ts fun k => Q (.bl k) h1
  | .met m o es, σ, h, Q => wpE E o σ h fun x h1 => mtTy m x h1 ∧ wpEs E es σ h1 fun ds h2 => met m x ds h2 Q
  | .lc elt t it cd vs, σ, h, Q => wpI E it σ h fun J h1 => lcGo t J.ok (wpC cd) (wpE (fun _ _ _ => False) elt) (wipeD σ vs) (fun acc h2 => al (.lst acc) h2 Q) J.its [] h1
  | .lc2 elt t it cd t1 it1 cd1 vs vs1, σ, h, Q => wpI E it σ h fun J h1 =>
      lcGo2 t J.ok (wpC cd) (fun σ1 acc h2 K => wpI (fun _ _ _ => False) it1 σ1 h2 fun J1 h3 => lcGo t1 J1.ok (wpC cd1) (wpE (fun _ _ _ => False) elt) (wipeD σ1 vs1) K J1.its acc h3)
        (wipeD σ vs) (fun acc h2 => al (.lst acc) h2 Q) J.its [] h1
def wpT (E : DX) : Te → DS → MH → (Bool → MH → Prop) → Prop
  | .not a, σ, h, Q => wpT E a σ h fun k h1 => Q (!k) h1
  | .and a b, σ, h, Q => wpT E a σ h fun k h1 => if k = true then wpT E b σ h1 Q else Q false h1
  | .or a b, σ, h, Q => wpT E a σ h fun k h1 => if k = true then Q true h1 else wpT E b σ h1 Q
  | .cmp op a b, σ, h, Q => wpE E a σ h fun x h1 => wpE E b σ h1 fun y h2 => cop op x y h2 fun k => Q k h2
  | .chn op op' a b c, σ, h, Q => wpE E a σ h fun x h1 => wpE E b σ h1 fun y h2 => cop op x y h2 fun k =>
      if k = true then wpE E c σ h2 fun z h3 => cop op' y z h3 fun k' => Q k' h3 else Q false h2
  | .val e, σ, h, Q => wpE E e σ h fun x h1 => tru x h1 fun k => Q k h1
def wpEs (E : DX) : List Ex → DS → MH → (List D → MH → Prop) → Prop
  | [], _, h, Q => Q [] h
  | e :: r, σ, h, Q => wpE E e σ h fun x h1 => wpEs E r σ h1 fun xs h2 => Q (x :: xs) h2
def wpO (E : DX) : Option Ex → DS → MH → (Option Int → MH → Prop) → Prop
  | none, _, h, Q => Q none h
  | some e, σ, h, Q => wpE E e σ h fun x h1 => match x with
    | .int i => Q (some i) h1
    | _ => False
def wpC : Option Te → DS → MH → (Bool → MH → Prop) → Prop
  | none, _, h, Q => Q true h
  | some e, σ, h, Q => wpT (fun _ _ _ => False) e σ h Q
def wpI (E : DX) : It' → DS → MH → (ItV → MH → Prop) → Prop
  | .of e, σ, h, Q => wpE E e σ h fun x h1 => walkD x h1 fun J => Q J h1
  | .rng es, σ, h, Q => wpEs E es σ h fun ds h1 => rngD ds fun J => Q J h1
  | .zip a b, σ, h, Q => wpE E a σ h fun x h1 => wpE E b σ h1 fun y h2 => zipD x y h2 fun J => Q J h2
  | .enm a, σ, h, Q => wpE E a σ h fun x h1 => enmD x h1 fun J => Q J h1
  | .rev a, σ, h, Q => wpE E a σ h fun x h1 => revD x h1 fun J => Q J h1
end
mutual
def wpLv (F : DS → DX) : Lv → D → DS → MH → (DS → MH → Prop) → Prop
  | .nm i, d, σ, h, P => P (σ.set i (some d)) h
  | .sub o i, d, σ, h, P => wpE Φ (F σ) o σ h fun x h1 => wpE Φ (F σ) i σ h1 fun k h2 => setD x k d h2 fun h3 => P σ h3
  | .fld o f, d, σ, h, P => False
  | .tup ls, d, σ, h, P => match d with
    | .tup ds => ds.length = ls.length ∧ wpLvs F ls ds σ h P
    | _ => False
  | .star is r, d, σ, h, P => (match d with
    | .tup ds => (is.length ≤ ds.length ∧ ds.length ≤ 16000) ∧ ∀ p, h p = none → P ((setAll σ is (ds.take is.length)).set r (some (.ref p))) (up h p (.lst (ds.drop is.length)))
    | .ref a => ∃ ds, h a = some (.lst ds) ∧ (is.length ≤ ds.length ∧ ds.length ≤ 16000) ∧ ∀ p, h p = none → P ((setAll σ is (ds.take is.length)).set r (some (.ref p))) (up h p (.lst (ds.drop is.length)))
    | _ => False)
def wpLvs (F : DS → DX) : List Lv → List D → DS → MH → (DS → MH → Prop) → Prop
  | [], [], σ, h, P => P σ h
  | [], _ :: _, _, _, _ => False
  | _ :: _, [], _, _, _ => False
  | l :: ls, d :: ds, σ, h, P => wpLv F l d σ h fun σ1 h1 => wpLvs F ls ds σ1 h1 P
end
mutual
/-- within a handler: fs are the fields of what it caught -/
def wpX (fs : List (Str × D)) (E : DX) : Hx → DS → MH → (D → MH → Prop) → Prop
  | .cst d, _, h, Q => Q d h
  | .var i, σ, h, Q => ∃ d, σ[i]? = some (some d) ∧ Q d h
  | .fld f, _, h, Q => (∀ c h', E c [] h') ∧ ∃ d, fs.lookup f = some d ∧ Q d h
  | .isi _ b, _, h, Q => (∀ c h', E c [] h') ∧ Q (.bl b) h
  | .tup es, σ, h, Q => wpXs fs E es σ h fun ds h1 => Fits ds.length ∧ Q (.tup ds) h1
  | .and a b, σ, h, Q => wpX fs E a σ h fun x h1 => tru x h1 fun k => if k = true then wpX fs E b σ h1 Q else Q x h1
  | .not a, σ, h, Q => wpX fs E a σ h fun x h1 => tru x h1 fun k => Q (.bl (!k)) h1
  | .cmp op a b, σ, h, Q => wpX fs E a σ h fun x h1 => wpX fs E b σ h1 fun y h2 => cop op x y h2 fun k => Q (.bl k) h2
def wpXs (fs : List (Str × D)) (E : DX) : List Hx → DS → MH → (List D → MH → Prop) → Prop
  | [], _, h, Q => Q [] h
  | e :: r, σ, h, Q => wpX fs E e σ h fun x h1 => wpXs fs E r σ h1 fun xs h2 => Q (x :: xs) h2
end
def wpHs (fs : List (Str × D)) : List Hs → En → DS → MH → Prop
  | [], Dn, σ, h => Dn.nx σ h
  | .asg i e :: r, Dn, σ, h => wpX fs (fun _ _ _ => True) e σ h fun d h1 => wpHs fs r Dn (σ.set i (some d)) h1
  | .ret e :: _, Dn, σ, h => wpX fs (fun _ _ _ => True) e σ h Dn.rt
def exAt (Dn : En) (σ : DS) : DX := fun c fs h => Dn.ex c fs σ h
mutual
def wpS : Sm → En → DS → MH → Prop
  | .asg l e, Dn, σ, h => wpE Φ (exAt Dn σ) e σ h fun d h1 => wpLv Φ (exAt Dn) l d σ h1 Dn.nx
  | .aug i op e, Dn, σ, h => ∃ x, σ[i]? = some (some x) ∧ wpE Φ (exAt Dn σ) e σ h fun y h1 => augD op x y h1 fun z h2 => Dn.nx (σ.set i (some z)) h2
  | .augs a i op e, Dn, σ, h => wpE Φ (exAt Dn σ) a σ h fun x h1 => wpE Φ (exAt Dn σ) i σ h1 fun k h2 => ixL x k h2 fun y h3 => wpE Φ (exAt Dn σ) e σ h3 fun z h4 => augD op y z h4 fun u h5 => setD x k u h5 fun h6 => Dn.nx σ h6
  | .ex e, Dn, σ, h => wpE Φ (exAt Dn σ) e σ h fun _ h1 => Dn.nx σ h1
  | .ret e, Dn, σ, h => wpE Φ (exAt Dn σ) e σ h Dn.rt
  | .retN, Dn, _, h => Dn.rt .non h
  | .ifs c a b, Dn, σ, h => wpT Φ (exAt Dn σ) c σ h fun k h1 => if k = true then wpB a Dn σ h1 else wpB b Dn σ h1
  | .for t it b, Dn, σ, h => wpI Φ (exAt Dn σ) it σ h fun J h1 => forGo t J.ok (wpB b) Dn J.its σ h1
  | .whl c b, Dn, σ, h => whlGo (fun σ h P => wpT Φ (exAt Dn σ) c σ h P) (wpB b) Dn σ h
  | .brk, Dn, σ, h => Dn.bk σ h
  | .cnt, Dn, σ, h => Dn.ct σ h
  | .pas, Dn, σ, h => Dn.nx σ h
  | .ded, _, _, _ => False
  | .rai c f e, Dn, σ, h => wpE Φ (exAt Dn σ) e σ h fun d h1 => Dn.ex c [(f, d)] σ h1
  | .try b c i s, Dn, σ, h => wpB b { Dn with ex := fun c' fs σ' h' => if c' = c then (i < σ'.length ∧ fs ≠ []) ∧ wpHs fs s { Dn with nx := fun σ1 h1 => Dn.nx (σ1.set i none) h1, bk := fun σ1 h1 => Dn.bk (σ1.set i none) h1, ct := fun σ1 h1 => Dn.ct (σ1.set i none) h1 } (σ'.set i none) h' else Dn.ex c' fs σ' h' } σ h
def wpB : List Sm → En → DS → MH → Prop
  | [], Dn, σ, h => Dn.nx σ h
  | s :: r, Dn, σ, h => wpS s { Dn with nx := fun σ' h' => wpB r Dn σ' h' } σ h
end
end
/-- a def -/
structure Fn where
  n : Nat
  ar : Nat
  body : List Sm
def wpF (Φ : Fns) (f : Fn) (ds : List D) (h : MH) (Q : D → MH → Prop) (E : DX) : Prop :=
  ds.length = f.ar ∧ wpB Φ f.body ⟨fun _ h' => Q .non h', Q, fun _ _ => False, fun _ _ => False, fun c fs _ h' => E c fs h'⟩ (ds.map some ++ List.replicate (f.n - f.ar) none) h
/-- a whole text's defs, calls so deep -/
def Ph (prog : List Fn) : Nat → Fns
  | 0 => fun _ _ _ _ _ => False
  | d + 1 => fun f ds h Q E => ∃ fn, prog[f]? = some fn ∧ wpF (Ph prog d) fn ds h Q E
end DL
set_option Elab.async false
set_option linter.all false
set_option maxRecDepth 100000
set_option maxHeartbeats 1000000
/-! The D layer, 3: operations by values. -/
namespace DL
open PySem PySem.Spec PyProof.Rows L2

/-- an exception's own dict -/
def RepX (G : Gr) (h : MH) (H : Hp) (c : Nat) (fs : List (Str × D)) (cls : Value) (dd : Option Addr) : Prop :=
  (c < G.nc ∧ cls = .ref (G.cl c)) ∧ ((fs = [] ∧ dd = none) ∨ ∃ a gs, dd = some a ∧ H a = some (.xd gs) ∧ RepF G.K H fs gs ∧ h a = none)

/-- what follows a value -/
def Post (G : Gr) (h : MH) (H : Hp) (R : D → MH → Prop) (Q : VK) : Prop := ∀ d h' v H', R d h' → RepV G.K H' d v → RepH G h' H' → Fm h H h' H' → Q v H'
def lR2 (G : Gr) (w : D → D → MH → (D → MH → Prop) → Prop) : R2 := fun x y H Q => ∃ dx dy h R, RepV G.K H dx x ∧ RepV G.K H dy y ∧ RepH G h H ∧ w dx dy h R ∧ Post G h H R Q
def lC2 (G : Gr) (w : D → D → MH → (Bool → Prop) → Prop) : R2 := fun x y H Q => ∃ dx dy h P, RepV G.K H dx x ∧ RepV G.K H dy y ∧ RepH G h H ∧ w dx dy h P ∧ ∀ k, P k → Q (.bl k) H
def lTr (G : Gr) : V → Hp → (Bool → Hp → Prop) → Prop := fun x H Q => ∃ dx h P, RepV G.K H dx x ∧ RepH G h H ∧ tru dx h P ∧ ∀ k, P k → Q k H
def lBi (G : Gr) (w : List D → MH → (D → MH → Prop) → Prop) : List V → Hp → VK → Prop := fun xs H Q => ∃ ds h R, RepVs G.K H ds xs ∧ RepH G h H ∧ w ds h R ∧ Post G h H R Q
def lMt (G : Gr) (w : D → List D → MH → (D → MH → Prop) → Prop) : V → List V → Hp → VK → Prop := fun x xs H Q => ∃ d ds h R, RepV G.K H d x ∧ RepVs G.K H ds xs ∧ RepH G h H ∧ w d ds h R ∧ Post G h H R Q
def lSl (G : Gr) : V → Option Int → Option Int → Hp → VK → Prop := fun x lo hi H Q => ∃ dx h R, RepV G.K H dx x ∧ RepH G h H ∧ slD dx lo hi h R ∧ Post G h H R Q
def lSet (G : Gr) : V → V → V → Hp → (Hp → Prop) → Prop := fun o i v H Q => ∃ d1 d2 d3 h P, RepV G.K H d1 o ∧ RepV G.K H d2 i ∧ RepV G.K H d3 v ∧ RepH G h H ∧ setD d1 d2 d3 h P ∧ ∀ h' H', P h' → RepH G h' H' → Fm h H h' H' → Q H'

section
variable {G : Gr} {h : MH} {H : Hp} {R : D → MH → Prop} {Q : VK}
theorem Post.here (p : Post G h H R Q) (rh : RepH G h H) {d : D} {v : V} (q : R d h) (r : RepV G.K H d v) : Q v H := p d h v H q r rh Fm.refl
theorem Post.new (p : Post G h H R Q) (rh : RepH G h H) {ds : List D} {vs : List V} (q : al (.lst ds) h R) (r : RepVs G.K H ds vs) {l : Addr} (n : H l = none) : Q (.ref l) (L2.upd H l (.lst vs)) :=
  p _ _ _ _ (q l (rh.free n)) repV_ref (rh.newLst n r) (Fm.new n)
theorem Post.tup (p : Post G h H R Q) (rh : RepH G h H) {ds : List D} {vs : List V} (q : R (.tup ds) h) (r : RepVs G.K H ds vs) {l : Addr} (n : H l = none) : Q (.ref l) (L2.upd H l (.tup vs)) :=
  p _ _ _ _ q (RepV.tupNew n r) (rh.aside n) (Fm.aside n)
theorem Post.wr (p : Post G h H R Q) (rh : RepH G h H) {es ds : List D} {vs : List V} {d : D} {v : V} {l : Addr} (e : h l = some (.lst es)) (q : R d (up h l (.lst ds))) (r : RepVs G.K H ds vs) (rv : RepV G.K H d v) : Q v (L2.upd H l (.lst vs)) := by
  obtain ⟨us, z, _⟩ := rh l _ e
  exact p _ _ _ _ q (rv.mono (pst_wr z trivial)) (rh.wrLst e r) (Fm.write e)
theorem RepH.lst (rh : RepH G h H) {a : Addr} {ds : List D} (e : h a = some (.lst ds)) : ∃ vs, H a = some (.lst vs) ∧ RepVs G.K H ds vs := rh a _ e
theorem RepVs.nil_iff {K : PySem.W.Frag} {ds : List D} {vs : List V} (r : RepVs K H ds vs) : vs = [] ↔ ds = [] := by
  have e := r.length
  rw [← List.length_eq_zero_iff, ← List.length_eq_zero_iff, e]
theorem RepVs.isEmpty {K : PySem.W.Frag} {ds : List D} {vs : List V} (r : RepVs K H ds vs) : vs.isEmpty = ds.isEmpty := by
  cases ds with
  | nil => rw [r.nil_inv] <;> rfl
  | cons d ds => obtain ⟨v, s, rfl, _⟩ := r.cons_inv; rfl
end

section
variable {X : Cx} {G : Gr}
/-- an operation that is known by cases -/
theorem OpR.imp {f : Value → Value → Sem Value} {r r' : R2} (o : OpR X f r) (i : ∀ x y H Q, r' x y H Q → r x y H Q) : OpR X f r' :=
  fun pins s σ H x y v u Q I rx ry q => o pins s σ H x y v u Q I rx ry (i _ _ _ _ q)

theorem mulOk {i j : Int} (m : MulOk i j) : IntMulOk i j := by
  rcases m with m | m | ⟨m1, m2⟩
  · exact CMul.ok (.inl (by omega))
  · exact CMul.ok (.inr (by omega))
  · exact CMulW.ok (wide_mul m1 m2 (by decide) (by decide) (by decide))
theorem op_mulD : OpR X (binaryOp .Mult) (rI MulOk fun i j => .int (i * j)) := opI fun _ _ _ _ _ _ _ hc q => mul_int q (mulOk hc)
theorem op_divD : OpR X (binaryOp .FloorDiv) (rI (fun _ j => DivOk j) fun i j => .int (i / j)) :=
  OpR.imp op_fdivW fun x y H Q ⟨i, j, e1, e2, ⟨c1, c2⟩, q⟩ => ⟨i, j, e1, e2, wide_div (b := 8000) c1 c2 (by decide) (by decide), q⟩

theorem op_addD (hK : X.K = G.K) : OpR X (binaryOp .Add) (lR2 G (bop .Add)) := by
  refine OpR.imp (OpR.or op_add (OpR.or op_add_str (OpR.or op_catA op_cat))) fun x y H Q ⟨dx, dy, h, R, rx, ry, rh, w, p⟩ => ?_
  cases dx with
  | int i => cases dy with
    | int j => rw [rx.int_inv, ry.int_inv]; exact .inl ⟨i, j, rfl, rfl, p.here rh w repV_int⟩
    | _ => exact w.elim
  | str a => cases dy with
    | str b => rw [rx.str_inv, ry.str_inv]; exact .inr (.inl ⟨a, b, rfl, rfl, w.1, p.here rh w.2 repV_str⟩)
    | _ => exact w.elim
  | tup xs => cases dy with
    | tup ys =>
      obtain ⟨a, vs, rfl, sa, ra⟩ := repV_tup.mp rx
      obtain ⟨b, us, rfl, sb, rb⟩ := repV_tup.mp ry
      obtain ⟨w1, w2⟩ := w
      refine .inr (.inr (.inl ⟨a, b, vs, us, rfl, rfl, by rw [hK]; exact sa, by rw [hK]; exact sb, ?_, fun e => ?_, fun _ e => ?_, fun _ _ l n => p.tup rh w2 (ra.append rb) n⟩))
      · rw [ra.length, rb.length]; exact w1
      · rw [ra.nil_iff.mp e, List.nil_append] at w2
        exact p.here rh w2 ry
      · rw [rb.nil_iff.mp e, List.append_nil] at w2
        exact p.here rh w2 rx
    | _ => exact w.elim
  | ref a => cases dy with
    | ref b =>
      rw [rx.ref_inv, ry.ref_inv]
      obtain ⟨xs, ys, e1, e2, z, q⟩ := w
      obtain ⟨vs, g1, r1⟩ := rh.lst e1
      obtain ⟨us, g2, r2⟩ := rh.lst e2
      exact .inr (.inr (.inr ⟨a, b, vs, us, rfl, rfl, g1, g2, by rw [r1.length, r2.length]; exact z, fun l n => p.new rh q (r1.append r2) n⟩))
    | _ => exact w.elim
  | _ => cases dy <;> exact w.elim
theorem op_subD : OpR X (binaryOp .Sub) (lR2 G (bop .Sub)) := by
  refine OpR.imp op_sub fun x y H Q ⟨dx, dy, h, R, rx, ry, rh, w, p⟩ => ?_
  cases dx with
  | int i => cases dy with
    | int j => rw [rx.int_inv, ry.int_inv]; exact ⟨i, j, rfl, rfl, p.here rh w repV_int⟩
    | _ => exact w.elim
  | _ => cases dy <;> exact w.elim
theorem op_fdivD : OpR X (binaryOp .FloorDiv) (lR2 G (bop .FloorDiv)) := by
  refine OpR.imp op_divD fun x y H Q ⟨dx, dy, h, R, rx, ry, rh, w, p⟩ => ?_
  cases dx with
  | int i => cases dy with
    | int j => rw [rx.int_inv, ry.int_inv]; exact ⟨i, j, rfl, rfl, w.1, p.here rh w.2 repV_int⟩
    | _ => exact w.elim
  | _ => cases dy <;> exact w.elim
theorem op_modD : OpR X (binaryOp .Mod) (lR2 G (bop .Mod)) := by
  refine OpR.imp op_mod fun x y H Q ⟨dx, dy, h, R, rx, ry, rh, w, p⟩ => ?_
  cases dx with
  | int i => cases dy with
    | int j => rw [rx.int_inv, ry.int_inv]; exact ⟨i, j, rfl, rfl, w.1, p.here rh w.2 repV_int⟩
    | _ => exact w.elim
  | _ => cases dy <;> exact w.elim
theorem op_powD : OpR X (binaryOp .Pow) (lR2 G (bop .Pow)) := by
  refine OpR.imp op_pow fun x y H Q ⟨dx, dy, h, R, rx, ry, rh, w, p⟩ => ?_
  cases dx with
  | int i => cases dy with
    | int j => rw [rx.int_inv, ry.int_inv]; exact ⟨i, j, rfl, rfl, w.1, p.here rh w.2 repV_int⟩
    | _ => exact w.elim
  | _ => cases dy <;> exact w.elim
end
/-! tuple * int, where the tuple itself or an empty one is handed back -/
theorem tupMulSame (l : Addr) (its : Array Value) (n : Nat) (dd : Option Addr) (sl : Array (Option Value)) (x : Int) (u : Tok)
    (b0 : (decide (x < -(2 ^ 63)) || decide (x ≥ 2 ^ 63)) = false) (b1 : (its.isEmpty || x == 1) = true) :
    Meets (Builtin.«tuple.__mul__» ⟨[.ref l, .int x u], []⟩) (fun _ R s => s.heap.get? l = some { cls := .type "tuple", dict := dd, data := .seq its n, slots := sl } ∧ R (.ok (.ret (Value.ref l))) s) :=
  .of_wp fun prog w A R s h => by
    obtain ⟨hp, g, d, tk, os⟩ := s
    obtain ⟨hl, h⟩ := h
    have f1 := AutoSeq1.idx_int
    wp_walk using wpAny_loadPart' hl
    refine wpAny_ite_false (decide_eq_false (by rw [b0]; exact Bool.false_ne_true)) ?_
    wp_walk using wpAny_loadPart' hl
    exact ⟨_, rfl, h⟩
theorem tupMulNone (l : Addr) (its : Array Value) (n : Nat) (dd : Option Addr) (sl : Array (Option Value)) (x : Int) (u : Tok)
    (b0 : (decide (x < -(2 ^ 63)) || decide (x ≥ 2 ^ 63)) = false) (b1 : (its.isEmpty || x == 1) = false) (b2 : (decide (x ≤ 0) || its.isEmpty) = true) :
    Meets (Builtin.«tuple.__mul__» ⟨[.ref l, .int x u], []⟩) (fun _ R s => s.heap.get? l = some { cls := .type "tuple", dict := dd, data := .seq its n, slots := sl } ∧
      R (.ok (.ret (Value.ref s.heap.objs.size))) { s with heap := s.heap.push { cls := Value.type "tuple", data := Data.seq #[] }, toks := s.toks }) :=
  .of_wp fun prog w A R s h => by
    obtain ⟨hp, g, d, tk, os⟩ := s
    obtain ⟨hl, h⟩ := h
    have f1 := AutoSeq1.idx_int
    wp_walk using wpAny_loadPart' hl
    repeat (first
      | (refine wpAny_ite_false (decide_eq_false (by rw [b0]; exact Bool.false_ne_true)) ?_; wp_walk using wpAny_loadPart' hl)
      | (refine wpAny_ite_false (decide_eq_false (by rw [b1]; exact Bool.false_ne_true)) ?_; wp_walk using wpAny_loadPart' hl)
      | (refine wpAny_ite_true (decide_eq_true b2) ?_; wp_walk using wpAny_loadPart' hl))
    exact ⟨_, rfl, h⟩

section
variable {X : Cx} {G : Gr}
theorem op_repT0 : OpR X (binaryOp .Mult) (fun x y H Q => ∃ l k xs, x = .ref l ∧ y = .int k ∧ SqT X.K H l xs ∧ -(2 ^ 63) ≤ k ∧ k < 2 ^ 63 ∧ ((xs = [] ∨ k = 1) ∧ Q (.ref l) H ∨ (xs ≠ [] ∧ k ≤ 0 ∧ ∀ p, H p = none → Q (.ref p) (L2.upd H p (.tup []))))) := by
  intro pins s σ H x y v u Q I rx ry hq
  obtain ⟨l, k, xs, rfl, rfl, hT, h1, h2, q⟩ := hq
  cases rx
  obtain ⟨t, rfl⟩ := ry
  obtain ⟨its, r, ⟨⟨cls, dd, data, sl⟩, ho, hc, n, hd⟩, hs⟩ := I.tuple hT
  simp only at hc hd
  subst hc hd
  have hle : its.length = xs.length := r.length.symm
  have b0 : (decide (k < -(2 ^ 63)) || decide (k ≥ 2 ^ 63)) = false := by
    rw [decide_eq_false (by omega), decide_eq_false (by omega)] <;> rfl
  rcases q with ⟨c, q⟩ | ⟨c1, c2, q⟩
  · have b1 : (its.toArray.isEmpty || k == 1) = true := by
      rcases c with c | c
      · have : its = [] := List.eq_nil_of_length_eq_zero (by rw [hle, c]; rfl)
        rw [this]; rfl
      · rw [c]; simp
    refine wpAny_binaryOp_repeat_ref (T := "tuple") (U := "int") (by decide) ⟨_, ho, rfl⟩ (fun s' => typeIs_int s' k t) noFill_tuple_mul F.fills_int_mul F.slot_int_rmul repeat_tuple F.slot_int_index.lookup
      (call_meets F.slot_int_rmul (typeIs_int s k t) F.entry_int_rmul (F.args_int_rmul_2 _ _) (int_rmul_tuple k t l its.toArray n dd sl)
        ⟨ho, rfl, ⟨_, ho, rfl⟩, call_meets F.slot_tuple_mul ⟨_, ho, rfl⟩ F.entry_tuple_mul (F.args_tuple_mul_2 _ _) (tupMulSame l its.toArray n dd sl k t b0 b1) ⟨ho, ?_⟩⟩)
    exact ⟨.ref l, H, I, rfl, q⟩
  · have hn : its ≠ [] := fun e => c1 (List.eq_nil_of_length_eq_zero (by rw [← hle, e]; rfl))
    have b1 : (its.toArray.isEmpty || k == 1) = false := by
      have : its.toArray.isEmpty = false := by cases its with
        | nil => exact absurd rfl hn
        | cons a b => rfl
      rw [this, Bool.false_or]
      exact beq_eq_false_iff_ne.mpr (by omega)
    refine wpAny_binaryOp_repeat_ref (T := "tuple") (U := "int") (by decide) ⟨_, ho, rfl⟩ (fun s' => typeIs_int s' k t) noFill_tuple_mul F.fills_int_mul F.slot_int_rmul repeat_tuple F.slot_int_index.lookup
      (call_meets F.slot_int_rmul (typeIs_int s k t) F.entry_int_rmul (F.args_int_rmul_2 _ _) (int_rmul_tuple k t l its.toArray n dd sl)
        ⟨ho, rfl, ⟨_, ho, rfl⟩, call_meets F.slot_tuple_mul ⟨_, ho, rfl⟩ F.entry_tuple_mul (F.args_tuple_mul_2 _ _) (tupMulNone l its.toArray n dd sl k t b0 b1 (by rw [decide_eq_true c2]; rfl)) ⟨ho, ?_⟩⟩)
    refine ⟨.ref s.heap.objs.size, _, I.laid (t' := s.toks) (o := .tup []) (fun b ob z => Heap.get?_push_of_some _ z) (Nat.le_refl _) ?_, rfl, q _ (I.hok.fresh (Nat.le_refl _))⟩
    exact ⟨Nat.zero_le _, [], .nil, IsTup.new _ _⟩
theorem op_strMul : OpR X (binaryOp .Mult) (fun x y H Q => ∃ (z : Str) (k : Int), x = .str z ∧ y = .int k ∧ (k ≤ 1000 ∧ z.length ≤ 1000 ∧ -(2 ^ 63) ≤ k) ∧ Q (.str (Txt.mul z k)) H) := by
  intro pins s σ H x y v u Q I rx ry ⟨z, k, ex, ey, ⟨h1, h2, h3⟩, q⟩
  subst ex ey
  obtain ⟨t, rfl⟩ := (show ∃ t, v = Value.str z t from rx)
  obtain ⟨t2, rfl⟩ := (show ∃ t, u = Value.int k t from ry)
  refine SB.mul ⟨?_, fun a b => ?_, fun a b => ?_⟩ fun t' k' => ⟨.str _, H, I.tok k', ⟨t', rfl⟩, q⟩
  · simp only [Bool.or_eq_false_iff, decide_eq_false_iff_not]
    omega
  · have h4 : (z.length : Int) * k ≤ 1000 * 1000 := Int.mul_le_mul (by omega) h1 (by omega) (by decide)
    have : (z.length : Int) ≤ (2 ^ 63 - 1) / k := Int.le_ediv_of_mul_le (by omega) (by omega)
    omega
  · unfold Builtin.Str.tooLong
    have : z.length * k.toNat ≤ 1000 * 1000 := Nat.mul_le_mul h2 (by omega)
    simp [sizeLine_eq]
    omega
theorem op_mulAllD (hK : X.K = G.K) : OpR X (binaryOp .Mult) (lR2 G (bop .Mult)) := by
  refine OpR.imp (OpR.or op_strMul (OpR.or op_mulD (OpR.or op_rep (OpR.or op_repT op_repT0)))) fun x y H Q ⟨dx, dy, h, R, rx, ry, rh, w, p⟩ => ?_
  cases dx with
  | int i => cases dy with
    | int j => rw [rx.int_inv, ry.int_inv]; exact .inr (.inl ⟨i, j, rfl, rfl, w.1, p.here rh w.2 repV_int⟩)
    | _ => exact w.elim
  | ref a => cases dy with
    | int k =>
      rw [rx.ref_inv, ry.int_inv]
      obtain ⟨xs, e1, z, f, q⟩ := w
      obtain ⟨vs, g1, r1⟩ := rh.lst e1
      exact .inr (.inr (.inl ⟨a, k, vs, rfl, rfl, g1, z.1, z.2, by rw [r1.length]; exact f, fun l n => p.new rh q (r1.flat _) n⟩))
    | _ => exact w.elim
  | tup ds => cases dy with
    | int k =>
      obtain ⟨a, vs, rfl, sa, ra⟩ := repV_tup.mp rx
      rw [ry.int_inv]
      obtain ⟨z, f, q⟩ := w
      by_cases c0 : vs = [] ∨ k = 1
      · refine .inr (.inr (.inr (.inr ⟨a, k, vs, rfl, rfl, by rw [hK]; exact sa, z.1, z.2, .inl ⟨c0, ?_⟩⟩)))
        have e : (List.replicate k.toNat ds).flatten = ds := by
          rcases c0 with c | c
          · rw [ra.nil_iff.mp c]; simp
          · rw [c]; simp
        rw [e] at q
        exact p.here rh q rx
      · by_cases c1 : k ≤ 0
        · refine .inr (.inr (.inr (.inr ⟨a, k, vs, rfl, rfl, by rw [hK]; exact sa, z.1, z.2, .inr ⟨fun e => c0 (.inl e), c1, fun l n => ?_⟩⟩)))
          have e : (List.replicate k.toNat ds).flatten = [] := by rw [show k.toNat = 0 from by omega] <;> rfl
          rw [e] at q
          exact p.tup rh q repVs_nil n
        · exact .inr (.inr (.inr (.inl ⟨a, k, vs, rfl, rfl, by rw [hK]; exact sa, fun e => c0 (.inl e), by omega, f.1, by rw [ra.length]; exact f.2, fun l n => p.tup rh q (ra.flat _) n⟩)))
    | _ => exact w.elim
  | str z => cases dy with
    | int k => rw [rx.str_inv, ry.int_inv]; exact .inl ⟨z, k, rfl, rfl, w.1, p.here rh w.2 repV_str⟩
    | _ => exact w.elim
  | _ => cases dy <;> exact w.elim
theorem op_binD (hK : X.K = G.K) (op : Operator) : OpR X (binaryOp op) (lR2 G (bop op)) := by
  cases op with
  | Add => exact op_addD hK
  | Sub => exact op_subD
  | Mult => exact op_mulAllD hK
  | FloorDiv => exact op_fdivD
  | Mod => exact op_modD
  | Pow => exact op_powD
  | _ =>
    intro pins s σ H x y v u Q I rx ry ⟨dx, dy, h, R, _, _, _, w, _⟩
    cases dx <;> cases dy <;> exact w.elim
end
end DL
set_option Elab.async false
set_option linter.all false
set_option maxRecDepth 100000
set_option maxHeartbeats 1000000
/-! The D layer, 4: data, comparisons, truth, subscripts, slices, stores. -/
namespace DL
open PySem PySem.Spec PyProof.Rows L2

structure Ok (X : Cx) (G : Gr) : Prop where
  k : X.K = G.K
  nd : X.N.Nodup
  gd : X.A.guards = some []
  hu : X.A.units + 100 < cLine
  sy : ∃ o, X.base.get? sysModules = some o ∧ o.cls = .type "dict"

section
variable {X : Cx} {G : Gr} {pins : List (Addr × Obj)} {σ : L2.St} {H : Hp} {h : MH} {s : Shared}
theorem readsAll_of {P : D → PyData → Prop} {hp : Heap} : ∀ {ds : List D} {ts : List PyData} {vs : List V} {us : List Value},
    ts.length = ds.length → RepVs G.K H ds vs → Vals vs us →
    (∀ (i : Nat) d t v u, ds[i]? = some d → ts[i]? = some t → RepV G.K H d v → RelV v u → ∃ as, Reads hp u t as ∧ sysModules ∉ as) → ∃ as, ReadsAll hp us ts as ∧ sysModules ∉ as
  | [], ts, vs, us, hl, r, rv, _ => by
    rw [r.nil_inv] at rv
    cases rv
    have : ts = [] := List.eq_nil_of_length_eq_zero hl
    subst this
    exact ⟨[], .nil, by simp⟩
  | d :: ds, [], vs, us, hl, r, rv, _ => by simp at hl
  | d :: ds, t :: ts, vs, us, hl, r, rv, f => by
    obtain ⟨v, vr, rfl, r1, r2⟩ := r.cons_inv
    cases rv with
    | cons q1 q2 =>
      obtain ⟨as, a1, a2⟩ := f 0 d t v _ rfl rfl r1 q1
      obtain ⟨bs, b1, b2⟩ := readsAll_of (P := P) (ds := ds) (ts := ts) (by simpa using hl) r2 q2 fun i d t v u e1 e2 => f (i + 1) d t v u (by simpa using e1) (by simpa using e2)
      exact ⟨as ++ bs, .cons a1 b1, by simp [a2, b2]⟩
theorem Inv.noSys (I : Inv X pins σ H s) (ok : Ok X G) {a : Addr} {o : Obj} (e : s.heap.get? a = some o) (c : o.cls = .type "list") : sysModules ≠ a := fun z => by
  obtain ⟨ob, e1, e2⟩ := ok.sy
  have := I.bk _ _ e1
  rw [z, e] at this
  cases this
  rw [c] at e2
  exact absurd e2 (by decide)
theorem den_reads (I : Inv X pins σ H s) (ok : Ok X G) (rh : RepH G h H) {d : D} {t : PyData} (q : Den h d t) : ∀ {v : V} {u : Value}, RepV G.K H d v → RelV v u → ∃ as, Reads s.heap u t as ∧ sysModules ∉ as := by
  induction q with
  | non => intro v u r rv; rw [r.non_inv] at rv; cases rv; exact ⟨_, .none, by simp⟩
  | bl b => intro v u r rv; rw [r.bl_inv] at rv; cases rv; exact ⟨_, .bool b, by simp⟩
  | int i => intro v u r rv; rw [r.int_inv] at rv; obtain ⟨tk, rfl⟩ := rv; exact ⟨_, .int i tk, by simp⟩
  | str x => intro v u r rv; rw [r.str_inv] at rv; obtain ⟨tk, rfl⟩ := rv; exact ⟨_, .str x tk, by simp⟩
  | @tup ds ts hl hs ih =>
    intro v u r rv
    obtain ⟨a, vs, rfl, sq, rs⟩ := repV_tup.mp r
    cases rv
    obtain ⟨its, r1, ⟨o, ho, hc, n, hd⟩, _⟩ := I.tuple (by rw [ok.k]; exact sq)
    obtain ⟨as, a1, a2⟩ := readsAll_of (P := fun _ _ => True) hl rs r1 fun i d t v u e1 e2 => ih i d t e1 e2
    exact ⟨_, .tuple ho hc hd (by simpa using a1), a2⟩
  | @lst a ds ts ha hl hs ih =>
    intro v u r rv
    rw [r.ref_inv] at rv
    cases rv
    obtain ⟨vs, g, rs⟩ := rh.lst ha
    obtain ⟨z, its, n, r1, e⟩ := I.hok a _ g
    obtain ⟨as, a1, a2⟩ := readsAll_of (P := fun _ _ => True) hl rs r1 fun i d t v u e1 e2 => ih i d t e1 e2
    exact ⟨_, .list e rfl rfl (by simpa using a1), by simp [a2, Inv.noSys I ok e rfl]⟩
  | @dct0 a ha =>
    intro v u r rv
    rw [r.ref_inv] at rv
    cases rv
    obtain ⟨ks, g, rs⟩ := rh a _ ha
    have e0 : ks = [] := rs
    subst e0
    obtain ⟨z, ns, vs, r1, o, es, ep, ho, hx, hd, _, hes, _⟩ := I.hok a _ g
    have ev : vs = [] := by cases r1; rfl
    subst ev
    have ee : es = #[] := by
      have : es.toList = [] := by
        have z2 := hes
        generalize es.toList = l at z2
        cases z2
        rfl
      exact Array.toList_inj.mp (by simpa using this)
    subst ee
    exact ⟨_, .dict (kvs := []) ho hx.1 hd .nil .nil, by simpa using (beq_eq_false_iff_ne.mp ns).symm⟩
end

section
variable {X : Cx} {G : Gr}
/-- ==, != -/
theorem flatToV {K : PySem.W.Frag} {H : Hp} {d : D} {v : V} (f : flat d = true) (r : RepV K H d v) : v = toV d ∧ flatV v = true := by
  cases d with
  | non => rw [r.non_inv]; exact ⟨rfl, rfl⟩
  | bl b => rw [r.bl_inv]; exact ⟨rfl, rfl⟩
  | int b => rw [r.int_inv]; exact ⟨rfl, rfl⟩
  | str b => rw [r.str_inv]; exact ⟨rfl, rfl⟩
  | _ => exact absurd (show false = true from f) Bool.false_ne_true
theorem flatsToV {K : PySem.W.Frag} {H : Hp} : ∀ {ds : List D} {vs : List V}, ds.all flat = true → RepVs K H ds vs → vs = ds.map toV ∧ vs.all flatV = true
  | [], vs, _, r => by rw [r.nil_inv]; exact ⟨rfl, rfl⟩
  | d :: ds, vs, f, r => by
    obtain ⟨v, vr, rfl, r1, r2⟩ := r.cons_inv
    rw [List.all_cons, Bool.and_eq_true] at f
    obtain ⟨e1, f1⟩ := flatToV f.1 r1
    obtain ⟨e2, f2⟩ := flatsToV f.2 r2
    exact ⟨by rw [e1, e2]; rfl, by rw [List.all_cons, f1, f2]; rfl⟩
theorem inV_eq (x : D) (ys : List D) : inV (toV x) (ys.map toV) = inD x ys := by
  unfold inV inD
  rw [List.any_map]
  rfl
theorem op_eqDD (ok : Ok X G) (neg : Bool) : OpR X (compareOp (if neg then .NotEq else .Eq)) (lC2 G fun x y h P => eqD x y h fun k => P (if neg then !k else k)) := by
  intro pins s σ H x y v u Q I rx ry hq
  obtain ⟨dx, dy, h, P, r1, r2, rh, w, p⟩ := hq
  have fin : ∀ (a b : V) (k : Bool), x = a → y = b → scal a b = true → decide (a = b) = k → P (if neg then !k else k) → wpAny (model X.prog X.w) X.A (compareOp (if neg then .NotEq else .Eq) v u) (EP X pins σ Q) X.xe s := by
    intro a b k ea eb sc ek q
    subst ea eb
    cases neg with
    | true => exact op_ne pins s σ H x y v u Q I rx ry ⟨sc, by rw [ek]; exact p _ q⟩
    | false => exact op_eq pins s σ H x y v u Q I rx ry ⟨sc, by rw [ek]; exact p _ q⟩
  have deep : deepEq dx dy h (fun k => P (if neg then !k else k)) → wpAny (model X.prog X.w) X.A (compareOp (if neg then .NotEq else .Eq) v u) (EP X pins σ Q) X.xe s := by
    rintro ⟨t, t2, e1, e2, s1, s2, q⟩
    obtain ⟨as, a1, _⟩ := den_reads I ok rh e1 r1 rx
    obtain ⟨bs, b1, _⟩ := den_reads I ok rh e2 r2 ry
    have hu : X.A.units + 64 < cLine := by have := ok.hu; omega
    cases neg with
    | true => exact SeqAt.compareNe_shaped a1 b1 s1 s2 hu ⟨.bl _, H, I, rfl, p _ q⟩
    | false => exact SeqAt.compareEq_shaped a1 b1 s1 s2 hu ⟨.bl _, H, I, rfl, p _ q⟩
  cases dx with
  | int i => cases dy with
    | int j => exact fin _ _ _ r1.int_inv r2.int_inv rfl (by simp) w
    | _ => exact deep w
  | str i => cases dy with
    | str j => exact fin _ _ _ r1.str_inv r2.str_inv rfl (by simp) w
    | _ => exact deep w
  | non => cases dy with
    | non => exact fin _ _ _ r1.non_inv r2.non_inv rfl (by simp) w
    | _ => exact deep w
  | bl i => cases dy with
    | bl j => exact fin _ _ _ r1.bl_inv r2.bl_inv rfl (by simp) w
    | _ => exact deep w
  | ref i => cases dy with
    | ref j =>
      rcases w with w | ⟨xs, ys, e1, e2, hn, q⟩
      · exact deep w
      · obtain ⟨vs, g1, w1⟩ := (show ∃ vs, H i = some (.lst vs) ∧ RepVs G.K H xs vs from rh i _ e1)
        obtain ⟨us, g2, w2⟩ := (show ∃ vs, H j = some (.lst vs) ∧ RepVs G.K H ys vs from rh j _ e2)
        rw [r1.ref_inv] at rx
        rw [r2.ref_inv] at ry
        cases rx
        cases ry
        obtain ⟨its, v1, p1, _⟩ := I.list (.of g1)
        obtain ⟨its2, v2, p2, _⟩ := I.list (.of g2)
        have hs : (its.toArray.size != its2.toArray.size) = true := by
          have z1 := v1.length
          have z2 := v2.length
          rw [w1.length] at z1
          rw [w2.length] at z2
          refine bne_iff_ne.mpr ?_
          simp only [List.size_toArray]
          omega
        have hu : X.A.units < cLine := by have := ok.hu; omega
        cases neg with
        | true => exact SeqAt.RcNeAt.lists_lengths p1.isList p2.isList hs hu X.prog X.w X.xe _ ⟨.bl _, H, I, rfl, p _ q⟩
        | false => exact SeqAt.RcAt.lists_lengths p1.isList p2.isList hs hu X.prog X.w X.xe _ ⟨.bl _, H, I, rfl, p _ q⟩
    | _ => exact deep w
  | _ => cases dy <;> exact deep w
theorem op_eqAllD (ok : Ok X G) : OpR X (compareOp .Eq) (lC2 G (cop .Eq)) := op_eqDD ok false
theorem op_neAllD (ok : Ok X G) : OpR X (compareOp .NotEq) (lC2 G (cop .NotEq)) := op_eqDD ok true
theorem ordD {op : CmpOp} {g : Int → Int → Bool} (o : OpR X (compareOp op) (rI0 fun i j => .bl (g i j))) (hc : ∀ x y h P, cop op x y h P → ∃ i j, x = .int i ∧ y = .int j ∧ P (g i j)) : OpR X (compareOp op) (lC2 G (cop op)) := by
  refine OpR.imp o fun x y H Q ⟨dx, dy, h, P, r1, r2, rh, w, p⟩ => ?_
  obtain ⟨i, j, rfl, rfl, q⟩ := hc _ _ _ _ w
  rw [r1.int_inv, r2.int_inv]
  exact ⟨i, j, rfl, rfl, p _ q⟩
theorem op_isD : OpR X (compareOp .Is) (lC2 G (cop .Is)) := by
  refine OpR.imp (OpR.or op_isN op_isBl) fun x y H Q ⟨dx, dy, h, P, r1, r2, rh, w, p⟩ => ?_
  cases dy with
  | non =>
    rw [r2.non_inv]
    refine .inl ⟨rfl, ?_⟩
    cases dx with
    | non => rw [r1.non_inv]; exact p _ w
    | bl b => rw [r1.bl_inv]; exact p _ w
    | int b => rw [r1.int_inv]; exact p _ w
    | str b => rw [r1.str_inv]; exact p _ w
    | ref b => rw [r1.ref_inv]; exact p _ w
    | tup b => obtain ⟨a, vs, e, _⟩ := repV_tup.mp r1; rw [e]; exact p _ w
    | scr b => obtain ⟨a, vs, e, _⟩ := repV_scr.mp r1; rw [e]; exact p _ w
  | bl b => cases dx with
    | bl a => rw [r1.bl_inv, r2.bl_inv]; exact .inr ⟨a, b, rfl, rfl, p _ w⟩
    | _ => exact w.elim
  | _ => cases dx <;> exact w.elim
theorem op_isnotD : OpR X (compareOp .IsNot) (lC2 G (cop .IsNot)) := by
  refine OpR.imp (OpR.or op_notN op_notBl) fun x y H Q ⟨dx, dy, h, P, r1, r2, rh, w, p⟩ => ?_
  cases dy with
  | non =>
    rw [r2.non_inv]
    refine .inl ⟨rfl, ?_⟩
    cases dx with
    | non => rw [r1.non_inv]; exact p _ w
    | bl b => rw [r1.bl_inv]; exact p _ w
    | int b => rw [r1.int_inv]; exact p _ w
    | str b => rw [r1.str_inv]; exact p _ w
    | ref b => rw [r1.ref_inv]; exact p _ w
    | tup b => obtain ⟨a, vs, e, _⟩ := repV_tup.mp r1; rw [e]; exact p _ w
    | scr b => obtain ⟨a, vs, e, _⟩ := repV_scr.mp r1; rw [e]; exact p _ w
  | bl b => cases dx with
    | bl a => rw [r1.bl_inv, r2.bl_inv]; exact .inr ⟨a, b, rfl, rfl, p _ w⟩
    | _ => exact w.elim
  | _ => cases dx <;> exact w.elim
end

/-! ### dicts -/
section
variable {K : PySem.W.Frag} {H : Hp}
theorem RepF.look {k : Key} : ∀ {kvs : List (Key × D)} {ks : List (Key × V)}, RepF K H kvs ks → ∀ {d : D}, getK kvs k = some d → ∃ v, valV ks k = some v ∧ RepV K H d v
  | [], _, _, d, e => by simp [getK] at e
  | (k', x) :: r, ks, q, d, e => by
    obtain ⟨v, s, rfl, r1, r2⟩ := q
    unfold getK at e
    unfold valV
    rw [List.find?_cons] at e ⊢
    by_cases z : k' = k
    · rw [decide_eq_true z] at e ⊢
      simp only [Option.map_some, Option.some.injEq] at e ⊢
      subst e
      exact ⟨v, rfl, r1⟩
    · rw [decide_eq_false z] at e ⊢
      exact RepF.look r2 e
theorem RepF.lookN {k : Key} : ∀ {kvs : List (Key × D)} {ks : List (Key × V)}, RepF K H kvs ks → getK kvs k = none → valV ks k = none
  | [], _, q, e => by rw [show _ = [] from q] <;> rfl
  | (k', x) :: r, ks, q, e => by
    obtain ⟨v, s, rfl, r1, r2⟩ := q
    unfold getK at e
    unfold valV
    rw [List.find?_cons] at e ⊢
    by_cases z : k' = k
    · rw [decide_eq_true z] at e
      simp at e
    · rw [decide_eq_false z] at e ⊢
      exact RepF.lookN r2 e
theorem RepF.any {k : Key} : ∀ {kvs : List (Key × D)} {ks : List (Key × V)}, RepF K H kvs ks → (ks.any fun kv => decide (kv.1 = k)) = (kvs.any fun kv => decide (kv.1 = k))
  | [], _, q => by rw [show _ = [] from q] <;> rfl
  | (k', x) :: r, ks, q => by
    obtain ⟨v, s, rfl, r1, r2⟩ := q
    rw [List.any_cons, List.any_cons, RepF.any r2]
theorem RepF.snoc {κ : Type} {k : κ} {d : D} {v : V} (rv : RepV K H d v) : ∀ {kvs : List (κ × D)} {ks : List (κ × V)}, RepF K H kvs ks → RepF K H (kvs ++ [(k, d)]) (ks ++ [(k, v)])
  | [], _, q => by rw [show _ = [] from q]; exact ⟨v, [], rfl, rv, rfl⟩
  | (k', x) :: r, ks, q => by
    obtain ⟨u, s, rfl, r1, r2⟩ := q
    exact ⟨u, _, rfl, r1, RepF.snoc rv r2⟩
theorem RepF.mapPut {k : Key} {d : D} {v : V} (rv : RepV K H d v) : ∀ {kvs : List (Key × D)} {ks : List (Key × V)}, RepF K H kvs ks →
    RepF K H (kvs.map fun kv => if kv.1 = k then (kv.1, d) else kv) (ks.map fun kv => if kv.1 = k then (kv.1, v) else kv)
  | [], _, q => by rw [show _ = [] from q]; exact rfl
  | (k', x) :: r, ks, q => by
    obtain ⟨u, s, rfl, r1, r2⟩ := q
    rw [List.map_cons, List.map_cons]
    by_cases z : k' = k
    · rw [if_pos z, if_pos z]; exact ⟨v, _, rfl, rv, RepF.mapPut rv r2⟩
    · rw [if_neg z, if_neg z]; exact ⟨u, _, rfl, r1, RepF.mapPut rv r2⟩
theorem RepF.put {k : Key} {d : D} {v : V} {kvs : List (Key × D)} {ks : List (Key × V)} (q : RepF K H kvs ks) (rv : RepV K H d v) : RepF K H (putK kvs k d) (L2.putK ks k v) := by
  unfold putK L2.putK
  rw [q.any]
  by_cases z : (kvs.any fun kv => decide (kv.1 = k)) = true
  · rw [if_pos z, if_pos z]; exact q.mapPut rv
  · rw [if_neg z, if_neg z]; exact q.snoc rv
theorem keyD_rep {d : D} {k : Key} {v : V} (e : keyD d = some k) (r : RepV K H d v) : v = kV k := by
  cases d with
  | int i => rw [r.int_inv]; cases e; rfl
  | str i => rw [r.str_inv]; cases e; rfl
  | _ => cases e
end

section
variable {X : Cx} {G : Gr}
theorem in_dictR (hu : X.A.units + 1 < cLine) (neg : Bool) : OpR X (compareOp (if neg then .NotIn else .In)) (fun x y H Q => ∃ a o, y = .ref a ∧ DGet H a x o ∧ Q (.bl (if neg then !o.isSome else o.isSome)) H) := by
  intro pins s σ H x y v u Q I rx ry ⟨a, o, e, g, q⟩
  subst e
  cases ry
  cases neg with
  | true => exact d_notIn hu I g rx fun s3 I3 => ⟨.bl _, H, I3, rfl, q⟩
  | false => exact d_in hu I g rx fun s3 I3 => ⟨.bl _, H, I3, rfl, q⟩
theorem RepH.dct {h : MH} {H : Hp} (rh : RepH G h H) {a : Addr} {kvs : List (Key × D)} (e : h a = some (.dct kvs)) : ∃ ks, H a = some (.dK ks) ∧ RepF G.K H kvs ks := rh a _ e
theorem op_inDD (ok : Ok X G) (neg : Bool) : OpR X (compareOp (if neg then .NotIn else .In)) (lC2 G fun x y h P => inOp x y h fun k => P (if neg then !k else k)) := by
  have hu : X.A.units + 1 < cLine := by have := ok.hu; omega
  intro pins s σ H x y v u Q I rx ry hq
  obtain ⟨dx, dy, h, P, r1, r2, rh, w, p⟩ := hq
  have seq : ∀ (q : Addr) (ds : List D) (vs : List V), y = .ref q → (SqL X.K H q vs ∨ SqT X.K H q vs) → RepVs G.K H ds vs → flat dx = true → ds.all flat = true → P (if neg then !(inD dx ds) else inD dx ds) →
      wpAny (model X.prog X.w) X.A (compareOp (if neg then .NotIn else .In) v u) (EP X pins σ Q) X.xe s := by
    intro q ds vs ey sq rs f1 f2 z
    obtain ⟨e1, g1⟩ := flatToV f1 r1
    obtain ⟨e2, g2⟩ := flatsToV f2 rs
    have e3 : inV x vs = inD dx ds := by rw [e1, e2, inV_eq]
    cases neg with
    | true => exact op_notIn_seq pins s σ H x y v u Q I rx ry ⟨q, vs, ey, sq, g1, g2, by rw [e3]; exact p _ z⟩
    | false => exact op_in_seq pins s σ H x y v u Q I rx ry ⟨q, vs, ey, sq, g1, g2, by rw [e3]; exact p _ z⟩
  have tup : ∀ ys, dy = .tup ys → flat dx = true → ys.all flat = true → P (if neg then !(inD dx ys) else inD dx ys) →
      wpAny (model X.prog X.w) X.A (compareOp (if neg then .NotIn else .In) v u) (EP X pins σ Q) X.xe s := by
    intro ys e f1 f2 z
    subst e
    obtain ⟨a, vs, ea, sq, rs⟩ := repV_tup.mp r2
    exact seq a ys vs ea (.inr (by rw [ok.k]; exact sq)) rs f1 f2 z
  have ref : ∀ a, dy = .ref a → ((∃ ys, h a = some (.lst ys) ∧ flat dx = true ∧ ys.all flat = true ∧ P (if neg then !(inD dx ys) else inD dx ys)) ∨ (∃ kvs k, h a = some (.dct kvs) ∧ keyD dx = some k ∧ P (if neg then !(getK kvs k).isSome else (getK kvs k).isSome)) ∨ deepIn dx a h fun k => P (if neg then !k else k)) →
      wpAny (model X.prog X.w) X.A (compareOp (if neg then .NotIn else .In) v u) (EP X pins σ Q) X.xe s := by
    intro a e z
    subst e
    rcases z with ⟨ys, e1, f1, f2, z⟩ | ⟨kvs, k, e1, ek, z⟩ | ⟨t, us, e1, e2, s1, s2, z⟩
    · obtain ⟨vs, g, rs⟩ := rh.lst e1
      exact seq a ys vs r2.ref_inv (.inl (SqL.of g)) rs f1 f2 z
    · obtain ⟨ks, g, rk⟩ := rh.dct e1
      have ex := keyD_rep ek r1
      refine in_dictR hu neg pins s σ H x y v u Q I rx ry ⟨a, valV ks k, r2.ref_inv, by rw [ex]; exact DGet.k g, ?_⟩
      have es : (valV ks k).isSome = (getK kvs k).isSome := by
        cases q : getK kvs k with
        | none => rw [rk.lookN q] <;> rfl
        | some d => obtain ⟨v', q', _⟩ := rk.look q; rw [q'] <;> rfl
      rw [es]
      exact p _ z
    · obtain ⟨as, a1, _⟩ := den_reads I ok rh e1 r1 rx
      obtain ⟨bs, b1, _⟩ := den_reads I ok rh e2 r2 ry
      have hr := room_in_shaped (xs := us) s1 (by have := ok.hu; omega : X.A.units + 65 < cLine)
      cases neg with
      | true => exact SeqAt.notIn_list_reads b1 a1 (SeqAt.canLay_of_shaped s2) (SeqAt.canLay_of_shaped s1) hr ⟨.bl _, H, I, rfl, p _ z⟩
      | false => exact SeqAt.in_list_reads b1 a1 (SeqAt.canLay_of_shaped s2) (SeqAt.canLay_of_shaped s1) hr ⟨.bl _, H, I, rfl, p _ z⟩
  cases dy with
  | str b => cases dx with
    | str a =>
      cases neg with
      | true => exact op_notIn_str pins s σ H x y v u Q I rx ry ⟨a, b, r1.str_inv, r2.str_inv, p _ w⟩
      | false => exact op_in_str pins s σ H x y v u Q I rx ry ⟨a, b, r1.str_inv, r2.str_inv, p _ w⟩
    | _ => exact w.elim
  | tup ys => cases dx <;> exact tup ys rfl w.1 w.2.1 w.2.2
  | ref a => cases dx <;> exact ref a rfl w
  | _ => cases dx <;> exact w.elim
theorem op_cmpD (ok : Ok X G) (op : CmpOp) : OpR X (compareOp op) (lC2 G (cop op)) := by
  cases op with
  | Eq => exact op_eqAllD ok
  | NotEq => exact op_neAllD ok
  | Lt => exact ordD op_lt fun x y h P q => by cases x <;> cases y <;> first | exact ⟨_, _, rfl, rfl, q⟩ | exact (show False from q).elim
  | LtE => exact ordD op_le fun x y h P q => by cases x <;> cases y <;> first | exact ⟨_, _, rfl, rfl, q⟩ | exact (show False from q).elim
  | Gt => exact ordD op_gt fun x y h P q => by cases x <;> cases y <;> first | exact ⟨_, _, rfl, rfl, q⟩ | exact (show False from q).elim
  | GtE => exact ordD op_ge fun x y h P q => by cases x <;> cases y <;> first | exact ⟨_, _, rfl, rfl, q⟩ | exact (show False from q).elim
  | Is => exact op_isD
  | IsNot => exact op_isnotD
  | In => exact op_inDD ok false
  | NotIn => exact op_inDD ok true
/-- truth -/
theorem tru_of {h : MH} {H : Hp} (hK : X.K = G.K) {d : D} {v : V} {P : Bool → Prop} (r : RepV G.K H d v) (rh : RepH G h H) (q : tru d h P) : ∃ k, TruV X.K v H k ∧ P k := by
  cases d with
  | non => rw [r.non_inv]; exact ⟨_, rfl, q⟩
  | bl b => rw [r.bl_inv]; exact ⟨_, rfl, q⟩
  | int b => rw [r.int_inv]; exact ⟨_, rfl, q⟩
  | str b => rw [r.str_inv]; exact ⟨_, ⟨q.1, rfl⟩, q.2⟩
  | tup ds =>
    obtain ⟨a, vs, rfl, sq, rs⟩ := repV_tup.mp r
    exact ⟨_, .inr (.inl ⟨vs, by rw [hK]; exact sq, rfl⟩), by rw [rs.isEmpty]; exact q⟩
  | scr ds =>
    obtain ⟨a, vs, rfl, sq, rs⟩ := repV_scr.mp r
    exact ⟨_, .inl ⟨vs, by rw [hK]; exact sq.sq, rfl⟩, by rw [rs.isEmpty]; exact q⟩
  | ref a =>
    rw [r.ref_inv]
    obtain ⟨ds, e, q⟩ := q
    obtain ⟨vs, g, rs⟩ := rh.lst e
    exact ⟨_, .inl ⟨vs, SqL.of g, rfl⟩, by rw [rs.isEmpty]; exact q⟩
/-- x[i] -/
theorem atI_rep {K : PySem.W.Frag} {H : Hp} {ds : List D} {vs : List V} {i : Int} {d : D} (r : RepVs K H ds vs) (e : atI ds i = some d) : ∃ v, atI vs i = some v ∧ RepV K H d v := by
  unfold atI at e ⊢
  rw [r.length]
  cases q : ixN ds.length i with
  | none => rw [q] at e; cases e
  | some j =>
    rw [q] at e
    exact r.get e
theorem ixdR (hu : X.A.units + 1 < cLine) : IxR X (fun x y H Q => ∃ a v, x = .ref a ∧ DGet H a y (some v) ∧ Q v H) := by
  intro value slice pins s σ H x y v u Q I rx ry ⟨a, z, e, g, q⟩ hs
  subst e
  cases rx
  exact tail_any (dict_typeIs I g) PySem.F.slot_dict_getitem.lookup (d_getItem hu I g ry fun w' s3 I3 rw' => ⟨z, H, I3, rw', q⟩) hs
theorem IxR.imp {r r' : R2} (o : IxR X r) (i : ∀ x y H Q, r' x y H Q → r x y H Q) : IxR X r' := fun value slice pins s σ H x y v u Q I rx ry q => o value slice pins s σ H x y v u Q I rx ry (i _ _ _ _ q)
theorem ix_D (ok : Ok X G) : IxR X (lR2 G ixD) := by
  have hu : X.A.units + 1 < cLine := by have := ok.hu; omega
  refine IxR.imp (IxR.or ix_seq (ixdR hu)) fun x y H Q ⟨dx, dy, h, R, rx, ry, rh, w, p⟩ => ?_
  cases dx with
  | tup ds => cases dy with
    | int i =>
      obtain ⟨a, vs, rfl, sq, rs⟩ := repV_tup.mp rx
      obtain ⟨d, e, q⟩ := w
      obtain ⟨v, e', rv⟩ := atI_rep rs e
      exact .inl (.inr (.inl ⟨a, vs, i, v, rfl, ry.int_inv, by rw [ok.k]; exact sq, e', p.here rh q rv⟩))
    | _ => exact w.elim
  | scr ds => cases dy with
    | int i =>
      obtain ⟨a, vs, rfl, sq, rs⟩ := repV_scr.mp rx
      obtain ⟨d, e, q⟩ := w
      obtain ⟨v, e', rv⟩ := atI_rep rs e
      exact .inl (.inl ⟨a, vs, i, v, rfl, ry.int_inv, by rw [ok.k]; exact sq.sq, e', p.here rh q rv⟩)
    | _ => exact w.elim
  | str z => cases dy with
    | int i =>
      obtain ⟨f, c, e, q⟩ := w
      exact .inl (.inr (.inr ⟨z, i, c, rx.str_inv, ry.int_inv, f, e, p.here rh q repV_str⟩))
    | _ => exact w.elim
  | ref a =>
    rcases w with ⟨ds, i, d, rfl, e1, e, q⟩ | ⟨kvs, k, d, ek, e1, e, q⟩
    · obtain ⟨vs, g, rs⟩ := rh.lst e1
      obtain ⟨v, e', rv⟩ := atI_rep rs e
      exact .inl (.inl ⟨a, vs, i, v, rx.ref_inv, ry.int_inv, SqL.of g, e', p.here rh q rv⟩)
    · obtain ⟨ks, g, rk⟩ := rh.dct e1
      obtain ⟨v, e', rv⟩ := rk.look e
      refine .inr ⟨a, v, rx.ref_inv, ?_, p.here rh q rv⟩
      rw [keyD_rep ek ry, ← e']
      exact DGet.k g
  | _ => cases dy <;> exact w.elim
/-- slices -/
theorem SlR.imp {r r' : V → Option Int → Option Int → Hp → VK → Prop} (o : SlR X r) (i : ∀ x lo hi H Q, r' x lo hi H Q → r x lo hi H Q) : SlR X r' := fun pins s σ H x v vl vu lo hi sl Q I rx hs pl pu q => o pins s σ H x v vl vu lo hi sl Q I rx hs pl pu (i _ _ _ _ _ q)
theorem RepVs.cut {K : PySem.W.Frag} {H : Hp} {ds : List D} {vs : List V} (r : RepVs K H ds vs) (lo hi : Option Int) : RepVs K H (cut ds lo hi) (cutV vs lo hi) := by
  unfold DL.cut cutV
  rw [r.length]
  exact (r.drop _).take _
theorem cut_whole {α : Type} {xs : List α} {lo hi : Option Int} (e : HT.sIx xs.length 0 lo = 0 ∧ HT.sIx xs.length xs.length hi = xs.length) : cut xs lo hi = xs := by
  unfold cut
  rw [e.1, e.2]
  simp
theorem sl_D (hK : X.K = G.K) : SlR X (lSl G) := by
  refine SlR.imp (SlR.or sl_tupA (SlR.or sl_list L2.sl_str)) fun x lo hi H Q ⟨dx, h, R, rx, rh, w, p⟩ => ?_
  cases dx with
  | tup ds =>
    obtain ⟨a, vs, rfl, sq, rs⟩ := repV_tup.mp rx
    refine .inl ⟨a, vs, rfl, by rw [hK]; exact sq, fun e => ?_, fun _ l n => p.tup rh w (rs.cut lo hi) n⟩
    rw [rs.length] at e
    have w' : R (.tup (cut ds lo hi)) h := w
    rw [cut_whole e] at w'
    exact p.here rh w' rx
  | scr ds =>
    obtain ⟨a, vs, rfl, sq, rs⟩ := repV_scr.mp rx
    exact .inr (.inl ⟨a, vs, rfl, by rw [hK]; exact sq.sq, fun l n => p.new rh w (rs.cut lo hi) n⟩)
  | ref a =>
    obtain ⟨ds, e, q⟩ := w
    obtain ⟨vs, g, rs⟩ := rh.lst e
    exact .inr (.inl ⟨a, vs, rx.ref_inv, SqL.of g, fun l n => p.new rh q (rs.cut lo hi) n⟩)
  | str z =>
    have e : cutS z lo hi = ⟨(cut z.cps.toList lo hi).toArray⟩ := by
      unfold cutS DL.cut
      rw [show z.cps.toList.length = z.length from by simp [Str.length]]
    exact .inr (.inr ⟨z, rx.str_inv, w.1, by rw [e]; exact p.here rh w.2 repV_str⟩)
  | _ => exact w.elim
/-- x[i] = v -/
theorem set_D (ok : Ok X G) : PSet X (lSet G) := by
  have hu : X.A.units + 1 < cLine := by have := ok.hu; omega
  intro pins s σ H o i v ov iv u Q I ro ri rv ⟨d1, d2, d3, h, P, r1, r2, r3, rh, w, p⟩
  cases d1 with
  | ref a =>
    rcases w with ⟨ds, k, j, rfl, e, z, q⟩ | ⟨kvs, k, ek, e, hz, q⟩
    · obtain ⟨vs, g, rs⟩ := rh.lst e
      refine set_list pins s σ H o i v ov iv u Q I ro ri rv ⟨a, vs, k, j, r1.ref_inv, r2.int_inv, g, by rw [rs.length]; exact z, p _ _ q (rh.wrLst e (rs.set r3 j)) (Fm.write e)⟩
    · obtain ⟨ks, g, rk⟩ := rh.dct e
      refine set_dict hu pins s σ H o i v ov iv u Q I ro ri rv ⟨a, _, r1.ref_inv, by rw [keyD_rep ek r2]; exact DPut.k g (by rw [rk.length]; exact hz), ?_⟩
      exact p _ _ q (rh.write g trivial ⟨_, upd_same, (rk.put r3).mono (pst_wr g trivial)⟩) (Fm.write e)
  | _ => exact w.elim
end
end DL
set_option Elab.async false
set_option linter.all false
set_option maxRecDepth 100000
set_option maxHeartbeats 1000000
/-! The D layer, 5: built-in functions and methods. -/
namespace DL
open PySem PySem.Spec PyProof.Rows L2

section
variable {K : PySem.W.Frag} {H : Hp}
theorem intsOf_rep : ∀ {ds : List D} {ns : List Int} {vs : List V}, intsOf ds = some ns → RepVs K H ds vs → vs = ns.map V.int
  | [], ns, vs, e, r => by cases e; rw [r.nil_inv] <;> rfl
  | d :: ds, ns, vs, e, r => by
    obtain ⟨v, vr, rfl, r1, r2⟩ := r.cons_inv
    cases d with
    | int i =>
      unfold intsOf at e
      obtain ⟨ms, e1, rfl⟩ := Option.map_eq_some_iff.mp e
      rw [r1.int_inv, intsOf_rep e1 r2] <;> rfl
    | _ => cases e
theorem blsOf_rep : ∀ {ds : List D} {ns : List Bool} {vs : List V}, blsOf ds = some ns → RepVs K H ds vs → vs = ns.map V.bl
  | [], ns, vs, e, r => by cases e; rw [r.nil_inv] <;> rfl
  | d :: ds, ns, vs, e, r => by
    obtain ⟨v, vr, rfl, r1, r2⟩ := r.cons_inv
    cases d with
    | bl i =>
      unfold blsOf at e
      obtain ⟨ms, e1, rfl⟩ := Option.map_eq_some_iff.mp e
      rw [r1.bl_inv, blsOf_rep e1 r2] <;> rfl
    | _ => cases e
theorem strsOf_rep : ∀ {ds : List D} {ns : List Str} {vs : List V}, strsOf ds = some ns → RepVs K H ds vs → vs = ns.map V.str
  | [], ns, vs, e, r => by cases e; rw [r.nil_inv] <;> rfl
  | d :: ds, ns, vs, e, r => by
    obtain ⟨v, vr, rfl, r1, r2⟩ := r.cons_inv
    cases d with
    | str i =>
      unfold strsOf at e
      obtain ⟨ms, e1, rfl⟩ := Option.map_eq_some_iff.mp e
      rw [r1.str_inv, strsOf_rep e1 r2] <;> rfl
    | _ => cases e
theorem repVs_strs : ∀ ts : List Str, RepVs K H (ts.map D.str) (ts.map V.str)
  | [] => repVs_nil
  | t :: ts => repVs_cons repV_str (repVs_strs ts)
theorem repVs_signs : ∀ l : List Nat, RepVs K H (l.map fun c => D.str ⟨#[c]⟩) (l.map fun c => V.str ⟨#[c]⟩)
  | [] => repVs_nil
  | c :: l => repVs_cons repV_str (repVs_signs l)
theorem RepVs.one {d : D} {vs : List V} (r : RepVs K H [d] vs) : ∃ v, vs = [v] ∧ RepV K H d v := by
  obtain ⟨v, s, rfl, r1, r2⟩ := r.cons_inv
  rw [r2.nil_inv]
  exact ⟨v, rfl, r1⟩
theorem RepVs.two {d e : D} {vs : List V} (r : RepVs K H [d, e] vs) : ∃ v u, vs = [v, u] ∧ RepV K H d v ∧ RepV K H e u := by
  obtain ⟨v, s, rfl, r1, r2⟩ := r.cons_inv
  obtain ⟨u, rfl, r3⟩ := r2.one
  exact ⟨v, u, rfl, r1, r3⟩
mutual
theorem imm_den {h : MH} : ∀ {d : D}, imm d = true → Den h d (toP d)
  | .non, _ => .non
  | .bl b, _ => .bl b
  | .int b, _ => .int b
  | .str b, _ => .str b
  | .tup ds, e => .tup (imms_len ds) (imms_den (by simpa only [imm] using e))
  | .ref _, e => by simp [imm] at e
  | .scr _, e => by simp [imm] at e
theorem imms_len : ∀ ds : List D, (toPs ds).length = ds.length
  | [] => rfl
  | d :: ds => by simp only [toPs, List.length_cons, imms_len ds]
theorem imms_den {h : MH} : ∀ {ds : List D}, imms ds = true → ∀ (i : Nat) d t, ds[i]? = some d → (toPs ds)[i]? = some t → Den h d t
  | [], _, i, d, t, e1, _ => by simp at e1
  | x :: ds, e, 0, d, t, e1, e2 => by
    simp only [imms, Bool.and_eq_true] at e
    simp [toPs] at e1 e2
    subst e1 e2
    exact imm_den e.1
  | x :: ds, e, i + 1, d, t, e1, e2 => by
    simp only [imms, Bool.and_eq_true] at e
    exact imms_den e.2 i d t (by simpa using e1) (by simpa [toPs] using e2)
end
theorem toPs_map : ∀ ds : List D, toPs ds = ds.map toP
  | [] => rfl
  | d :: ds => by simp only [toPs, List.map_cons, toPs_map ds]
theorem imms_mem : ∀ {ds : List D}, imms ds = true → ∀ d, d ∈ ds → imm d = true
  | [], _, d, m => by simp at m
  | x :: ds, e, d, m => by
    simp only [imms, Bool.and_eq_true] at e
    rcases List.mem_cons.mp m with z | z
    · rw [z]; exact e.1
    · exact imms_mem e.2 d z
end

section
variable {X : Cx} {G : Gr}
theorem CallR.imp {f : Value} {r r' : List V → Hp → VK → Prop} (o : CallR X f r) (i : ∀ xs H Q, r' xs H Q → r xs H Q) : CallR X f r' := fun pins s σ H xs us Q I rs q => o pins s σ H xs us Q I rs (i _ _ _ q)
theorem itemsOf_rep {h : MH} {H : Hp} (rh : RepH G h H) {d : D} {v : V} {P : List D → Prop} (r : RepV G.K H d v) (w : itemsOf d h P) :
    ∃ a ds vs, v = .ref a ∧ RepVs G.K H ds vs ∧ P ds ∧ (SqL G.K H a vs ∨ (SqT G.K H a vs ∧ d = .tup ds)) := by
  cases d with
  | tup ds => obtain ⟨a, vs, e, sq, rs⟩ := repV_tup.mp r; exact ⟨a, ds, vs, e, rs, w, .inr ⟨sq, rfl⟩⟩
  | scr ds => obtain ⟨a, vs, e, sq, rs⟩ := repV_scr.mp r; exact ⟨a, ds, vs, e, rs, w, .inl sq.sq⟩
  | ref a =>
    obtain ⟨ds, e, q⟩ := w
    obtain ⟨vs, g, rs⟩ := rh.lst e
    exact ⟨a, ds, vs, r.ref_inv, rs, q, .inl (SqL.of g)⟩
  | _ => exact w.elim
/-- where a built-in function stands -/
def biV : Bi → Value
  | .len => .builtin "len" | .abs => .builtin "abs" | .max => .builtin "max" | .min => .builtin "min" | .sum => .builtin "sum" | .all => .builtin "all" | .any => .builtin "any"
  | .sorted => .builtin "sorted" | .list => .type "list" | .tuple => .type "tuple" | .str => .type "str" | .int => .type "int" | .repr => .builtin "repr"
theorem bi_len (hK : X.K = G.K) : CallR X (biV .len) (lBi G (bi .len)) := by
  refine CallR.imp (CallR.or call_len_str call_len_seq) fun xs H Q ⟨ds, h, R, rs, rh, w, p⟩ => ?_
  cases ds with
  | nil => exact w.elim
  | cons x r =>
    cases r with
    | cons _ _ => cases x <;> exact w.elim
    | nil =>
      obtain ⟨v, rfl, rv⟩ := rs.one
      have seq : itemsOf x h (fun ds => R (.int ds.length) h) → (∃ z, [v] = [V.str z] ∧ z.length ≤ sizeLine ∧ Q (.int z.length) H) ∨ ∃ p ys, [v] = [V.ref p] ∧ (SqL X.K H p ys ∨ SqT X.K H p ys) ∧ Q (.int ys.length) H := by
        intro w
        obtain ⟨a, ds, vs, rfl, r2, q, z⟩ := itemsOf_rep rh rv w
        refine .inr ⟨a, vs, rfl, by rw [hK]; exact z.imp id (·.1), ?_⟩
        rw [r2.length]
        exact p.here rh q repV_int
      cases x with
      | str z => exact .inl ⟨z, by rw [rv.str_inv], w.1, p.here rh w.2 repV_int⟩
      | _ => exact seq w
theorem bi_abs : CallR X (biV .abs) (lBi G (bi .abs)) := by
  refine CallR.imp call_abs fun xs H Q ⟨ds, h, R, rs, rh, w, p⟩ => ?_
  unfold bi at w
  split at w <;> first | contradiction | skip
  obtain ⟨v, rfl, rv⟩ := rs.one
  exact ⟨_, by rw [rv.int_inv], p.here rh w repV_int⟩
theorem intsOf_ints : ∀ {ds : List D} {ns : List Int}, intsOf ds = some ns → ds.length = ns.length
  | [], ns, e => by cases e; rfl
  | d :: ds, ns, e => by
    cases d with
    | int i =>
      unfold intsOf at e
      obtain ⟨ms, e1, rfl⟩ := Option.map_eq_some_iff.mp e
      rw [List.length_cons, List.length_cons, intsOf_ints e1]
    | _ => cases e
theorem reads_ints {h : Heap} : ∀ {ns : List Int} {us : List Value}, Vals (ns.map V.int) us → ∃ as, ReadsAll h us (ns.map PyData.int) as
  | [], us, r => by cases r; exact ⟨_, .nil⟩
  | n :: ns, us, r => by
    cases r with
    | cons r1 r2 =>
      obtain ⟨t, rfl⟩ := r1
      obtain ⟨as, z⟩ := reads_ints (h := h) r2
      exact ⟨_, .cons (.int _ _) z⟩
theorem foldl_max_ge : ∀ (ns : List Int) (n : Int), (n ≤ ns.foldl max n ∧ ∀ y, y ∈ ns → y ≤ ns.foldl max n) ∧ ns.foldl max n ∈ n :: ns
  | [], n => ⟨⟨Int.le_refl _, fun _ h => nomatch h⟩, List.mem_cons_self⟩
  | m :: ns, n => by
    obtain ⟨⟨a, b⟩, c⟩ := foldl_max_ge ns (max n m)
    rw [List.foldl_cons]
    refine ⟨⟨by omega, fun y hy => ?_⟩, ?_⟩
    · rcases List.mem_cons.mp hy with rfl | hy
      · omega
      · exact b y hy
    · rcases List.mem_cons.mp c with c | c
      · rw [c]
        by_cases z : n ≤ m
        · rw [Int.max_eq_right z]; simp
        · rw [Int.max_eq_left (by omega)]; simp
      · exact List.mem_cons_of_mem _ (List.mem_cons_of_mem _ c)
theorem cr_maxT (ok : Ok X G) (hc : X.calm = true) : CallR X (.builtin "max") (fun vs H Q => ∃ (a : Addr) (n : Int) (ns : List Int), vs = [V.ref a] ∧ SqT X.K H a ((n :: ns).map V.int) ∧ ∀ m, m ∈ n :: ns → (∀ y, y ∈ n :: ns → y ≤ m) → Q (.int m) H) := by
  intro pins s σ H vs us Q I r h
  obtain ⟨a, n, ns, rfl, hs, q⟩ := h
  obtain ⟨its, rv, hl, _⟩ := I.tuple hs
  rw [Vals.ref1 r]
  obtain ⟨as, ra⟩ := reads_ints (h := s.heap) rv
  have dp : ∀ l : List Int, PyData.depthAll (l.map PyData.int) = 0 := fun l => by
    induction l with
    | nil => rfl
    | cons i l ih => rw [List.map_cons, PyData.depthAll, ih]; rfl
  have hu := ok.hu
  refine PySem.W.max_tuple_data (x := .int n) (xs := ns.map .int) (I.ok.hd hc) hl (by simpa using ra) ?_ ?_ fun i v h' tk bs hv rd hk => ?_
  · have key : ∀ x ∈ PyData.int n :: ns.map PyData.int, ∃ i, x = .int i := fun x hx => by
      rcases List.mem_cons.mp hx with rfl | hx
      · exact ⟨_, rfl⟩
      · obtain ⟨i, _, rfl⟩ := List.mem_map.mp hx
        exact ⟨i, rfl⟩
    refine ⟨fun x hx y hy => ?_, fun x hx e => ?_⟩
    · obtain ⟨i, rfl⟩ := key x hx
      obtain ⟨j, rfl⟩ := key y hy
      rfl
    · obtain ⟨i, rfl⟩ := key x hx
      cases e
  · have := dp (n :: ns)
    rw [List.map_cons] at this
    rw [this]; omega
  · rw [PySem.W.maxD_ints] at rd
    obtain ⟨⟨z1, z2⟩, z3⟩ := foldl_max_ge ns n
    cases rd
    exact ⟨.int _, H, I.kept hk, ⟨_, rfl⟩, q _ z3 fun y hy => by
      rcases List.mem_cons.mp hy with rfl | hy
      · exact z1
      · exact z2 y hy⟩
theorem bi_max (ok : Ok X G) (hc : X.calm = true) : CallR X (biV .max) (lBi G (bi .max)) := by
  refine CallR.imp (CallR.or (call_max2 hc) (CallR.or (cr_max hc) (cr_maxT ok hc))) fun xs H Q ⟨ds, h, R, rs, rh, w, p⟩ => ?_
  unfold bi at w
  split at w <;> first | contradiction | skip
  · obtain ⟨v, u, rfl, rv, ru⟩ := rs.two
    exact .inl ⟨_, _, by rw [rv.int_inv, ru.int_inv], p.here rh w repV_int⟩
  · obtain ⟨v, rfl, rv⟩ := rs.one
    obtain ⟨a, es, vs, rfl, r2, ⟨n, ns, en, q⟩, z⟩ := itemsOf_rep rh rv w
    have ev := intsOf_rep en r2
    subst ev
    rcases z with z | ⟨z, _⟩
    · exact .inr (.inl ⟨a, _, rfl, by rw [ok.k]; exact z, by simp, fun m m1 m2 => p.here rh (q m m1 m2) repV_int⟩)
    · exact .inr (.inr ⟨a, n, ns, rfl, by rw [ok.k]; exact z, fun m m1 m2 => p.here rh (q m m1 m2) repV_int⟩)
theorem bi_min (hc : X.calm = true) : CallR X (biV .min) (lBi G (bi .min)) := by
  refine CallR.imp (call_min2 hc) fun xs H Q ⟨ds, h, R, rs, rh, w, p⟩ => ?_
  unfold bi at w
  split at w <;> first | contradiction | skip
  obtain ⟨v, u, rfl, rv, ru⟩ := rs.two
  exact ⟨_, _, by rw [rv.int_inv, ru.int_inv], p.here rh w repV_int⟩
theorem cr_sumT (hc : X.calm = true) : CallR X (.builtin "sum") (fun vs H Q => ∃ (a : Addr) (ns : List Int), vs = [V.ref a] ∧ SqT X.K H a (ns.map V.int) ∧ Q (.int ns.sum) H) := by
  intro pins s σ H vs us Q I r h
  obtain ⟨a, ns, rfl, hs, q⟩ := h
  obtain ⟨its, rv, hl, _⟩ := I.tuple hs
  rw [Vals.ref1 r]
  have hi := rv.ints
  obtain ⟨xs, e⟩ := hi.allInts.items
  have hn : numsOf (intItems xs).toList = ns := by rw [← e]; exact hi.numsOf
  rw [nums_intItems] at hn
  have hl : s.heap.IsTuple a (intItems xs) := by rw [← e]; exact hl
  refine PySem.W.ktm_sumG (I.ok.hd hc) hl fun h' tk t' hk => ?_
  refine ⟨.int _, H, I.kept hk, ⟨_, rfl⟩, ?_⟩
  rw [preSum_eq, List.take_of_length_le (by simp), hn]
  exact q
theorem bi_sum (hK : X.K = G.K) (hc : X.calm = true) : CallR X (biV .sum) (lBi G (bi .sum)) := by
  refine CallR.imp (CallR.or (cr_sum hc) (cr_sumT hc)) fun xs H Q ⟨ds, h, R, rs, rh, w, p⟩ => ?_
  unfold bi at w
  split at w <;> first | contradiction | skip
  · obtain ⟨v, rfl, rv⟩ := rs.one
    obtain ⟨ns, en, q⟩ := w
    obtain ⟨a, vs, rfl, sq, rg⟩ := repV_tup.mp rv
    exact .inr ⟨a, ns, rfl, by rw [hK]; exact intsOf_rep en rg ▸ sq, p.here rh q repV_int⟩
  obtain ⟨v, rfl, rv⟩ := rs.one
  obtain ⟨es, ns, e, en, q⟩ := w
  obtain ⟨vs, g, rg⟩ := rh.lst e
  exact .inl ⟨_, ns, by rw [rv.ref_inv], SqL.of (by rw [g, intsOf_rep en rg]), p.here rh q repV_int⟩
theorem bi_all (hc : X.calm = true) : CallR X (biV .all) (lBi G (bi .all)) := by
  refine CallR.imp (cr_all hc) fun xs H Q ⟨ds, h, R, rs, rh, w, p⟩ => ?_
  unfold bi at w
  split at w <;> first | contradiction | skip
  obtain ⟨v, rfl, rv⟩ := rs.one
  obtain ⟨es, ns, e, en, q⟩ := w
  obtain ⟨vs, g, rg⟩ := rh.lst e
  exact ⟨_, ns, by rw [rv.ref_inv], SqL.of (by rw [g, blsOf_rep en rg]), p.here rh q repV_bl⟩
theorem bi_any (hc : X.calm = true) : CallR X (biV .any) (lBi G (bi .any)) := by
  refine CallR.imp (cr_any hc) fun xs H Q ⟨ds, h, R, rs, rh, w, p⟩ => ?_
  unfold bi at w
  split at w <;> first | contradiction | skip
  obtain ⟨v, rfl, rv⟩ := rs.one
  obtain ⟨es, ns, e, en, q⟩ := w
  obtain ⟨vs, g, rg⟩ := rh.lst e
  exact ⟨_, ns, by rw [rv.ref_inv], SqL.of (by rw [g, blsOf_rep en rg]), p.here rh q repV_bl⟩
theorem call_list_strS (hc : X.calm = true) : CallR X (.type "list") (fun xs H Q => ∃ z : Str, xs = [.str z] ∧ z.length ≤ sizeLine ∧ ∀ l, H l = none → Q (.ref l) (upd H l (.lst (z.cps.toList.map fun c => V.str ⟨#[c]⟩)))) := by
  intro pins s σ H xs us Q I r h
  obtain ⟨z, e, hz, q⟩ := h
  subst e
  obtain ⟨u, eu, rx⟩ := vals1 r
  subst eu
  obtain ⟨t, rfl⟩ := rx
  refine call_list_str (I.ok.hd hc) z _ (hn := hz) fun h' tk acc' c' hkeep hS hacc => ?_
  refine ⟨.ref s.heap.objs.size, upd H s.heap.objs.size (.lst (z.cps.toList.map fun c => V.str ⟨#[c]⟩)), I.laid hkeep (Nat.le_refl _) (show ObjOk X.prog X.w _ _ _ (.lst (z.cps.toList.map fun c => V.str ⟨#[c]⟩)) from ⟨?_, acc'.toList, c', ?_, ?_⟩), rfl, q _ (I.hok.fresh (Nat.le_refl _))⟩
  · simpa [Str.length] using hz
  · refine vals_of_at (by simp [hacc.1]) fun j x w h1 h2 => ?_
    obtain ⟨c, u, hc, rfl⟩ := hacc.2 j w (by rw [← Array.getElem?_toList]; exact h2)
    rw [List.getElem?_map, Array.getElem?_toList, hc] at h1
    cases h1
    exact ⟨_, rfl⟩
  · rw [Array.toArray_toList]; exact hS
theorem bi_list (hK : X.K = G.K) (hc : X.calm = true) : CallR X (biV .list) (lBi G (bi .list)) := by
  refine CallR.imp (CallR.or (call_list_strS hc) call_list_of) fun xs H Q ⟨ds, h, R, rs, rh, w, p⟩ => ?_
  unfold bi at w
  split at w <;> first | contradiction | skip
  · obtain ⟨v, rfl, rv⟩ := rs.one
    exact .inl ⟨_, by rw [rv.str_inv], w.1, fun l n => p.new rh w.2 (repVs_signs _) n⟩
  · obtain ⟨v, rfl, rv⟩ := rs.one
    obtain ⟨a, es, vs, rfl, r2, q, z⟩ := itemsOf_rep rh rv w
    exact .inr ⟨a, vs, rfl, by rw [hK]; exact z.imp id (·.1), fun l n => p.new rh q r2 n⟩
theorem bi_tuple (hK : X.K = G.K) : CallR X (biV .tuple) (lBi G (bi .tuple)) := by
  refine CallR.imp call_tuple_of fun xs H Q ⟨ds, h, R, rs, rh, w, p⟩ => ?_
  unfold bi at w
  split at w <;> first | contradiction | skip
  obtain ⟨v, rfl, rv⟩ := rs.one
  obtain ⟨a, es, vs, rfl, r2, q, z⟩ := itemsOf_rep rh rv w
  refine ⟨a, vs, rfl, ?_⟩
  rcases z with z | ⟨z, rfl⟩
  · exact .inl ⟨by rw [hK]; exact z, fun l n => p.tup rh q r2 n⟩
  · exact .inr ⟨by rw [hK]; exact z, p.here rh q rv⟩
theorem bi_int : CallR X (biV .int) (lBi G (bi .int)) := by
  refine CallR.imp (CallR.or call_int1 call_int_str) fun xs H Q ⟨ds, h, R, rs, rh, w, p⟩ => ?_
  unfold bi at w
  split at w <;> first | contradiction | skip
  · obtain ⟨v, rfl, rv⟩ := rs.one
    exact .inl (.inl ⟨_, by rw [rv.int_inv], p.here rh w repV_int⟩)
  · obtain ⟨v, rfl, rv⟩ := rs.one
    exact .inl (.inr ⟨_, by rw [rv.bl_inv], p.here rh w repV_int⟩)
  · obtain ⟨v, rfl, rv⟩ := rs.one
    obtain ⟨n, e, hz, q⟩ := w
    exact .inr ⟨_, n, by rw [rv.str_inv], e, hz, p.here rh q repV_int⟩
theorem bi_str : CallR X (biV .str) (lBi G (bi .str)) := by
  refine CallR.imp (CallR.or call_str_int SkE.call_str_str) fun xs H Q ⟨ds, h, R, rs, rh, w, p⟩ => ?_
  unfold bi at w
  split at w <;> first | contradiction | skip
  · obtain ⟨v, rfl, rv⟩ := rs.one
    exact .inl ⟨_, by rw [rv.int_inv], w.1, p.here rh w.2 repV_str⟩
  · obtain ⟨v, rfl, rv⟩ := rs.one
    exact .inr ⟨_, by rw [rv.str_inv], p.here rh w repV_str⟩
theorem bi_repr (ok : Ok X G) : CallR X (biV .repr) (lBi G (bi .repr)) := by
  intro pins s σ H xs us Q I r ⟨ds, h, R, rs, rh, w, p⟩
  unfold bi at w
  split at w <;> first | contradiction | skip
  rename_i x _
  obtain ⟨v, rfl, rv⟩ := rs.one
  obtain ⟨u, rfl, ru⟩ := vals1 r
  obtain ⟨t, de, sh, fz, dp, q⟩ := w
  obtain ⟨as, rd, ns⟩ := den_reads I ok rh de rv ru
  have fin : ∀ (h' : Heap) (tk t' : Nat), (∀ b o, s.heap.get? b = some o → h'.get? b = some o) → EP X pins σ Q (.str t.shown t') { s with heap := h', toks := tk } := fun h' tk t' k =>
    ⟨.str t.shown, H, I.kept k, ⟨_, rfl⟩, p.here rh q repV_str⟩
  cases de with
  | non => cases rd; exact PySem.P.repr_of_none (fin _ _ _ fun _ _ z => z)
  | bl b =>
    cases rd
    refine PySem.P.repr_of_bool ?_
    cases b <;> exact fin _ _ _ fun _ _ z => z
  | int i =>
    cases rd
    exact PySem.P.repr_of_int (by simpa [PyData.showable] using sh) (fin _ _ _ fun _ _ z => z)
  | str z =>
    cases rd
    exact PySem.P.repr_of_str (fin _ _ _ fun _ _ z => z) fz
  | _ =>
    have hu := ok.hu
    have hr : ∃ a, u = .ref a := by cases rd <;> exact ⟨_, rfl⟩
    obtain ⟨a, rfl⟩ := hr
    exact PySem.repr_of_reads' rd sh (fun _ => ns) ok.gd (by omega) (fun _ _ z => z) (fun h' u tk k => fin h' tk u k) fz
theorem each_of : ∀ {K : PySem.W.Frag} {H : Hp} {ds : List D} {vs : List V} {us : List Value}, RepVs K H ds vs → Vals vs us → PySem.W.EachIs (fun u d => ∃ v, RelV v u ∧ RepV K H d v) us ds
  | _, _, [], vs, us, r, q => by rw [r.nil_inv] at q; cases q; exact .nil
  | _, _, d :: ds, vs, us, r, q => by
    obtain ⟨v, vr, rfl, r1, r2⟩ := r.cons_inv
    cases q with
    | cons q1 q2 => exact .cons ⟨v, q1, r1⟩ (each_of r2 q2)
theorem of_each : ∀ {K : PySem.W.Frag} {H : Hp} {ds : List D} {us : List Value}, PySem.W.EachIs (fun u d => ∃ v, RelV v u ∧ RepV K H d v) us ds → ∃ vs, RepVs K H ds vs ∧ Vals vs us
  | _, _, [], us, r => by cases r; exact ⟨[], repVs_nil, .nil⟩
  | _, _, d :: ds, us, r => by
    cases r with
    | cons q1 q2 =>
      obtain ⟨v, a, b⟩ := q1
      obtain ⟨vs, c, e⟩ := of_each q2
      exact ⟨v :: vs, repVs_cons b c, .cons a e⟩
theorem each_reads {pins : List (Addr × Obj)} {σ : L2.St} {H : Hp} {h : MH} {s : Shared} (I : Inv X pins σ H s) (ok : Ok X G) (rh : RepH G h H) : ∀ {ds : List D} {vs : List V} {us : List Value}, imms ds = true → RepVs G.K H ds vs → Vals vs us →
    PySem.W.EachIs (fun u d => ∃ as, Reads s.heap u (toP d) as) us ds
  | [], vs, us, _, r, q => by rw [r.nil_inv] at q; cases q; exact .nil
  | d :: ds, vs, us, m, r, q => by
    obtain ⟨v, vr, rfl, r1, r2⟩ := r.cons_inv
    simp only [imms, Bool.and_eq_true] at m
    cases q with
    | cons q1 q2 =>
      obtain ⟨as, a, _⟩ := den_reads I ok rh (imm_den m.1) r1 q1
      exact .cons ⟨as, a⟩ (each_reads I ok rh m.2 r2 q2)
theorem bi_sorted (ok : Ok X G) : CallR X (biV .sorted) (lBi G (bi .sorted)) := by
  intro pins s σ H xs us Q I r ⟨ds, h, R, rs, rh, w, p⟩
  unfold bi at w
  split at w <;> first | contradiction | skip
  obtain ⟨v, rfl, rv⟩ := rs.one
  rw [rv.ref_inv] at r
  obtain ⟨es, e, im, al1, so, dp, q⟩ := w
  obtain ⟨vs, g, rg⟩ := rh.lst e
  obtain ⟨z, its, n, rt, ho⟩ := I.hok _ _ g
  have hl : s.heap.IsList _ its.toArray := ⟨_, ho, rfl, n, rfl⟩
  rw [Vals.ref1 r]
  have hu := ok.hu
  refine PySem.W.sorted_data (bs := es) (enc := toP) hl (each_of rg rt) (each_reads I ok rh im rg rt) al1 so (by rw [← rg.length]; exact z) (fun b m => by have := dp b m; omega) fun out ho2 eo => ?_
  obtain ⟨ws, a, b⟩ := of_each eo
  obtain ⟨ep, he'⟩ := PyProof.Rows.sortedAll_at s.heap its out.toArray
  have hlen : ws.length ≤ sizeLine := by rw [a.length, List.length_mergeSort, ← rg.length]; exact z
  have hn := I.hok.fresh (a := s.heap.objs.size + 1) (Nat.le_succ _)
  exact ⟨.ref _, L2.upd H (s.heap.objs.size + 1) (.lst ws), I.laid (t' := s.toks) (fun _ _ => PyProof.Rows.sortedAll_old) (Nat.le_succ _) ⟨hlen, out, ep, b, he'⟩, rfl, p.new rh q a hn⟩
theorem bi_D (ok : Ok X G) (hc : X.calm = true) (b : Bi) : CallR X (biV b) (lBi G (bi b)) := by
  cases b with
  | len => exact bi_len ok.k
  | abs => exact bi_abs
  | max => exact bi_max ok hc
  | min => exact bi_min hc
  | sum => exact bi_sum ok.k hc
  | all => exact bi_all hc
  | any => exact bi_any hc
  | sorted => exact bi_sorted ok
  | list => exact bi_list ok.k hc
  | tuple => exact bi_tuple ok.k
  | str => exact bi_str
  | int => exact bi_int
  | repr => exact bi_repr ok

/-! ### methods -/
def mtT : Mt → String
  | .append | .extend | .pop | .index | .insert | .reverse => "list"
  | .get => "dict"
  | .join | .split | .startswith | .partition => "str"
def mtId : Mt → String
  | .append => "list.append" | .extend => "list.extend" | .pop => "list.pop" | .index => "list.index" | .insert => "list.insert" | .reverse => "list.reverse"
  | .get => "dict.get" | .join => "str.join" | .split => "str.split" | .startswith => "str.startswith" | .partition => "str.partition"
theorem MtR.imp {id : String} {r r' : V → List V → Hp → VK → Prop} (o : MtR X id r) (i : ∀ x xs H Q, r' x xs H Q → r x xs H Q) : MtR X id r' := fun pins s σ H x xs v us Q I rx rs q => o pins s σ H x xs v us Q I rx rs (i _ _ _ _ q)
theorem mt_dget (hu : X.A.units + 1 < cLine) : MtR X "dict.get" (fun x xs H Q => ∃ a y z o, x = .ref a ∧ xs = [y, z] ∧ DGet H a y o ∧ Q (o.getD z) H) := by
  intro pins s σ H x xs v us Q I rx rs ⟨a, y, z, o, e1, e2, g, q⟩
  subst e1 e2
  cases rx
  cases rs with
  | cons r1 rs => cases rs with
    | cons r2 rs =>
      cases rs
      exact d_get2 hu I g r1 r2 fun w' s4 I4 rw' => ⟨_, H, I4, rw', q⟩
theorem met_tyV {H : Hp} {h : MH} (rh : RepH G h H) {m : Mt} {d : D} {v : V} (r : RepV G.K H d v) (t : mtTy m d h) : tyV X.K (mtT m) v H := by
  have li : (∃ a xs, d = .ref a ∧ h a = some (.lst xs)) → tyV X.K "list" v H := by
    rintro ⟨a, xs, rfl, e⟩
    obtain ⟨vs, g, _⟩ := rh.lst e
    rw [r.ref_inv]
    exact .inl ⟨rfl, vs, SqL.of g⟩
  cases m <;> unfold mtTy at t <;> cases d <;> first
    | exact t.elim
    | (obtain ⟨xs, e⟩ := t; exact li ⟨_, _, rfl, e⟩)
    | (obtain ⟨xs, e⟩ := t; obtain ⟨ks, g, _⟩ := rh.dct e; rw [r.ref_inv]; exact .inr (.inr (.inl ⟨rfl, .inl ⟨ks, g⟩⟩)))
    | (rw [r.str_inv]; rfl)
theorem ixN_bounds {n : Nat} {i : Int} {k : Nat} (e : ixN n i = some k) (hn : n < 2 ^ 62) : -(2 ^ 63) ≤ i ∧ i < 2 ^ 63 ∧ seqIndex? i n = some k := by
  obtain ⟨h1, h2, h3, h4⟩ := ixN_seq e
  exact ⟨by omega, by omega, h1⟩
theorem mt_append' : MtR X "list.append" (lMt G (met .append)) := by
  refine MtR.imp (show MtR X "list.append" rAppend from mt_append) fun x xs H Q ⟨d, ds, h, R, rx, rs, rh, w, p⟩ => ?_
  unfold met at w
  split at w <;> first | contradiction | skip
  obtain ⟨es, e, z, q⟩ := w
  obtain ⟨vs, g, rg⟩ := rh.lst e
  obtain ⟨y, rfl, ry⟩ := rs.one
  exact ⟨_, vs, y, rx.ref_inv, rfl, g, by rw [rg.length]; exact z, p.wr rh e q (rg.append (repVs_cons ry repVs_nil)) repV_non⟩
theorem mt_insert' : MtR X "list.insert" (lMt G (met .insert)) := by
  refine MtR.imp mt_insert fun x xs H Q ⟨d, ds, h, R, rx, rs, rh, w, p⟩ => ?_
  unfold met at w
  split at w <;> first | contradiction | skip
  obtain ⟨es, e, z, i0, i1, q⟩ := w
  obtain ⟨vs, g, rg⟩ := rh.lst e
  obtain ⟨y, u, rfl, ry, ru⟩ := rs.two
  exact ⟨_, vs, _, u, rx.ref_inv, by rw [ry.int_inv], g, by rw [rg.length]; exact z, i0, i1, p.wr rh e q (((rg.take _).append (repVs_cons ru repVs_nil)).append (rg.drop _)) repV_non⟩
theorem mt_extend' : MtR X "list.extend" (lMt G (met .extend)) := by
  refine MtR.imp (show MtR X "list.extend" rExtend from mt_extend) fun x xs H Q ⟨d, ds, h, R, rx, rs, rh, w, p⟩ => ?_
  unfold met at w
  split at w <;> first | contradiction | skip
  obtain ⟨es, fs, e, e2, z, q⟩ := w
  obtain ⟨vs, g, rg⟩ := rh.lst e
  obtain ⟨us, g2, rg2⟩ := rh.lst e2
  obtain ⟨y, rfl, ry⟩ := rs.one
  exact ⟨_, _, vs, us, rx.ref_inv, by rw [ry.ref_inv], g, g2, by rw [rg.length, rg2.length]; exact z, p.wr rh e q (rg.append rg2) repV_non⟩
theorem mt_pop' : MtR X "list.pop" (lMt G (met .pop)) := by
  refine MtR.imp (MtR.or (show MtR X "list.pop" rPop from mt_pop) (show MtR X "list.pop" rPopAt from mt_popAt)) fun x xs H Q ⟨d, ds, h, R, rx, rs, rh, w, p⟩ => ?_
  unfold met at w
  split at w <;> first | contradiction | skip
  · obtain ⟨es, y, e, z, q⟩ := w
    obtain ⟨vs, g, rg⟩ := rh.lst e
    obtain ⟨v, ev, rv⟩ := rg.get z
    exact .inl ⟨_, vs, v, rx.ref_inv, rs.nil_inv, g, by rw [rg.length]; exact ev, p.wr rh e q rg.dropLast rv⟩
  · obtain ⟨es, k, y, e, ek, z, hn, q⟩ := w
    obtain ⟨vs, g, rg⟩ := rh.lst e
    obtain ⟨v, ev, rv⟩ := rg.get z
    obtain ⟨u, rfl, ru⟩ := rs.one
    obtain ⟨b1, b2, b3⟩ := ixN_bounds ek hn
    exact .inr ⟨_, vs, _, k, v, rx.ref_inv, by rw [ru.int_inv], g, b1, b2, by rw [rg.length]; exact b3, ev, p.wr rh e q (rg.eraseIdx k) rv⟩
theorem mt_reverse' : MtR X "list.reverse" (lMt G (met .reverse)) := by
  refine MtR.imp (show MtR X "list.reverse" rReverse from mt_reverse) fun x xs H Q ⟨d, ds, h, R, rx, rs, rh, w, p⟩ => ?_
  unfold met at w
  split at w <;> first | contradiction | skip
  obtain ⟨es, e, q⟩ := w
  obtain ⟨vs, g, rg⟩ := rh.lst e
  exact ⟨_, vs, rx.ref_inv, rs.nil_inv, g, p.wr rh e q rg.reverse repV_non⟩
theorem mt_get' (ok : Ok X G) : MtR X "dict.get" (lMt G (met .get)) := by
  refine MtR.imp (mt_dget (by have := ok.hu; omega)) fun x xs H Q ⟨d, ds, h, R, rx, rs, rh, w, p⟩ => ?_
  unfold met at w
  split at w <;> first | contradiction | skip
  obtain ⟨kvs, k, ek, e, q⟩ := w
  obtain ⟨ks, g, rk⟩ := rh.dct e
  obtain ⟨y, z, rfl, ry, rz⟩ := rs.two
  refine ⟨_, y, z, valV ks k, rx.ref_inv, rfl, by rw [keyD_rep ek ry]; exact DGet.k g, ?_⟩
  cases c : getK kvs k with
  | none => rw [c] at q; rw [rk.lookN c]; exact p.here rh q rz
  | some d => rw [c] at q; obtain ⟨v, ev, rv⟩ := rk.look c; rw [ev]; exact p.here rh q rv
theorem mt_join' (hK : X.K = G.K) : MtR X "str.join" (lMt G (met .join)) := by
  refine MtR.imp mt_join fun x xs H Q ⟨d, ds, h, R, rx, rs, rh, w, p⟩ => ?_
  unfold met at w
  split at w <;> first | contradiction | skip
  obtain ⟨es, ts, e, et, z, q⟩ := w
  obtain ⟨vs, g, rg⟩ := rh.lst e
  obtain ⟨y, rfl, ry⟩ := rs.one
  exact ⟨_, _, ts, rx.str_inv, by rw [ry.ref_inv], .inl (SqL.of (by rw [g, strsOf_rep et rg])), z, p.here rh q repV_str⟩
theorem mt_split' : MtR X "str.split" (lMt G (met .split)) := by
  refine MtR.imp mt_split fun x xs H Q ⟨d, ds, h, R, rx, rs, rh, w, p⟩ => ?_
  unfold met at w
  split at w <;> first | contradiction | skip
  obtain ⟨⟨z1, z2⟩, q⟩ := w
  obtain ⟨y, rfl, ry⟩ := rs.one
  exact ⟨_, _, rx.str_inv, by rw [ry.str_inv], z1, z2, fun l n => p.new rh q (repVs_strs _) n⟩
theorem mt_startswith' : MtR X "str.startswith" (lMt G (met .startswith)) := by
  refine MtR.imp mt_startswith fun x xs H Q ⟨d, ds, h, R, rx, rs, rh, w, p⟩ => ?_
  unfold met at w
  split at w <;> first | contradiction | skip
  obtain ⟨y, rfl, ry⟩ := rs.one
  exact ⟨_, _, rx.str_inv, by rw [ry.str_inv], p.here rh w repV_bl⟩
theorem mt_none {id : String} {m : Mt} (f : ∀ d ds h R, ¬ met m d ds h R) : MtR X id (lMt G (met m)) := fun pins s σ H x xs v us Q I rx rs ⟨d, ds, h, R, _, _, _, w, _⟩ => (f _ _ _ _ w).elim
theorem met_D (ok : Ok X G) (m : Mt) : MtR X (mtId m) (lMt G (met m)) := by
  cases m with
  | append => exact mt_append'
  | extend => exact mt_extend'
  | pop => exact mt_pop'
  | reverse => exact mt_reverse'
  | get => exact mt_get' ok
  | join => exact mt_join' ok.k
  | split => exact mt_split'
  | startswith => exact mt_startswith'
  | index => exact mt_none fun d ds h R w => by unfold met at w; split at w <;> contradiction
  | insert => exact mt_insert'
  | partition => exact mt_none fun d ds h R w => by unfold met at w; split at w <;> contradiction
end

/-! ### isinstance -/
def tyN : Ty → String
  | .int => "int" | .bool => "bool" | .str => "str" | .list => "list" | .tuple => "tuple" | .dict => "dict" | .non => "NoneType"
def tysAll : List Ty := [.int, .bool, .str, .list, .tuple, .dict, .non]
theorem tysAll_mem (t : Ty) : t ∈ tysAll := by cases t <;> decide
theorem kitB_all : (tysAll.all fun k => tysAll.all fun t => decide (t = .non) || decide (kitB (tyN k) (tyN t) = some (subTy k t))) = true := by decide +kernel
theorem kitB_of (k t : Ty) (ht : t ≠ .non) : kitB (tyN k) (tyN t) = some (subTy k t) := by
  have h1 := List.all_eq_true.mp kitB_all k (tysAll_mem k)
  have h2 := List.all_eq_true.mp h1 t (tysAll_mem t)
  rw [decide_eq_false ht, Bool.false_or] at h2
  exact of_decide_eq_true h2
theorem kitAny_of {K : PySem.W.Frag} (k : Ty) : ∀ ts : List Ty, (∀ t, t ∈ ts → t ≠ .non) → PySem.W.kitAny K (.type (tyN k)) (ts.map fun t => .type (tyN t)) = some (ts.any (subTy k))
  | [], _ => rfl
  | t :: ts, hn => by
    rw [List.map_cons, List.any_cons]
    have e1 : PySem.W.kitOne K (.type (tyN k)) (.type (tyN t)) = some (subTy k t) := kit_ty (kitB_of k t (hn t List.mem_cons_self))
    refine kitAny_cons e1 (fun e => ?_) fun e => by rw [e]; rfl
    rw [e, Bool.false_or]
    exact kitAny_of k ts fun t m => hn t (List.mem_cons_of_mem _ m)
section
variable {G : Gr}
theorem kind_rep {h : MH} {H : Hp} (rh : RepH G h H) {d : D} {v : V} {P : Ty → Prop} (r : RepV G.K H d v) (w : kindOf d h P) : ∃ k, TyX G.K H v (.type (tyN k)) ∧ P k := by
  cases d with
  | non => rw [r.non_inv]; exact ⟨_, .base .non, w⟩
  | bl b => rw [r.bl_inv]; exact ⟨_, .base (.bl b), w⟩
  | int b => rw [r.int_inv]; exact ⟨_, .base (.int b), w⟩
  | str b => rw [r.str_inv]; exact ⟨_, .base (.str b), w⟩
  | tup ds =>
    obtain ⟨a, vs, rfl, sq, rs⟩ := repV_tup.mp r
    refine ⟨.tuple, ?_, w⟩
    rcases sq with (sq | ⟨ob, sq⟩) | ⟨o, its, n, e, c, _⟩
    · exact .base (.tup sq)
    · exact .fTuple sq
    · exact .kTuple e c
  | scr ds =>
    obtain ⟨a, vs, rfl, sq, rs⟩ := repV_scr.mp r
    refine ⟨.list, ?_, w⟩
    rcases sq with ⟨ob, sq⟩ | ⟨o, its, n, e, c, _⟩
    · exact .base (.frz sq)
    · exact .kList e c
  | ref a =>
    rw [r.ref_inv]
    rcases w with ⟨xs, e, q⟩ | ⟨kvs, e, q⟩
    · obtain ⟨vs, g, _⟩ := rh.lst e
      exact ⟨.list, .base (.lst g), q⟩
    · obtain ⟨vs, g, _⟩ := rh.dct e
      exact ⟨.dict, .base (.dK g), q⟩
end
end DL
set_option Elab.async false
set_option linter.all false
set_option maxRecDepth 100000
set_option maxHeartbeats 4000000
/-! t[::-1] of a tuple -/
namespace DL
open PySem PySem.Spec PyProof.Rows L2 HT
section
variable {prog : Program} {w : World} {A : Around} {E : Value → Shared → Prop} {s : Shared}
theorem sliceApplied_rev {sl : Addr} {vs : Value} {n : Nat} {Q : Int × Int × Nat → Shared → Prop} (hs : s.heap.IsSliceOf sl .none .none vs) (ps : IsPart vs (some (-1)))
    (h : Q ((n : Int) - 1, -1, n) s) : wpAny (model prog w) A (Builtin.Slice.sliceApplied (.ref sl) (pure (n : Int))) Q E s := by
  obtain ⟨os, hos, hcs, hds⟩ := id hs
  unfold Builtin.Slice.sliceApplied Builtin.Slice.sliceFields
  refine wpAny_bind (wpAny_bind (wpAny_field hos hds (x := .none) rfl (wpAny_bind (wpAny_field hos hds (x := .none) rfl (wpAny_bind (wpAny_field hos hds (x := vs) rfl (wpAny_pure ?_)))))))
  refine wpAny_bind (slicePart_ ps ?_)
  show wpAny _ _ (if ((-1 : Int) == 0) = true then _ else _) _ _ s
  rw [if_neg (by decide)]
  refine wpAny_bind (slicePart_none (wpAny_bind (slicePart_none (wpAny_bind (wpAny_pure ?_)))))
  show wpAny _ _ (match Builtin.Slice.sliceAdjust none none (-1) (n : Int) with | (lo, hi) => pure (lo, (-1 : Int), Builtin.Slice.slicePlaces lo hi (-1))) _ _ s
  have e : Builtin.Slice.sliceAdjust none none (-1) (n : Int) = ((n : Int) - 1, -1) := rfl
  rw [e]
  have e2 : Builtin.Slice.slicePlaces ((n : Int) - 1) (-1) (-1) = n := by
    unfold Builtin.Slice.slicePlaces
    rw [if_neg (by decide)]
    by_cases c : (n : Int) - 1 > -1
    · rw [if_pos c, show -(-1 : Int) = 1 from rfl, Int.ediv_one]; omega
    · rw [if_neg c]; omega
  show wpAny _ _ (pure ((n : Int) - 1, (-1 : Int), Builtin.Slice.slicePlaces ((n : Int) - 1) (-1) (-1))) _ _ s
  rw [e2]
  exact wpAny_pure h
theorem pick_rev (xs : Array Value) : ((List.range xs.size).filterMap fun (m : Nat) => xs[(((xs.size : Int) - 1) + (m : Int) * -1).toNat]?).toArray = xs.toList.reverse.toArray := by
  congr 1
  apply List.ext_getElem?
  intro i
  have e : ∀ m ∈ List.range xs.size, xs[(((xs.size : Int) - 1) + (m : Int) * -1).toNat]? = some (xs.toList.reverse.getD m .none) := fun m hm => by
    have hm := List.mem_range.mp hm
    have e1 : (((xs.size : Int) - 1) + (m : Int) * -1).toNat = xs.size - 1 - m := by omega
    rw [e1, List.getD_eq_getElem?_getD, List.getElem?_reverse (by simpa using hm)]
    simp
    rw [Array.getElem?_eq_getElem (by omega)]
    rfl
  have e2 : ((List.range xs.size).filterMap fun (m : Nat) => xs[(((xs.size : Int) - 1) + (m : Int) * -1).toNat]?) = (List.range xs.size).map fun m => xs.toList.reverse.getD m .none := by
    have : ∀ l : List Nat, (∀ m ∈ l, xs[(((xs.size : Int) - 1) + (m : Int) * -1).toNat]? = some (xs.toList.reverse.getD m .none)) → (l.filterMap fun (m : Nat) => xs[(((xs.size : Int) - 1) + (m : Int) * -1).toNat]?) = l.map fun m => xs.toList.reverse.getD m .none := fun l => by
      induction l with
      | nil => intro _; rfl
      | cons a l ih =>
        intro H
        rw [List.filterMap_cons, H a List.mem_cons_self, List.map_cons]
        simp only
        rw [ih fun m hm => H m (List.mem_cons_of_mem _ hm)]
    exact this _ e
  rw [e2, List.getElem?_map]
  by_cases c : i < xs.size
  · rw [List.getElem?_range c]
    simp only [Option.map_some]
    rw [List.getD_eq_getElem?_getD, List.getElem?_eq_getElem (by simpa using c)]
    rfl
  · rw [List.getElem?_eq_none (by simpa using c), List.getElem?_eq_none (by simpa using c)]
    rfl
theorem getItem_tuple_rev {t sl : Addr} {items : Array Value} {vs : Value} {Q : Value → Shared → Prop} (ht : IsTup s.heap t items) (hs : s.heap.IsSliceOf sl .none .none vs) (ps : IsPart vs (some (-1)))
    (h : Q (.ref s.heap.objs.size) { s with heap := s.heap.push { cls := .type "tuple", data := .seq items.toList.reverse.toArray } })
    (hsz : items.size ≤ sizeLine) : wpAny (model prog w) A (getItem (.ref t) (.ref sl)) Q E s := by
  have htake : sizeOk (.seq items.toList.reverse.toArray) := by
    show (items.toList.reverse.toArray).size ≤ sizeLine
    rw [List.size_toArray, List.length_reverse, Array.length_toList]
    exact hsz
  obtain ⟨os, hos, hcs, hds⟩ := id hs
  have hTs : s.TypeIs (.ref sl) "slice" := ⟨os, hos, hcs⟩
  unfold getItem
  try with_reducible refine wpAny_holding ?_
  first | refine wpAny_bind (wpAny_pure ?_) | skip
  refine wpAny_bind (wpAny_sequenceKey ht.typeIs (by decide) ?_)
  refine wpAny_bind (wpAny_callSpecial?_slot (name := Str.ofString "__getitem__") ht.typeIs PyProof.Rows.slot_tuple_getitem
    (wpAny_call_entry PyProof.Rows.slot_tuple_getitem ht.typeIs entry_tuple_getitem ?_ (args_tuple_getitem _ _)))
  show wpAny _ _ (Builtin.Tuple.tupleItemsOf (.ref t) >>= _) _ _ s
  refine wpAny_bind (tupleItemsOf_ ht ?_)
  refine wpAny_bind (wpAny_typeOf hTs ?_)
  rw [if_pos (by decide)]
  refine wpAny_bind (sliceApplied_rev hs ps ?_)
  show wpAny _ _ (if ((((items.size : Int) - 1) == 0 && (-1 : Int) == 1 && items.size == items.size) = true) then _ else _) _ _ s
  rw [if_neg (by simp), pick_rev]
  first
    | exact wpAny_bind (m := Builtin.Tuple.tupleExact _) (wpAny_newObj_type (wpAny_pure ⟨_, rfl, wpAny_pure h⟩) htake)
    | exact wpAny_bind (m := Builtin.Tuple.tupleExact _) (wpAny_newObj_type (wpAny_bind (wpAny_pure (wpAny_pure ⟨_, rfl, wpAny_pure h⟩))) htake)
    | exact wpAny_bind (wpAny_bind (m := Builtin.Tuple.tupleExact _) (wpAny_newObj_type (wpAny_pure (wpAny_pure ⟨_, rfl, wpAny_pure h⟩)) htake))
    | exact wpAny_bind (wpAny_bind (m := Builtin.Tuple.tupleExact _) (wpAny_newObj_type (wpAny_pure ⟨_, rfl, wpAny_pure h⟩) htake))
end
section
variable {X : Cx}
/-- of a list or a tuple -/
def tRevA (K : PySem.W.Frag) (te : TE) : TE := fun σ H Q => te σ H fun x H1 => ∃ a xs, x = .ref a ∧ ((SqL K H1 a xs ∧ ∀ p, H1 p = none → Q (.ref p) (upd H1 p (.lst xs.reverse))) ∨ (SqT K H1 a xs ∧ ∀ p, H1 p = none → Q (.ref p) (upd H1 p (.tup xs.reverse))))
theorem pe_revA {e : Expr} {te : TE} {k : Nat} {p1 p2 p3 pos : Pos} (he : PE X e te) : PE X (.Subscript e (.Slice none none (some (.UnaryOp .USub (.Constant (.int 1) k p1) p2)) p3) pos) (tRevA X.K te) := by
  refine ⟨fun pins s σ H Q I h => ?_⟩
  refine Subscript_ (thn (he.run pins s σ H _ I h) fun v s1 ⟨x, H1, I1, r1, q1⟩ => ?_)
  obtain ⟨a, xs, ex, q1⟩ := q1
  subst ex
  cases r1
  have hst : PO X (some (.UnaryOp .USub (.Constant (.int 1) k p1) p2)) (tPart (tUn (rU fun i => .int (-i)) (tC (.int 1)))) := po_some (pe_un un_neg pe_int)
  refine wpAny_Slice (thn (po_none.run pins s1 σ H1 (fun o H2 => o = none ∧ H2 = H1) I1 ⟨rfl, rfl⟩) fun vl s2 ⟨l, H2, I2, pl, el, e2⟩ => ?_)
  subst el e2
  refine thn (po_none.run pins s2 σ H2 (fun o H3 => o = none ∧ H3 = H2) I2 ⟨rfl, rfl⟩) fun vu s3 ⟨u, H3, I3, pu, eu, e3⟩ => ?_
  subst eu e3
  refine thn (hst.run pins s3 σ H3 (fun o H4 => o = some (-1) ∧ H4 = H3) I3 ⟨1, rfl, -1, rfl, rfl, rfl⟩) fun vs s4 ⟨o, H4, I4, ps, eo, e4⟩ => ?_
  subst eo e4
  have I5 : Inv X pins σ H4 { s4 with heap := s4.heap.push { cls := .type "slice", data := .fields #[vl, vu, vs] } } := I4.kept (t' := s4.toks) fun b ob q => Heap.get?_push_of_some _ q
  show wpAny (model X.prog X.w) X.A (subscriptTail e (.Slice none none (some (.UnaryOp .USub (.Constant (.int 1) k p1) p2)) p3) (.ref a) (.ref s4.heap.objs.size)) (EP X pins σ Q) X.xe { s4 with heap := s4.heap.push { cls := .type "slice", data := .fields #[vl, vu, vs] } }
  rcases q1 with ⟨hx, q⟩ | ⟨hx, q⟩
  · obtain ⟨its, r, ht, hz⟩ := I5.list hx
    have hlen := r.length
    refine tail_any (ops := [.ref a, .ref s4.heap.objs.size]) ht.isList.typeIs (PySem.slot_list_getitem.lookup) ?_ (by with_unfolding_all rfl)
    refine wpAny_getItem_list_slice ht.isList (Heap.IsSliceOf.new _ vl vu vs) pl pu ps (by decide) ?_ (by rw [List.size_toArray]; omega)
    rw [PySem.W.krv_pick]
    refine ⟨.ref _, _, I5.laid (t' := s4.toks) (o := .lst xs.reverse) (fun b ob q => Heap.get?_push_of_some _ q) (Nat.le_refl _) ?_, rfl, q _ (I5.hok.fresh (Nat.le_refl _))⟩
    exact ⟨by rw [List.length_reverse]; exact hz, _, 0, r.reverse, Heap.get?_push_size _ rfl⟩
  · obtain ⟨its, r, ht, hz⟩ := I5.tuple hx
    have hlen := r.length
    refine tail_any (ops := [.ref a, .ref s4.heap.objs.size]) ht.typeIs (PyProof.Rows.slot_tuple_getitem.lookup) ?_ (by with_unfolding_all rfl)
    cases pl
    cases pu
    refine getItem_tuple_rev ht (Heap.IsSliceOf.new _ .none .none vs) ps ?_ (by rw [List.size_toArray]; omega)
    refine ⟨.ref _, _, I5.laid (t' := s4.toks) (o := .tup xs.reverse) (fun b ob q => Heap.get?_push_of_some _ q) (Nat.le_refl _) ?_, rfl, q _ (I5.hok.fresh (Nat.le_refl _))⟩
    exact ⟨by rw [List.length_reverse]; exact hz, _, r.reverse, IsTup.new _ _⟩
end
end DL
set_option Elab.async false
set_option linter.all false
set_option maxRecDepth 100000
set_option maxHeartbeats 1000000
/-! The D layer, 6: expressions. -/
namespace DL
open PySem PySem.Spec PyProof.Rows L2

/-- where one stands: the slots, the small heap, what is wanted of exceptions -/
structure At (G : Gr) (W : WX) (E : DX) (σd : DS) (σ : L2.St) (h : MH) (H : Hp) : Prop where
  s : RepS G.K H σd σ
  r : RepH G h H
  x : ∀ c fs h' cls dd H', E c fs h' → RepX G h' H' c fs cls dd → RepH G h' H' → Fm h H h' H' → W cls dd σ H'
def PostB (G : Gr) (h : MH) (H : Hp) (R : Bool → MH → Prop) (Q : Bool → Hp → Prop) : Prop := ∀ k h' H', R k h' → RepH G h' H' → Fm h H h' H' → Q k H'
def PostO (G : Gr) (h : MH) (H : Hp) (R : Option Int → MH → Prop) (Q : Option Int → Hp → Prop) : Prop := ∀ k h' H', R k h' → RepH G h' H' → Fm h H h' H' → Q k H'
def PostL (G : Gr) (h : MH) (H : Hp) (R : List D → MH → Prop) (Q : List V → Hp → Prop) : Prop := ∀ d h' v H', R d h' → RepVs G.K H' d v → RepH G h' H' → Fm h H h' H' → Q v H'
/-- an iterator stands for its items -/
def ItRel (G : Gr) (h0 : MH) (H0 : Hp) (Jd : ItV) (J : It) : Prop :=
  ∀ h H, RepH G h H → Pst G.K H0 H → Jd.ok h → (∀ (i : Nat) d, Jd.its[i]? = some d → J.go i H ∧ ∀ x H', J.yld i H x H' → RepV G.K H' d x ∧ RepH G h H' ∧ Fm h H h H') ∧ J.stop Jd.its.length H
def PostI (G : Gr) (h : MH) (H : Hp) (R : ItV → MH → Prop) (Q : It → Hp → Prop) : Prop := ∀ Jd h' J H', R Jd h' → ItRel G h' H' Jd J → RepH G h' H' → Fm h H h' H' → Q J H'

abbrev WE := DX → DS → MH → (D → MH → Prop) → Prop
def lE (G : Gr) (W : WX) (w : DX → DS → MH → (D → MH → Prop) → Prop) : TE := fun σ H Q => ∃ σd h R E, At G W E σd σ h H ∧ w E σd h R ∧ Post G h H R Q
def lT (G : Gr) (W : WX) (w : DX → DS → MH → (Bool → MH → Prop) → Prop) : TT := fun σ H Q => ∃ σd h R E, At G W E σd σ h H ∧ w E σd h R ∧ PostB G h H R Q
def lO (G : Gr) (W : WX) (w : DX → DS → MH → (Option Int → MH → Prop) → Prop) : TO := fun σ H Q => ∃ σd h R E, At G W E σd σ h H ∧ w E σd h R ∧ PostO G h H R Q
def lA (G : Gr) (W : WX) (w : DX → DS → MH → (List D → MH → Prop) → Prop) : TA := fun σ H Q => ∃ σd h R E, At G W E σd σ h H ∧ w E σd h R ∧ PostL G h H R Q
def lI (G : Gr) (W : WX) (w : DX → DS → MH → (ItV → MH → Prop) → Prop) : TI := fun σ H Q => ∃ σd h R E, At G W E σd σ h H ∧ w E σd h R ∧ PostI G h H R Q

theorem Pst.trans {K : PySem.W.Frag} {H H1 H2 : Hp} (a : Pst K H H1) (b : Pst K H1 H2) : Pst K H H2 := ⟨fun x xs q => b.t x xs (a.t x xs q), fun x xs q => b.l x xs (a.l x xs q)⟩
theorem RepS.mono {K : PySem.W.Frag} {H H' : Hp} {d : DS} {v : L2.St} (q : RepS K H d v) (t : Pst K H H') : RepS K H' d v := ⟨q.1, fun i x e => let ⟨u, a, b⟩ := q.2 i x e; ⟨u, a, b.mono t⟩⟩
section
variable {G : Gr} {W : WX} {E : DX} {σd : DS} {σ : L2.St} {h h1 : MH} {H H1 : Hp}
theorem At.fm (a : At G W E σd σ h H) (r : RepH G h1 H1) (f : Fm h H h1 H1) : At G W E σd σ h1 H1 :=
  ⟨a.s.fm a.r f, r, fun c fs h' cls dd H' e rx rh g => a.x c fs h' cls dd H' e rx rh (f.trans g)⟩
theorem Post.fm {R : D → MH → Prop} {Q : VK} (p : Post G h H R Q) (f : Fm h H h1 H1) : Post G h1 H1 R Q := fun d h' v H' r rv rh g => p d h' v H' r rv rh (f.trans g)
theorem PostB.fm {R : Bool → MH → Prop} {Q : Bool → Hp → Prop} (p : PostB G h H R Q) (f : Fm h H h1 H1) : PostB G h1 H1 R Q := fun k h' H' r rh g => p k h' H' r rh (f.trans g)
theorem PostO.fm {R : Option Int → MH → Prop} {Q : Option Int → Hp → Prop} (p : PostO G h H R Q) (f : Fm h H h1 H1) : PostO G h1 H1 R Q := fun k h' H' r rh g => p k h' H' r rh (f.trans g)
theorem PostL.fm {R : List D → MH → Prop} {Q : List V → Hp → Prop} (p : PostL G h H R Q) (f : Fm h H h1 H1) : PostL G h1 H1 R Q := fun k h' v H' r rv rh g => p k h' v H' r rv rh (f.trans g)
theorem PostI.fm {R : ItV → MH → Prop} {Q : It → Hp → Prop} (p : PostI G h H R Q) (f : Fm h H h1 H1) : PostI G h1 H1 R Q := fun Jd h' J H' r ri rh g => p Jd h' J H' r ri rh (f.trans g)
end

section
variable {X : Cx} {G : Gr} {W : WX} {e a b c : Expr} {es : List Expr} {pos : Pos}
theorem PE.imp {t t' : TE} (p : PE X e t) (i : ∀ σ H Q, t' σ H Q → t σ H Q) : PE X e t' := ⟨fun pins s σ H Q I w => p.run pins s σ H Q I (i _ _ _ w)⟩
theorem PT.imp {t t' : TT} (p : PT X e t) (i : ∀ σ H Q, t' σ H Q → t σ H Q) : PT X e t' := ⟨fun pins s σ H Q I w => p.run pins s σ H Q I (i _ _ _ w)⟩
theorem PW.imp {t t' : TT} (p : PW X e t) (i : ∀ σ H Q, t' σ H Q → t σ H Q) : PW X e t' := ⟨fun wh pins s σ H Q I w => p.run wh pins s σ H Q I (i _ _ _ w)⟩
theorem PA.imp {t t' : TA} (p : PA X es t) (i : ∀ σ H Q, t' σ H Q → t σ H Q) : PA X es t' := ⟨fun po pins s σ H Q I w => p.run po pins s σ H Q I (i _ _ _ w)⟩
theorem PK.imp {ks : List Keyword} {t t' : TA} (p : PK X ks t) (i : ∀ σ H Q, t' σ H Q → t σ H Q) : PK X ks t' := ⟨fun po pins s σ H Q I w => p.run po pins s σ H Q I (i _ _ _ w)⟩
theorem PO.imp {e : Option Expr} {t t' : TO} (p : PO X e t) (i : ∀ σ H Q, t' σ H Q → t σ H Q) : PO X e t' := ⟨fun pins s σ H Q I w => p.run pins s σ H Q I (i _ _ _ w)⟩
theorem PI.imp {tg : Expr} {t t' : TI} (p : PI X tg e t) (i : ∀ σ H Q, t' σ H Q → t σ H Q) : PI X tg e t' := ⟨fun pins s σ H Q I w => p.run pins s σ H Q I (i _ _ _ w)⟩

/-- one value, then more -/
theorem lE.bind {w : WE} {k : D → MH → Prop} {σd : DS} {σ : L2.St} {h : MH} {H : Hp} {E : DX} {Q : VK} (at_ : At G W E σd σ h H) (q : w E σd h k) (f : ∀ d h1 v H1, k d h1 → RepV G.K H1 d v → RepH G h1 H1 → Fm h H h1 H1 → Q v H1) : lE G W w σ H Q :=
  ⟨σd, h, k, E, at_, q, f⟩

theorem se_var {i : Nat} {x : Str} (hN : X.N[i]? = some x) (hv : Vis X.env.scope x) (hd : (x == ("__debug__" : Str)) = false) (hcd : (x == ("__classdict__" : Str)) = false) : PE X (.Name x pos) (lE G W fun E σ h Q => ∃ d, σ[i]? = some (some d) ∧ Q d h) :=
  PE.imp (pe_var hN hv hd hcd) fun σ H Q ⟨σd, h, R, E, at_, ⟨d, e, q⟩, p⟩ => by
    obtain ⟨v, e2, r⟩ := at_.s.2 i d e
    exact ⟨v, e2, p.here at_.r q r⟩
theorem se_cst {v : V} {d : D} (p : PE X e (tC v)) (r : ∀ H, RepV G.K H d v) : PE X e (lE G W fun _ _ h Q => Q d h) :=
  PE.imp p fun σ H Q ⟨σd, h, R, E, at_, q, p⟩ => p.here at_.r q (r H)

variable {wa wb wc : WE}
theorem se_op {op : Operator} {f : D → D → MH → (D → MH → Prop) → Prop} (ho : OpR X (binaryOp op) (lR2 G f)) (ha : PE X a (lE G W wa)) (hb : PE X b (lE G W wb)) : PE X (.BinOp a op b pos) (lE G W fun E σ h Q => wa E σ h fun x h1 => wb E σ h1 fun y h2 => f x y h2 Q) :=
  PE.imp (pe_op ho ha hb) fun σ H Q ⟨σd, h, R, E, at_, w, p⟩ =>
    ⟨σd, h, _, E, at_, w, fun dx h1 x H1 w1 rx rh1 f1 => ⟨σd, h1, _, E, at_.fm rh1 f1, w1, fun dy h2 y H2 w2 ry rh2 f2 => ⟨dx, dy, h2, R, rx.fm rh1 f2, ry, rh2, w2, p.fm (f1.trans f2)⟩⟩⟩
theorem se_ix {f : D → D → MH → (D → MH → Prop) → Prop} (ho : IxR X (lR2 G f)) (ha : PE X a (lE G W wa)) (hb : PE X b (lE G W wb)) (hs : PlainIx b) : PE X (.Subscript a b pos) (lE G W fun E σ h Q => wa E σ h fun x h1 => wb E σ h1 fun y h2 => f x y h2 Q) :=
  PE.imp (pe_ix ho ha hb hs) fun σ H Q ⟨σd, h, R, E, at_, w, p⟩ =>
    ⟨σd, h, _, E, at_, w, fun dx h1 x H1 w1 rx rh1 f1 => ⟨σd, h1, _, E, at_.fm rh1 f1, w1, fun dy h2 y H2 w2 ry rh2 f2 => ⟨dx, dy, h2, R, rx.fm rh1 f2, ry, rh2, w2, p.fm (f1.trans f2)⟩⟩⟩
theorem se_neg (ha : PE X a (lE G W wa)) : PE X (.UnaryOp .USub a pos) (lE G W fun E σ h Q => wa E σ h fun x h1 => match x with
    | .int i => Q (.int (-i)) h1
    | _ => False) :=
  PE.imp (pe_un un_neg ha) fun σ H Q ⟨σd, h, R, E, at_, w, p⟩ =>
    ⟨σd, h, _, E, at_, w, fun dx h1 x H1 w1 rx rh1 f1 => by
      cases dx with
      | int i => exact ⟨i, rx.int_inv, (p.fm f1).here rh1 w1 repV_int⟩
      | _ => exact w1.elim⟩
theorem se_not (hK : X.K = G.K) (ha : PE X a (lE G W wa)) : PE X (.UnaryOp .Not a pos) (lE G W fun E σ h Q => wa E σ h fun x h1 => tru x h1 fun k => Q (.bl (!k)) h1) :=
  PE.imp (pe_notT ha) fun σ H Q ⟨σd, h, R, E, at_, w, p⟩ =>
    ⟨σd, h, _, E, at_, w, fun dx h1 x H1 w1 rx rh1 f1 => by
      obtain ⟨k, t, q⟩ := tru_of hK rx rh1 w1
      exact ⟨k, t, (p.fm f1).here rh1 q repV_bl⟩⟩
theorem se_and (hK : X.K = G.K) (ha : PE X a (lE G W wa)) (hb : PE X (.BoolOp .And (b :: es) pos) (lE G W wb)) : PE X (.BoolOp .And (a :: b :: es) pos) (lE G W fun E σ h Q => wa E σ h fun x h1 => tru x h1 fun k => if k = true then wb E σ h1 Q else Q x h1) :=
  PE.imp (pe_andT ha hb) fun σ H Q ⟨σd, h, R, E, at_, w, p⟩ =>
    ⟨σd, h, _, E, at_, w, fun dx h1 x H1 w1 rx rh1 f1 => by
      obtain ⟨k, t, q⟩ := tru_of hK rx rh1 w1
      refine ⟨k, t, ?_⟩
      cases k with
      | true => exact ⟨σd, h1, R, E, at_.fm rh1 f1, q, p.fm f1⟩
      | false => exact (p.fm f1).here rh1 q rx⟩
theorem se_or (hK : X.K = G.K) (ha : PE X a (lE G W wa)) (hb : PE X (.BoolOp .Or (b :: es) pos) (lE G W wb)) : PE X (.BoolOp .Or (a :: b :: es) pos) (lE G W fun E σ h Q => wa E σ h fun x h1 => tru x h1 fun k => if k = true then Q x h1 else wb E σ h1 Q) :=
  PE.imp (pe_orT ha hb) fun σ H Q ⟨σd, h, R, E, at_, w, p⟩ =>
    ⟨σd, h, _, E, at_, w, fun dx h1 x H1 w1 rx rh1 f1 => by
      obtain ⟨k, t, q⟩ := tru_of hK rx rh1 w1
      refine ⟨k, t, ?_⟩
      cases k with
      | true => exact (p.fm f1).here rh1 q rx
      | false => exact ⟨σd, h1, R, E, at_.fm rh1 f1, q, p.fm f1⟩⟩
variable {wt wu : DX → DS → MH → (Bool → MH → Prop) → Prop}
theorem se_ite (hc : PT X c (lT G W wt)) (ha : PE X a (lE G W wa)) (hb : PE X b (lE G W wb)) : PE X (.IfExp c a b pos) (lE G W fun E σ h Q => wt E σ h fun k h1 => if k = true then wa E σ h1 Q else wb E σ h1 Q) :=
  PE.imp (pe_ifExp hc ha hb) fun σ H Q ⟨σd, h, R, E, at_, w, p⟩ =>
    ⟨σd, h, _, E, at_, w, fun k h1 H1 w1 rh1 f1 => by
      cases k with
      | true => exact ⟨σd, h1, R, E, at_.fm rh1 f1, w1, p.fm f1⟩
      | false => exact ⟨σd, h1, R, E, at_.fm rh1 f1, w1, p.fm f1⟩⟩
theorem se_cmp {op : CmpOp} (ok : Ok X G) (ha : PE X a (lE G W wa)) (hb : PE X b (lE G W wb)) (hm : behindInMarks op b = false) : PE X (.Compare a [op] [b] pos) (lE G W fun E σ h Q => wa E σ h fun x h1 => wb E σ h1 fun y h2 => cop op x y h2 fun k => Q (.bl k) h2) :=
  PE.imp (pe_cmpR (op_cmpD ok op) ha hb hm) fun σ H Q ⟨σd, h, R, E, at_, w, p⟩ =>
    ⟨σd, h, _, E, at_, w, fun dx h1 x H1 w1 rx rh1 f1 => ⟨σd, h1, _, E, at_.fm rh1 f1, w1, fun dy h2 y H2 w2 ry rh2 f2 => ⟨dx, dy, h2, _, rx.fm rh1 f2, ry, rh2, w2, fun k q => (p.fm (f1.trans f2)).here rh2 q repV_bl⟩⟩⟩
theorem st_cmp {op : CmpOp} (ok : Ok X G) (ha : PE X a (lE G W wa)) (hb : PE X b (lE G W wb)) (hm : behindInMarks op b = false) : PT X (.Compare a [op] [b] pos) (lT G W fun E σ h Q => wa E σ h fun x h1 => wb E σ h1 fun y h2 => cop op x y h2 fun k => Q k h2) :=
  PT.imp (pt_cmpR (op_cmpD ok op) ha hb hm) fun σ H Q ⟨σd, h, R, E, at_, w, p⟩ =>
    ⟨σd, h, _, E, at_, w, fun dx h1 x H1 w1 rx rh1 f1 => ⟨σd, h1, _, E, at_.fm rh1 f1, w1, fun dy h2 y H2 w2 ry rh2 f2 => ⟨dx, dy, h2, _, rx.fm rh1 f2, ry, rh2, w2, fun k q => ⟨k, rfl, p k h2 H2 q rh2 (f1.trans f2)⟩⟩⟩⟩
theorem se_chn {op op' : CmpOp} (ok : Ok X G) (ha : PE X a (lE G W wa)) (hb : PE X b (lE G W wb)) (hc : PE X c (lE G W wc)) (hm : lastMarks [op, op'] [b, c] = false) : PE X (.Compare a [op, op'] [b, c] pos) (lE G W fun E σ h Q => wa E σ h fun x h1 => wb E σ h1 fun y h2 => cop op x y h2 fun k =>
      if k = true then wc E σ h2 fun z h3 => cop op' y z h3 fun k' => Q (.bl k') h3 else Q (.bl false) h2) :=
  PE.imp (pe_chain (op_cmpD ok op) (op_cmpD ok op') ha hb hc hm) fun σ H Q ⟨σd, h, R, E, at_, w, p⟩ =>
    ⟨σd, h, _, E, at_, w, fun dx h1 x H1 w1 rx rh1 f1 => ⟨σd, h1, _, E, at_.fm rh1 f1, w1, fun dy h2 y H2 w2 ry rh2 f2 => ⟨dx, dy, h2, _, rx.fm rh1 f2, ry, rh2, w2, fun k q => ⟨k, rfl, by
      cases k with
      | false => exact (p.fm (f1.trans f2)).here rh2 q repV_bl
      | true => exact ⟨σd, h2, _, E, (at_.fm rh1 f1).fm rh2 f2, q, fun dz h3 z H3 w3 rz rh3 f3 => ⟨dy, dz, h3, _, ry.fm rh2 f3, rz, rh3, w3, fun k' q' => (p.fm ((f1.trans f2).trans f3)).here rh3 q' repV_bl⟩⟩⟩⟩⟩⟩
theorem st_chn {op op' : CmpOp} (ok : Ok X G) (ha : PE X a (lE G W wa)) (hb : PE X b (lE G W wb)) (hc : PE X c (lE G W wc)) (hm : lastMarks [op, op'] [b, c] = false) : PT X (.Compare a [op, op'] [b, c] pos) (lT G W fun E σ h Q => wa E σ h fun x h1 => wb E σ h1 fun y h2 => cop op x y h2 fun k =>
      if k = true then wc E σ h2 fun z h3 => cop op' y z h3 fun k' => Q k' h3 else Q false h2) :=
  PT.imp (pt_chain (op_cmpD ok op) (op_cmpD ok op') ha hb hc hm) fun σ H Q ⟨σd, h, R, E, at_, w, p⟩ =>
    ⟨σd, h, _, E, at_, w, fun dx h1 x H1 w1 rx rh1 f1 => ⟨σd, h1, _, E, at_.fm rh1 f1, w1, fun dy h2 y H2 w2 ry rh2 f2 => ⟨dx, dy, h2, _, rx.fm rh1 f2, ry, rh2, w2, fun k q => ⟨k, rfl, by
      cases k with
      | false => exact ⟨false, rfl, p false h2 H2 q rh2 (f1.trans f2)⟩
      | true => exact ⟨σd, h2, _, E, (at_.fm rh1 f1).fm rh2 f2, q, fun dz h3 z H3 w3 rz rh3 f3 => ⟨dy, dz, h3, _, ry.fm rh2 f3, rz, rh3, w3, fun k' q' => ⟨k', rfl, p k' h3 H3 q' rh3 ((f1.trans f2).trans f3)⟩⟩⟩⟩⟩⟩⟩
theorem st_val (hK : X.K = G.K) (ha : PE X a (lE G W wa)) (he : ∀ whole, isTrue a X.env whole = (do let v ← whole; standAt a.pos; holding [v] (truthy v))) : PT X a (lT G W fun E σ h Q => wa E σ h fun x h1 => tru x h1 fun k => Q k h1) :=
  PT.imp (pt_truth ha he) fun σ H Q ⟨σd, h, R, E, at_, w, p⟩ =>
    ⟨σd, h, _, E, at_, w, fun dx h1 x H1 w1 rx rh1 f1 => by
      obtain ⟨k, t, q⟩ := tru_of hK rx rh1 w1
      exact ⟨k, t, p k h1 H1 q rh1 f1⟩⟩
theorem st_not (ha : PT X a (lT G W wt)) : PT X (.UnaryOp .Not a pos) (lT G W fun E σ h Q => wt E σ h fun k h1 => Q (!k) h1) :=
  PT.imp (pt_not ha) fun σ H Q ⟨σd, h, R, E, at_, w, p⟩ => ⟨σd, h, _, E, at_, w, fun k h1 H1 w1 rh1 f1 => p (!k) h1 H1 w1 rh1 f1⟩
theorem sw_and (ha : PT X a (lT G W wt)) (hb : PW X (.BoolOp .And (b :: es) pos) (lT G W wu)) : PW X (.BoolOp .And (a :: b :: es) pos) (lT G W fun E σ h Q => wt E σ h fun k h1 => if k = true then wu E σ h1 Q else Q false h1) :=
  PW.imp (pw_and ha hb) fun σ H Q ⟨σd, h, R, E, at_, w, p⟩ => ⟨σd, h, _, E, at_, w, fun k h1 H1 w1 rh1 f1 => by
    cases k with
    | true => exact ⟨σd, h1, R, E, at_.fm rh1 f1, w1, p.fm f1⟩
    | false => exact p false h1 H1 w1 rh1 f1⟩
theorem sw_or (ha : PT X a (lT G W wt)) (hb : PW X (.BoolOp .Or (b :: es) pos) (lT G W wu)) : PW X (.BoolOp .Or (a :: b :: es) pos) (lT G W fun E σ h Q => wt E σ h fun k h1 => if k = true then Q true h1 else wu E σ h1 Q) :=
  PW.imp (pw_or ha hb) fun σ H Q ⟨σd, h, R, E, at_, w, p⟩ => ⟨σd, h, _, E, at_, w, fun k h1 H1 w1 rh1 f1 => by
    cases k with
    | true => exact p true h1 H1 w1 rh1 f1
    | false => exact ⟨σd, h1, R, E, at_.fm rh1 f1, w1, p.fm f1⟩⟩
abbrev WL := DX → DS → MH → (List D → MH → Prop) → Prop
variable {wl wk : WL}
theorem sa_nil : PA X [] (lA G W fun _ _ h Q => Q [] h) := PA.imp pa_nil fun σ H Q ⟨σd, h, R, E, at_, w, p⟩ => p [] h [] H w repVs_nil at_.r Fm.refl
theorem sa_cons (ha : PE X a (lE G W wa)) (hr : PA X es (lA G W wl)) (hs : starEach (a :: es) X.env = (false, eval a X.env) :: starEach es X.env) : PA X (a :: es) (lA G W fun E σ h Q => wa E σ h fun x h1 => wl E σ h1 fun xs h2 => Q (x :: xs) h2) :=
  PA.imp (pa_cons ha hr hs) fun σ H Q ⟨σd, h, R, E, at_, w, p⟩ => ⟨σd, h, _, E, at_, w, fun dx h1 x H1 w1 rx rh1 f1 => ⟨σd, h1, _, E, at_.fm rh1 f1, w1, fun ds h2 xs H2 w2 rs rh2 f2 => p (dx :: ds) h2 (x :: xs) H2 w2 (repVs_cons (rx.fm rh1 f2) rs) rh2 (f1.trans f2)⟩⟩
theorem sk_nil : PK X [] (lA G W fun _ _ h Q => Q [] h) := PK.imp pk_nil fun σ H Q ⟨σd, h, R, E, at_, w, p⟩ => p [] h [] H w repVs_nil at_.r Fm.refl
theorem sk_cons {ks : List Keyword} {nm : Option Str} {kp : Pos} (ha : PE X a (lE G W wa)) (hr : PK X ks (lA G W wl)) : PK X (⟨nm, a, kp⟩ :: ks) (lA G W fun E σ h Q => wa E σ h fun x h1 => wl E σ h1 fun xs h2 => Q (x :: xs) h2) :=
  PK.imp (pk_cons ha hr) fun σ H Q ⟨σd, h, R, E, at_, w, p⟩ => ⟨σd, h, _, E, at_, w, fun dx h1 x H1 w1 rx rh1 f1 => ⟨σd, h1, _, E, at_.fm rh1 f1, w1, fun ds h2 xs H2 w2 rs rh2 f2 => p (dx :: ds) h2 (x :: xs) H2 w2 (repVs_cons (rx.fm rh1 f2) rs) rh2 (f1.trans f2)⟩⟩
theorem se_tup {x1} (ha : PA X es (lA G W wl)) : PE X (.Tuple es x1 pos) (lE G W fun E σ h Q => wl E σ h fun ds h1 => Fits ds.length ∧ Q (.tup ds) h1) :=
  PE.imp (pe_tup ha) fun σ H Q ⟨σd, h, R, E, at_, w, p⟩ => ⟨σd, h, _, E, at_, w, fun ds h1 xs H1 w1 rs rh1 f1 => ⟨by rw [rs.length]; exact w1.1, fun l n => (p.fm f1).tup rh1 w1.2 rs n⟩⟩
theorem se_lst (ha : PA X es (lA G W wl)) : PE X (.List es pos) (lE G W fun E σ h Q => wl E σ h fun ds h1 => Fits ds.length ∧ al (.lst ds) h1 Q) :=
  PE.imp (pe_lst ha) fun σ H Q ⟨σd, h, R, E, at_, w, p⟩ => ⟨σd, h, _, E, at_, w, fun ds h1 xs H1 w1 rs rh1 f1 => ⟨by rw [rs.length]; exact w1.1, fun l n => (p.fm f1).new rh1 w1.2 rs n⟩⟩
theorem so_none : PO X none (lO G W fun _ _ h Q => Q none h) := PO.imp po_none fun σ H Q ⟨σd, h, R, E, at_, w, p⟩ => p none h H w at_.r Fm.refl
theorem so_some (ha : PE X a (lE G W wa)) : PO X (some a) (lO G W fun E σ h Q => wa E σ h fun x h1 => match x with
    | .int i => Q (some i) h1
    | _ => False) :=
  PO.imp (po_some ha) fun σ H Q ⟨σd, h, R, E, at_, w, p⟩ => ⟨σd, h, _, E, at_, w, fun dx h1 x H1 w1 rx rh1 f1 => by
    cases dx with
    | int i => exact ⟨i, rx.int_inv, p (some i) h1 H1 w1 rh1 f1⟩
    | _ => exact w1.elim⟩
theorem se_sl {lo hi : Option Expr} {wo wp : DX → DS → MH → (Option Int → MH → Prop) → Prop} {p2 : Pos} (hK : X.K = G.K) (ha : PE X a (lE G W wa)) (hl : PO X lo (lO G W wo)) (hu : PO X hi (lO G W wp)) : PE X (.Subscript a (.Slice lo hi none p2) pos) (lE G W fun E σ h Q => wa E σ h fun x h1 => wo E σ h1 fun l h2 => wp E σ h2 fun u h3 => slD x l u h3 Q) :=
  PE.imp (pe_slice (sl_D hK) ha hl hu) fun σ H Q ⟨σd, h, R, E, at_, w, p⟩ => ⟨σd, h, _, E, at_, w, fun dx h1 x H1 w1 rx rh1 f1 => ⟨σd, h1, _, E, at_.fm rh1 f1, w1, fun l h2 H2 w2 rh2 f2 =>
    ⟨σd, h2, _, E, (at_.fm rh1 f1).fm rh2 f2, w2, fun u h3 H3 w3 rh3 f3 => ⟨dx, h3, R, (rx.fm rh1 f2).fm rh2 f3, rh3, w3, p.fm ((f1.trans f2).trans f3)⟩⟩⟩⟩
theorem se_rsl {k : Nat} {p1 p2 p3 : Pos} (hK : X.K = G.K) (ha : PE X a (lE G W wa)) : PE X (.Subscript a (.Slice none none (some (.UnaryOp .USub (.Constant (.int 1) k p1) p2)) p3) pos) (lE G W fun E σ h Q => wa E σ h fun x h1 => rslD x h1 Q) :=
  PE.imp (pe_revA ha) fun σ H Q ⟨σd, h, R, E, at_, w, p⟩ => ⟨σd, h, _, E, at_, w, fun dx h1 x H1 w1 rx rh1 f1 => by
    cases dx with
    | ref a =>
      obtain ⟨ds, e, q⟩ := w1
      obtain ⟨vs, g, rs⟩ := rh1.lst e
      exact ⟨a, vs, rx.ref_inv, .inl ⟨SqL.of g, fun l n => (p.fm f1).new rh1 q rs.reverse n⟩⟩
    | tup ds =>
      obtain ⟨a, vs, rfl, sq, rs⟩ := repV_tup.mp rx
      exact ⟨a, vs, rfl, .inr ⟨by rw [hK]; exact sq, fun l n => (p.fm f1).tup rh1 w1 rs.reverse n⟩⟩
    | _ => exact w1.elim⟩
/-- a built-in by its name -/
theorem se_bi {es' : List Expr} {x : Str} {p : Pos} {f : List D → MH → (D → MH → Prop) → Prop} {T : String} (hv' : bootBuiltins x = some (.builtin T) ∨ bootBuiltins x = some (.type T)) (u : Value) (hv : bootBuiltins x = some u) (hcb : CallR X u (lBi G f)) (hg : Gl X x) (hm : X.mg x = none) (ha : PA X (a :: es) (lA G W wl)) (hn : x ≠ "__name__") (hdb : (x == ("__debug__" : Str)) = false)
    (he : starEach (a :: es) X.env = (false, eval a X.env) :: starEach es X.env) (hpl : (backTo pos (starEach es X.env)).any (·.1) = false) : PE X (.Call (.Name x p) (a :: es) [] pos) (lE G W fun E σ h Q => wl E σ h fun ds h1 => f ds h1 Q) := by
  have key : ∀ σ H Q, lE G W (fun E σ h Q => wl E σ h fun ds h1 => f ds h1 Q) σ H Q → tCB (lBi G f) (lA G W wl) σ H Q := fun σ H Q ⟨σd, h, R, E, at_, w, p⟩ =>
    ⟨σd, h, _, E, at_, w, fun ds h1 xs H1 w1 rs rh1 f1 => ⟨ds, h1, R, rs, rh1, w1, p.fm f1⟩⟩
  rcases hv' with z | z
  · rw [hv] at z; cases z
    exact PE.imp (pe_callB hcb hg hm hv ha hn hdb he hpl) key
  · rw [hv] at z; cases z
    exact PE.imp (pe_callTy hcb hg hm hv ha hn hdb he hpl) key
theorem se_met0 {o : Expr} {m : Mt} {name : Str} {apos cpos : Pos} (ok : Ok X G) (pa : PlainAttrs (mtT m)) (slot : Slot (mtT m) name (mtId m)) (hty : typeOf (.builtin (mtId m)) = pure (.type "method_descriptor")) (ho : PE X o (lE G W wa))
    (hbase : attributeBase o name X.env (eval o X.env) = eval o X.env) (hline : (apos.endLine == cpos.line) = true) : PE X (.Call (.Attribute o name apos) [] [] cpos) (lE G W fun E σ h Q => wa E σ h fun x h1 => mtTy m x h1 ∧ met m x [] h1 Q) :=
  PE.imp (pe_bm0 pa slot hty (met_D ok m) ho hbase hline) fun σ H Q ⟨σd, h, R, E, at_, w, p⟩ => ⟨σd, h, _, E, at_, w, fun dx h1 x H1 w1 rx rh1 f1 => ⟨met_tyV (X := X) rh1 rx w1.1, dx, [], h1, R, rx, repVs_nil, rh1, w1.2, p.fm f1⟩⟩
theorem se_met {o : Expr} {m : Mt} {name : Str} {apos cpos : Pos} (ok : Ok X G) (pa : PlainAttrs (mtT m)) (slot : Slot (mtT m) name (mtId m)) (hty : typeOf (.builtin (mtId m)) = pure (.type "method_descriptor")) (ho : PE X o (lE G W wa)) (ha : PA X (a :: es) (lA G W wl))
    (hbase : attributeBase o name X.env (eval o X.env) = eval o X.env)
    (hfew : ((backTo cpos (starEach (a :: es) X.env)).all (fun x => !x.1) && (backToKw cpos (keywordEach [] X.env)).all (fun x => x.1.isSome)
      && decide ((a :: es).length + ([] : List Keyword).length + (if ([] : List Keyword).isEmpty then 0 else 1) < 30)) = true)
    (hline : (apos.endLine == cpos.line) = true) (hs : starEach (a :: es) X.env = (false, eval a X.env) :: starEach es X.env) (hplain : (backTo cpos (starEach es X.env)).any (·.1) = false) :
    PE X (.Call (.Attribute o name apos) (a :: es) [] cpos) (lE G W fun E σ h Q => wa E σ h fun x h1 => mtTy m x h1 ∧ wl E σ h1 fun ds h2 => met m x ds h2 Q) :=
  PE.imp (pe_bm pa slot hty (met_D ok m) ho ha hbase hfew hline hs hplain) fun σ H Q ⟨σd, h, R, E, at_, w, p⟩ => ⟨σd, h, _, E, at_, w, fun dx h1 x H1 w1 rx rh1 f1 => ⟨met_tyV (X := X) rh1 rx w1.1,
    σd, h1, _, E, at_.fm rh1 f1, w1.2, fun ds h2 xs H2 w2 rs rh2 f2 => ⟨dx, ds, h2, R, rx.fm rh1 f2, rs, rh2, w2, p.fm (f1.trans f2)⟩⟩⟩
end
end DL
set_option Elab.async false
set_option linter.all false
set_option maxRecDepth 100000
set_option maxHeartbeats 1000000
/-! The D layer: enumerate of a tuple. -/
namespace PySem
open Sem (wp)
open AutoSeq1 (wpAny_loadPart')
theorem meets_enumerate_newTup (l : Addr) (items : Array Value) :
    Meets (Builtin.«enumerate.__new__» ⟨[.type "enumerate", .ref l], []⟩) (fun _ R s => s.heap.IsTuple l items ∧
      R (.ok (.ret (.ref (s.heap.push { cls := .type "tuple_iterator", data := .fields #[.ref l, .int 0 0] }).objs.size)))
        { s with heap := (s.heap.push { cls := .type "tuple_iterator", data := .fields #[.ref l, .int 0 0] }).push { cls := .type "enumerate", data := .fields #[.none, .bool false, .ref s.heap.objs.size, rawInt 0, .none, .none] } }) :=
  .of_wp fun prog w A R s h => by
    obtain ⟨hp, g, d, tk, os⟩ := s
    obtain ⟨hl, h⟩ := h
    have hsub := sub_enumerate
    wp_walk
    refine wpAny_stack_any fun st => wpAny_pure ?_
    split
    · rename_i c _ _ _ _ _
      cases (c == Value.type "enumerate")
      · wp_walk using wpAny_pyIter_tuple hl
        exact ⟨_, rfl, h⟩
      · wp_walk using wpAny_pyIter_tuple hl
        exact ⟨_, rfl, h⟩
    · wp_walk using wpAny_pyIter_tuple hl
      exact ⟨_, rfl, h⟩
section
variable {prog : Program} {w : World} {A : Around} {E : Value → Shared → Prop} {s : Shared}
theorem call_enumerate_tup {l : Addr} {items : Array Value} {Q : Value → Shared → Prop} (hL : s.heap.IsTuple l items)
    (h : ∀ h', IsEnum h' (s.heap.objs.size + 1) s.heap.objs.size 0 .none → h'.IsTupleIter s.heap.objs.size l 0 → h'.objs.size = s.heap.objs.size + 2 →
      (∀ b o, s.heap.get? b = some o → h'.get? b = some o) → Q (.ref (s.heap.objs.size + 1)) { s with heap := h' }) :
    wpAny (model prog w) A (call (.type "enumerate") [.ref l]) Q E s := by
  refine callType_new F.called_enumerate (by decide) (F.typeCall_enumerate_1 _) (F.newCall_enumerate_1 _) (fun obj => F.args_object_init_2 obj _) F.entry_enumerate_new
    (meets_enumerate_newTup l items) ⟨hL, ?_⟩
  have hz : (s.heap.push { cls := .type "tuple_iterator", data := .fields #[.ref l, .int 0 0] }).objs.size = s.heap.objs.size + 1 := Heap.size_push ..
  show _ ∧ _
  rw [hz]
  have he : IsEnum ((s.heap.push { cls := .type "tuple_iterator", data := .fields #[.ref l, .int 0 0] }).push
      { cls := .type "enumerate", data := .fields #[.none, .bool false, .ref s.heap.objs.size, rawInt 0, .none, .none] }) (s.heap.objs.size + 1) s.heap.objs.size 0 .none := by
    have := Heap.get?_push_size (s.heap.push { cls := .type "tuple_iterator", data := .fields #[.ref l, .int 0 0] })
      (o := { cls := .type "enumerate", data := .fields #[.none, .bool false, .ref s.heap.objs.size, rawInt 0, .none, .none] }) rfl
    rw [hz] at this; exact this
  refine ⟨⟨_, he, rfl⟩, h _ he ⟨_, Heap.get?_push_of_some _ (Heap.get?_push_size _ rfl), rfl, rfl⟩ (by rw [Heap.size_push, hz]) fun b o x => Heap.get?_push_of_some _ (Heap.get?_push_of_some _ x)⟩
end
end PySem
namespace DL
open PySem PySem.Spec PyProof.Rows L2
/-- the tuple at a, each item in a new pair -/
def IteT (K : PySem.W.Frag) (a : Addr) : It :=
  ⟨fun i H => ∃ (xs : List V) (x : V), SqT K H a xs ∧ xs[i]? = some x, fun i H v H' => ∃ T x, v = .ref T ∧ H T = none ∧ H' = upd H T (.tup [.int (i : Nat), x]) ∧ ∀ xs, SqT K H a xs → xs[i]? = some x, fun i H => ∃ xs : List V, SqT K H a xs ∧ xs.length ≤ i⟩
theorem turn_enumT {P : Program} {w : World} {K : PySem.W.Frag} {elts : List Expr} {kk : Nat} {tpos : Pos} (a e it : Addr) (hai : a ≠ it) :
    Turn P w K (.Tuple elts kk tpos) (IteT K a) [e, it] e (fun i h => (∃ old, IsEnum h e it ((i : Nat) : Int) old) ∧ h.IsTupleIter it a i ∧ e ≠ it) where
  mem := by simp
  obj := fun i h st b hb => by
    obtain ⟨⟨old, he⟩, ⟨o, ho, hc, hd⟩, _⟩ := st
    have e' : b = e ∨ b = it := by simpa using hb
    rcases e' with z | z
    · rw [z]; exact ⟨_, he, fun v q => nomatch q⟩
    · rw [z]; exact ⟨o, ho, fun v q => by rw [hd] at q; cases q⟩
  keep := fun i h h' st k => let ⟨⟨old, he⟩, hi, hne⟩ := st; ⟨⟨old, k e (by simp) _ he⟩, hi.at fun o q => k it (by simp) o q, hne⟩
  item := by
    intro X hP hw hK hc i pins s σ H E I hf st hg
    subst hP hw hK
    obtain ⟨⟨old, he⟩, hit, hne⟩ := st
    obtain ⟨xs, x, hq, hx⟩ := hg
    obtain ⟨its, rv, p, hz⟩ := I.tuple hq
    obtain ⟨u, hu, ru⟩ := rv.get hx
    have hel : e < s.heap.objs.size := Heap.lt_size he
    have hil : it < s.heap.objs.size := by obtain ⟨_, q, _⟩ := hit; exact Heap.lt_size q
    have hea : e ≠ a := fun z => by
      obtain ⟨o, ho, hcl, _⟩ := p
      rw [← z, he] at ho
      cases ho
      injection hcl with hcl
      exact absurd hcl (by decide)
    have D := Draws.tuple (prog := X.prog) (w := X.w) (A := X.A.in1) (I.ok.hd hc) it a hai its.toArray
    refine wpAny_pyNext_enum_itemD D he ⟨hit, p⟩ (by simpa using (List.getElem?_eq_some_iff.mp hu).1) hne (by simp [hne, hea]) fun y h' tk hy ho hst hT hsz hk => ?_
    have hy : y = u := by
      rw [List.getElem?_toArray, hu] at hy
      exact (Option.some.inj hy).symm
    subst hy
    refine ⟨_, rfl, wpAny_letOwnedTupleGo_enum (s := { s with heap := h', toks := tk + 1 }) ho fun h'' he' sb => ?_⟩
    have hT2 : h''.get? s.heap.objs.size = some { cls := .type "tuple", data := .seq #[.int i tk, y] } := (sb.2 _ (Nat.ne_of_gt hel)).trans hT
    have new : ObjOk X.prog X.w (upd H s.heap.objs.size (.tup [.int (i : Nat), x])) h'' s.heap.objs.size (.tup [.int (i : Nat), x]) :=
      ⟨by show 2 ≤ sizeLine; decide, [.int i tk, y], .cons ⟨_, rfl⟩ (.cons ru .nil), ⟨_, hT2, rfl, _, rfl⟩⟩
    have I1 : Inv X pins σ (upd H s.heap.objs.size (.tup [.int (i : Nat), x])) { s with heap := h'', toks := tk + 1 } :=
      I.turnedNew (ch := [e, it]) (fun b ob hb q => (sb.2 b (fun z => hb (by simp [z]))).trans (hk b ob (fun z => hb (by simp [z])) (fun z => hb (by simp [z])) q)) hf (Nat.le_refl _) new
    refine ⟨.ref s.heap.objs.size, _, I1, rfl, ⟨_, x, rfl, I.hok.fresh (Nat.le_refl _), rfl, fun ys hy => by rw [I.tuple_inj hy hq]; exact hx⟩, ⟨⟨y, ?_⟩, hst.1.at fun o q => (sb.2 it (Ne.symm hne)).trans q, hne⟩, fun b hb => ?_⟩
    · have e1 : ((i + 1 : Nat) : Int) = (i : Int) + 1 := by omega
      rw [e1]; exact he'
    · have hb' : b < s.heap.objs.size := by
        have e' : b = e ∨ b = it := by simpa using hb
        rcases e' with z | z
        · rw [z]; exact hel
        · rw [z]; exact hil
      rw [upd_ne (Nat.ne_of_lt hb')]
      exact (hf b hb).1
  done := by
    intro X hP hw hK hc i pins s σ H E I hf st hg
    subst hP hw hK
    obtain ⟨⟨old, he⟩, hit, hne⟩ := st
    obtain ⟨xs, hq, hx⟩ := hg
    obtain ⟨its, rv, p, hz⟩ := I.tuple hq
    obtain ⟨f0, f1, f2, f3, f4, f5⟩ := hf it (by simp)
    have hl := rv.length
    have D : Draws X.prog X.w X.A.in1 it [it, a] i (fun _ _ => True) (fun j h => j = i ∧ h.IsTupleIter it a i ∧ h.IsTuple a its.toArray) :=
      { live := fun _ _ st => let ⟨o, ho, _⟩ := st.2.1; ⟨o, ho⟩
        frame := fun _ _ _ st hk => ⟨st.1, st.2.1.at fun o e => hk it (by simp) o e, st.2.2.at fun o e => hk a (by simp) o e⟩
        item := fun j s Q E hj st hQ => absurd st.1 (Nat.ne_of_lt hj)
        done := fun s Q E st hE => wpAny_nextOf_tuple_end (I.ok.hd hc) st.2.1 st.2.2 (by simp; omega) hE }
    exact wpAny_pyNext_enum_endD D he ⟨rfl, hit, p⟩ fun h' eb => ⟨rfl, I.turned (t' := s.toks) (fun b o hb q => eb b o hb q) f0 f1 f3 f4 f5⟩
  self := fun A i s Q E st h => let ⟨⟨_, he⟩, _⟩ := st; wpAny_pyIter_enum he h
def iEnumA (K : PySem.W.Frag) (ta : TA) : TI := fun σ H R => ta σ H fun vs H1 => ∃ a xs, vs = [.ref a] ∧ ((SqL K H1 a xs ∧ R (Ite K a) H1) ∨ (SqT K H1 a xs ∧ R (IteT K a) H1))
theorem pi_enumA {X : Cx} {e : Expr} {ta : TA} {p pos tpos : Pos} {elts : List Expr} {kk : Nat} (hg : Gl X "enumerate") (hm : X.mg "enumerate" = none) (ha : PA X [e] ta) (hs : starEach [e] X.env = [(false, eval e X.env)] := by rfl) :
    PI X (.Tuple elts kk tpos) (.Call (.Name "enumerate" p) [e] [] pos) (iEnumA X.K ta) := by
  refine ⟨fun pins s σ H R I h => ?_⟩
  refine Call_ (ld_blt I hg hm boot_enumerate (PyProof.Rows.callWith_type1 (thn (ha.run pos pins s σ H _ I h) fun us s1 ⟨vs, H1, I1, r1, q1⟩ => ?_) hs rfl))
  obtain ⟨a, xs, ex, hq⟩ := q1
  subst ex
  cases r1 with
  | cons r rr =>
    cases rr
    cases r
    have fp : ∀ b ∈ [s1.heap.objs.size + 1, s1.heap.objs.size], s1.heap.objs.size ≤ b := fun b hb => by
      have e' : b = s1.heap.objs.size + 1 ∨ b = s1.heap.objs.size := by simpa using hb
      rcases e' with z | z
      · rw [z]; exact Nat.le_add_right _ _
      · rw [z]; exact Nat.le_refl _
    rcases hq with ⟨hq, q⟩ | ⟨hq, q⟩
    · obtain ⟨its, rv, p', hz⟩ := I1.list hq
      refine call_enumerate_list p'.isList fun h' he hit hsz hk => wpAny_pyIter_enum he ?_
      have I2 : Inv X pins σ H1 { s1 with heap := h' } := I1.kept (t' := s1.toks) hk
      exact ⟨s1.heap.objs.size + 1, [s1.heap.objs.size + 1, s1.heap.objs.size], _, _, H1, rfl, I2, turn_enum a (s1.heap.objs.size + 1) s1.heap.objs.size, ⟨⟨.none, he⟩, hit, Nat.succ_ne_self _⟩, fun b hb => I1.fpOk (fp b hb) (I1.hok.fresh (fp b hb)), q⟩
    · obtain ⟨its, rv, p', hz⟩ := I1.tuple hq
      refine call_enumerate_tup p' fun h' he hit hsz hk => wpAny_pyIter_enum he ?_
      have I2 : Inv X pins σ H1 { s1 with heap := h' } := I1.kept (t' := s1.toks) hk
      exact ⟨s1.heap.objs.size + 1, [s1.heap.objs.size + 1, s1.heap.objs.size], _, _, H1, rfl, I2, turn_enumT a (s1.heap.objs.size + 1) s1.heap.objs.size (fun z => by obtain ⟨o, ho, _⟩ := p'; rw [z] at ho; exact absurd (Heap.lt_size ho) (Nat.lt_irrefl _)), ⟨⟨.none, he⟩, hit, Nat.succ_ne_self _⟩, fun b hb => I1.fpOk (fp b hb) (I1.hok.fresh (fp b hb)), q⟩
end DL
set_option Elab.async false
set_option linter.all false
set_option maxRecDepth 100000
set_option maxHeartbeats 1000000
/-! The D layer, 7: what is walked, targets, displays of dicts, comprehensions. -/
namespace DL
open PySem PySem.Spec PyProof.Rows L2

/-! ### what is walked -/
def iSeq (K : PySem.W.Frag) (te : TE) : TI := fun σ H R => te σ H fun x H1 =>
  (∃ a xs, x = .ref a ∧ SqL K H1 a xs ∧ R (Itl K a) H1) ∨ (∃ a xs, x = .ref a ∧ SqT K H1 a xs ∧ R (Itt K a) H1) ∨ ∃ z, x = .str z ∧ R (Its z) H1
theorem pi_seq {X : Cx} {tg e : Expr} {te : TE} (he : PE X e te) : PI X tg e (iSeq X.K te) := by
  refine ⟨fun pins s σ H R I h => ?_⟩
  refine thn (he.run pins s σ H _ I h) fun v s1 ⟨y, H1, I1, r1, q⟩ => ?_
  rcases q with ⟨a, xs, rfl, hq, q⟩ | ⟨a, xs, rfl, hq, q⟩ | ⟨z, rfl, q⟩
  · cases r1
    obtain ⟨its, rv, p, hz⟩ := I1.list hq
    exact wpAny_pyIter_list p.isList (pi_one (tk := s1.toks) I1 _ (turn_list a _) ⟨_, Heap.get?_push_size _ rfl, rfl, rfl⟩ q)
  · cases r1
    obtain ⟨its, rv, p, hz⟩ := I1.tuple hq
    exact wpAny_pyIter_tuple (show s1.heap.IsTuple a its.toArray from p) (pi_one (tk := s1.toks) I1 _ (turn_tuple a _) ⟨_, Heap.get?_push_size _ rfl, rfl, rfl⟩ q)
  · obtain ⟨t, rfl⟩ := r1
    cases ha : z.cps.all (· < 128)
    · exact wpAny_pyIter_wide ha (pi_one (tk := s1.toks) I1 _ (turn_str _ z t "str_iterator" (.inr rfl)) ⟨_, Heap.get?_push_size _ rfl, rfl, rfl⟩ q)
    · exact wpAny_pyIter_ascii ha (pi_one (tk := s1.toks) I1 _ (turn_str _ z t "str_ascii_iterator" (.inl rfl)) ⟨_, Heap.get?_push_size _ rfl, rfl, rfl⟩ q)

section
variable {G : Gr} {h0 : MH} {H0 : Hp} {K : PySem.W.Frag}
theorem sqL_det {H : Hp} {a : Addr} {xs vs : List V} (e : H a = some (.lst vs)) (hn : K.lookup a = none ∨ True) (q : Rd H a (.lst xs)) : xs = vs := by
  rcases q with q | ⟨ob, q⟩
  · rw [e] at q; cases q; rfl
  · rw [e] at q; cases q
/-- the list at a, unchanged -/
theorem it_list (rh : RepH G h0 H0) {a : Addr} {xs : List D} : ItRel G h0 H0 ⟨xs, fun h' => h' a = some (.lst xs)⟩ (Itl G.K a) := fun h H r f e => by
  obtain ⟨vs, g, rv⟩ := r.lst e
  refine ⟨fun i d ed => ?_, vs, .of g, Nat.le_of_eq rv.length⟩
  obtain ⟨v, ev, rd⟩ := rv.get ed
  refine ⟨⟨vs, v, .of g, ev⟩, fun x H' y => ?_⟩
  obtain ⟨rfl, y⟩ := y
  have := y vs (.of g)
  rw [ev] at this; cases this
  exact ⟨rd, r, Fm.refl⟩
theorem it_tup (rh : RepH G h0 H0) {a : Addr} {vs : List V} {xs : List D} (q : SqT G.K H0 a vs) (rv : RepVs G.K H0 xs vs) : ItRel G h0 H0 ⟨xs, fun _ => True⟩ (Itt G.K a) := fun h H r f _ => by
  have q' := f.t _ _ q
  have rv' := rv.mono f
  refine ⟨fun i d ed => ?_, vs, q', Nat.le_of_eq rv.length⟩
  obtain ⟨v, ev, rd⟩ := rv'.get ed
  refine ⟨⟨vs, v, q', ev⟩, fun x H' y => ?_⟩
  obtain ⟨rfl, y⟩ := y
  have := y vs q'
  rw [ev] at this; cases this
  exact ⟨rd, r, Fm.refl⟩
theorem it_scr (rh : RepH G h0 H0) {a : Addr} {vs : List V} {xs : List D} (q : FzL G.K H0 a vs) (rv : RepVs G.K H0 xs vs) : ItRel G h0 H0 ⟨xs, fun _ => True⟩ (Itl G.K a) := fun h H r f _ => by
  have q' := (f.l _ _ q).sq
  have rv' := rv.mono f
  refine ⟨fun i d ed => ?_, vs, q', Nat.le_of_eq rv.length⟩
  obtain ⟨v, ev, rd⟩ := rv'.get ed
  refine ⟨⟨vs, v, q', ev⟩, fun x H' y => ?_⟩
  obtain ⟨rfl, y⟩ := y
  have := y vs q'
  rw [ev] at this; cases this
  exact ⟨rd, r, Fm.refl⟩
theorem it_str {z : Str} : ItRel G h0 H0 ⟨z.cps.toList.map fun c => .str ⟨#[c]⟩, fun _ => True⟩ (Its z) := fun h H r f _ => by
  refine ⟨fun i d ed => ?_, by show z.cps.size ≤ _; simp⟩
  rw [List.getElem?_map] at ed
  cases e : z.cps.toList[i]? with
  | none => rw [e] at ed; cases ed
  | some c =>
    rw [e] at ed; cases ed
    have e' : z.cps[i]? = some c := by simpa using e
    refine ⟨(Array.getElem?_eq_some_iff.mp e').1, fun x H' y => ?_⟩
    obtain ⟨rfl, c', e2, rfl⟩ := y
    rw [e'] at e2; cases e2
    exact ⟨repV_str, r, Fm.refl⟩
theorem it_rng {lo : Int} {n : Nat} : ItRel G h0 H0 ⟨(List.range n).map fun (k : Nat) => .int (lo + k), fun _ => True⟩ (Itr lo n) := fun h H r f _ => by
  refine ⟨fun i d ed => ?_, by show n ≤ _; simp⟩
  rw [List.getElem?_map] at ed
  cases e : (List.range n)[i]? with
  | none => rw [e] at ed; cases ed
  | some c =>
    rw [e] at ed; cases ed
    obtain ⟨hi, e⟩ := List.getElem?_eq_some_iff.mp e
    simp at hi e; subst e
    · refine ⟨hi, fun x H' y => ?_⟩
      obtain ⟨rfl, rfl⟩ := y
      exact ⟨repV_int, r, Fm.refl⟩
theorem it_rngC {lo : Int} {n : Nat} : ItRel G h0 H0 ⟨(List.range n).map fun (k : Nat) => .int (lo - k), fun _ => True⟩ (Itc lo (-1) n) := fun h H r f _ => by
  refine ⟨fun i d ed => ?_, by show n ≤ _; simp⟩
  rw [List.getElem?_map] at ed
  cases e : (List.range n)[i]? with
  | none => rw [e] at ed; cases ed
  | some c =>
    rw [e] at ed; cases ed
    obtain ⟨hi, e⟩ := List.getElem?_eq_some_iff.mp e
    simp at hi e; subst e
    · refine ⟨hi, fun x H' y => ?_⟩
      obtain ⟨rfl, rfl⟩ := y
      have e2 : lo + (i : Int) * -1 = lo - i := by omega
      rw [e2]
      exact ⟨repV_int, r, Fm.refl⟩
theorem repPair {H : Hp} {h : MH} (r : RepH G h H) {x y : V} {dx dy : D} {T : Addr} (n : H T = none) (rx : RepV G.K H dx x) (ry : RepV G.K H dy y) :
    RepV G.K (L2.upd H T (.tup [x, y])) (.tup [dx, dy]) (.ref T) ∧ RepH G h (L2.upd H T (.tup [x, y])) ∧ Fm h H h (L2.upd H T (.tup [x, y])) :=
  ⟨RepV.tupNew n (repVs_cons rx (repVs_cons ry repVs_nil)), r.aside n, Fm.aside n⟩
theorem it_enm (rh : RepH G h0 H0) {a : Addr} {xs : List D} : ItRel G h0 H0 ⟨xs.zipIdx.map fun p => .tup [.int p.2, p.1], fun h' => h' a = some (.lst xs)⟩ (Ite G.K a) := fun h H r f e => by
  obtain ⟨vs, g, rv⟩ := r.lst e
  refine ⟨fun i d ed => ?_, vs, .of g, by simp [rv.length]⟩
  rw [List.getElem?_map, List.getElem?_zipIdx] at ed
  cases e2 : xs[i]? with
  | none => rw [e2] at ed; cases ed
  | some dx =>
    rw [e2] at ed; cases ed
    obtain ⟨v, ev, rd⟩ := rv.get e2
    refine ⟨⟨vs, v, .of g, ev⟩, fun x H' y => ?_⟩
    obtain ⟨T, x', rfl, n, rfl, y⟩ := y
    have := y vs (.of g)
    rw [ev] at this; cases this
    have e3 : (0 + i : Nat) = i := Nat.zero_add i
    simp only [e3]
    exact repPair r n repV_int rd
theorem it_enmT (rh : RepH G h0 H0) {a : Addr} {xs : List D} {vs : List V} (g : SqT G.K H0 a vs) (rv : RepVs G.K H0 xs vs) : ItRel G h0 H0 ⟨xs.zipIdx.map fun p => .tup [.int p.2, p.1], fun _ => True⟩ (IteT G.K a) := fun h H r f _ => by
  have g := f.t _ _ g
  have rv := rv.mono f
  refine ⟨fun i d ed => ?_, vs, g, by simp [rv.length]⟩
  rw [List.getElem?_map, List.getElem?_zipIdx] at ed
  cases e2 : xs[i]? with
  | none => rw [e2] at ed; cases ed
  | some dx =>
    rw [e2] at ed; cases ed
    obtain ⟨v, ev, rd⟩ := rv.get e2
    refine ⟨⟨vs, v, g, ev⟩, fun x H' y => ?_⟩
    obtain ⟨T, x', rfl, n, rfl, y⟩ := y
    have := y vs g
    rw [ev] at this; cases this
    have e3 : (0 + i : Nat) = i := Nat.zero_add i
    simp only [e3]
    exact repPair r n repV_int rd
theorem zip_get {α β : Type} {xs : List α} {ys : List β} {i : Nat} {p : α × β} (e : (xs.zip ys)[i]? = some p) : xs[i]? = some p.1 ∧ ys[i]? = some p.2 := by
  rw [List.getElem?_zip_eq_some] at e
  exact e
theorem it_zipL (rh : RepH G h0 H0) {a b : Addr} {xs ys : List D} : ItRel G h0 H0 ⟨(xs.zip ys).map fun p => .tup [p.1, p.2], fun h' => h' a = some (.lst xs) ∧ h' b = some (.lst ys)⟩ (Itz G.K a b) := fun h H r f ⟨e, e'⟩ => by
  obtain ⟨vs, g, rv⟩ := r.lst e
  obtain ⟨us, g', rv'⟩ := r.lst e'
  refine ⟨fun i d ed => ?_, vs, us, .of g, .of g', by simp only [List.length_map, List.length_zip, rv.length, rv'.length]; omega⟩
  rw [List.getElem?_map] at ed
  cases e2 : (xs.zip ys)[i]? with
  | none => rw [e2] at ed; cases ed
  | some p =>
    rw [e2] at ed; cases ed
    obtain ⟨h1, h2⟩ := zip_get e2
    obtain ⟨v, ev, rd⟩ := rv.get h1
    obtain ⟨v', ev', rd'⟩ := rv'.get h2
    refine ⟨⟨vs, us, v, v', .of g, .of g', ev, ev'⟩, fun x H' y => ?_⟩
    obtain ⟨T, x1, x2, rfl, n, rfl, y1, y2⟩ := y
    have z1 := y1 vs (.of g)
    have z2 := y2 us (.of g')
    rw [ev] at z1; cases z1
    rw [ev'] at z2; cases z2
    exact repPair r n rd rd'
theorem it_zipT (rh : RepH G h0 H0) {a b : Addr} {xs ys : List D} {vs us : List V} (g : SqT G.K H0 a vs) (g' : SqT G.K H0 b us) (rv : RepVs G.K H0 xs vs) (rv' : RepVs G.K H0 ys us) : ItRel G h0 H0 ⟨(xs.zip ys).map fun p => .tup [p.1, p.2], fun _ => True⟩ (RZ.ItzT G.K a b) := fun h H r f _ => by
  have g := f.t _ _ g
  have g' := f.t _ _ g'
  have rv := rv.mono f
  have rv' := rv'.mono f
  refine ⟨fun i d ed => ?_, vs, us, g, g', by simp only [List.length_map, List.length_zip, rv.length, rv'.length]; omega⟩
  rw [List.getElem?_map] at ed
  cases e2 : (xs.zip ys)[i]? with
  | none => rw [e2] at ed; cases ed
  | some p =>
    rw [e2] at ed; cases ed
    obtain ⟨h1, h2⟩ := zip_get e2
    obtain ⟨v, ev, rd⟩ := rv.get h1
    obtain ⟨v', ev', rd'⟩ := rv'.get h2
    refine ⟨⟨vs, us, v, v', g, g', ev, ev'⟩, fun x H' y => ?_⟩
    obtain ⟨T, x1, x2, rfl, n, rfl, y1, y2⟩ := y
    have z1 := y1 vs g
    have z2 := y2 us g'
    rw [ev] at z1; cases z1
    rw [ev'] at z2; cases z2
    exact repPair r n rd rd'
theorem rev_get {α : Type} {xs : List α} {i : Nat} {d : α} (e : xs.reverse[i]? = some d) : i < xs.length ∧ xs[xs.length - 1 - i]? = some d := by
  have hi : i < xs.length := by
    have := (List.getElem?_eq_some_iff.mp e).1
    simpa using this
  rw [List.getElem?_reverse hi] at e
  exact ⟨hi, e⟩
theorem it_revL (rh : RepH G h0 H0) {a : Addr} {xs : List D} : ItRel G h0 H0 ⟨xs.reverse, fun h' => h' a = some (.lst xs)⟩ (Itv G.K a xs.length) := fun h H r f e => by
  obtain ⟨vs, g, rv⟩ := r.lst e
  refine ⟨fun i d ed => ?_, by show xs.length ≤ _; simp⟩
  obtain ⟨hi, ed⟩ := rev_get ed
  obtain ⟨v, ev, rd⟩ := rv.get ed
  refine ⟨⟨hi, vs, v, .of g, ev⟩, fun x H' y => ?_⟩
  obtain ⟨rfl, y⟩ := y
  have := y vs (.of g)
  rw [ev] at this; cases this
  exact ⟨rd, r, Fm.refl⟩
theorem it_revT (rh : RepH G h0 H0) {a : Addr} {vs : List V} {xs : List D} (q : SqT G.K H0 a vs) (rv : RepVs G.K H0 xs vs) : ItRel G h0 H0 ⟨xs.reverse, fun _ => True⟩ (RT.ItvT G.K a xs.length) := fun h H r f _ => by
  have q' := f.t _ _ q
  have rv' := rv.mono f
  refine ⟨fun i d ed => ?_, by show xs.length ≤ _; simp⟩
  obtain ⟨hi, ed⟩ := rev_get ed
  obtain ⟨v, ev, rd⟩ := rv'.get ed
  refine ⟨⟨hi, vs, v, q', ev⟩, fun x H' y => ?_⟩
  obtain ⟨rfl, y⟩ := y
  have := y vs q'
  rw [ev] at this; cases this
  exact ⟨rd, r, Fm.refl⟩
end
section
variable {X : Cx} {G : Gr} {W : WX} {e e2 tg : Expr} {p pos : Pos} {wa wb : WE} {wl : WL}
theorem si_of (hK : X.K = G.K) (he : PE X e (lE G W wa)) : PI X tg e (lI G W fun E σ h R => wa E σ h fun x h1 => walkD x h1 fun J => R J h1) :=
  PI.imp (pi_seq he) fun σ H Q ⟨σd, h, R, E, at_, w, p⟩ => ⟨σd, h, _, E, at_, w, fun dx h1 x H1 w1 rx rh1 f1 => by
    cases dx with
    | tup ds =>
      obtain ⟨a, vs, rfl, sa, ra⟩ := repV_tup.mp rx
      exact .inr (.inl ⟨a, vs, rfl, by rw [hK]; exact sa, by rw [hK]; exact p _ _ _ _ w1 (it_tup rh1 sa ra) rh1 f1⟩)
    | scr ds =>
      obtain ⟨a, vs, rfl, sa, ra⟩ := repV_scr.mp rx
      exact .inl ⟨a, vs, rfl, by rw [hK]; exact sa.sq, by rw [hK]; exact p _ _ _ _ w1 (it_scr rh1 sa ra) rh1 f1⟩
    | str z => exact .inr (.inr ⟨z, rx.str_inv, p _ _ _ _ w1 it_str rh1 f1⟩)
    | ref a =>
      obtain ⟨xs, ea, q⟩ := w1
      obtain ⟨vs, g, rv⟩ := rh1.lst ea
      exact .inl ⟨a, vs, rx.ref_inv, .of g, by rw [hK]; exact p _ _ _ _ q (it_list rh1) rh1 f1⟩
    | _ => exact w1.elim⟩

/-- range of any arguments -/
def iRngA (ta : TA) : TI := fun σ H R => ta σ H fun vs H1 =>
  (∃ j : Int, vs = [.int j] ∧ -(2 ^ 62) ≤ j ∧ j < 2 ^ 62 ∧ R (Itr 0 j.toNat) H1) ∨ (∃ i j : Int, vs = [.int i, .int j] ∧ (-(2 ^ 62) ≤ i ∧ i < 2 ^ 62 ∧ -(2 ^ 62) ≤ j ∧ j < 2 ^ 62) ∧ R (Itr i (j - i).toNat) H1) ∨
    ∃ (i j c : Int) (n : Nat), vs = [.int i, .int j, .int c] ∧ RgC i j c n ∧ R (Itc i c n) H1
theorem pi_rangeA {es : List Expr} {ta : TA} (hg : Gl X "range") (hm : X.mg "range" = none) (ha : PA X (e :: es) ta)
    (hs : starEach (e :: es) X.env = (false, eval e X.env) :: starEach es X.env) (hpl : (backTo pos (starEach es X.env)).any (·.1) = false) :
    PI X tg (.Call (.Name "range" p) (e :: es) [] pos) (iRngA ta) := by
  refine ⟨fun pins s σ H R I h => ?_⟩
  refine Call_ (ld_blt I hg hm boot_range (PyProof.Rows.callWith_type1 (thn (ha.run pos pins s σ H _ I h) fun us s1 ⟨vs, H1, I1, r1, q1⟩ => ?_) hs hpl))
  rcases q1 with ⟨j, rfl, q1, q2, q⟩ | ⟨i, j, rfl, ⟨q1, q2, q3, q4⟩, q⟩ | ⟨i, j, k, n, rfl, ⟨c0, c1, c2, c3⟩, q⟩
  · cases r1 with
    | cons r rr =>
      cases rr
      obtain ⟨t, rfl⟩ := r
      exact call_range_1 (range_it I1 (by omega) (by omega) q1 q2 (by simpa using q))
  · cases r1 with
    | cons r rr =>
      cases rr with
      | cons r' rr =>
        cases rr
        obtain ⟨t, rfl⟩ := r
        obtain ⟨t', rfl⟩ := r'
        exact call_range_2 (range_it I1 q1 q2 q3 q4 q)
  · cases r1 with
    | cons r rr =>
      cases rr with
      | cons r' rr =>
        cases rr with
        | cons r'' rr =>
          cases rr
          obtain ⟨t, rfl⟩ := r
          obtain ⟨t', rfl⟩ := r'
          obtain ⟨t'', rfl⟩ := r''
          refine call_range_3 c0 ?_ (.inl (PyProof.noPylong_small c1))
          refine wpAny_pyIter_range (IsRange.new ..) c2 ?_
          have I2 : Inv X pins σ H1 { s1 with heap := s1.heap.push { cls := .type "range", data := .fields #[.int i t, .int j t', .int k t''] } } := I1.kept (t' := s1.toks) fun b o e => Heap.get?_push_of_some _ e
          refine pi_one (tk := s1.toks) I2 _ (turn_rangeC _ i k n) ?_ q
          have e1 : i + ((0 : Nat) : Int) * k = i := by simp
          have e2 : (n : Int) - ((0 : Nat) : Int) = Builtin.Range.rangeSize i j k := by rw [c3]; simp
          show IsRangeIter _ _ (i + ((0 : Nat) : Int) * k) ((n : Int) - ((0 : Nat) : Int)) k
          rw [e1, e2]
          exact Heap.get?_push_size _ rfl
theorem RepVs.ints3 {K : PySem.W.Frag} {H : Hp} {a b c : Int} {vs : List V} (r : RepVs K H [.int a, .int b, .int c] vs) : vs = [.int a, .int b, .int c] := by
  obtain ⟨v, l, rfl, h1, r⟩ := r.cons_inv
  obtain ⟨v2, l, rfl, h2, r⟩ := r.cons_inv
  obtain ⟨v3, l, rfl, h3, r⟩ := r.cons_inv
  rw [h1.int_inv, h2.int_inv, h3.int_inv, r.nil_inv]
theorem si_rng {es : List Expr} (hg : Gl X "range") (hm : X.mg "range" = none) (ha : PA X (e :: es) (lA G W wl)) (hs : starEach (e :: es) X.env = (false, eval e X.env) :: starEach es X.env) (hpl : (backTo pos (starEach es X.env)).any (·.1) = false) :
    PI X tg (.Call (.Name "range" p) (e :: es) [] pos) (lI G W fun E σ h R => wl E σ h fun ds h1 => rngD ds fun J => R J h1) :=
  PI.imp (pi_rangeA hg hm ha hs hpl) fun σ H Q ⟨σd, h, R, E, at_, w, p⟩ => ⟨σd, h, _, E, at_, w, fun ds h1 xs H1 w1 rs rh1 f1 => by
    unfold rngD at w1
    split at w1
    · rename_i j
      obtain ⟨v, rfl, rv⟩ := rs.one
      refine .inl ⟨j, by rw [rv.int_inv], by omega, by omega, ?_⟩
      exact p ⟨(List.range j.toNat).map fun (k : Nat) => .int (0 + k), fun _ => True⟩ h1 (Itr 0 j.toNat) H1 (by simpa only [Int.zero_add] using w1.2) it_rng rh1 f1
    · rename_i i j
      obtain ⟨v, u, rfl, rv, ru⟩ := rs.two
      exact .inr (.inl ⟨i, j, by rw [rv.int_inv, ru.int_inv], by omega, p _ h1 (Itr i (j - i).toNat) H1 w1.2 it_rng rh1 f1⟩)
    · rename_i i j c
      obtain ⟨⟨b1, b2, b3, b4, rfl⟩, w2⟩ := w1
      exact .inr (.inr ⟨i, j, -1, (i - j).toNat, rs.ints3, RgC.neg (by omega) (by omega) (by omega) (by omega), p _ h1 (Itc i (-1) (i - j).toNat) H1 w2 it_rngC rh1 f1⟩)
    · exact w1.elim⟩
theorem si_zip {elts : List Expr} {kk : Nat} {tpos : Pos} (hK : X.K = G.K) (hg : Gl X "zip") (hm : X.mg "zip" = none) (ha : PE X e (lE G W wa)) (hb : PE X e2 (lE G W wb)) (hs : starEach [e, e2] X.env = (false, eval e X.env) :: starEach [e2] X.env) (hs2 : starEach [e2] X.env = (false, eval e2 X.env) :: starEach [] X.env)
    (hpl : (backTo pos (starEach [e2] X.env)).any (·.1) = false) : PI X (.Tuple elts kk tpos) (.Call (.Name "zip" p) [e, e2] [] pos) (lI G W fun E σ h R => wa E σ h fun x h1 => wb E σ h1 fun y h2 => zipD x y h2 fun J => R J h2) :=
  PI.imp (RZ.pi_zipA hg hm (pa_cons ha (pa_cons hb pa_nil hs2) hs) hs hpl) fun σ H Q ⟨σd, h, R, E, at_, w, p⟩ =>
    ⟨σd, h, _, E, at_, w, fun dx h1 x H1 w1 rx rh1 f1 => ⟨σd, h1, _, E, at_.fm rh1 f1, w1, fun dy h2 y H2 w2 ry rh2 f2 => by
      show ∃ a b xs ys, _
      have rx := rx.fm rh1 f2
      unfold zipD at w2
      split at w2
      · obtain ⟨a, vs, rfl, sa, ra⟩ := repV_tup.mp rx
        obtain ⟨b, us, rfl, sb, rb⟩ := repV_tup.mp ry
        exact ⟨a, b, vs, us, rfl, .inr ⟨by rw [hK]; exact sa, by rw [hK]; exact sb, by rw [hK]; exact p _ _ _ _ w2 (it_zipT rh2 sa sb ra rb) rh2 (f1.trans f2)⟩⟩
      · obtain ⟨xs, ys, e1, e2, q⟩ := w2
        obtain ⟨vs, g, _⟩ := rh2.lst e1
        obtain ⟨us, g', _⟩ := rh2.lst e2
        exact ⟨_, _, vs, us, by rw [rx.ref_inv, ry.ref_inv], .inl ⟨.of g, .of g', by rw [hK]; exact p _ _ _ _ q (it_zipL rh2) rh2 (f1.trans f2)⟩⟩
      · exact w2.elim⟩⟩
theorem si_enm {elts : List Expr} {kk : Nat} {tpos : Pos} (hK : X.K = G.K) (hg : Gl X "enumerate") (hm : X.mg "enumerate" = none) (ha : PE X e (lE G W wa)) (hs : starEach [e] X.env = [(false, eval e X.env)]) (hs2 : starEach [e] X.env = (false, eval e X.env) :: starEach [] X.env) :
    PI X (.Tuple elts kk tpos) (.Call (.Name "enumerate" p) [e] [] pos) (lI G W fun E σ h R => wa E σ h fun x h1 => enmD x h1 fun J => R J h1) :=
  PI.imp (pi_enumA hg hm (pa_cons ha pa_nil hs2) hs) fun σ H Q ⟨σd, h, R, E, at_, w, p⟩ =>
    ⟨σd, h, _, E, at_, w, fun dx h1 x H1 w1 rx rh1 f1 => by
      show ∃ a xs, _
      unfold enmD at w1
      split at w1
      · obtain ⟨xs, e1, q⟩ := w1
        obtain ⟨vs, g, _⟩ := rh1.lst e1
        exact ⟨_, vs, by rw [rx.ref_inv], .inl ⟨.of g, by rw [hK]; exact p _ _ _ _ q (it_enm rh1) rh1 f1⟩⟩
      · obtain ⟨a, vs, rfl, sq, rs⟩ := repV_tup.mp rx
        exact ⟨a, vs, rfl, .inr ⟨by rw [hK]; exact sq, by rw [hK]; exact p _ _ _ _ w1 (it_enmT rh1 sq rs) rh1 f1⟩⟩
      · exact w1.elim⟩
theorem si_rev (hK : X.K = G.K) (hg : Gl X "reversed") (hm : X.mg "reversed" = none) (ha : PE X e (lE G W wa)) (hs : starEach [e] X.env = (false, eval e X.env) :: starEach [] X.env) :
    PI X tg (.Call (.Name "reversed" p) [e] [] pos) (lI G W fun E σ h R => wa E σ h fun x h1 => revD x h1 fun J => R J h1) :=
  PI.imp (RT.pi_revA hg hm ha hs) fun σ H Q ⟨σd, h, R, E, at_, w, p⟩ =>
    ⟨σd, h, _, E, at_, w, fun dx h1 x H1 w1 rx rh1 f1 => by
      unfold revD at w1
      split at w1
      · obtain ⟨a, vs, rfl, sa, ra⟩ := repV_tup.mp rx
        exact ⟨a, vs, rfl, .inr ⟨by rw [hK]; exact sa, by rw [hK, ra.length]; exact p _ _ _ _ w1 (it_revT rh1 sa ra) rh1 f1⟩⟩
      · obtain ⟨xs, e1, q⟩ := w1
        obtain ⟨vs, g, rv⟩ := rh1.lst e1
        exact ⟨_, vs, rx.ref_inv, .inl ⟨.of g, by rw [hK, rv.length]; exact p _ _ _ _ q (it_revL rh1) rh1 f1⟩⟩
      · exact w1.elim⟩
end

/-! ### loops' targets -/
def gNms : List Nat → TGs
  | [] => gNil
  | i :: is => gCons (gName i) (gNms is)
def tgG (K : PySem.W.Frag) : Tg → TG
  | .nm i => gName i
  | .tp is => gTup K is.length (gNms is)
section
variable {G : Gr} {h : MH} {H : Hp} {σd : DS} {σ : L2.St}
theorem gNms_ok {Q : L2.St → Hp → Prop} : ∀ {is : List Nat} {ds : List D} {vs : List V} {σd : DS} {σ : L2.St}, ds.length = is.length → RepVs G.K H ds vs → RepS G.K H σd σ → (∀ σ', RepS G.K H (setAll σd is ds) σ' → Q σ' H) → gNms is vs σ H Q
  | [], [], vs, σd, σ, _, r, rs, k => by rw [r.nil_inv]; exact ⟨rfl, k σ rs⟩
  | [], _ :: _, _, _, _, l, _, _, _ => by cases l
  | _ :: _, [], _, _, _, l, _, _, _ => by cases l
  | i :: is, d :: ds, vs, σd, σ, l, r, rs, k => by
    obtain ⟨v, us, rfl, rv, r⟩ := r.cons_inv
    exact ⟨v, us, rfl, gNms_ok (Nat.succ.inj l) r (rs.set rv) k⟩
theorem tgG_ok {t : Tg} {d : D} {v : V} {P : DS → Prop} {Q : L2.St → Hp → Prop} (b : bindT t d σd P) (rv : RepV G.K H d v) (rs : RepS G.K H σd σ) (k : ∀ σd' σ', P σd' → RepS G.K H σd' σ' → Q σ' H) : tgG G.K t v σ H Q := by
  cases t with
  | nm i => exact k _ _ b (rs.set rv)
  | tp is =>
    cases d with
    | tup ds =>
      obtain ⟨a, vs, rfl, sa, ra⟩ := repV_tup.mp rv
      exact ⟨a, vs, rfl, sa, by rw [ra.length]; exact b.1, gNms_ok b.1 ra rs fun σ' r => k _ _ b.2 r⟩
    | _ => exact b.elim
end
def tgIn : Tg → List Nat → Bool
  | .nm i, vs => vs.contains i
  | .tp is, vs => is.all fun i => vs.contains i
theorem wipe_get {σ : L2.St} {i : Nat} : ∀ {vs : List Nat}, (wipe σ vs)[i]? = if i ∈ vs then (σ[i]?).map (fun _ => none) else σ[i]?
  | [] => by simp [wipe]
  | v :: vs => by
    unfold wipe
    by_cases hv : v = i
    · subst hv
      rw [if_pos List.mem_cons_self]
      by_cases hl : v < σ.length
      · rw [List.getElem?_set_self (by rw [wipe_length]; exact hl), List.getElem?_eq_getElem hl]; rfl
      · rw [List.getElem?_eq_none (by rw [List.length_set, wipe_length]; omega), List.getElem?_eq_none (by omega)]; rfl
    · rw [List.getElem?_set_ne hv, wipe_get]
      have : i ∈ v :: vs ↔ i ∈ vs := by simp [Ne.symm hv]
      simp only [this]
theorem wipe_set {σ : L2.St} {i : Nat} {x : Option V} {vs : List Nat} (hi : i ∈ vs) : wipe (σ.set i x) vs = wipe σ vs := by
  apply List.ext_getElem?
  intro j
  rw [wipe_get, wipe_get]
  by_cases hj : i = j
  · subst hj
    simp only [hi, if_true, List.getElem?_set_self']
    cases σ[i]? <;> rfl
  · rw [List.getElem?_set_ne hj]
theorem wipe_idem {σ : L2.St} {vs : List Nat} : wipe (wipe σ vs) vs = wipe σ vs := by
  apply List.ext_getElem?
  intro j
  rw [wipe_get, wipe_get]
  split
  · rw [Option.map_map]; rfl
  · rfl
theorem gNms_in {K : PySem.W.Frag} {ws : List Nat} {Q : L2.St → Hp → Prop} {H : Hp} : ∀ {is : List Nat} {vs : List V} {σ : L2.St}, (∀ i ∈ is, i ∈ ws) → gNms is vs σ H Q → gNms is vs σ H fun σ' H' => wipe σ' ws = wipe σ ws ∧ Q σ' H'
  | [], vs, σ, _, h => ⟨h.1, rfl, h.2⟩
  | i :: is, vs, σ, hi, ⟨v, r, e, q⟩ => ⟨v, r, e, by
    have q' := gNms_in (K := K) (fun j hj => hi j (List.mem_cons_of_mem _ hj)) q
    rw [wipe_set (hi i List.mem_cons_self)] at q'
    exact q'⟩
theorem tgG_in {K : PySem.W.Frag} {t : Tg} {ws : List Nat} {v : V} {σ : L2.St} {H : Hp} {Q : L2.St → Hp → Prop} (hi : tgIn t ws = true) (q : tgG K t v (wipe σ ws) H Q) : tgG K t v (wipe σ ws) H fun σ' H' => wipe σ' ws = wipe σ ws ∧ Q σ' H' := by
  cases t with
  | nm i => exact ⟨by rw [wipe_set (by simpa [tgIn] using hi), wipe_idem], q⟩
  | tp is =>
    obtain ⟨a, xs, e, s, l, q⟩ := q
    refine ⟨a, xs, e, s, l, ?_⟩
    have := gNms_in (K := K) (ws := ws) (fun i h => by simpa [tgIn] using (List.all_eq_true.mp hi) i h) q
    rw [wipe_idem] at this
    exact this
theorem RepS.wipe {K : PySem.W.Frag} {H : Hp} {σd : DS} {σ : L2.St} (r : RepS K H σd σ) : ∀ vs : List Nat, RepS K H (wipeD σd vs) (L2.wipe σ vs)
  | [] => r
  | v :: vs => by
    have q := RepS.wipe r vs
    unfold wipeD L2.wipe
    refine ⟨by rw [List.length_set, List.length_set]; exact q.1, fun i d e => ?_⟩
    by_cases hv : v = i
    · subst hv
      by_cases hl : v < (wipeD σd vs).length
      · rw [List.getElem?_set_self hl] at e; cases e
      · rw [List.getElem?_eq_none (by rw [List.length_set]; omega)] at e; cases e
    · rw [List.getElem?_set_ne hv] at e
      rw [List.getElem?_set_ne hv]
      exact q.2 i d e
end DL
set_option Elab.async false
set_option linter.all false
set_option maxRecDepth 100000
set_option maxHeartbeats 1000000
/-! The D layer, 8: displays of dicts, isinstance, comprehensions. -/
namespace DL
open PySem PySem.Spec PyProof.Rows L2

section
variable {G : Gr} {h h1 : MH} {H H1 : Hp}
/-- what stands aside of the small heap is written -/
theorem RepH.asideW {p : Addr} {o u : HO} (R : RepH G h H) (n : h p = none) (e : H p = some u) (wr : Wr u) : RepH G h (L2.upd H p o) := fun a x ea =>
  (R a x ea).stay (upd_ne fun z => by rw [z, n] at ea; cases ea) (pst_wr e wr) fun dx y z => ⟨by rw [upd_ne (fun q => by rw [q, e] at y; cases y; exact wr)]; exact y, z⟩
/-- .. and taken in -/
theorem RepH.takeIn {p : Addr} {o w : HO} {u : MO} (R : RepH G h H) (n : H p = some w) (wr : Wr w) (new : RepO G (up h p u) (L2.upd H p o) p u) : RepH G (up h p u) (L2.upd H p o) := R.write n wr new
theorem Fm.takeIn {p : Addr} {o : HO} {u : MO} (n : H p = none) (f : Fm h H h1 H1) : Fm h H (up h1 p u) (L2.upd H1 p o) := fun a x e q => by
  have ne : a ≠ p := fun z => by rw [z, n] at q; cases q
  obtain ⟨a1, a2⟩ := f a x e q
  exact ⟨by rw [up_ne ne]; exact a1, by rw [upd_ne ne]; exact a2⟩
theorem Fm.asideW {p : Addr} {o : HO} (n : H p = none) (f : Fm h H h1 H1) : Fm h H h1 (L2.upd H1 p o) := fun a x e q => by
  have ne : a ≠ p := fun z => by rw [z, n] at q; cases q
  obtain ⟨a1, a2⟩ := f a x e q
  exact ⟨a1, by rw [upd_ne ne]; exact a2⟩
/-- a list that stood aside is taken in -/
theorem RepH.takeLst {p : Addr} {vs : List V} {ds : List D} (R : RepH G h H) (e : H p = some (.lst vs)) (n : h p = none) (r : RepVs G.K H ds vs) : RepH G (up h p (.lst ds)) H := fun a x ea => by
  by_cases ha : a = p
  · subst ha; rw [up_same] at ea; cases ea; exact ⟨vs, e, r⟩
  · rw [up_ne ha] at ea
    refine (R a x ea).stay rfl ⟨fun _ _ q => q, fun _ _ q => q⟩ fun dx y z => ⟨y, ?_⟩
    rw [up_ne (fun q => by rw [q, e] at y; cases y)]; exact z
end

/-! ### {k: v, ..} -/
def mergeD (kvs more : List (Key × D)) : List (Key × D) := more.foldl (fun acc kv => putK acc kv.1 kv.2) kvs
theorem RepF.merge {K : PySem.W.Frag} {H : Hp} : ∀ {more : List (Key × D)} {mores : List (Key × V)} {kvs : List (Key × D)} {ks : List (Key × V)}, RepF K H more mores → RepF K H kvs ks → RepF K H (mergeD kvs more) (mergeK ks mores)
  | [], _, _, _, r, q => by rw [show _ = [] from r]; exact q
  | (k, d) :: more, _, kvs, ks, r, q => by
    obtain ⟨v, s, rfl, rv, r'⟩ := r
    show RepF K H (mergeD (DL.putK kvs k d) more) (mergeK (L2.putK ks k v) s)
    exact RepF.merge r' (q.put rv)
theorem mergeD_app : ∀ {more kvs : List (Key × D)}, (∀ p ∈ more, p.1 ∉ kvs.map (·.1)) → (more.map (·.1)).Nodup → mergeD kvs more = kvs ++ more
  | [], kvs, _, _ => (List.append_nil _).symm
  | (k, d) :: more, kvs, hn, nd => by
    have nk := hn (k, d) List.mem_cons_self
    have e : putK kvs k d = kvs ++ [(k, d)] := by
      unfold putK
      rw [if_neg]
      intro z
      obtain ⟨p, hp, e⟩ := List.any_eq_true.mp z
      exact nk (List.mem_map.mpr ⟨p, hp, of_decide_eq_true e⟩)
    show mergeD (putK kvs k d) more = _
    rw [e, mergeD_app, List.append_assoc] <;> try rfl
    · intro p hp z
      rw [List.map_append, List.mem_append] at z
      rcases z with z | z
      · exact hn p (List.mem_cons_of_mem _ hp) z
      · rw [List.map_cons, List.nodup_cons] at nd
        have : p.1 = k := by simpa using z
        exact nd.1 (List.mem_map.mpr ⟨p, hp, this⟩)
    · rw [List.map_cons, List.nodup_cons] at nd; exact nd.2
def SPP (X : Cx) (G : Gr) (W : WX) (pos : Pos) (ks : List Str) (keys : List (Option Expr)) (values : List Expr) (wl : WL) : Prop :=
  ∃ trs, PPs X pos keys values trs ∧ ∀ σ H (Q : List V → Hp → Prop) (Q' : List (V × V) → Hp → Prop), lA G W wl σ H Q → (∀ vs H1, Q vs H1 → Q' ((ks.zip vs).map (fun kv => (V.str kv.1, kv.2))) H1) → tPairs trs σ H Q'
section
variable {X : Cx} {G : Gr} {W : WX} {e : Expr} {pos : Pos} {wa wb : WE} {wl : WL}
theorem sp_nil : SPP X G W pos [] [] [] (fun _ _ h Q => Q [] h) := ⟨[], pps_nil, fun σ H Q Q' ⟨σd, h, R, E, at_, w, p⟩ f => f [] H (p [] h [] H w repVs_nil at_.r Fm.refl)⟩
theorem sp_cons {ks : List Str} {keys : List (Option Expr)} {values : List Expr} {k : Str} {j : Nat} {kp : Pos} (ha : PE X e (lE G W wa)) (hr : SPP X G W pos ks keys values wl) :
    SPP X G W pos (k :: ks) (some (.Constant (.str k) j kp) :: keys) (e :: values) (fun E σ h Q => wa E σ h fun x h1 => wl E σ h1 fun xs h2 => Q (x :: xs) h2) := by
  obtain ⟨trs, hp, hq⟩ := hr
  refine ⟨_, pps_cons pe_str ha hp, fun σ H Q Q' ⟨σd, h, R, E, at_, w, p⟩ f => ?_⟩
  refine ⟨σd, h, _, E, at_, w, fun dx h1 x H1 w1 rx rh1 f1 => ?_⟩
  exact hq σ H1 (fun vs H2 => Q (x :: vs) H2) _ ⟨σd, h1, _, E, at_.fm rh1 f1, w1, fun ds h2 xs H2 w2 rs rh2 f2 => p (dx :: ds) h2 (x :: xs) H2 w2 (repVs_cons (rx.fm rh1 f2) rs) rh2 (f1.trans f2)⟩ fun vs H2 q => f _ _ q
theorem repF_zip {K : PySem.W.Frag} {H : Hp} : ∀ {ks : List Str} {ds : List D} {vs : List V}, RepVs K H ds vs → RepF K H ((ks.map Sum.inr : List Key).zip ds) ((ks.map Sum.inr : List Key).zip vs)
  | [], _, _, _ => rfl
  | k :: ks, [], vs, r => by rw [r.nil_inv]; rfl
  | k :: ks, d :: ds, vs, r => by
    obtain ⟨v, us, rfl, rv, r⟩ := r.cons_inv
    exact ⟨v, _, rfl, rv, repF_zip r⟩
theorem zip_keys {α : Type} : ∀ {ks : List Key} {ds : List α}, ks.Nodup → ((ks.zip ds).map (·.1)).Nodup
  | [], _, _ => by simp
  | _ :: _, [], _ => by simp
  | k :: ks, d :: ds, nd => by
    rw [List.zip_cons_cons, List.map_cons, List.nodup_cons]
    refine ⟨fun z => ?_, zip_keys (List.nodup_cons.mp nd).2⟩
    obtain ⟨p, hp, e⟩ := List.mem_map.mp z
    exact (List.nodup_cons.mp nd).1 ((show p.1 = k from e) ▸ (List.of_mem_zip hp).1)
theorem zip_strs : ∀ (ks : List Str) (vs : List V), ((ks.map Sum.inr : List Key).zip vs).map (fun kv => (kV kv.1, kv.2)) = (ks.zip vs).map fun kv => (V.str kv.1, kv.2)
  | [], _ => rfl
  | _ :: _, [] => rfl
  | k :: ks, v :: vs => by
    exact congrArg ((V.str k, v) :: ·) (zip_strs ks vs)
theorem se_dsp {ks : List Str} {keys : List (Option Expr)} {values : List Expr} (h : SPP X G W pos ks keys values wl) (hall : keys.all (·.isSome) = true) (hl : keys.length = values.length) (h0 : keys ≠ []) (h15 : keys.length ≤ 15) (hk : ks.length = keys.length) (nd : ks.Nodup) :
    PE X (.Dict keys values pos) (lE G W fun E σ h Q => wl E σ h fun ds h1 => al (.dct ((ks.map Sum.inr).zip ds)) h1 Q) := by
  obtain ⟨trs, hp, hq⟩ := h
  refine PE.imp (pe_disp hp hall hl h0 h15) fun σ H Q ⟨σd, h, R, E, at_, w, p⟩ l n => ?_
  have na : h l = none := at_.r.free n
  have r1 : RepH G h (L2.upd H l (.dK [])) := at_.r.aside n
  have f0 : Fm h H h (L2.upd H l (.dK [])) := Fm.aside n
  refine hq σ _ (fun vs H2 => H2 l = some (.dK []) ∧ Q (.ref l) (L2.upd H2 l (.dK (mergeK [] ((ks.map Sum.inr : List Key).zip vs))))) _ ⟨σd, h, _, E, at_.fm r1 f0, w, fun ds h2 vs H2 w2 rs rh2 f2 => ?_⟩ fun vs H1 q => ?_
  · obtain ⟨n2, e2⟩ := f2 l _ na upd_same
    refine ⟨e2, ?_⟩
    have rf : RepF G.K H2 (mergeD [] ((ks.map Sum.inr : List Key).zip ds)) (mergeK [] ((ks.map Sum.inr : List Key).zip vs)) := RepF.merge (repF_zip rs) rfl
    rw [mergeD_app (fun p _ z => by cases z) (zip_keys (by
      refine (List.pairwise_map).mpr ?_
      exact nd.imp fun hne e => hne (Sum.inr.inj e))), List.nil_append] at rf
    refine p _ _ _ _ (w2 l n2) repV_ref (rh2.takeIn e2 trivial ⟨_, upd_same, rf.mono (pst_wr e2 trivial)⟩) ((f0.trans f2).takeIn n)
  · refine ⟨q.1, _, ?_, ?_, q.2⟩
    · exact (zip_strs ks vs).symm
    · rw [List.length_zip, List.length_map]; omega
theorem se_dsp0 : PE X (.Dict [] [] pos) (lE G W fun E σ h Q => al (.dct []) h Q) :=
  PE.imp pe_dnewK fun σ H Q ⟨σd, h, R, E, at_, w, p⟩ l n => p _ _ _ _ (w l (at_.r.free n)) repV_ref (at_.r.new n ⟨[], upd_same, rfl⟩) (Fm.new n)

/-! ### isinstance -/
def rIsD (G : Gr) (T : Value) (ts : List Ty) : List V → Hp → VK → Prop := fun xs H Q => ∃ dx x h P, xs = [x] ∧ RepV G.K H dx x ∧ RepH G h H ∧ isTys dx h ts P ∧ ∀ k, P k → Q (.bl k) H
end

/-! ### comprehensions -/
section
variable {X : Cx} {G : Gr}
abbrev W0 : WX := fun _ _ _ _ => False
abbrev E0 : DX := fun _ _ _ => False
theorem At.blk {W : WX} {E : DX} {σd : DS} {σ : L2.St} {h : MH} {H : Hp} (a : At G W E σd σ h H) (vs : List Nat) : At G W0 E0 (wipeD σd vs) (L2.wipe σ vs) h H :=
  ⟨a.s.wipe vs, a.r, fun _ _ _ _ _ _ z => z.elim⟩
theorem at0 {σd : DS} {σ : L2.St} {h : MH} {H : Hp} (s : RepS G.K H σd σ) (r : RepH G h H) : At G W0 E0 σd σ h H := ⟨s, r, fun _ _ _ _ _ _ z => z.elim⟩
variable {W : WX} {elt tg iter : Expr} {ifs : List Expr} {scope : Scope} {own : List (Str × Nat)} {pos : Pos} {wi : DX → DS → MH → (ItV → MH → Prop) → Prop} {wt : DX → DS → MH → (Bool → MH → Prop) → Prop} {we : WE} {t : Tg}
/-- one clause: the reading behind -/
theorem lc_read {K : PySem.W.Frag} (hK : K = G.K) {vs : List Nat} (hi : tgIn t vs = true) : ∀ σ H Q, lE G W (fun E σ h Q => wi E σ h fun J h1 => lcGo t J.ok (fun σ h P => wt E0 σ h P) (fun σ h P => we E0 σ h P) (wipeD σ vs) (fun acc h2 => al (.lst acc) h2 Q) J.its [] h1) σ H Q →
    tLc (lI G W wi) (tgG K t) (lT G W0 wt) (lE G W0 we) vs σ H Q := fun σ H Q ⟨σd, h, R, E, at_, w, p⟩ => by
  subst hK
  refine ⟨σd, h, _, E, at_, w, fun Jd h1 J H1 go ri rh1 f1 L nL => ?_⟩
  have at1 := (at_.fm rh1 f1).blk vs
  -- the state of a turn
  let S : Nat → MH → Hp → Prop := fun i h' H' => ∃ acc av, RepH G h' H' ∧ Fm h1 H1 h' H' ∧ h' L = none ∧ H' L = some (.lst av) ∧ RepVs G.K H' acc av ∧ i ≤ Jd.its.length ∧
    lcGo t Jd.ok (fun σ h P => wt E0 σ h P) (fun σ h P => we E0 σ h P) (wipeD σd vs) (fun acc h2 => al (.lst acc) h2 R) (Jd.its.drop i) acc h'
  refine ⟨fun i m H' => m = Jd.its.length - i ∧ ∃ h', S i h' H', ⟨Jd.its.length, by simp, h1, [], [], rh1.aside nL, Fm.aside nL, rh1.free nL, upd_same, repVs_nil, Nat.zero_le _, by simpa using go⟩, ?_⟩
  rintro i m H' ⟨rfl, h', acc, av, rh, fm, nl, el, rv, hi', go⟩
  have ok : Jd.ok h' := by
    cases e : Jd.its.drop i with
    | nil => rw [e] at go; exact go.1
    | cons d r => rw [e] at go; exact go.1
  obtain ⟨item, stop⟩ := ri h' H' rh (fm.pst rh1) ok
  by_cases hlt : i < Jd.its.length
  · rw [List.drop_eq_getElem_cons hlt] at go
    obtain ⟨_, go⟩ := go
    obtain ⟨jg, jy⟩ := item i _ (List.getElem?_eq_getElem hlt)
    refine .inr ⟨jg, fun H' => ∃ h', S (i + 1) h' H', fun H2 ⟨h2, s⟩ => ⟨Jd.its.length - (i + 1), by omega, rfl, h2, s⟩, fun x H2 y => ?_⟩
    obtain ⟨rx, rh2, f2⟩ := jy x H2 y
    obtain ⟨nl2, el2⟩ := f2 L _ nl el
    have fm2 := fm.trans f2
    have at2 := at1.fm rh2 fm2
    refine tgG_in hi (tgG_ok go rx at2.s fun σd3 σ3 go3 rs3 => ?_)
    refine ⟨σd3, h', _, E0, at0 rs3 rh2, go3, fun k h4 H4 go4 rh4 f4 => ?_⟩
    obtain ⟨nl4, el4⟩ := f4 L _ nl2 el2
    have rv4 := (rv.fm rh f2).fm rh2 f4
    cases k with
    | false => exact ⟨h4, acc, av, rh4, fm2.trans f4, nl4, el4, rv4, hlt, go4⟩
    | true =>
      refine ⟨σd3, h4, _, E0, (at0 rs3 rh2).fm rh4 f4, go4, fun d5 h5 v5 H5 go5 r5 rh5 f5 => ?_⟩
      obtain ⟨nl5, el5⟩ := f5 L _ nl4 el4
      have rv5 := rv4.fm rh4 f5
      have ps : Pst G.K H5 (L2.upd H5 L (.lst (av ++ [v5]))) := pst_wr el5 trivial
      refine ⟨av, el5, by rw [rv5.length]; exact go5.1, h5, acc ++ [d5], av ++ [v5], rh5.asideW nl5 el5 trivial, ((fm2.trans f4).trans f5).asideW nL, nl5, upd_same, ?_, hlt, go5.2⟩
      exact (rv5.mono ps).append (repVs_cons (r5.mono ps) repVs_nil)
  · have e : i = Jd.its.length := by omega
    subst e
    rw [List.drop_length] at go
    exact .inl ⟨stop, p _ _ _ _ (go.2 L nl) repV_ref (rh.takeLst el nl rv) (fun a o e q => by
      obtain ⟨e1, q1⟩ := f1 a o e q
      obtain ⟨e2, q2⟩ := fm a o e1 q1
      exact ⟨by rw [up_ne (ne_of_none q1 nL)]; exact e2, q2⟩)⟩

theorem se_lc {cd : Option Expr} (hK : X.K = G.K) (hc : X.calm = true) (hN : X.N.Nodup) (hi : PI X tg iter (lI G W wi)) (ok : BlkOk X.N X.env.scope scope own) (hin : tgIn t (own.map (·.2)) = true)
    (hg : ∀ (s : Shared) (H : Hp) (C : Addr) (cl : List (Str × Addr)) (fp : List Addr), PG (X.blk s H scope (compEnvC scope cl C X.env) fp) tg (tgG X.K t)) (ht : ∀ (s : Shared) (H : Hp) (C : Addr) (cl : List (Str × Addr)) (fp : List Addr), PTs (X.blk s H scope (compEnvC scope cl C X.env) fp) ifs (lT G W0 wt))
    (he : ∀ (s : Shared) (H : Hp) (C : Addr) (cl : List (Str × Addr)) (fp : List Addr), PE (X.blk s H scope (compEnvC scope cl C X.env) fp) elt (lE G W0 we)) (hs : ∀ x, foldedSetIterable iter X.env x = pure x) :
    PE X (.ListComp elt [⟨tg, iter, ifs, 0⟩] scope pos) (lE G W (fun E σ h Q => wi E σ h fun J h1 => lcGo t J.ok (fun σ h P => wt E0 σ h P) (fun σ h P => we E0 σ h P) (wipeD σ (own.map (·.2))) (fun acc h2 => al (.lst acc) h2 Q) J.its [] h1)) :=
  PE.imp (pe_lc hc hN hi ok hg ht he hs) (lc_read hK hin)
/-- two clauses -/
theorem lc2_read {K : PySem.W.Frag} (hK : K = G.K) {t1 : Tg} {wi1 : DX → DS → MH → (ItV → MH → Prop) → Prop} {wt1 : DX → DS → MH → (Bool → MH → Prop) → Prop} {vs vs1 : List Nat} (hi : tgIn t vs = true) (hi1 : tgIn t1 vs1 = true) : ∀ σ H Q, lE G W (fun E σ h Q => wi E σ h fun J h1 =>
      lcGo2 t J.ok (fun σ h P => wt E0 σ h P) (fun σ1 acc h2 K => wi1 E0 σ1 h2 fun J1 h3 => lcGo t1 J1.ok (fun σ h P => wt1 E0 σ h P) (fun σ h P => we E0 σ h P) (wipeD σ1 vs1) K J1.its acc h3)
        (wipeD σ vs) (fun acc h2 => al (.lst acc) h2 Q) J.its [] h1) σ H Q →
    tLc2 (lI G W wi) (tgG K t) (lT G W0 wt) (lI G W0 wi1) (tgG K t1) (lT G W0 wt1) (lE G W0 we) vs vs1 σ H Q := fun σ H Q ⟨σd, h, R, E, at_, w, p⟩ => by
  subst hK
  refine ⟨σd, h, _, E, at_, w, fun Jd h1 J H1 go ri rh1 f1 L nL => ?_⟩
  have at1 := (at_.fm rh1 f1).blk vs
  let GO := lcGo2 t Jd.ok (fun σ h P => wt E0 σ h P) (fun σ1 acc h2 K => wi1 E0 σ1 h2 fun J1 h3 => lcGo t1 J1.ok (fun σ h P => wt1 E0 σ h P) (fun σ h P => we E0 σ h P) (wipeD σ1 vs1) K J1.its acc h3)
        (wipeD σd vs) (fun acc h2 => al (.lst acc) h2 R)
  let A : MH → Hp → List D → Prop := fun h' H' acc => ∃ av, RepH G h' H' ∧ Fm h1 H1 h' H' ∧ h' L = none ∧ H' L = some (.lst av) ∧ RepVs G.K H' acc av
  let S : Nat → MH → Hp → Prop := fun i h' H' => ∃ acc, A h' H' acc ∧ i ≤ Jd.its.length ∧ GO (Jd.its.drop i) acc h'
  refine ⟨fun i m H' => m = Jd.its.length - i ∧ ∃ h', S i h' H', ⟨Jd.its.length, by simp, h1, [], ⟨[], rh1.aside nL, Fm.aside nL, rh1.free nL, upd_same, repVs_nil⟩, Nat.zero_le _, by simpa using go⟩, ?_⟩
  rintro i m H' ⟨rfl, h', acc, ⟨av, rh, fm, nl, el, rv⟩, hi', go⟩
  have ok : Jd.ok h' := by
    cases e : Jd.its.drop i with
    | nil => rw [e] at go; exact go.1
    | cons d r => rw [e] at go; exact go.1
  obtain ⟨item, stop⟩ := ri h' H' rh (fm.pst rh1) ok
  by_cases hlt : i < Jd.its.length
  · rw [List.drop_eq_getElem_cons hlt] at go
    obtain ⟨_, go⟩ := go
    obtain ⟨jg, jy⟩ := item i _ (List.getElem?_eq_getElem hlt)
    refine .inr ⟨jg, fun H' => ∃ h', S (i + 1) h' H', fun H2 ⟨h2, s⟩ => ⟨Jd.its.length - (i + 1), by omega, rfl, h2, s⟩, fun x H2 y => ?_⟩
    obtain ⟨rx, rh2, f2⟩ := jy x H2 y
    obtain ⟨nl2, el2⟩ := f2 L _ nl el
    have fm2 := fm.trans f2
    have at2 := at1.fm rh2 fm2
    refine tgG_in hi (tgG_ok go rx at2.s fun σd3 σ3 go3 rs3 => ?_)
    refine ⟨σd3, h', _, E0, at0 rs3 rh2, go3, fun k h4 H4 go4 rh4 f4 => ?_⟩
    obtain ⟨nl4, el4⟩ := f4 L _ nl2 el2
    have rv4 := (rv.fm rh f2).fm rh2 f4
    have fm4 := fm2.trans f4
    cases k with
    | false => exact ⟨h4, acc, ⟨av, rh4, fm4, nl4, el4, rv4⟩, hlt, go4⟩
    | true =>
      have at4 := (at0 rs3 rh2).fm rh4 f4
      refine ⟨σd3, h4, _, E0, at4, go4, fun Jd1 h5 J1 H5 go5 ri5 rh5 f5 => ?_⟩
      have at5 := (at4.fm rh5 f5).s.wipe vs1
      obtain ⟨nl5, el5⟩ := f5 L _ nl4 el4
      refine ⟨fun j m H' => m = Jd1.its.length - j ∧ ∃ h' acc, A h' H' acc ∧ Pst G.K H5 H' ∧ j ≤ Jd1.its.length ∧
        lcGo t1 Jd1.ok (fun σ h P => wt1 E0 σ h P) (fun σ h P => we E0 σ h P) (wipeD σd3 vs1) (GO (Jd.its.drop (i + 1))) (Jd1.its.drop j) acc h', ⟨Jd1.its.length, by simp, h5, acc, ⟨av, rh5, fm4.trans f5, nl5, el5, rv4.fm rh4 f5⟩, ⟨fun _ _ q => q, fun _ _ q => q⟩, Nat.zero_le _, by simpa using go5⟩, ?_⟩
      rintro j m H6 ⟨rfl, h6, acc6, ⟨av6, rh6, fm6, nl6, el6, rv6⟩, fj6, hj', go6⟩
      have ok6 : Jd1.ok h6 := by
        cases e : Jd1.its.drop j with
        | nil => rw [e] at go6; exact go6.1
        | cons d r => rw [e] at go6; exact go6.1
      obtain ⟨item6, stop6⟩ := ri5 h6 H6 rh6 fj6 ok6
      by_cases hlj : j < Jd1.its.length
      · rw [List.drop_eq_getElem_cons hlj] at go6
        obtain ⟨_, go6⟩ := go6
        obtain ⟨jg6, jy6⟩ := item6 j _ (List.getElem?_eq_getElem hlj)
        refine .inr ⟨jg6, fun H' => ∃ h' acc, A h' H' acc ∧ Pst G.K H5 H' ∧ j + 1 ≤ Jd1.its.length ∧
          lcGo t1 Jd1.ok (fun σ h P => wt1 E0 σ h P) (fun σ h P => we E0 σ h P) (wipeD σd3 vs1) (GO (Jd.its.drop (i + 1))) (Jd1.its.drop (j + 1)) acc h', fun H2 ⟨h2, acc2, s⟩ => ⟨Jd1.its.length - (j + 1), by omega, rfl, h2, acc2, s⟩, fun x H7 y => ?_⟩
        obtain ⟨rx7, rh7, f7⟩ := jy6 x H7 y
        obtain ⟨nl7, el7⟩ := f7 L _ nl6 el6
        refine tgG_in hi1 (tgG_ok go6 rx7 (at5.mono (fj6.trans (f7.pst rh6))) fun σd8 σ8 go8 rs8 => ?_)
        refine ⟨σd8, h6, _, E0, at0 rs8 rh7, go8, fun k h9 H9 go9 rh9 f9 => ?_⟩
        obtain ⟨nl9, el9⟩ := f9 L _ nl7 el7
        have rv9 := (rv6.fm rh6 f7).fm rh7 f9
        have fm9 := (fm6.trans f7).trans f9
        cases k with
        | false => exact ⟨h9, acc6, ⟨av6, rh9, fm9, nl9, el9, rv9⟩, (fj6.trans (f7.pst rh6)).trans (f9.pst rh7), hlj, go9⟩
        | true =>
          refine ⟨σd8, h9, _, E0, (at0 rs8 rh7).fm rh9 f9, go9, fun d10 h10 v10 H10 go10 r10 rh10 f10 => ?_⟩
          obtain ⟨nl10, el10⟩ := f10 L _ nl9 el9
          have rv10 := rv9.fm rh9 f10
          have ps : Pst G.K H10 (L2.upd H10 L (.lst (av6 ++ [v10]))) := pst_wr el10 trivial
          have fj : Pst G.K H5 (L2.upd H10 L (.lst (av6 ++ [v10]))) := (((fj6.trans (f7.pst rh6)).trans (f9.pst rh7)).trans (f10.pst rh9)).trans ps
          exact ⟨av6, el10, by rw [rv10.length]; exact go10.1, h10, acc6 ++ [d10], ⟨av6 ++ [v10], rh10.asideW nl10 el10 trivial, (fm9.trans f10).asideW nL, nl10, upd_same, (rv10.mono ps).append (repVs_cons (r10.mono ps) repVs_nil)⟩, fj, hlj, go10.2⟩
      · have e : j = Jd1.its.length := by omega
        subst e
        rw [List.drop_length] at go6
        exact .inl ⟨stop6, h6, acc6, ⟨av6, rh6, fm6, nl6, el6, rv6⟩, hlt, go6.2⟩
  · have e : i = Jd.its.length := by omega
    subst e
    rw [List.drop_length] at go
    exact .inl ⟨stop, p _ _ _ _ (go.2 L nl) repV_ref (rh.takeLst el nl rv) (fun a o e q => by
      obtain ⟨e1, q1⟩ := f1 a o e q
      obtain ⟨e2, q2⟩ := fm a o e1 q1
      exact ⟨by rw [up_ne (ne_of_none q1 nL)]; exact e2, q2⟩)⟩

theorem se_lc2 {cd cd1 : Option Expr} {tg1 iter1 : Expr} {ifs1 : List Expr} {vs1 : List Nat} {t1 : Tg} {wi1 : DX → DS → MH → (ItV → MH → Prop) → Prop} {wt1 : DX → DS → MH → (Bool → MH → Prop) → Prop} (hK : X.K = G.K) (hc : X.calm = true) (hN : X.N.Nodup) (hi : PI X tg iter (lI G W wi)) (ok : BlkOk X.N X.env.scope scope own) (hv : ∀ i ∈ vs1, i ∈ own.map (·.2)) (hin : tgIn t (own.map (·.2)) = true) (hin1 : tgIn t1 vs1 = true)
    (hg : ∀ (s : Shared) (H : Hp) (C : Addr) (cl : List (Str × Addr)) (fp : List Addr), PG (X.blk s H scope (compEnvC scope cl C X.env) fp) tg (tgG X.K t)) (ht : ∀ (s : Shared) (H : Hp) (C : Addr) (cl : List (Str × Addr)) (fp : List Addr), PTs (X.blk s H scope (compEnvC scope cl C X.env) fp) ifs (lT G W0 wt))
    (hi1 : ∀ (s : Shared) (H : Hp) (C : Addr) (cl : List (Str × Addr)) (fp : List Addr), PI (X.blk s H scope (compEnvC scope cl C X.env) fp) tg1 iter1 (lI G W0 wi1))
    (hg1 : ∀ (s : Shared) (H : Hp) (C : Addr) (cl : List (Str × Addr)) (fp : List Addr), PG (X.blk s H scope (compEnvC scope cl C X.env) fp) tg1 (tgG X.K t1)) (ht1 : ∀ (s : Shared) (H : Hp) (C : Addr) (cl : List (Str × Addr)) (fp : List Addr), PTs (X.blk s H scope (compEnvC scope cl C X.env) fp) ifs1 (lT G W0 wt1))
    (he : ∀ (s : Shared) (H : Hp) (C : Addr) (cl : List (Str × Addr)) (fp : List Addr), PE (X.blk s H scope (compEnvC scope cl C X.env) fp) elt (lE G W0 we)) (hs : ∀ x, foldedSetIterable iter X.env x = pure x) (hs1 : ∀ env x, foldedSetIterable iter1 env x = pure x) :
    PE X (.ListComp elt [⟨tg, iter, ifs, 0⟩, ⟨tg1, iter1, ifs1, 0⟩] scope pos) (lE G W (fun E σ h Q => wi E σ h fun J h1 =>
      lcGo2 t J.ok (fun σ h P => wt E0 σ h P) (fun σ1 acc h2 K => wi1 E0 σ1 h2 fun J1 h3 => lcGo t1 J1.ok (fun σ h P => wt1 E0 σ h P) (fun σ h P => we E0 σ h P) (wipeD σ1 vs1) K J1.its acc h3)
        (wipeD σ (own.map (·.2))) (fun acc h2 => al (.lst acc) h2 Q) J.its [] h1)) :=
  PE.imp (pe_lc2 hc hN hi ok hv hg ht hi1 hg1 ht1 he hs hs1) (lc2_read hK hin hin1)
theorem sts_none : PTs X [] (lT G W0 fun _ _ h Q => Q true h) := ⟨fun pins s σ H Q I ⟨σd, h, R, E, at_, w, p⟩ => pts_nil.run pins s σ H Q I (p true h H w at_.r Fm.refl)⟩
theorem sts_one {c : Expr} (hc : PT X c (lT G W0 wt)) : PTs X [c] (lT G W0 wt) := pts_one hc
end
end DL
set_option Elab.async false
set_option linter.all false
set_option maxRecDepth 100000
set_option maxHeartbeats 1000000
/-! The D layer, 9: statements. -/
namespace DL
open PySem PySem.Spec PyProof.Rows L2

structure AtS (G : Gr) (W : WX) (F : DS → DX) (σd : DS) (σ : L2.St) (h : MH) (H : Hp) : Prop where
  s : RepS G.K H σd σ
  r : RepH G h H
  x : ∀ c fs σd' h' cls dd σ' H', F σd' c fs h' → RepX G h' H' c fs cls dd → RepS G.K H' σd' σ' → RepH G h' H' → Fm h H h' H' → W cls dd σ' H'
def PostS (G : Gr) (h : MH) (H : Hp) (P : DS → MH → Prop) (Q : L2.St → Hp → Prop) : Prop := ∀ σd' h' σ' H', P σd' h' → RepS G.K H' σd' σ' → RepH G h' H' → Fm h H h' H' → Q σ' H'
structure EndR (G : Gr) (h : MH) (H : Hp) (Dn : En) (Q : Ends) : Prop where
  nx : PostS G h H Dn.nx Q.nx
  rt : Post G h H Dn.rt Q.rt
  bk : PostS G h H Dn.bk Q.bk
  ct : PostS G h H Dn.ct Q.ct
section
variable {G : Gr} {W : WX} {F : DS → DX} {σd σd1 : DS} {σ σ1 : L2.St} {h h1 : MH} {H H1 : Hp} {Dn : En} {Q : Ends}
theorem AtS.at (a : AtS G W F σd σ h H) : At G W (F σd) σd σ h H := ⟨a.s, a.r, fun c fs h' cls dd H' e rx rh f => a.x c fs σd h' cls dd σ H' e rx (a.s.fm a.r f) rh f⟩
theorem AtS.fm (a : AtS G W F σd σ h H) (r : RepH G h1 H1) (f : Fm h H h1 H1) : AtS G W F σd σ h1 H1 :=
  ⟨a.s.fm a.r f, r, fun c fs σd' h' cls dd σ' H' e rx rs rh g => a.x c fs σd' h' cls dd σ' H' e rx rs rh (f.trans g)⟩
theorem AtS.go (a : AtS G W F σd σ h H) (s : RepS G.K H1 σd1 σ1) (r : RepH G h1 H1) (f : Fm h H h1 H1) : AtS G W F σd1 σ1 h1 H1 :=
  ⟨s, r, fun c fs σd' h' cls dd σ' H' e rx rs rh g => a.x c fs σd' h' cls dd σ' H' e rx rs rh (f.trans g)⟩
theorem PostS.fm {P : DS → MH → Prop} {Q : L2.St → Hp → Prop} (p : PostS G h H P Q) (f : Fm h H h1 H1) : PostS G h1 H1 P Q := fun σd' h' σ' H' e rs rh g => p σd' h' σ' H' e rs rh (f.trans g)
theorem EndR.fm (p : EndR G h H Dn Q) (f : Fm h H h1 H1) : EndR G h1 H1 Dn Q := ⟨p.nx.fm f, p.rt.fm f, p.bk.fm f, p.ct.fm f⟩
end
abbrev WG := (DS → DX) → D → DS → MH → (DS → MH → Prop) → Prop
abbrev WGs := (DS → DX) → List D → DS → MH → (DS → MH → Prop) → Prop
abbrev WS := En → DS → MH → Prop
def lG (G : Gr) (W : WX) (w : WG) : TG := fun v σ H Q => ∃ d σd h P F, AtS G W F σd σ h H ∧ RepV G.K H d v ∧ w F d σd h P ∧ PostS G h H P Q
def lGs (G : Gr) (W : WX) (w : WGs) : TGs := fun vs σ H Q => ∃ ds σd h P F, AtS G W F σd σ h H ∧ RepVs G.K H ds vs ∧ w F ds σd h P ∧ PostS G h H P Q
def lS (G : Gr) (W : WX) (w : WS) : TS := fun Q σ H => ∃ σd h Dn, AtS G W (exAt Dn) σd σ h H ∧ w Dn σd h ∧ EndR G h H Dn Q

section
variable {X : Cx} {G : Gr} {W : WX} {e a b c tg : Expr} {es : List Expr} {pos : Pos} {st : Stmt} {rest body body2 : List Stmt} {wa wb wc : WE} {wl : WL} {wg : WG} {wgs : WGs} {ws wu : WS} {wt : DX → DS → MH → (Bool → MH → Prop) → Prop}
theorem PG.imp {t t' : TG} (p : PG X e t) (i : ∀ v σ H Q, t' v σ H Q → t v σ H Q) : PG X e t' := ⟨fun pins s σ H v u Q I r w => p.run pins s σ H v u Q I r (i _ _ _ _ w)⟩
theorem PGs.imp {t t' : TGs} (p : PGs X es t) (i : ∀ v σ H Q, t' v σ H Q → t v σ H Q) : PGs X es t' := ⟨fun pins s σ H v u Q I r w => p.run pins s σ H v u Q I r (i _ _ _ _ w)⟩
theorem PS.imp {t t' : TS} (p : PS X st t) (i : ∀ Q σ H, t' Q σ H → t Q σ H) : PS X st t' := ⟨fun pins s σ H Q I w => p.run pins s σ H Q I (i _ _ _ w)⟩
theorem PSs.imp {t t' : TS} (p : PSs X rest t) (i : ∀ Q σ H, t' Q σ H → t Q σ H) : PSs X rest t' := ⟨fun pins s σ H Q I w => p.run pins s σ H Q I (i _ _ _ w)⟩

/-! ### targets -/
theorem sg_nm {i : Nat} {x : Str} (hN : X.N.Nodup) (hi : X.N[i]? = some x) (hx : Loc X.env.scope x) (hf : X.fn x = true ∨ X.env.scope.names.lookup x = some .local) : PG X (.Name x pos) (lG G W fun _ d σ h P => P (σ.set i (some d)) h) :=
  PG.imp (pg_name hN hi hx hf) fun v σ H Q ⟨d, σd, h, P, F, at_, rv, w, p⟩ => p _ h _ H w (at_.s.set rv) at_.r Fm.refl
theorem sg_sub (ok : Ok X G) (ha : PE X a (lE G W wa)) (hb : PE X b (lE G W wb)) (hs : ∀ v, assign (.Subscript a b pos) X.env v = (do
      let ov ← holding [v] (eval a X.env)
      let iv ← holding [v, ov] (eval b X.env)
      standAt pos
      holding [v, ov, iv] (setItem ov iv v)
      release [v, ov, iv] [])) : PG X (.Subscript a b pos) (lG G W fun F d σ h P => wa (F σ) σ h fun x h1 => wb (F σ) σ h1 fun k h2 => setD x k d h2 fun h3 => P σ h3) :=
  PG.imp (pg_sub ha hb (set_D ok) hs) fun v σ H Q ⟨d, σd, h, P, F, at_, rv, w, p⟩ =>
    ⟨σd, h, _, _, at_.at, w, fun dx h1 x H1 w1 rx rh1 f1 => ⟨σd, h1, _, _, at_.at.fm rh1 f1, w1, fun dy h2 y H2 w2 ry rh2 f2 =>
      ⟨dx, dy, d, h2, _, rx.fm rh1 f2, ry, rv.fm at_.r (f1.trans f2), rh2, w2, fun h3 H3 w3 rh3 f3 => p σd h3 σ H3 w3 (at_.s.fm at_.r ((f1.trans f2).trans f3)) rh3 ((f1.trans f2).trans f3)⟩⟩⟩
theorem sgs_nil : PGs X [] (lGs G W fun _ ds σ h P => match ds with
    | [] => P σ h
    | _ => False) :=
  PGs.imp pgs_nil fun v σ H Q ⟨ds, σd, h, P, F, at_, rv, w, p⟩ => by
    cases ds with
    | nil => exact ⟨rv.nil_inv, p σd h σ H w at_.s at_.r Fm.refl⟩
    | cons d ds => exact w.elim
theorem sgs_cons (ha : PG X e (lG G W wg)) (hr : PGs X es (lGs G W wgs)) (hs : (assignEach (e :: es) X.env).map (·.2) = assign e X.env :: (assignEach es X.env).map (·.2)) : PGs X (e :: es) (lGs G W fun F ds σ h P => match ds with
    | [] => False
    | d :: ds => wg F d σ h fun σ1 h1 => wgs F ds σ1 h1 P) :=
  PGs.imp (pgs_cons ha hr hs) fun v σ H Q ⟨ds, σd, h, P, F, at_, rv, w, p⟩ => by
    cases ds with
    | nil => exact w.elim
    | cons d ds =>
      obtain ⟨x, xs, rfl, rx, rs⟩ := rv.cons_inv
      exact ⟨x, xs, rfl, d, σd, h, _, F, at_, rx, w, fun σd1 h1 σ1 H1 w1 s1 rh1 f1 => ⟨ds, σd1, h1, P, F, at_.go s1 rh1 f1, rs.fm at_.r f1, w1, p.fm f1⟩⟩
theorem sg_tup {k n : Nat} (hK : X.K = G.K) (hc : X.calm = true) (h : PGs X es (lGs G W wgs)) (hn : (assignEach es X.env).length = n) (hst : (assignEach es X.env).findIdx? (·.1) = none) : PG X (.Tuple es k pos) (lG G W fun F d σ h P => match d with
    | .tup ds => ds.length = n ∧ wgs F ds σ h P
    | _ => False) :=
  PG.imp (pg_tup hc h hn hst) fun v σ H Q ⟨d, σd, h, P, F, at_, rv, w, p⟩ => by
    cases d with
    | tup ds =>
      obtain ⟨a, vs, rfl, sa, ra⟩ := repV_tup.mp rv
      exact ⟨a, vs, rfl, by rw [hK]; exact sa, by rw [ra.length]; exact w.1, ds, σd, h, P, F, at_, ra, w.2, p⟩
    | _ => exact w.elim

/-! ### statements -/
theorem ss_nil : PSs X [] (lS G W fun Dn σ h => Dn.nx σ h) := PSs.imp pss_nil fun Q σ H ⟨σd, h, Dn, at_, w, p⟩ => p.nx σd h σ H w at_.s at_.r Fm.refl
theorem ss_cons (h1 : PS X st (lS G W ws)) (h2 : PSs X rest (lS G W wu)) : PSs X (st :: rest) (lS G W fun Dn σ h => ws { Dn with nx := fun σ' h' => wu Dn σ' h' } σ h) :=
  PSs.imp (pss_cons h1 h2) fun Q σ H ⟨σd, h, Dn, at_, w, p⟩ =>
    ⟨σd, h, { Dn with nx := fun σ' h' => wu Dn σ' h' }, ⟨at_.s, at_.r, at_.x⟩, w, ⟨fun σd1 h1 σ1 H1 w1 s1 r1 f1 => ⟨σd1, h1, Dn, at_.go s1 r1 f1, w1, p.fm f1⟩, p.rt, p.bk, p.ct⟩⟩
theorem ss_asg (he : PE X e (lE G W wa)) (hg : PG X tg (lG G W wg)) (hs : swapsWithSole [tg] e pos.line X.env = pure false) (hw : swappedStores [tg] e X.env = pure none) (h1 : (assignEach [tg] X.env).map (·.2) = [assign tg X.env]) :
    PS X (.Assign [tg] e pos) (lS G W fun Dn σ h => wa (exAt Dn σ) σ h fun d h1 => wg (exAt Dn) d σ h1 Dn.nx) :=
  PS.imp (ps_asg he hg hs hw h1) fun Q σ H ⟨σd, h, Dn, at_, w, p⟩ =>
    ⟨σd, h, _, _, at_.at, w, fun d h1 v H1 w1 rv r1 f1 => ⟨d, σd, h1, _, _, at_.fm r1 f1, rv, w1, p.nx.fm f1⟩⟩
/-- name = a comprehension, where the block takes the name in: the reading t1 of it is any that the lifted one implies -/
theorem asgC_read {i : Nat} {t1 : TE} (h : ∀ σ H Q, lE G W wa σ H Q → t1 σ H Q) : ∀ Q σ H, lS G W (fun Dn σ h => wa (exAt Dn σ) σ h fun d h1 => Dn.nx (σ.set i (some d)) h1) Q σ H → tAsg t1 (gName i) Q σ H := fun Q σ H ⟨σd, h', Dn, at_, w, p⟩ =>
  h _ _ _ ⟨σd, h', _, _, at_.at, w, fun d h1 v H1 w1 rv r1 f1 => p.nx _ h1 _ H1 w1 ((at_.s.fm at_.r f1).set rv) r1 f1⟩
theorem ss_par {i j : Nat} {x y : Str} {px py pt : Pos} {kt k2 pt2} (hc : X.calm = true) (hN : X.N.Nodup) (hi : X.N[i]? = some x) (hj : X.N[j]? = some y) (hij : i ≠ j)
    (hx : X.env.scope.names.lookup x = some .local) (hy : X.env.scope.names.lookup y = some .local) (ha : PA X [a, b] (lA G W wl))
    (hw : swappedStores [.Tuple [.Name x px, .Name y py] kt pt] (.Tuple [a, b] k2 pt2) X.env = pure (some [x, y])) (hs : swapsWithSole [.Tuple [.Name x px, .Name y py] kt pt] (.Tuple [a, b] k2 pt2) pos.line X.env = pure false) :
    PS X (.Assign [.Tuple [.Name x px, .Name y py] kt pt] (.Tuple [a, b] k2 pt2) pos) (lS G W fun Dn σ h => wl (exAt Dn σ) σ h fun ds h1 => ∃ d1 d2, ds = [d1, d2] ∧ Dn.nx ((σ.set i (some d1)).set j (some d2)) h1) :=
  PS.imp (ps_par hc hN hi hj hij hx hy ha hw hs) fun Q σ H ⟨σd, h, Dn, at_, w, p⟩ =>
    ⟨σd, h, _, _, at_.at, w, fun ds h1 vs H1 w1 rv r1 f1 => by
      obtain ⟨d1, d2, rfl, q⟩ := w1
      obtain ⟨v, u, rfl, rv, ru⟩ := rv.two
      exact ⟨v, u, rfl, p.nx _ h1 _ H1 q (((at_.s.fm at_.r f1).set rv).set ru) r1 f1⟩⟩
theorem ss_par3 {i j l : Nat} {x y z : Str} {px py pz pt : Pos} {kt k2 pt2} (hc : X.calm = true) (hN : X.N.Nodup) (hi : X.N[i]? = some x) (hj : X.N[j]? = some y) (hl : X.N[l]? = some z) (hij : i ≠ j) (hil : i ≠ l) (hjl : j ≠ l)
    (hx : X.env.scope.names.lookup x = some .local) (hy : X.env.scope.names.lookup y = some .local) (hz : X.env.scope.names.lookup z = some .local) (ha : PA X [a, b, c] (lA G W wl))
    (hw : swappedStores [.Tuple [.Name x px, .Name y py, .Name z pz] kt pt] (.Tuple [a, b, c] k2 pt2) X.env = pure (some [x, y, z])) (hs : swapsWithSole [.Tuple [.Name x px, .Name y py, .Name z pz] kt pt] (.Tuple [a, b, c] k2 pt2) pos.line X.env = pure false) :
    PS X (.Assign [.Tuple [.Name x px, .Name y py, .Name z pz] kt pt] (.Tuple [a, b, c] k2 pt2) pos) (lS G W fun Dn σ h => wl (exAt Dn σ) σ h fun ds h1 => ∃ d1 d2 d3, ds = [d1, d2, d3] ∧ Dn.nx (((σ.set i (some d1)).set j (some d2)).set l (some d3)) h1) :=
  PS.imp (ps_par3 hc hN hi hj hl hij hil hjl hx hy hz ha hw hs) fun Q σ H ⟨σd, h, Dn, at_, w, p⟩ =>
    ⟨σd, h, _, _, at_.at, w, fun ds h1 vs H1 w1 rv r1 f1 => by
      obtain ⟨d1, d2, d3, rfl, q⟩ := w1
      obtain ⟨v, us, rfl, rv1, rv⟩ := rv.cons_inv
      obtain ⟨v2, v3, rfl, rv2, rv3⟩ := rv.two
      exact ⟨v, v2, v3, rfl, p.nx _ h1 _ H1 q ((((at_.s.fm at_.r f1).set rv1).set rv2).set rv3) r1 f1⟩⟩
theorem ss_ex (he : PE X e (lE G W wa)) (hs : swapsWith e none pos.line X.env = pure false) : PS X (.Expr e pos) (lS G W fun Dn σ h => wa (exAt Dn σ) σ h fun _ h1 => Dn.nx σ h1) :=
  PS.imp (ps_expr he hs) fun Q σ H ⟨σd, h, Dn, at_, w, p⟩ => ⟨σd, h, _, _, at_.at, w, fun d h1 v H1 w1 rv r1 f1 => p.nx _ h1 _ H1 w1 (at_.s.fm at_.r f1) r1 f1⟩
theorem ss_ret (he : PE X e (lE G W wa)) : PS X (.Return (some e) pos) (lS G W fun Dn σ h => wa (exAt Dn σ) σ h Dn.rt) :=
  PS.imp (ps_ret he) fun Q σ H ⟨σd, h, Dn, at_, w, p⟩ => ⟨σd, h, _, _, at_.at, w, p.rt⟩
theorem ss_retN : PS X (.Return none pos) (lS G W fun Dn _ h => Dn.rt .non h) :=
  PS.imp ps_retN fun Q σ H ⟨σd, h, Dn, at_, w, p⟩ => p.rt.here at_.r w repV_non
theorem ss_ifs (hc : PT X c (lT G W wt)) (h1 : PSs X body (lS G W ws)) (h2 : PSs X body2 (lS G W wu)) : PS X (.If c body body2 pos) (lS G W fun Dn σ h => wt (exAt Dn σ) σ h fun k h1 => if k = true then ws Dn σ h1 else wu Dn σ h1) :=
  PS.imp (ps_if hc h1 h2) fun Q σ H ⟨σd, h, Dn, at_, w, p⟩ => ⟨σd, h, _, _, at_.at, w, fun k h1 H1 w1 r1 f1 => by
    cases k with
    | true => exact ⟨σd, h1, Dn, at_.fm r1 f1, w1, p.fm f1⟩
    | false => exact ⟨σd, h1, Dn, at_.fm r1 f1, w1, p.fm f1⟩⟩
theorem ss_brk : PS X (.Break pos) (lS G W fun Dn σ h => Dn.bk σ h) := PS.imp ps_break fun Q σ H ⟨σd, h, Dn, at_, w, p⟩ => p.bk σd h σ H w at_.s at_.r Fm.refl
theorem ss_cnt : PS X (.Continue pos) (lS G W fun Dn σ h => Dn.ct σ h) := PS.imp ps_continue fun Q σ H ⟨σd, h, Dn, at_, w, p⟩ => p.ct σd h σ H w at_.s at_.r Fm.refl
theorem ss_pas : PS X (.Pass pos) (lS G W fun Dn σ h => Dn.nx σ h) := PS.imp ps_pass fun Q σ H ⟨σd, h, Dn, at_, w, p⟩ => p.nx σd h σ H w at_.s at_.r Fm.refl
theorem ss_doc {x j pos pos'} : PS X (.Expr (.Constant (.str x) j pos) pos') (lS G W fun Dn σ h => Dn.nx σ h) := PS.imp ps_doc fun Q σ H ⟨σd, h, Dn, at_, w, p⟩ => p.nx σd h σ H w at_.s at_.r Fm.refl
/-- op= -/
theorem ip_D (op : Operator) : PIp X op (lR2 G (augD op)) := by
  intro pins s σ H x y v u Q I r1 r2 ⟨dx, dy, h, R, rx, ry, rh, w, p⟩
  unfold augD at w
  split at w
  · rw [rx.int_inv] at r1; rw [ry.int_inv] at r2; exact iop_add pins s σ H _ _ v u Q I r1 r2 ⟨_, _, rfl, rfl, p.here rh w repV_int⟩
  · rw [rx.str_inv] at r1; rw [ry.str_inv] at r2; exact iop_add_str pins s σ H _ _ v u Q I r1 r2 ⟨_, _, rfl, rfl, w.1, p.here rh w.2 repV_str⟩
  · rw [rx.int_inv] at r1; rw [ry.int_inv] at r2; exact iop_sub pins s σ H _ _ v u Q I r1 r2 ⟨_, _, rfl, rfl, p.here rh w repV_int⟩
  · rw [rx.int_inv] at r1; rw [ry.int_inv] at r2; exact iop_mul pins s σ H _ _ v u Q I r1 r2 ⟨_, _, rfl, rfl, .inl w.1, p.here rh w.2 repV_int⟩
  · exact w.elim
theorem ss_aug {i : Nat} {x : Str} {op : Operator} {pos' : Pos} (hN : X.N.Nodup) (hi : X.N[i]? = some x) (hx : Loc X.env.scope x) (hf : X.fn x = true ∨ X.env.scope.names.lookup x = some .local) (he : PE X e (lE G W wa)) :
    PS X (.AugAssign (.Name x pos') op e pos) (lS G W fun Dn σ h => ∃ x, σ[i]? = some (some x) ∧ wa (exAt Dn σ) σ h fun y h1 => augD op x y h1 fun z h2 => Dn.nx (σ.set i (some z)) h2) :=
  PS.imp (ps_aug hN hi hx he (ip_D (G := G) op) hf) fun Q σ H ⟨σd, h, Dn, at_, ⟨dx, ex, w⟩, p⟩ => by
    obtain ⟨v, ev, rv⟩ := at_.s.2 i dx ex
    exact ⟨v, ev, σd, h, _, _, at_.at, w, fun dy h1 y H1 w1 ry r1 f1 => ⟨dx, dy, h1, _, rv.fm at_.r f1, ry, r1, w1, fun dz h2 z H2 w2 rz r2 f2 => p.nx _ h2 _ H2 w2 ((at_.s.fm at_.r (f1.trans f2)).set rz) r2 (f1.trans f2)⟩⟩
/-- an item of a list taken, by values -/
theorem get_L : PGet X (lR2 G ixL) := by
  intro pins s σ H o i ov iv Q I ro ri ⟨dx, dy, h, R, rx, ry, rh, w, p⟩
  cases dx with
  | ref a => cases dy with
    | int k =>
      obtain ⟨j, ds, d, rfl, e, ej, q⟩ := w
      obtain ⟨vs, g, rs⟩ := rh.lst e
      obtain ⟨v, ev, rv⟩ := rs.get ej
      rw [rx.ref_inv] at ro
      rw [ry.int_inv] at ri
      cases ro
      obtain ⟨t, rfl⟩ := ri
      obtain ⟨its, r, pl, hz⟩ := I.list (SqL.of g)
      obtain ⟨w, ew, rw'⟩ := r.get ev
      exact wpAny_getItem_list pl.isList (by omega) (by have := sizeLine_eq; have := (List.getElem?_eq_some_iff.mp ev).1; rw [sizeLine_eq] at hz; omega) (by simpa using ew) ⟨v, H, I, rw', p.here rh q rv⟩
    | _ => exact w.elim
  | _ => cases dy <;> exact w.elim
theorem ss_augs {op : Operator} {pos' : Pos} (ok : Ok X G) (ha : PE X a (lE G W wa)) (hb : PE X b (lE G W wb)) (hc : PE X c (lE G W wc))
    (hs : ∀ ov iv new, augStore b ov iv new = (do holding [new, ov, iv] (setItem ov iv new); release [new, ov, iv] []; pure .next)) :
    PS X (.AugAssign (.Subscript a b pos') op c pos) (lS G W fun Dn σ h => wa (exAt Dn σ) σ h fun x h1 => wb (exAt Dn σ) σ h1 fun k h2 => ixL x k h2 fun y h3 => wc (exAt Dn σ) σ h3 fun z h4 => augD op y z h4 fun u h5 => setD x k u h5 fun h6 => Dn.nx σ h6) :=
  PS.imp (ps_augS ha hb (get_L (G := G)) hc (ip_D (G := G) op) (set_D ok) hs) fun Q σ H ⟨σd, h, Dn, at_, w, p⟩ =>
    ⟨σd, h, _, _, at_.at, w, fun dx h1 x H1 w1 rx rh1 f1 => ⟨σd, h1, _, _, at_.at.fm rh1 f1, w1, fun dk h2 k H2 w2 rk rh2 f2 =>
      ⟨dx, dk, h2, _, rx.fm rh1 f2, rk, rh2, w2, fun dy h3 y H3 w3 ry rh3 f3 => ⟨σd, h3, _, _, at_.at.fm rh3 ((f1.trans f2).trans f3), w3, fun dz h4 z H4 w4 rz rh4 f4 =>
        ⟨dy, dz, h4, _, ry.fm rh3 f4, rz, rh4, w4, fun du h5 u H5 w5 ru rh5 f5 => ⟨dx, dk, du, h5, _, (rx.fm rh1 f2).fm rh2 ((f3.trans f4).trans f5), rk.fm rh2 ((f3.trans f4).trans f5), ru, rh5, w5, fun h6 H6 w6 rh6 f6 =>
          p.nx σd h6 σ H6 w6 (at_.s.fm at_.r (((((f1.trans f2).trans f3).trans f4).trans f5).trans f6)) rh6 (((((f1.trans f2).trans f3).trans f4).trans f5).trans f6)⟩⟩⟩⟩⟩⟩
/-! ### loops -/
theorem ss_for {iter : Expr} {t : Tg} {wi : DX → DS → MH → (ItV → MH → Prop) → Prop} (hK : X.K = G.K) (hp : PassesOwn (model X.prog X.w) X.A X.env X.xe) (hc : X.calm = true) (hi : PI X tg iter (lI G W wi)) (hg : PG X tg (tgG X.K t)) (hb : PSs X body (lS G W ws)) (hs : ∀ x, foldedSetIterable iter X.env x = pure x) :
    PS X (.For tg iter body [] pos) (lS G W fun Dn σ h => wi (exAt Dn σ) σ h fun J h1 => forGo t J.ok ws Dn J.its σ h1) :=
  PS.imp (ps_for hp hc hi hg hb hs) fun Q σ H ⟨σd, h, Dn, at_, w, p⟩ => by
    rw [hK]
    refine ⟨σd, h, _, _, at_.at, w, fun Jd h1 J H1 go ri r1 f1 => ?_⟩
    have at1 := at_.fm r1 f1
    have p1 := p.fm f1
    let S : Nat → L2.St → MH → Hp → Prop := fun i σ' h' H' => ∃ σd', RepS G.K H' σd' σ' ∧ RepH G h' H' ∧ Fm h1 H1 h' H' ∧ i ≤ Jd.its.length ∧ forGo t Jd.ok ws Dn (Jd.its.drop i) σd' h'
    refine ⟨fun i m σ' H' => m = Jd.its.length - i ∧ ∃ h', S i σ' h' H', ⟨Jd.its.length, by simp, h1, σd, at1.s, r1, Fm.refl, Nat.zero_le _, by simpa using go⟩, ?_⟩
    rintro i m σ2 H2 ⟨rfl, h2, σd2, rs2, r2, f2, hi2, go2⟩
    have ok : Jd.ok h2 := by
      cases e : Jd.its.drop i with
      | nil => rw [e] at go2; exact go2.1
      | cons d r => rw [e] at go2; exact go2.1
    obtain ⟨item, stop⟩ := ri h2 H2 r2 (f2.pst r1) ok
    by_cases hlt : i < Jd.its.length
    · rw [List.drop_eq_getElem_cons hlt] at go2
      obtain ⟨_, go2⟩ := go2
      obtain ⟨jg, jy⟩ := item i _ (List.getElem?_eq_getElem hlt)
      refine .inr ⟨jg, fun σ' H' => ∃ h', S (i + 1) σ' h' H', fun σ' H' ⟨h', s⟩ => ⟨Jd.its.length - (i + 1), by omega, rfl, h', s⟩, fun x H3 y => ?_⟩
      obtain ⟨rx, r3, f3⟩ := jy x H3 y
      refine tgG_ok go2 rx (rs2.fm r2 f3) fun σd4 σ4 go4 rs4 => ?_
      have f13 := f2.trans f3
      have again : PostS G h2 H3 (forGo t Jd.ok ws Dn (Jd.its.drop (i + 1))) (fun σ' H' => ∃ h', S (i + 1) σ' h' H') := fun σd' h' σ' H' w' s' r' f' => ⟨h', σd', s', r', f13.trans f', hlt, w'⟩
      exact ⟨σd4, h2, { Dn with nx := forGo t Jd.ok ws Dn (Jd.its.drop (i + 1)), ct := forGo t Jd.ok ws Dn (Jd.its.drop (i + 1)), bk := Dn.nx }, (at1.go (σ1 := σ4) rs4 r3 f13), go4, ⟨again, p1.rt.fm f13, p1.nx.fm f13, again⟩⟩
    · have e : i = Jd.its.length := by omega
      subst e
      rw [List.drop_length] at go2
      exact .inl ⟨stop, p1.nx σd2 h2 σ2 H2 go2.2 rs2 r2 f2⟩
theorem ss_whl (hp : PassesOwn (model X.prog X.w) X.A X.env X.xe) (hc : PT X c (lT G W wt)) (hb : PSs X body (lS G W ws)) :
    PS X (.While c body [] pos) (lS G W fun Dn σ h => whlGo (fun σ h P => wt (exAt Dn σ) σ h P) ws Dn σ h) :=
  PS.imp (ps_while hp hc hb) fun Q σ H ⟨σd, h, Dn, at_, ⟨Wd, ⟨m0, w0⟩, turn⟩, p⟩ => by
    refine ⟨fun m σ' H' => ∃ σd' h', RepS G.K H' σd' σ' ∧ RepH G h' H' ∧ Fm h H h' H' ∧ Wd m σd' h', ⟨m0, σd, h, at_.s, at_.r, Fm.refl, w0⟩, ?_⟩
    rintro m σ2 H2 ⟨σd2, h2, rs2, r2, f2, w2⟩
    have at2 : AtS G W (exAt Dn) σd2 σ2 h2 H2 := at_.go rs2 r2 f2
    have p2 := p.fm f2
    refine ⟨σd2, h2, _, _, at2.at, turn m σd2 h2 w2, fun k h3 H3 w3 r3 f3 => ?_⟩
    cases k with
    | false => exact p2.nx _ h3 _ H3 w3 (rs2.fm r2 f3) r3 f3
    | true =>
      refine ⟨fun σ' H' => ∃ m', m' < m ∧ ∃ σd' h', RepS G.K H' σd' σ' ∧ RepH G h' H' ∧ Fm h H h' H' ∧ Wd m' σd' h', fun σ' H' z => z, ?_⟩
      have again : PostS G h3 H3 (fun σ' h' => ∃ m', m' < m ∧ Wd m' σ' h') (fun σ' H' => ∃ m', m' < m ∧ ∃ σd' h', RepS G.K H' σd' σ' ∧ RepH G h' H' ∧ Fm h H h' H' ∧ Wd m' σd' h') := fun σd' h' σ' H' ⟨m', hm, w'⟩ s' r' f' => ⟨m', hm, σd', h', s', r', (f2.trans f3).trans f', w'⟩
      exact ⟨σd2, h3, { Dn with nx := fun σ' h' => ∃ m', m' < m ∧ Wd m' σ' h', ct := fun σ' h' => ∃ m', m' < m ∧ Wd m' σ' h', bk := Dn.nx }, at2.fm r3 f3, w3, ⟨again, p2.rt.fm f3, p2.nx.fm f3, again⟩⟩
end
end DL
set_option Elab.async false
set_option linter.all false
set_option maxRecDepth 100000
set_option maxHeartbeats 1000000
/-! The D layer, 10: calls. -/
namespace DL
open PySem PySem.Spec PyProof.Rows L2

/-- a def's promise, where nothing guards -/
structure FnG (P : Program) (w : World) (K : PySem.W.Frag) (mg : Str → Option Value) (base : Heap) (k : Nat) (f : Addr) (fd : FuncData) (ps : List Str) (sp : Sp) : Prop where
  len : ∀ vs H Q E, sp vs H Q E → vs.length = ps.length
  run : ∀ (A : Around) (outer : List Env) (s : Shared) (H : Hp) (args : Args) (us : List Value) (vs : List V) (Q : VK) (E : XK), Room k A → A.guards = some [] → Env0 P w K mg base A outer s H → BindsTo s fd args (ps.zip us) → Vals vs us → sp vs H Q E →
    codeAny (model P w) A (.call (.ref f) args) (CR (L2.CX P w) outer P w H s Q E) s
section
variable {P : Program} {w : World} {K : PySem.W.Frag} {mg : Str → Option Value} {base : Heap}
theorem fn_ofG {k : Nat} {f : Addr} {name qual : Str} {params : Arguments} {body : List Stmt} {scope : Scope} {dV kV doc pm cdv ct oc : Value} {an od : Option Addr}
    {osl : Array (Option Value)} {N ps : List Str} {sp : Sp} (lk : K.lookup f = some ⟨oc, od, .func (PySem.W.fnOf name qual params body scope dV kV doc pm an cdv ct), osl⟩) (hcd : PySem.W.codeIn K cdv qual = true) (S : FnScope N ps scope)
    (len : ∀ vs H Q E, sp vs H Q E → vs.length = ps.length)
    (hbody : ∀ (A : Around) (outer : List Env) (s : Shared) (H : Hp) (vs : List V) (Q : VK) (E : XK), Room k (A.deeper (envOfC qual scope s.heap.objs.size f cdv)) → A.guards = some [] → sp vs H Q E →
      ∃ t, PSs (cxOf (L2.CX P w) P w K mg base N qual scope f cdv A outer s H E) body t ∧ t { nx := fun _ H' => Q .non H', rt := Q } (start N vs) H) :
    FnG P w K mg base (k + 1) f (PySem.W.fnOf name qual params body scope dV kV doc pm an cdv ct) ps sp := by
  refine ⟨len, fun A outer s H args us vs Q E hr hgd e0 hb r hsp => ?_⟩
  have hl := len _ _ _ _ hsp
  have KX : K.In s.heap := e0.mod.kin.keeps fun b o e => (e0.bs b o e).1
  have lim : s.heap.NoLimit := e0.mod.nolimit.keeps fun b o e => (e0.bs b o e).1
  have hkind : ∀ y ∈ ps.zip us, scope.names.lookup y.1 = some .local ∨ (scope.names.lookup y.1 = some .cell ∧ ((cellsFrom (s.heap.objs.size + 1) scope.names []).lookup y.1).isSome = true) := fun ⟨n, v⟩ hy => by
    rcases S.par n (List.of_mem_zip hy).1 with q | q
    · exact .inl q
    · exact .inr ⟨q, PySem.W.cellsFrom_some _ _ _ (.inl q)⟩
  refine codeAny_call_function hr.depth (KX _ _ lk) rfl S.co S.gen rfl (PySem.W.codeRec_of KX hcd) (hb _ _ _ _ ?_)
  refine wpAny_newFunctionEnv_cells S.kind hkind fun env he s1 x => ?_
  subst he
  refine ⟨lim.keeps x.toInCall.keep, codeAny_func ?_⟩
  obtain ⟨t, ht, hq⟩ := hbody A outer s H vs Q E (hr.deeper _) hgd hsp
  have I : Inv (cxOf (L2.CX P w) P w K mg base N qual scope f cdv A outer s H E) [] (start N vs) H s1 := inv_start S hr.hd e0 hl r x
  refine wpAny_mono (ht.run [] s1 (start N vs) H _ I hq) (fun fl s' hs => ?_) fun e s' hs => hs
  have fin : ∀ {σ' : L2.St} {H' : Hp} {v : V} {u : Value}, Inv (cxOf (L2.CX P w) P w K mg base N qual scope f cdv A outer s H E) [] σ' H' s' → RelV v u → Q v H' → CE outer P w H s Q u s' :=
    fun {σ' H' v u} J rv q => ⟨v, H', J.os, J.bare, J.base, J.hok, rv, q⟩
  cases fl with
  | ret u =>
    obtain ⟨v, σ', H', J, rv, q⟩ := hs
    exact fin J rv q
  | next =>
    obtain ⟨σ', H', J, q⟩ := hs
    exact fin (v := V.non) (u := Value.none) J rfl q
  | brk =>
    obtain ⟨_, _, _, q⟩ := hs
    exact False.elim q
  | cont =>
    obtain ⟨_, _, _, q⟩ := hs
    exact False.elim q
theorem FunD.okG {x qual : Str} {params : Arguments} {body : List Stmt} {scope : Scope} {dvs : List V} {kws : List (Str × V)} {f : Addr} {fd : FuncData} {N ps : List Str} {k : Nat} {sp : Sp} (F : FunD K x qual params body scope dvs kws f fd) (S : FnScope N ps scope) (len : ∀ vs H Q E, sp vs H Q E → vs.length = ps.length)
    (hbody : ∀ (cdv : Value) (A : Around) (outer : List Env) (s : Shared) (H : Hp) (vs : List V) (Q : VK) (E : XK), Room k (A.deeper (envOfC qual scope s.heap.objs.size f cdv)) → A.guards = some [] → sp vs H Q E →
      ∃ t, PSs (cxOf (L2.CX P w) P w K mg base N qual scope f cdv A outer s H E) body t ∧ t { nx := fun _ H' => Q .non H', rt := Q } (start N vs) H) : FnG P w K mg base (k + 1) f fd ps sp := by
  obtain ⟨oc, od, dV, kV, doc, pm, an, cdv, ct, osl, rfl, lk, hcd, _, _⟩ := F.ex
  exact fn_ofG lk hcd S len fun A outer s H vs Q E hr hg hsp => hbody cdv A outer s H vs Q E hr hg hsp
end

/-- what a call's exception must do -/
def PostE (G : Gr) (h : MH) (H : Hp) (Ex : DX) (E : XK) : Prop := ∀ c fs h' cls dd H', Ex c fs h' → RepX G h' H' c fs cls dd → RepH G h' H' → Fm h H h' H' → E cls dd H'
def spG (G : Gr) (Φ : Fns) (f : Nat) : Sp := fun vs H Q E => ∃ ds h R Ex, RepVs G.K H ds vs ∧ RepH G h H ∧ Φ f ds h R Ex ∧ Post G h H R Q ∧ PostE G h H Ex E
/-- how a def is called: n values, keywords ks; arr: each parameter's value -/
structure Pat where
  x : Str
  f : Nat
  n : Nat
  ks : List Str
  arr : List (Nat ⊕ D)
structure PatOk (P : Program) (w : World) (K : PySem.W.Frag) (mg : Str → Option Value) (base : Heap) (G : Gr) (Φ : Fns) (k : Nat) (p : Pat) : Prop where
  ex : ∃ (a : Addr) (fd : FuncData) (ps : List Str) (g : List Value → List Value → List Value) (gV : List V → List V → List V), mg p.x = some (.ref a) ∧ PySem.W.keepIn K (.ref a) = true ∧ FnG P w K mg base k a fd ps (spG G Φ p.f) ∧ KBn K fd ps p.n p.ks g gV ∧
    ∀ H ds vs es zs, RepVs K H ds vs → RepVs K H es zs → ds.length = p.n → es.length = p.ks.length → RepVs K H (arrOf (ds ++ es) p.arr) (gV vs zs)
section
variable {X : Cx} {G : Gr} {W : WX} {Φ : Fns} {p : Pat} {k : Nat}
theorem run_pat {pins : List (Addr × Obj)} {σ : L2.St} {H : Hp} {s : Shared} {Q : VK} {us ws : List Value} {vs zs : List V} {ds es : List D} {σd : DS} {h : MH} {R : D → MH → Prop} {E : DX} {a : Addr} {fd : FuncData} {ps : List Str} {g : List Value → List Value → List Value} {gV : List V → List V → List V}
    (ok : Ok X G) (tk : Takes X W) (F : FnG X.prog X.w X.K X.mg X.base k a fd ps (spG G Φ p.f)) (B : KBn X.K fd ps p.n p.ks g gV) (hr : Room k X.A)
    (arr : ∀ H ds vs es zs, RepVs X.K H ds vs → RepVs X.K H es zs → ds.length = p.n → es.length = p.ks.length → RepVs X.K H (arrOf (ds ++ es) p.arr) (gV vs zs))
    (I : Inv X pins σ H s) (r : Vals vs us) (rz : Vals zs ws) (rd : RepVs G.K H ds vs) (re : RepVs G.K H es zs) (l1 : ds.length = p.n) (l2 : es.length = p.ks.length) (at_ : At G W E σd σ h H) (w : Φ p.f (arrOf (ds ++ es) p.arr) h R E) (po : Post G h H R Q) :
    wpAny (model X.prog X.w) X.A (call (.ref a) us (p.ks.zip ws)) (EP X pins σ Q) X.xe s := by
  have r2 := B.rel r rz
  have ra := arr H ds vs es zs (by rw [ok.k]; exact rd) (by rw [ok.k]; exact re) l1 l2
  rw [ok.k] at ra
  have sp : spG G Φ p.f (gV vs zs) H Q (L2.WE W σ) := ⟨_, h, R, E, ra, at_.r, w, po, fun c fs h' cls dd H' e rx rh f => at_.x c fs h' cls dd H' e rx rh f⟩
  refine wpAny_call (codeAny_mono (F.run X.A X.stack s H ⟨us, p.ks.zip ws⟩ (g us ws) (gV vs zs) Q (L2.WE W σ) hr ok.gd I.env0 (B.to s us ws I.kIn (by rw [← r.length, rd.length]; exact l1) (by rw [← rz.length, re.length]; exact l2)) r2 sp) fun r s' hq => ?_)
  cases r with
  | error e => exact passAt tk σ pins H s e s' I hq
  | ok fl =>
    cases fl with
    | ret u => exact I.after hq
    | next => exact False.elim hq
    | brk => exact False.elim hq
    | cont => exact False.elim hq
variable {e : Expr} {es : List Expr} {kws : List Keyword} {q pos : Pos} {wl wk : WL}
/-- f(e, .., k = v, ..) -/
theorem se_callk (ok : Ok X G) (tk : Takes X W) (hp : PatOk X.prog X.w X.K X.mg X.base G Φ k p) (hr : Room k X.A) (hg : Gl X p.x)
    (ha : PA X (e :: es) (lA G W wl)) (hkw : PK X kws (lA G W wk))
    (hall : (backToKw pos (keywordEach kws X.env)).all (·.1.isSome) = true) (hks : (backToKw pos (keywordEach kws X.env)).filterMap (·.1) = p.ks)
    (hdb : (p.x == ("__debug__" : Str)) = false) (he : starEach (e :: es) X.env = (false, eval e X.env) :: starEach es X.env)
    (hpl : ((backTo pos (starEach (e :: es) X.env)).any (·.1) || (backToKw pos (keywordEach kws X.env)).any (·.1.isNone)) = false) :
    PE X (.Call (.Name p.x q) (e :: es) kws pos) (lE G W fun E σ h Q => wl E σ h fun ds h1 => wk E σ h1 fun ks h2 => (ds.length = p.n ∧ ks.length = p.ks.length) ∧ Φ p.f (arrOf (ds ++ ks) p.arr) h2 Q E) := by
  obtain ⟨a, fd, ps, g, gV, hmg, hk, F, B, arr⟩ := hp.ex
  refine ⟨fun pins s σ H Q I ⟨σd, h, R, E, at_, w, po⟩ => ?_⟩
  refine wpAny_Call_Name_kw (ld_glob I hg hmg ?_ hdb)
  refine PySem.W.callWith_KW (h₀ := X.base) I.ok.mod.kin hk hall (thn (ha.run pos pins s σ H
    (fun vs H1 => ∃ ds h1, RepVs G.K H1 ds vs ∧ RepH G h1 H1 ∧ Fm h H h1 H1 ∧ wk E σd h1 fun ks h2 => (ds.length = p.n ∧ ks.length = p.ks.length) ∧ Φ p.f (arrOf (ds ++ ks) p.arr) h2 R E) I ⟨σd, h, _, E, at_, w, fun ds h1 vs H1 w1 rd rh1 f1 => ⟨ds, h1, rd, rh1, f1, w1⟩⟩) fun us s1 ⟨vs, H1, I1, r, ds, h1, rd, rh1, f1, w1⟩ => ?_) hpl he
  refine thn (hkw.run pos pins s1 σ H1 (fun zs H2 => ∃ es h2, RepVs G.K H2 es zs ∧ RepH G h2 H2 ∧ Fm h1 H1 h2 H2 ∧ (ds.length = p.n ∧ es.length = p.ks.length) ∧ Φ p.f (arrOf (ds ++ es) p.arr) h2 R E) I1 ⟨σd, h1, _, E, at_.fm rh1 f1, w1, fun es h2 zs H2 w2 re rh2 f2 => ⟨es, h2, re, rh2, f2, w2⟩⟩)
    fun ws s2 ⟨zs, H2, I2, rz, es, h2, re, rh2, f2, l, w2⟩ => ⟨I2.kIn, ?_⟩
  rw [hks]
  exact run_pat ok tk F B hr arr I2 r rz (rd.fm rh1 f2) re l.1 l.2 ((at_.fm rh1 f1).fm rh2 f2) w2 (po.fm (f1.trans f2))
/-- f(e, ..), every parameter written -/
theorem se_call (ok : Ok X G) (tk : Takes X W) (hp : PatOk X.prog X.w X.K X.mg X.base G Φ k p) (hr : Room k X.A) (hg : Gl X p.x) (hk0 : p.ks = []) (har : ∀ ds : List D, ds.length = p.n → arrOf ds p.arr = ds)
    (ha : PA X (e :: es) (lA G W wl)) (hdb : (p.x == ("__debug__" : Str)) = false) (he : starEach (e :: es) X.env = (false, eval e X.env) :: starEach es X.env)
    (hpl : (backTo pos (starEach es X.env)).any (·.1) = false) :
    PE X (.Call (.Name p.x q) (e :: es) [] pos) (lE G W fun E σ h Q => wl E σ h fun ds h1 => ds.length = p.n ∧ Φ p.f ds h1 Q E) := by
  obtain ⟨a, fd, ps, g, gV, hmg, hk, F, B, arr⟩ := hp.ex
  refine ⟨fun pins s σ H Q I ⟨σd, h, R, E, at_, w, po⟩ => ?_⟩
  refine wpAny_Call_Name_kw (ld_glob I hg hmg ?_ hdb)
  refine PySem.W.callWith_K (h₀ := X.base) I.ok.mod.kin hk (thn (ha.run pos pins s σ H
    (fun vs H1 => ∃ ds h1, RepVs G.K H1 ds vs ∧ RepH G h1 H1 ∧ Fm h H h1 H1 ∧ ds.length = p.n ∧ Φ p.f ds h1 R E) I ⟨σd, h, _, E, at_, w, fun ds h1 vs H1 w1 rd rh1 f1 => ⟨ds, h1, rd, rh1, f1, w1⟩⟩) fun us s1 ⟨vs, H1, I1, r, ds, h1, rd, rh1, f1, l1, w1⟩ => ⟨I1.kIn, ?_⟩) he hpl
  have w2 : Φ p.f (arrOf (ds ++ []) p.arr) h1 R E := by rw [List.append_nil, har ds l1]; exact w1
  have q := run_pat (ws := []) (zs := []) (es := []) ok tk F B hr arr I1 r .nil rd repVs_nil l1 (by rw [hk0]; rfl) (at_.fm rh1 f1) w2 (po.fm f1)
  rw [hk0] at q
  exact q
end
end DL
set_option Elab.async false
set_option linter.all false
set_option maxRecDepth 100000
set_option maxHeartbeats 1000000
/-! The D layer, 11: the words laid beside the program's. -/
namespace DL
open PySem PySem.Spec PyProof.Rows L2

/-! ### what is seen of an expression -/
def nostar : Expr → Bool
  | .Starred _ _ => false
  | _ => true
def noslice : Expr → Bool
  | .Slice _ _ _ _ => false
  | _ => true
def noset : Expr → Bool
  | .Set _ _ _ => false
  | _ => true
def nocall : Expr → Bool
  | .Call _ [] [] _ => false
  | _ => true
def plainT : Expr → Bool
  | .UnaryOp .Not _ _ => false
  | .BoolOp _ _ _ => false
  | .IfExp _ _ _ _ => false
  | .Compare _ _ _ _ => false
  | _ => true
def nocomp : Expr → Bool
  | .ListComp _ _ _ _ => false
  | .SetComp _ _ _ _ => false
  | .DictComp _ _ _ _ _ => false
  | _ => true
def noname : Expr → Bool
  | .Name _ _ => false
  | _ => true
def notup : Expr → Bool
  | .Tuple _ _ _ => false
  | .List _ _ => false
  | _ => true
theorem starEach_cons {e : Expr} {es : List Expr} {env : Env} (h : nostar e = true) : starEach (e :: es) env = (false, eval e env) :: starEach es env := by
  cases e <;> first | rfl | cases h
theorem plain_any {pos : Pos} {env : Env} : ∀ {es : List Expr}, es.all nostar = true → (backTo pos (starEach es env)).any (·.1) = false
  | [], _ => rfl
  | e :: es, h => by
    have h1 := List.all_cons ▸ h
    rw [Bool.and_eq_true] at h1
    rw [starEach_cons h1.1]
    show (false || (backTo pos (starEach es env)).any (·.1)) = false
    rw [plain_any h1.2] <;> rfl
theorem plain_all {pos : Pos} {env : Env} : ∀ {es : List Expr}, es.all nostar = true → (backTo pos (starEach es env)).all (fun x => !x.1) = true
  | [], _ => rfl
  | e :: es, h => by
    have h1 := List.all_cons ▸ h
    rw [Bool.and_eq_true] at h1
    rw [starEach_cons h1.1]
    show (true && (backTo pos (starEach es env)).all (fun x => !x.1)) = true
    rw [plain_all h1.2] <;> rfl
theorem plainIx {b : Expr} (h : noslice b = true) : PlainIx b := by
  cases b <;> first | (intro o i; rfl) | cases h
theorem aug_plain {b : Expr} (h : noslice b = true) : ∀ ov iv new, augStore b ov iv new = (do holding [new, ov, iv] (setItem ov iv new); release [new, ov, iv] []; pure .next) := by
  cases b <;> first | (intro ov iv new; rfl) | cases h
theorem assign_sub {a b : Expr} {pos : Pos} {env : Env} (h : noslice b = true) : ∀ v, assign (.Subscript a b pos) env v = (do
      let ov ← holding [v] (eval a env)
      let iv ← holding [v, ov] (eval b env)
      standAt pos
      holding [v, ov, iv] (setItem ov iv v)
      release [v, ov, iv] []) := by
  cases b <;> first | (intro v; rfl) | cases h
theorem isTrue_of {a : Expr} {env : Env} (h : plainT a = true) : ∀ whole, isTrue a env whole = (do let v ← whole; standAt a.pos; holding [v] (truthy v)) := by
  cases a <;> first | (intro w; rfl) | cases h | skip
  case UnaryOp op x p => cases op <;> first | (intro w; rfl) | cases h
theorem folded_of {e : Expr} {env : Env} (h : noset e = true) : ∀ x, foldedSetIterable e env x = pure x := by
  cases e <;> first | (intro w; rfl) | cases h
theorem behind_of {op : CmpOp} {b : Expr} (h : noset b = true) : behindInMarks op b = false := by
  cases b <;> first | rfl | cases h
theorem base_of {o : Expr} {name : Str} {env : Env} (h : nocall o = true) (w : Sem Value) : attributeBase o name env w = w := by
  cases o <;> first | rfl | skip
  case Call f as ks p =>
    cases as with
    | nil => cases ks with
      | nil => cases h
      | cons _ _ => cases f <;> rfl
    | cons _ _ => cases f <;> rfl
theorem swaps_of {e : Expr} {t : Option Expr} {l : Nat} {env : Env} (h : nocomp e = true) : swapsWith e t l env = pure false := by
  cases e <;> first | rfl | cases h
theorem swaps_of2 {e t : Expr} {l : Nat} {env : Env} (h : noname t = true) : swapsWith e (some t) l env = pure false := by
  cases t <;> first | (cases e <;> rfl) | (cases h; done)
theorem stores_of {e t : Expr} {env : Env} (h : notup t = true) : swappedStores [t] e env = pure none := by
  cases t <;> first | (cases e <;> rfl) | (cases h; done)
theorem stores_of2 {e t : Expr} {env : Env} (h : notup e = true) : swappedStores [t] e env = pure none := by
  cases e <;> first | (cases t <;> rfl) | (cases h; done)
theorem assignEach_one {t : Expr} {env : Env} {ts : List Expr} (h : nostar t = true) : (assignEach (t :: ts) env).map (·.2) = assign t env :: (assignEach ts env).map (·.2) := by
  cases t <;> first | rfl | cases h
theorem assignEach_len {env : Env} : ∀ {ts : List Expr}, (assignEach ts env).length = ts.length
  | [] => rfl
  | t :: ts => by
    have e := assignEach_len (env := env) (ts := ts)
    cases t <;> exact congrArg Nat.succ e
theorem assignEach_nostar {env : Env} : ∀ {ts : List Expr}, ts.all nostar = true → (assignEach ts env).findIdx? (·.1) = none
  | [], _ => rfl
  | t :: ts, h => by
    have h1 := List.all_cons ▸ h
    rw [Bool.and_eq_true] at h1
    have e := assignEach_nostar (env := env) h1.2
    have e2 : assignEach (t :: ts) env = (false, assign t env) :: assignEach ts env := by
      have := h1.1
      cases t <;> first | rfl | cases this
    rw [e2, List.findIdx?_cons, e] <;> rfl
theorem kws_ok {pos : Pos} {env : Env} : ∀ {kws : List Keyword} {ks : List Str}, kws.map (·.arg) = ks.map some → (backToKw pos (keywordEach kws env)).all (·.1.isSome) = true ∧ (backToKw pos (keywordEach kws env)).filterMap (·.1) = ks ∧ (backToKw pos (keywordEach kws env)).any (·.1.isNone) = false
  | [], [], _ => ⟨rfl, rfl, rfl⟩
  | [], _ :: _, h => by cases h
  | _ :: _, [], h => by cases h
  | ⟨nm, e, p⟩ :: kws, k :: ks, h => by
    rw [List.map_cons, List.map_cons] at h
    obtain ⟨h1, h2⟩ := List.cons.inj h
    have h1 : nm = some k := h1
    subst h1
    obtain ⟨a, b, c⟩ := kws_ok (pos := pos) (env := env) h2
    refine ⟨?_, ?_, ?_⟩
    · show (true && (backToKw pos (keywordEach kws env)).all (·.1.isSome)) = true
      rw [a] <;> rfl
    · show k :: (backToKw pos (keywordEach kws env)).filterMap (·.1) = _
      rw [b]
    · show (false || (backToKw pos (keywordEach kws env)).any (·.1.isNone)) = false
      rw [c] <;> rfl

/-! ### two or three names at once -/
/-- the names are stored from the right -/
def parC (vs : List Expr) : Bool := vs.all nostar && !(vs.all (foldedForSure 8)) && !(vs.all (constantsAlone 8))
theorem star_no {e : Expr} (h : nostar e = true) {f : Expr → Bool} (hf : ∀ e, f e = !nostar e) : f e = false := by rw [hf, h] <;> rfl
theorem stores_par {x y : Str} {px py pt : Pos} {kt : Nat} {a b : Expr} {k2 : Nat} {pt2 : Pos} {env : Env} (hk : env.scope.kind = .function) (hx : env.scope.names.lookup x = some .local) (hy : env.scope.names.lookup y = some .local) (hl : py.line = px.line) (hxy : x ≠ y)
    (hp : parC [a, b] = true) : swappedStores [.Tuple [.Name x px, .Name y py] kt pt] (.Tuple [a, b] k2 pt2) env = pure (some [x, y]) := by
  unfold parC at hp
  simp only [Bool.and_eq_true, Bool.not_eq_true'] at hp
  obtain ⟨⟨h1, h2⟩, h3⟩ := hp
  simp only [List.all_cons, List.all_nil, Bool.and_true, Bool.and_eq_true] at h1
  have kx : env.kindOf x = some .local := hx
  have ky : env.kindOf y = some .local := hy
  have hb : env.blockKind = .function := by unfold Env.blockKind; rw [hk]; rfl
  have ed : [x, y].eraseDups = [x, y] := by
    simp [List.eraseDups_cons, hxy, Ne.symm hxy]
  unfold swappedStores
  simp only [List.length_cons, List.length_nil, hb, h2, h3, List.head?_cons, Option.map_some, Option.getD_some, Expr.pos, List.filterMap_cons, kx, ky, hl, beq_self_eq_true, Bool.and_self, if_true, List.filterMap_nil, ed]
  refine (if_neg (by decide)).trans ((if_neg ?_).trans rfl)
  intro z
  simp only [List.any_cons, List.any_nil, Bool.or_false, Bool.or_eq_true] at z
  rcases z with z | z
  · have := h1.1; cases a <;> first | (cases z; done) | (cases this; done)
  · have := h1.2; cases b <;> first | (cases z; done) | (cases this; done)
theorem stores_par3 {x y z : Str} {px py pz pt : Pos} {kt : Nat} {a b c : Expr} {k2 : Nat} {pt2 : Pos} {env : Env} (hk : env.scope.kind = .function) (hx : env.scope.names.lookup x = some .local) (hy : env.scope.names.lookup y = some .local) (hz : env.scope.names.lookup z = some .local) (hl : py.line = px.line) (hl2 : pz.line = px.line) (hxy : x ≠ y) (hxz : x ≠ z) (hyz : y ≠ z)
    (hp : parC [a, b, c] = true) : swappedStores [.Tuple [.Name x px, .Name y py, .Name z pz] kt pt] (.Tuple [a, b, c] k2 pt2) env = pure (some [x, y, z]) := by
  unfold parC at hp
  simp only [Bool.and_eq_true, Bool.not_eq_true'] at hp
  obtain ⟨⟨h1, h2⟩, h3⟩ := hp
  simp only [List.all_cons, List.all_nil, Bool.and_true, Bool.and_eq_true] at h1
  have kx : env.kindOf x = some .local := hx
  have ky : env.kindOf y = some .local := hy
  have kz : env.kindOf z = some .local := hz
  have hb : env.blockKind = .function := by unfold Env.blockKind; rw [hk]; rfl
  have ed : [x, y, z].eraseDups = [x, y, z] := by
    simp [List.eraseDups_cons, hxy, Ne.symm hxy, hxz, Ne.symm hxz, hyz, Ne.symm hyz]
  unfold swappedStores
  simp only [List.length_cons, List.length_nil, hb, h2, h3, List.head?_cons, Option.map_some, Option.getD_some, Expr.pos, List.filterMap_cons, kx, ky, kz, hl, hl2, beq_self_eq_true, Bool.and_self, if_true, List.filterMap_nil, ed]
  refine (if_neg (by decide)).trans ((if_neg ?_).trans rfl)
  intro z
  simp only [List.any_cons, List.any_nil, Bool.or_false, Bool.or_eq_true] at z
  rcases z with z | z | z
  · have := h1.1; cases a <;> first | (cases z; done) | (cases this; done)
  · have := h1.2.1; cases b <;> first | (cases z; done) | (cases this; done)
  · have := h1.2.2; cases c <;> first | (cases z; done) | (cases this; done)

def notLoc (sc : Scope) : Expr → Bool
  | .Name x _ => !decide (sc.names.lookup x = some .local)
  | _ => true
theorem filterMap_lt {α β : Type} {f : α → Option β} : ∀ {l : List α}, (∃ x ∈ l, f x = none) → (l.filterMap f).length < l.length
  | [], ⟨_, h, _⟩ => nomatch h
  | a :: l, ⟨x, hx, e⟩ => by
    have le := List.length_filterMap_le f l
    rw [List.filterMap_cons]
    rcases List.mem_cons.mp hx with rfl | hx
    · rw [e, List.length_cons]
      show (l.filterMap f).length < _
      omega
    · have ih := filterMap_lt (f := f) ⟨x, hx, e⟩
      cases f a with
      | none => show (l.filterMap f).length < _; rw [List.length_cons]; omega
      | some b => show (b :: l.filterMap f).length < _; rw [List.length_cons, List.length_cons]; omega
theorem stores_none {ts vs : List Expr} {k1 k2 : Nat} {p1 p2 : Pos} {env : Env} (h : (ts.any (notLoc env.scope) || vs.all (foldedForSure 8)) = true) : swappedStores [.Tuple ts k1 p1] (.Tuple vs k2 p2) env = pure none := by
  unfold swappedStores
  dsimp only
  split
  · rfl
  split
  · rfl
  split
  · rfl
  · rename_i hn
    split
    · rfl
    · rename_i hf
      exfalso
      rw [Bool.or_eq_true] at h
      rcases h with h | h
      · apply hn
        obtain ⟨x, hx, e⟩ := List.any_eq_true.mp h
        rw [Bool.or_eq_true]
        left
        refine bne_iff_ne.mpr (Nat.ne_of_lt (filterMap_lt ⟨x, hx, ?_⟩))
        cases x <;> try rfl
        rename_i id pos
        have : env.kindOf id ≠ some .local := by
          have z : (!decide (env.scope.names.lookup id = some .local)) = true := e
          have z2 : ¬ env.scope.names.lookup id = some .local := by simpa using z
          exact z2
        show (if (env.kindOf id == some .local && _) = true then _ else none) = none
        rw [if_neg]
        intro z
        rw [Bool.and_eq_true] at z
        exact this (eq_of_beq z.1)
      · exact hf h
end DL
set_option Elab.async false
set_option linter.all false
set_option maxRecDepth 100000
set_option maxHeartbeats 4000000
/-! The D layer, exceptions 1: an own class of exceptions over any built-in one, whose __init__ notes one value. -/
namespace DL
open PySem PySem.Spec PyProof.Rows L2

/-- what the written part says of such a class -/
structure Xc (K : PySem.W.Frag) (B nI iI : String) (bm : List Value) (C : Addr) : Prop where
  fb : ExcBaseFacts B nI iI bm
  sf : StoreFacts B bm "object.__setattr__" "object"
  ini : PySem.W.excInitIn K C bm nI = true
  ov : PySem.W.excOver K C bm = true
  hd : PySem.W.hasDictIn K C = true
  sa : PySem.W.findIn K (.ref C) "__setattr__" = some (some (.builtin "object.__setattr__"))
  exC : PySem.W.subIn K (.ref C) (.type "BaseException") = some true
  tyC : PySem.W.typeIn K (.ref C) = some (.type "type")
  kC : PySem.W.keepIn K (.ref C) = true
section
variable {prog : Program} {w : World} {A : Around} {E : Value → Shared → Prop} {R : Result → Shared → Prop} {hp : Heap} {g : Array GenState} {d : Drawn} {t : Nat} {os : OsState} {K : PySem.W.Frag} {B nI iI : String} {bm : List Value} {C : Addr}
/-- the first thing noted: the exception gets its dict -/
theorem note_first {name : Str} {tk : Tok} {v : Value} {x t1 : Addr} (T : Xc K B nI iI bm C) (X : K.In hp) (hx : hp.get? x = some (PySem.W.excObj C t1 none .none)) (ht : PySem.W.takerIn K C name = some none)
    (hq : ∀ h' tk' dx, (∀ b o, b ≠ x → hp.get? b = some o → h'.get? b = some o) → hp.objs.size ≤ dx → dx ≠ x → h'.get? x = some (PySem.W.excObj C t1 (some dx) .none) →
      h'.Ns1 dx (fun y => if y = name then some v else none) → R (.ok (.ret .none)) ⟨h', g, d, tk', os⟩) :
    codeAny (model prog w) A (.call (.builtin "object.__setattr__") ⟨[.ref x, .str name tk, v], []⟩) R ⟨hp, g, d, t, os⟩ := by
  have I : PySem.W.InstAt hp x (PySem.W.excObj C t1 none .none) C none := ⟨hx, rfl, rfl, trivial⟩
  refine PySem.W.osa_openX (s := ⟨hp, g, d, t, os⟩) (od := none) T.sf X I T.ov ht fun b => ?_
  obtain ⟨cd, hc, hd'⟩ := PySem.W.any_some T.hd
  have hxs : x ≠ hp.objs.size := Nat.ne_of_lt (Heap.lt_size hx)
  refine wpAny_bind (wpAny_pure (wpAny_bind (PySem.W.instanceDict_exc hx (PySem.W.looks_clsIn X hc) hd' ?_)))
  show wpAny _ _ (Builtin.ObjectAttr.storeInDict hp.objs.size (.str name tk) name v) _ _ _
  have hx1 : (hp.push (PySem.W.dictOf [] 0)).get? x = some (PySem.W.excObj C t1 none .none) := Heap.get?_push_of_some _ hx
  refine HandSPX.store_in_new ⟨_, #[], _, (Heap.get?_update_ne _ _ _ _ hxs.symm).trans (Heap.get?_push_at rfl rfl), rfl, fun e he => absurd he (by simp), fun _ => rfl⟩ fun h' tk' hn' hs => ?_
  refine hq h' tk' hp.objs.size (fun b o hb ho => ?_) (Nat.le_refl _) hxs.symm ?_ hn'
  · exact (hs.2 b (Nat.ne_of_lt (Heap.lt_size ho))).trans ((Heap.get?_update_ne _ _ _ _ hb).trans (Heap.get?_push_of_some _ ho))
  · exact (hs.2 x hxs).trans (Heap.get?_update_self _ hx1 rfl)
end

section
variable {X : Cx} {pins : List (Addr × Obj)} {σ : L2.St} {H : Hp} {s : Shared} {a C : Addr} {f : Str} {y : V} {u : Value} {Q : Unit → Shared → Prop} {E : Value → Shared → Prop} {A : Around} {B nI iI : String} {bm : List Value}
/-- self.f = y, on a bare one -/
theorem note_ok (T : Xc X.K B nI iI bm C) (I : Inv X pins σ H s) (e : H a = some (exo a C none)) (ht : PySem.W.takerIn X.K C f = some none) (ry : RelV y u)
    (h : ∀ dx s', H dx = none → dx ≠ a → Inv X pins σ (L2.upd (L2.upd H dx (exd dx [(f, y)])) a (exo a C (some dx))) s' → Q () s') : wpAny (model X.prog X.w) A (setAttr (.ref a) f u) Q E s := by
  obtain ⟨t1, ho⟩ := exo_at I.hok e
  have ho : s.heap.get? a = some (PySem.W.excObj C t1 none .none) := ho
  obtain ⟨hp, g, d, t, os⟩ := s
  refine PySem.W.set_plain I.kIn (ox := PySem.W.excObj C t1 none .none) (od := none) ⟨ho, rfl, rfl, trivial⟩ T.sa ?_
  refine note_first T I.kIn ho ht (fun h' tk' dx k dn dne hx hn => ?_)
  have hnd : H dx = none := I.hok.fresh dn
  have nd : ∀ {b : Addr} {o : Obj}, hp.get? b = some o → b ≠ dx := fun {b o} q => Nat.ne_of_lt (Nat.lt_of_lt_of_le (Heap.lt_size q) dn)
  have na : ∀ {b : Addr}, H b = none → b ≠ a := fun {b} n z => by
    rw [z, e] at n
    cases n
  have U : Un X.fs [] H (L2.upd (L2.upd H dx (exd dx [(f, y)])) a (exo a C (some dx))) hp h' := {
    keep := fun b o q n _ _ => k b o (na n) q
    slot := fun b o q n _ _ => ⟨o.slots, k b o (na n) q⟩
    free := fun b o q n _ => by rw [upd_ne (na n), upd_ne (nd q)]; exact n
    there := fun b o q _ => by
      by_cases hb : b = a
      · exact ⟨_, by rw [hb]; exact hx⟩
      · exact ⟨o, k b o hb q⟩
    tups := fun b xs q => by rw [upd_ne (at_ne e q exo_tup), upd_ne (ne_of_none q hnd)]; exact q
    frzs := fun b o v q => by rw [upd_ne (at_ne e q exo_frz), upd_ne (ne_of_none q hnd)]; exact q
    tbls := fun b ps q => ⟨#[], by rw [upd_ne (at_ne e q exo_tbl), upd_ne (ne_of_none q hnd), q]; simp⟩ }
  refine h dx _ hnd dne (I.un (t' := tk') U fun b o q => ?_)
  by_cases hb : b = a
  · subst hb
    rw [upd_same] at q
    cases q
    exact exo_ok hx
  · rw [upd_ne hb] at q
    by_cases hd : b = dx
    · subst hd
      rw [upd_same] at q
      cases q
      exact exd_ok hn (relO_put (fs := []) ry fun g => True.intro)
    · rw [upd_ne hd] at q
      refine (I.hok b o q).stay (fun c v hc z => k c v ?_ z) (fun c hc => ?_) (fun c xs hc => ?_)
      · rcases hc with hc | hc
        · rw [hc]; exact hb
        · exact at_ne e hc exo_own
      · rw [upd_ne (at_ne e hc exo_own), upd_ne (ne_of_none hc hnd)]; exact hc
      · rw [upd_ne (at_ne e hc exo_tup), upd_ne (ne_of_none hc hnd)]; exact hc
end
/-- self.f = e -/
def tNote (K : PySem.W.Frag) (f : Str) (to te : TE) : TS := fun Dn σ H => te σ H fun y H1 => to σ H1 fun x H2 => ∃ (a C : Addr), x = .ref a ∧ (∃ B nI iI bm, Xc K B nI iI bm C) ∧ PySem.W.takerIn K C f = some none ∧
  H2 a = some (exo a C none) ∧ ∀ dx, H2 dx = none → dx ≠ a → Dn.nx σ (L2.upd (L2.upd H2 dx (exd dx [(f, y)])) a (exo a C (some dx)))
/-- C(e), C's __init__ notes it as f -/
def tMkN (C : Addr) (f : Str) (ta : TA) : L2.St → Hp → XK → Prop := fun σ H Q => ta σ H fun vs H1 => ∃ v, vs = [v] ∧ ∀ dx, H1 dx = none → Q (.ref C) (some dx) (L2.upd H1 dx (.xd [(f, v)]))
/-- what such an __init__ promises -/
def spN (C : Addr) (f : Str) : Sp := fun vs H Q _ => ∃ a x, vs = [.ref a, x] ∧ H a = some (exo a C none) ∧ ∀ dx, H dx = none → dx ≠ a → Q .non (L2.upd (L2.upd H dx (exd dx [(f, x)])) a (exo a C (some dx)))
section
variable {X : Cx} {o e : Expr} {es : List Expr} {to te : TE} {ta : TA} {f x : Str} {p p' pos : Pos} {C : Addr} {B nI iI : String} {bm : List Value}
theorem ps_note (ho : PE X o to) (he : PE X e te) (hs : swapsWith e (some (.Attribute o f p')) pos.line X.env = pure false := by rfl) : PS X (.Assign [.Attribute o f p'] e pos) (tNote X.K f to te) := by
  refine ⟨fun pins s σ H Dn I h => ?_⟩
  refine plainObj_wpAny_Assign_Attribute (thn (he.run pins s σ H _ I h) fun v s1 ⟨y, H1, I1, r1, q1⟩ => thn (ho.run pins s1 σ H1 _ I1 q1) fun u s2 ⟨z, H2, I2, r2, a, C, ex, ⟨B, nI, iI, bm, T⟩, ht, ea, q⟩ => ?_) hs
  subst ex
  obtain rfl : u = Value.ref a := r2
  exact note_ok T I2 ea ht r1 fun dx s' n ne J => ⟨σ, _, J, q dx n ne⟩
theorem init_ok {P : Program} {w : World} {K : PySem.W.Frag} {mg : Str → Option Value} {base : Heap} {fI : Addr} {fd : FuncData} {qual pn : Str} {params : Arguments} {scope : Scope} {kws : List (Str × V)} {p1 p2 p3 p4 : Pos} (T : Xc K B nI iI bm C) (ht : PySem.W.takerIn K C f = some none)
    (F : FunD K "__init__" qual params [.Assign [.Attribute (.Name "self" p1) f p2] (.Name pn p3) p4] scope [] kws fI fd) (S : FnScope ["self", pn] ["self", pn] scope)
    (h1 : scope.names.lookup ("self" : Str) = some NameKind.local) (h2 : scope.names.lookup pn = some NameKind.local) (hd : (pn == ("__debug__" : Str)) = false) (hc : (pn == ("__classdict__" : Str)) = false) : FnOk P w K mg base CX0 1 fI fd ["self", pn] (spN C f) := by
  refine F.ok S (fun vs H Q E h => ?_) (fun cdv A outer s H vs Q E hr h => ⟨tNote K f (tVar 0) (tVar 1), PSs.nox (pss_one (ps_note (pe_var rfl (.inl h1)) (pe_var rfl (.inl h2) hd hc))), ?_⟩)
  · obtain ⟨a, x, rfl, _⟩ := h
    rfl
  · obtain ⟨a, x, rfl, ea, q⟩ := h
    exact ⟨x, rfl, .ref a, rfl, a, C, rfl, ⟨B, nI, iI, bm, T⟩, ht, ea, q⟩
theorem put_back {H1 : Hp} {a dx : Addr} {v : V} (n : H1 a = none) (ne : dx ≠ a) :
    L2.upd (del (L2.upd (L2.upd (L2.upd H1 a (exo a C none)) dx (exd dx [(f, v)])) a (exo a C (some dx))) a) dx (.xd [(f, v)]) = L2.upd H1 dx (.xd [(f, v)]) := by
  funext b
  by_cases hb : b = dx
  · rw [hb, upd_same, upd_same]
  · rw [upd_ne hb, upd_ne hb]
    by_cases ha : b = a
    · rw [ha, del_same, n]
    · rw [del_ne ha, upd_ne ha, upd_ne hb, upd_ne ha]
theorem pmk_note {fI : Addr} {k : Nat} {fd : FuncData} {ps : List Str} (T : Xc X.K B nI iI bm C) (iC : PySem.W.findIn X.K (.ref C) "__init__" = some (some (.ref fI))) (tI : PySem.W.typeIn X.K (.ref fI) = some (.type "function"))
    (F1 : FnOk X.prog X.w X.K X.mg X.base CX0 k fI fd ps (spN C f)) (hr : Room (k + 1) X.A) (hb : Binds X.K fd ps []) (hg : Gl X x) (hm : X.mg x = some (.ref C)) (ha : PA X (e :: es) ta)
    (hdb : (x == ("__debug__" : Str)) = false) (he : starEach (e :: es) X.env = (false, eval e X.env) :: starEach es X.env) (hpl : (backTo pos (starEach es X.env)).any (·.1) = false) :
    PMk X (.Call (.Name x p) (e :: es) [] pos) (tMkN C f ta) := by
  intro pins s σ H Q I h
  refine wpAny_Call_Name_kw (ld_glob I hg hm ?_ hdb)
  refine PySem.W.callWith_K (h₀ := X.base) I.ok.mod.kin T.kC (thn (ha.run pos pins s σ H _ I h) fun us s1 ⟨vs, H1, I1, r1, v, ev, q1⟩ => ⟨I1.kIn, ?_⟩) he hpl
  subst ev
  show wpAny _ _ (call (.ref C) us) _ _ _
  obtain ⟨nm, N, qn, bs, bmo, hdct, sn, sub, ab, col, dd, k0, k1, k2, k3, k5, hC, hT⟩ := PySem.W.excInit_of I1.kIn T.ini
  obtain ⟨hp, g, dr, tk, os⟩ := s1
  have hsz : hp.objs.size ≤ hp.objs.size + 1 := Nat.le_succ _
  have hn : H1 (hp.objs.size + 1) = none := I1.hok.fresh hsz
  have sp : spN C f (V.ref (hp.objs.size + 1) :: [v]) (L2.upd H1 (hp.objs.size + 1) (exo (hp.objs.size + 1) C none)) (fun v' H2 => v' = .non ∧ ∃ (d : Addr), H2 = L2.upd (L2.upd (L2.upd H1 (hp.objs.size + 1) (exo (hp.objs.size + 1) C none)) d (exd d [(f, v)])) (hp.objs.size + 1) (exo (hp.objs.size + 1) C (some d)) ∧ d ≠ hp.objs.size + 1 ∧ H1 d = none) (fun _ _ _ => False) :=
    ⟨_, v, rfl, upd_same, fun dx n ne => ⟨rfl, dx, rfl, ne, by rw [upd_ne ne] at n; exact n⟩⟩
  have keep : ∀ b o, hp.get? b = some o → ((hp.push (PySem.W.kdv_tup us)).push (PySem.HandSPX.excO C hp.objs.size)).get? b = some o := fun b o z => Heap.get?_push_of_some _ (Heap.get?_push_of_some _ z)
  have hget : ((hp.push (PySem.W.kdv_tup us)).push (PySem.HandSPX.excO C hp.objs.size)).get? (hp.objs.size + 1) = some (PySem.HandSPX.excO C hp.objs.size) := by heap_get
  have I2 : Inv X pins σ (L2.upd H1 (hp.objs.size + 1) (exo (hp.objs.size + 1) C none)) ⟨(hp.push (PySem.W.kdv_tup us)).push (PySem.HandSPX.excO C hp.objs.size), g, dr, tk, os⟩ :=
    I1.laid (t' := tk) (a := hp.objs.size + 1) (o := exo (hp.objs.size + 1) C none) (h' := (hp.push (PySem.W.kdv_tup us)).push (PySem.HandSPX.excO C hp.objs.size)) keep hsz (exo_ok hget)
  have r2 : Vals (V.ref (hp.objs.size + 1) :: [v]) (Value.ref (hp.objs.size + 1) :: us) := .cons rfl r1
  have hl : (Value.ref (hp.objs.size + 1) :: us).length = ps.length := by
    have z := r2.length
    rw [F1.len _ _ _ _ sp] at z
    exact z.symm
  have hus : us.length ≤ sizeLine := by
    rw [← Paired.length r1, sizeLine_eq]
    simp
  refine wpAny_call (PySem.HandSPX.call_own T.fb hT hC (PySem.W.looks_findIn I1.kIn iC) (fun self => PySem.W.bind_fn I1.kIn self tI) hus
    (codeAny_mono (F1.run _ X.stack _ _ ⟨Value.ref (hp.objs.size + 1) :: us, []⟩ (Value.ref (hp.objs.size + 1) :: us) _ _ (fun _ _ _ => False) (hr.make C us []) (I2.env0.make C us []) (by simpa using hb _ (Value.ref (hp.objs.size + 1) :: us) I2.kIn (by simpa using hl)) r2 sp) fun r s' hq' => ?_))
  cases r with
  | error er => exact False.elim hq'
  | ok fl =>
    cases fl with
    | ret u =>
      obtain ⟨v', H2, os2, bare2, un2, hok2, rv, ev, d, eH, ne, hd1⟩ := hq'
      subst ev eH
      obtain ⟨h2, g2, d2, t2, os'⟩ := s'
      refine ⟨rv, mk_end (d := d) (fs := [(f, v)]) (raises_own T.exC T.tyC) I1 hsz keep un2 hok2 os2 bare2 upd_same ((upd_ne ne).trans upd_same) hd1 ?_⟩
      rw [put_back hn ne]
      exact q1 d hd1
    | next => exact False.elim hq'
    | brk => exact False.elim hq'
    | cont => exact False.elim hq'
end
end DL
set_option Elab.async false
set_option linter.all false
set_option maxRecDepth 100000
set_option maxHeartbeats 4000000
/-! The D layer, exceptions 2: a target with a star. -/
namespace DL
open PySem PySem.Spec PyProof.Rows L2
section
variable {prog : Program} {w : World} {A : Around} {E : Value → Shared → Prop} {s : Shared}
/-- what follows a walk's first items: the rest as a new list -/
theorem star_list {l : Addr} {its : List Value} {Q : List Value → Shared → Prop} (hl : s.heap.IsList l its.toArray) (hh : A.handled = none) {i : Nat} (hn : i ≤ its.length) (hz : its.length ≤ 16384)
    (h : ∀ h' tk (D : Addr), (∀ b o, s.heap.get? b = some o → h'.get? b = some o) → s.heap.get? D = none → h'.get? D = some { cls := .type "list", data := .seq (its.drop i).toArray } → Q (its.take i ++ [.ref D]) { s with heap := h', toks := tk }) :
    wpAny (model prog w) A (unpackItems (.ref l) (i + 1) (some i)) Q E s := by
  have hlt : l ≠ s.heap.objs.size := by obtain ⟨o, ho, _⟩ := hl; exact Nat.ne_of_lt (Heap.lt_size ho)
  unfold unpackItems
  refine wpAny_bind ?_
  unfold notIterableAtAll
  refine wpAny_bind (wpAny_specialOf hl.typeIs F.slot_list_iter.lookup ?_)
  refine wpAny_pure ?_
  simp only [Bool.false_eq_true, if_false]
  refine wpAny_bind (wpAny_holding (wpAny_pyIter_list hl ?_))
  refine wpAny_bind (wpAny_holding (PySem.W.kun_draw hlt i 0 _ _ ⟨_, Heap.get?_push_size _ rfl, rfl, rfl⟩ (hl.push _) (by simp; omega) fun h1 it1 s1 => ?_))
  have hl1 : h1.IsList l its.toArray := (hl.push _).extBut s1.extBut hlt
  rw [Nat.zero_add] at it1
  obtain ⟨oi, hoi, _⟩ := id it1
  obtain ⟨ol, hol, _⟩ := id hl1
  rw [List.drop_zero, List.toList_toArray]
  have hfl : (its.take i).length = i := by rw [List.length_take]; omega
  rw [if_neg (show ¬ ((its.take i).length < i) by rw [hfl]; omega)]
  refine wpAny_bind (wpAny_holding (PySem.W.kun_collect (s := { s with heap := h1 }) (T := "list_iterator") (.inr (.inr (.inl rfl))) (Walks.list (A := A.in1) hh s.heap.objs.size l hlt its.toArray) (fun j u st => st.1.typeIs) (k := i) (by simpa using hn) ⟨it1, hl1⟩ (Heap.lt_size hoi) (Heap.lt_size hol) (fun h2 tk hk => ?_) (by rw [sizeLine_eq]; simp; omega)))
  rw [List.toList_toArray]
  show wpAny _ _ (if (its.drop i).length < i + 1 - 1 - i then _ else _) _ _ _
  rw [if_neg (by omega)]
  show wpAny _ _ (newList ((its.drop i).take ((its.drop i).length - (i + 1 - 1 - i))) >>= fun d => pure (its.take i ++ [d] ++ (its.drop i).drop ((its.drop i).length - (i + 1 - 1 - i)))) _ _ _
  rw [show i + 1 - 1 - i = 0 by omega, Nat.sub_zero, List.take_length, List.drop_length, ]
  have he : ∀ b o, s.heap.get? b = some o → h2.get? b = some o := fun b o e => by
    have hb : b ≠ s.heap.objs.size := Nat.ne_of_lt (Heap.lt_size e)
    exact hk b o hb (s1.extBut b o hb (Heap.get?_push_of_some _ e))
  have hsz : s.heap.get? h2.objs.size = none := by
    cases q : s.heap.get? h2.objs.size with
    | none => rfl
    | some o => exact absurd (Heap.lt_size (he _ _ q)) (Nat.lt_irrefl _)
  refine wpAny_bind (wpAny_newObj_type ?_ (by show (its.drop i).toArray.size ≤ sizeLine; rw [sizeLine_eq, List.size_toArray, List.length_drop]; omega))
  refine wpAny_pure ?_
  rw [List.append_nil]
  exact h _ tk _ (fun b o e => Heap.get?_push_of_some _ (he b o e)) hsz (Heap.get?_push_size _ rfl)
theorem star_tup {l : Addr} {its : List Value} {Q : List Value → Shared → Prop} (hl : IsTup s.heap l its.toArray) (hh : A.handled = none) {i : Nat} (hn : i ≤ its.length) (hz : its.length ≤ 16384)
    (h : ∀ h' tk (D : Addr), (∀ b o, s.heap.get? b = some o → h'.get? b = some o) → s.heap.get? D = none → h'.get? D = some { cls := .type "list", data := .seq (its.drop i).toArray } → Q (its.take i ++ [.ref D]) { s with heap := h', toks := tk }) :
    wpAny (model prog w) A (unpackItems (.ref l) (i + 1) (some i)) Q E s := by
  have hlt : l ≠ s.heap.objs.size := by obtain ⟨o, ho, _⟩ := hl; exact Nat.ne_of_lt (Heap.lt_size ho)
  unfold unpackItems
  refine wpAny_bind ?_
  unfold notIterableAtAll
  refine wpAny_bind (wpAny_specialOf hl.typeIs F.slot_tuple_iter.lookup ?_)
  refine wpAny_pure ?_
  simp only [Bool.false_eq_true, if_false]
  refine wpAny_bind (wpAny_holding (iter_tuple hl ?_))
  refine wpAny_bind (wpAny_holding (draw_tuple hlt i 0 _ _ ⟨_, Heap.get?_push_size _ rfl, rfl, rfl⟩ (hl.push _) (by simp; omega) fun h1 it1 s1 => ?_))
  have hl1 : IsTup h1 l its.toArray := (hl.push _).extBut s1.extBut hlt
  rw [Nat.zero_add] at it1
  obtain ⟨oi, hoi, _⟩ := id it1
  obtain ⟨ol, hol, _⟩ := id hl1
  rw [List.drop_zero, List.toList_toArray]
  have hfl : (its.take i).length = i := by rw [List.length_take]; omega
  rw [if_neg (show ¬ ((its.take i).length < i) by rw [hfl]; omega)]
  refine wpAny_bind (wpAny_holding (PySem.W.kun_collect (s := { s with heap := h1 }) (T := "tuple_iterator") (.inr (.inr (.inr rfl))) (Walks.tuple (A := A.in1) hh s.heap.objs.size l hlt its.toArray) (fun j u st => st.1.typeIs) (k := i) (by simpa using hn) ⟨it1, hl1⟩ (Heap.lt_size hoi) (Heap.lt_size hol) (fun h2 tk hk => ?_) (by rw [sizeLine_eq]; simp; omega)))
  rw [List.toList_toArray]
  show wpAny _ _ (if (its.drop i).length < i + 1 - 1 - i then _ else _) _ _ _
  rw [if_neg (by omega)]
  show wpAny _ _ (newList ((its.drop i).take ((its.drop i).length - (i + 1 - 1 - i))) >>= fun d => pure (its.take i ++ [d] ++ (its.drop i).drop ((its.drop i).length - (i + 1 - 1 - i)))) _ _ _
  rw [show i + 1 - 1 - i = 0 by omega, Nat.sub_zero, List.take_length, List.drop_length, ]
  have he : ∀ b o, s.heap.get? b = some o → h2.get? b = some o := fun b o e => by
    have hb : b ≠ s.heap.objs.size := Nat.ne_of_lt (Heap.lt_size e)
    exact hk b o hb (s1.extBut b o hb (Heap.get?_push_of_some _ e))
  have hsz : s.heap.get? h2.objs.size = none := by
    cases q : s.heap.get? h2.objs.size with
    | none => rfl
    | some o => exact absurd (Heap.lt_size (he _ _ q)) (Nat.lt_irrefl _)
  refine wpAny_bind (wpAny_newObj_type ?_ (by show (its.drop i).toArray.size ≤ sizeLine; rw [sizeLine_eq, List.size_toArray, List.length_drop]; omega))
  refine wpAny_pure ?_
  rw [List.append_nil]
  exact h _ tk _ (fun b o e => Heap.get?_push_of_some _ (he b o e)) hsz (Heap.get?_push_size _ rfl)
end
section
variable {X : Cx}
/-- x, *y = a list or tuple -/
def gStar (K : PySem.W.Frag) (i j : Nat) : TG := fun v σ H Q => ∃ a y xs, v = .ref a ∧ (SqT K H a (y :: xs) ∨ SqL K H a (y :: xs)) ∧ xs.length ≤ 16000 ∧ ∀ D, H D = none → Q ((σ.set i (some y)).set j (some (.ref D))) (L2.upd H D (.lst xs))
theorem pg_star {i j : Nat} {x y : Str} {k : Nat} {pos px py ps : Pos} (hc : X.calm = true) (hN : X.N.Nodup) (hi : X.N[i]? = some x) (hj : X.N[j]? = some y) (h1 : X.env.scope.names.lookup x = some .local) (h2 : X.env.scope.names.lookup y = some .local) :
    PG X (.Tuple [.Name x px, .Starred (.Name y py) ps] k pos) (gStar X.K i j) := by
  refine ⟨fun pins s σ H v u Q I r hw => ?_⟩
  obtain ⟨a, yv, xs, rfl, hq, hl, hw⟩ := hw
  cases r
  have fin : ∀ (its : List Value), Vals (yv :: xs) its → ∀ h' tk (D : Addr), (∀ b o, s.heap.get? b = some o → h'.get? b = some o) → s.heap.get? D = none → h'.get? D = some { cls := .type "list", data := .seq (its.drop 1).toArray } →
      wpAny (model X.prog X.w) X.A (assignInOrder ((assignEach [.Name x px, .Starred (.Name y py) ps] X.env).map (·.2)) (its.take 1 ++ [.ref D])) (fun _ s' => ∃ σ' H', Inv X pins σ' H' s' ∧ Q σ' H') X.xe { s with heap := h', toks := tk } := fun its rv h' tk D kp dn hD => by
    have dH : H D = none := HOk.gone I.hok dn
    have nd : ∀ {b : Addr} {o : Obj}, s.heap.get? b = some o → b ≠ D := fun {b o} q z => by rw [z, dn] at q; cases q
    have nh : ∀ {b : Addr} {o : HO}, H b = some o → b ≠ D := fun {b o} q z => by rw [z, dH] at q; cases q
    cases rv with
    | cons r1 rr =>
    have U : Un X.fs [] H (L2.upd H D (.lst xs)) s.heap h' := {
      keep := fun b o q n _ _ => kp b o q
      slot := fun b o q n _ _ => ⟨o.slots, kp b o q⟩
      free := fun b o q n _ => by rw [upd_ne (nd q)]; exact n
      there := fun b o q _ => ⟨o, kp b o q⟩
      tups := fun b xs q => by rw [upd_ne (nh q)]; exact q
      frzs := fun b o v q => by rw [upd_ne (nh q)]; exact q
      tbls := fun b ps q => ⟨#[], by rw [upd_ne (nh q), q]; simp⟩ }
    have J : Inv X pins σ (L2.upd H D (.lst xs)) { s with heap := h', toks := tk } := I.un (t' := tk) U fun b o q => by
      by_cases hb : b = D
      · subst hb
        rw [upd_same] at q
        cases q
        exact ⟨by rw [sizeLine_eq]; omega, _, 0, rr, hD⟩
      · rw [upd_ne hb] at q
        exact (I.hok b o q).stay (fun c v hc z => kp c v z) (fun c hc => by rw [upd_ne (nh hc)]; exact hc) (fun c xs hc => by rw [upd_ne (nh hc)]; exact hc)
    show wpAny _ _ (assignInOrder [assign (.Name x px) X.env, assign (.Name y py) X.env] [_, .ref D]) _ _ _
    refine assignInOrder_cons (wpAny_assign_Name (store_ok J hN hi (.inl h1) r1 (fun s' J' => ?_) (.inr h1)))
    refine assignInOrder_cons (wpAny_assign_Name (store_ok J' hN hj (.inl h2) (v := .ref D) rfl (fun s2 J2 => ?_) (.inr h2)))
    exact assignInOrder_nil ⟨_, _, J2, hw D dH⟩
  show wpAny _ _ (do standAt pos; unpack (.ref a) (assignEach [.Name x px, .Starred (.Name y py) ps] X.env)) _ _ _
  refine wpAny_bind (wpAny_standAt ?_)
  unfold unpack
  show wpAny _ _ (holding [.ref a] (unpackItems (.ref a) (1 + 1) (some 1)) >>= _) _ _ _
  refine wpAny_bind (wpAny_holding ?_)
  rcases hq with hq | hq
  · obtain ⟨its, rv, ht, hz⟩ := I.tuple hq
    have e := rv.length
    simp at e
    exact star_tup (i := 1) ht (I.ok.hd hc) (by omega) (by omega) fun h' tk D k d hd => fin its rv h' tk D k d hd
  · obtain ⟨its, rv, ⟨o, n, e1, e2, e3, e4⟩, hz⟩ := I.list hq
    have e := rv.length
    simp at e
    exact star_list (i := 1) ⟨o, e1, e2, n, e4⟩ (I.ok.hd hc) (by omega) (by omega) fun h' tk D k d hd => fin its rv h' tk D k d hd
end

/-! ### what is known of an own class of exceptions -/
/-- isinstance reads its instances' class so -/
structure KxC (K : PySem.W.Frag) (C : Addr) : Prop where
  cl : (PySem.W.clsIn K C).isSome = true
  ca : PySem.W.findIn K (.ref C) "__class__" = some (some (.builtin "object.__class__"))
  sp : PySem.W.specialIn K (.builtin "object.__class__") "__get__" = some (some (.builtin "getset_descriptor.__get__"))
  tk : PySem.W.takesIn K (.builtin "object.__class__") = some true
  ob : PySem.W.mroIn K C (.type "object") = some true
/-- a class that the text names x, the c-th one; f: what it notes -/
structure Xe where
  x : Str
  c : Nat
  f : Str
structure XOk (P : Program) (w : World) (K : PySem.W.Frag) (mg : Str → Option Value) (base : Heap) (G : Gr) (p : Xe) : Prop where
  lt : p.c < G.nc
  gx : mg p.x = some (.ref (G.cl p.c))
  xc : ∃ B nI iI bm, Xc K B nI iI bm (G.cl p.c)
  ini : ∃ fI fd ps, PySem.W.findIn K (.ref (G.cl p.c)) "__init__" = some (some (.ref fI)) ∧ PySem.W.typeIn K (.ref fI) = some (.type "function") ∧ FnOk P w K mg base CX0 1 fI fd ps (spN (G.cl p.c) p.f) ∧ Binds K fd ps []
  exm : ∀ c', c' < G.nc → PySem.W.exmOne K (.ref (G.cl c')) (.ref (G.cl p.c)) = some (decide (c' = p.c))
  xf : XfC K (G.cl p.c)
  no : PySem.W.findIn K (.ref (G.cl p.c)) p.f = some none
  kx : KxC K (G.cl p.c)
def cnV (G : Gr) : CN → Value
  | .own c => .ref (G.cl c)
  | .blt n => .type n
def cnU (G : Gr) : CN → V
  | .own c => .ref (G.cl c)
  | .blt n => .ty n
end DL
set_option Elab.async false
set_option linter.all false
set_option maxRecDepth 100000
set_option maxHeartbeats 2000000
/-! The D layer, 12: the checker of expressions, and that it is right. -/
namespace DL
open PySem PySem.Spec PyProof.Rows L2

/-- what a text is read under -/
structure Ctx where
  N : List Str
  sc : Scope
  top : Bool
  pats : List Pat
  cI : List (Str × Int)
  cS : List (Str × Str)
  cF : List Str
  xs : List Xe
  xi : List (Nat × List CN × Bool)
def Ctx.blk (c : Ctx) (sc : Scope) : Ctx := { c with sc := relS sc c.sc, top := false }
structure Hy (X : Cx) (G : Gr) (W : WX) (Φ : Fns) (k : Nat) (c : Ctx) : Prop where
  ok : Ok X G
  hc : X.calm = true
  N : X.N = c.N
  sc : X.env.scope = c.sc
  fnT : c.top = true → ∀ x, X.fn x = true
  tk : Takes X W
  room : Room k X.A
  k2 : 2 ≤ k
  cF : ∀ x ∈ c.cF, X.mg x = none
  cI : ∀ p ∈ c.cI, ∃ u, X.mg p.1 = some u ∧ RelV (.int p.2) u
  cS : ∀ p ∈ c.cS, ∃ u, X.mg p.1 = some u ∧ RelV (.str p.2) u
  pats : ∀ p ∈ c.pats, PatOk X.prog X.w X.K X.mg X.base G Φ k p
  xs : ∀ p ∈ c.xs, XOk X.prog X.w X.K X.mg X.base G p
  xi : ∀ q ∈ c.xi, PySem.W.kitAny X.K (.ref (G.cl q.1)) (q.2.1.map (cnV G)) = some q.2.2
theorem Hy.blk {X : Cx} {G : Gr} {W : WX} {Φ : Fns} {k : Nat} {c : Ctx} (y : Hy X G W Φ k c) (scope : Scope) (s : Shared) (H : Hp) (C : Addr) (cl : List (Str × Addr)) (fp : List Addr) : Hy (X.blk s H scope (compEnvC scope cl C X.env) fp) G W0 Φ k (c.blk scope) where
  ok := ⟨y.ok.k, y.ok.nd, y.ok.gd, y.ok.hu, y.ok.sy⟩
  hc := y.hc
  N := y.N
  sc := by
    show relabel scope X.env = relS scope c.sc
    rw [← y.sc]
    rfl
  fnT := fun z => by cases z
  tk := fun u s' x => by
    obtain ⟨a, B, sI, pins, σ, H, cls, d, h1, h2, h3, h4, h5, h6, h7, h8, w⟩ := x
    exact w.elim
  room := y.room
  k2 := y.k2
  cF := y.cF
  cI := y.cI
  cS := y.cS
  pats := y.pats
  xs := y.xs
  xi := y.xi

def visC (c : Ctx) (x : Str) : Bool := match c.sc.names.lookup x with
  | some .local => true
  | some .cell => true
  | some .free => true
  | _ => false
def glC (c : Ctx) (x : Str) : Bool := decide (c.sc.names.lookup x = some .globalImplicit) && !(x == ("__debug__" : Str))
def freeC (c : Ctx) (x : Str) : Bool := glC c x && c.cF.contains x && !(x == ("__name__" : Str))
def biN : Bi → Str
  | .len => "len" | .abs => "abs" | .min => "min" | .max => "max" | .sum => "sum" | .all => "all" | .any => "any" | .sorted => "sorted" | .list => "list" | .tuple => "tuple" | .str => "str" | .int => "int" | .repr => "repr"
def mtN : Mt → Str
  | .append => "append" | .extend => "extend" | .pop => "pop" | .get => "get" | .join => "join" | .split => "split" | .startswith => "startswith" | .index => "index" | .insert => "insert" | .reverse => "reverse" | .partition => "partition"
def tyS : Ty → Str
  | .int => "int" | .bool => "bool" | .str => "str" | .list => "list" | .tuple => "tuple" | .dict => "dict" | .non => "NoneType"
/-- a class by its name -/
def tyC (c : Ctx) (t : Ty) : Expr → Bool
  | .Name x _ => decide (t ≠ .non) && decide (x = tyS t) && freeC c x
  | _ => false
def tysC (c : Ctx) : List Ty → List Expr → Bool
  | [], [] => true
  | t :: ts, e :: es => tyC c t e && tysC c ts es
  | _, _ => false
def argC (es : List Expr) : Bool := es.all nostar && decide (es.length < 30)
def eqLR : List (Nat ⊕ D) → List (Nat ⊕ D) → Bool
  | [], [] => true
  | .inl i :: r, .inl j :: s => decide (i = j) && eqLR r s
  | .inr (.int i) :: r, .inr (.int j) :: s => decide (i = j) && eqLR r s
  | .inr (.str i) :: r, .inr (.str j) :: s => decide (i = j) && eqLR r s
  | .inr (.bl i) :: r, .inr (.bl j) :: s => decide (i = j) && eqLR r s
  | .inr .non :: r, .inr .non :: s => eqLR r s
  | _, _ => false
theorem eqLR_ok : ∀ {a b : List (Nat ⊕ D)}, eqLR a b = true → a = b
  | [], b, h => by cases b <;> first | rfl | cases h
  | x :: r, [], h => by
    cases x with
    | inl _ => cases h
    | inr d => cases d <;> cases h
  | x :: r, y :: s, h => by
    unfold eqLR at h
    split at h
    · rename_i e1 e2; cases e1
    · rename_i e1 e2; cases e1; cases e2
      simp only [Bool.and_eq_true, decide_eq_true_eq] at h
      rw [h.1, eqLR_ok h.2]
    · rename_i e1 e2; cases e1; cases e2
      simp only [Bool.and_eq_true, decide_eq_true_eq] at h
      rw [h.1, eqLR_ok h.2]
    · rename_i e1 e2; cases e1; cases e2
      simp only [Bool.and_eq_true, decide_eq_true_eq] at h
      rw [h.1, eqLR_ok h.2]
    · rename_i e1 e2; cases e1; cases e2
      simp only [Bool.and_eq_true, decide_eq_true_eq] at h
      rw [h.1, eqLR_ok h.2]
    · rename_i e1 e2; cases e1; cases e2
      rw [eqLR_ok h]
    · cases h
/-- arr takes the values as they come -/
def idArr : Nat → List (Nat ⊕ D) → Nat → Bool
  | _, [], n => decide (n = 0)
  | i, .inl j :: r, n + 1 => decide (i = j) && idArr (i + 1) r n
  | _, _, _ => false
theorem idArr_ok : ∀ {arr : List (Nat ⊕ D)} {i n : Nat} {ds : List D}, idArr i arr n = true → ds.length = i + n → arrOf ds arr = ds.drop i
  | [], i, n, ds, h, l => by
    have : n = 0 := by simpa [idArr] using h
    subst this
    rw [List.drop_eq_nil_of_le (by omega)] <;> rfl
  | .inl j :: r, i, n, ds, h, l => by
    cases n with
    | zero => cases h
    | succ n =>
      simp only [idArr, Bool.and_eq_true, decide_eq_true_eq] at h
      obtain ⟨rfl, h⟩ := h
      have q := idArr_ok (ds := ds) h (by omega)
      show ds.getD i .non :: arrOf ds r = _
      rw [q, List.drop_eq_getElem_cons (by omega : i < ds.length), List.getD_eq_getElem?_getD, List.getElem?_eq_getElem (by omega : i < ds.length)] <;> rfl
  | .inr d :: r, i, n, ds, h, l => by cases n <;> cases h
def okPat (p : Pat) : Bool := !(p.x == ("__debug__" : Str))
def callC (c : Ctx) (x : Str) (f n : Nat) : Bool := glC c x && c.pats.any fun p => decide (p.x = x) && decide (p.f = f) && decide (p.n = n) && decide (p.ks = []) && idArr 0 p.arr n
def callkC (c : Ctx) (x : Str) (f n m : Nat) (arr : List (Nat ⊕ D)) (kws : List Keyword) : Bool := glC c x && c.pats.any fun p => decide (p.x = x) && decide (p.f = f) && decide (p.n = n) && decide (p.ks.length = m) && eqLR p.arr arr && decide (kws.map (·.arg) = p.ks.map some)
def ownOf (N : List Str) (vs : List Nat) : List (Str × Nat) := vs.map fun v => (N.getD v "", v)
theorem ownOf_snd (N : List Str) : ∀ vs : List Nat, (ownOf N vs).map (·.2) = vs
  | [] => rfl
  | v :: vs => by
    show v :: (ownOf N vs).map (·.2) = _
    rw [ownOf_snd N vs]
/-- a loop's target -/
def nmC (c : Ctx) (i : Nat) : Expr → Bool
  | .Name x _ => decide (c.N[i]? = some x) && (match c.sc.names.lookup x with
    | some .local => true
    | some .cell => c.top
    | _ => false)
  | _ => false
def nmsC (c : Ctx) : List Nat → List Expr → Bool
  | [], [] => true
  | i :: is, e :: es => nmC c i e && nmsC c is es
  | _, _ => false
def tgC (c : Ctx) : Tg → Expr → Bool
  | .nm i, e => nmC c i e
  | .tp is, .Tuple es _ _ => nmsC c is es
  | _, _ => false
def istup : Expr → Bool
  | .Tuple _ _ _ => true
  | _ => false

mutual
def ckE (c : Ctx) : Ex → Expr → Bool
  | .var i, e => (match e with
    | .Name x _ => decide (c.N[i]? = some x) && visC c x && !(x == ("__debug__" : Str)) && !(x == ("__classdict__" : Str))
    | _ => false)
  | .cst d, e => (match d, e with
    | .int i, .Constant (.int j) _ _ => decide (i = j)
    | .bl i, .Constant (.bool j) _ _ => decide (i = j)
    | .non, .Constant .none _ _ => true
    | .str i, .Constant (.str j) _ _ => decide (i = j)
    | .int i, .Name x _ => glC c x && decide ((x, i) ∈ c.cI)
    | .str i, .Name x _ => glC c x && decide ((x, i) ∈ c.cS)
    | _, _ => false)
  | .bin op a b, e => (match e with
    | .BinOp x o y _ => decide (op = o) && ckE c a x && ckE c b y
    | _ => false)
  | .neg a, e => (match e with
    | .UnaryOp .USub x _ => ckE c a x
    | _ => false)
  | .not a, e => (match e with
    | .UnaryOp .Not x _ => ckE c a x
    | _ => false)
  | .and a b, e => (match e with
    | .BoolOp .And (x :: y :: r) p => ckE c a x && (match r with
      | [] => ckE c b y
      | z :: r => ckE c b (.BoolOp .And (y :: z :: r) p))
    | _ => false)
  | .or a b, e => (match e with
    | .BoolOp .Or (x :: y :: r) p => ckE c a x && (match r with
      | [] => ckE c b y
      | z :: r => ckE c b (.BoolOp .Or (y :: z :: r) p))
    | _ => false)
  | .ite t a b, e => (match e with
    | .IfExp z x y _ => ckT c t z && ckE c a x && ckE c b y
    | _ => false)
  | .cmp op a b, e => (match e with
    | .Compare x [o] [y] _ => decide (op = o) && noset y && ckE c a x && ckE c b y
    | _ => false)
  | .chn op op' a b d, e => (match e with
    | .Compare x [o, o'] [y, z] _ => decide (op = o) && decide (op' = o') && noset z && ckE c a x && ckE c b y && ckE c d z
    | _ => false)
  | .tup es, e => (match e with
    | .Tuple xs _ _ => xs.all nostar && ckEs c es xs
    | _ => false)
  | .lst es, e => (match e with
    | .List xs _ => xs.all nostar && ckEs c es xs
    | _ => false)
  | .dsp ks es, e => (match e with
    | .Dict keys vs _ => decide (ks.length ≤ 15) && decide ks.Nodup && ckD c ks es keys vs
    | _ => false)
  | .ix a i, e => (match e with
    | .Subscript x y _ => noslice y && ckE c a x && ckE c i y
    | _ => false)
  | .rsl a, e => (match e with
    | .Subscript x (.Slice none none (some (.UnaryOp .USub (.Constant (.int 1) _ _) _)) _) _ => ckE c a x
    | _ => false)
  | .sl a lo hi, e => (match e with
    | .Subscript x (.Slice l u none _) _ => ckE c a x && ckO c lo l && ckO c hi u
    | _ => false)
  | .call f es, e => (match e with
    | .Call (.Name x _) (y :: ys) [] _ => argC (y :: ys) && callC c x f es.length && ckEs c es (y :: ys)
    | _ => false)
  | .callk f es kes arr, e => (match e with
    | .Call (.Name x _) (y :: ys) kws _ => argC (y :: ys) && callkC c x f es.length kes.length arr kws && ckEs c es (y :: ys) && ckK c kes kws
    | _ => false)
  | .bi b es, e => (match e with
    | .Call (.Name x _) (y :: ys) [] _ => argC (y :: ys) && decide (x = biN b) && freeC c x && ckEs c es (y :: ys)
    | _ => false)
  | .isi a ts, e => (match e with
    | .Call (.Name x _) [y, z] [] _ => decide (x = "isinstance") && freeC c x && nostar y && ckE c a y && (match z, ts with
      | .Name _ _, [t] => tyC c t z
      | .Tuple zs _ _, ts => tysC c ts zs && decide (zs.length ≤ 10)
      | _, _ => false)
    | _ => false)
  | .met m o es, e => (match e with
    | .Call (.Attribute x nm ap) ys [] cp => decide (nm = mtN m) && nocall x && decide (ap.endLine = cp.line) && argC ys && ckE c o x && ckEs c es ys
    | _ => false)
  | .lc el t it cd vs, e => (match e with
    | .ListComp x [⟨tg, i, ifs, 0⟩] scope _ => blkC c.N c.sc scope (ownOf c.N vs) && tgIn t vs && noset i && tgC (c.blk scope) t tg && ckI c it tg i && ckE (c.blk scope) el x && ckC (c.blk scope) cd ifs
    | _ => false)
  | .lc2 el t it cd t1 it1 cd1 vs vs1, e => (match e with
    | .ListComp x [⟨tg, i, ifs, 0⟩, ⟨tg1, i1, ifs1, 0⟩] scope _ => blkC c.N c.sc scope (ownOf c.N vs) && tgIn t vs && tgIn t1 vs1 && (vs1.all fun v => vs.contains v) && noset i && noset i1 && tgC (c.blk scope) t tg && tgC (c.blk scope) t1 tg1 && ckI c it tg i && ckI (c.blk scope) it1 tg1 i1 &&
        ckE (c.blk scope) el x && ckC (c.blk scope) cd ifs && ckC (c.blk scope) cd1 ifs1
    | _ => false)
def ckT (c : Ctx) : Te → Expr → Bool
  | .val a, e => plainT e && ckE c a e
  | .not a, e => (match e with
    | .UnaryOp .Not x _ => ckT c a x
    | _ => false)
  | .and a b, e => (match e with
    | .BoolOp .And (x :: y :: r) p => ckT c a x && (match r with
      | [] => ckT c b y
      | z :: r => ckT c b (.BoolOp .And (y :: z :: r) p))
    | _ => false)
  | .or a b, e => (match e with
    | .BoolOp .Or (x :: y :: r) p => ckT c a x && (match r with
      | [] => ckT c b y
      | z :: r => ckT c b (.BoolOp .Or (y :: z :: r) p))
    | _ => false)
  | .cmp op a b, e => (match e with
    | .Compare x [o] [y] _ => decide (op = o) && noset y && ckE c a x && ckE c b y
    | _ => false)
  | .chn op op' a b d, e => (match e with
    | .Compare x [o, o'] [y, z] _ => decide (op = o) && decide (op' = o') && noset z && ckE c a x && ckE c b y && ckE c d z
    | _ => false)
def ckEs (c : Ctx) : List Ex → List Expr → Bool
  | [], [] => true
  | a :: as, x :: xs => ckE c a x && ckEs c as xs
  | _, _ => false
def ckK (c : Ctx) : List Ex → List Keyword → Bool
  | [], [] => true
  | a :: as, ⟨_, x, _⟩ :: xs => ckE c a x && ckK c as xs
  | _, _ => false
def ckD (c : Ctx) : List Str → List Ex → List (Option Expr) → List Expr → Bool
  | [], [], [], [] => true
  | k :: ks, a :: as, some (.Constant (.str k') _ _) :: keys, x :: xs => decide (k = k') && ckE c a x && ckD c ks as keys xs
  | _, _, _, _ => false
def ckO (c : Ctx) : Option Ex → Option Expr → Bool
  | none, none => true
  | some a, some x => ckE c a x
  | _, _ => false
def ckC (c : Ctx) : Option Te → List Expr → Bool
  | none, [] => true
  | some a, [x] => ckT c a x
  | _, _ => false
def ckI (c : Ctx) : It' → Expr → Expr → Bool
  | .of a, _, e => ckE c a e
  | .rng es, _, e => (match e with
    | .Call (.Name x _) (y :: ys) [] _ => decide (x = "range") && freeC c x && argC (y :: ys) && ckEs c es (y :: ys)
    | _ => false)
  | .zip a b, tg, e => (match e with
    | .Call (.Name x _) [y, z] [] _ => istup tg && decide (x = "zip") && freeC c x && argC [y, z] && ckE c a y && ckE c b z
    | _ => false)
  | .enm a, tg, e => (match e with
    | .Call (.Name x _) [y] [] _ => istup tg && decide (x = "enumerate") && freeC c x && argC [y] && ckE c a y
    | _ => false)
  | .rev a, _, e => (match e with
    | .Call (.Name x _) [y] [] _ => decide (x = "reversed") && freeC c x && argC [y] && ckE c a y
    | _ => false)
end
end DL
set_option Elab.async false
set_option linter.all false
set_option maxRecDepth 100000
set_option maxHeartbeats 4000000
/-! The D layer, 13: the checker of expressions is right. -/
namespace DL
open PySem PySem.Spec PyProof.Rows L2

theorem mt_slot (m : Mt) : Slot (mtT m) (mtN m) (mtId m) := by
  cases m
  · exact PySem.F.slot_list_append
  · exact PySem.F.slot_list_extend
  · exact PySem.F.slot_list_pop
  · exact PySem.F.slot_dict_get
  · exact PySem.F.slot_str_join
  · exact PySem.F.slot_str_split
  · exact PySem.F.slot_str_startswith
  · exact PySem.F.slot_list_index
  · exact PySem.F.slot_list_insert
  · exact PySem.F.slot_list_reverse
  · exact PySem.F.slot_str_partition
theorem mt_type (m : Mt) : typeOf (.builtin (mtId m)) = pure (.type "method_descriptor") := by
  cases m
  · exact PySem.F.type_list_append
  · exact PySem.F.type_list_extend
  · exact PySem.F.type_list_pop
  · exact PySem.F.type_dict_get
  · exact PySem.F.type_str_join
  · exact PySem.F.type_str_split
  · exact PySem.F.type_str_startswith
  · exact PySem.F.type_list_index
  · exact PySem.F.type_list_insert
  · exact PySem.F.type_list_reverse
  · exact PySem.F.type_str_partition
theorem mt_plain (m : Mt) : PlainAttrs (mtT m) := by
  cases m <;> first | exact PySem.F.plainAttrs_list | exact PySem.F.plainAttrs_dict | exact PySem.F.plainAttrs_str
theorem bi_boot (b : Bi) : bootBuiltins (biN b) = some (biV b) ∧ ∃ T, bootBuiltins (biN b) = some (.builtin T) ∨ bootBuiltins (biN b) = some (.type T) := by
  have key : bootBuiltins (biN b) = some (biV b) := by cases b <;> decide +kernel
  refine ⟨key, ?_⟩
  rw [key]
  cases b <;> first | exact ⟨_, .inl rfl⟩ | exact ⟨_, .inr rfl⟩
theorem ty_boot (t : Ty) (h : t ≠ .non) : bootBuiltins (tyS t) = some (.type (tyN t)) := by
  cases t <;> first | decide +kernel | exact absurd rfl h

section
variable {X : Cx} {G : Gr} {W : WX} {Φ : Fns} {k : Nat} {c : Ctx}
theorem gl_of (y : Hy X G W Φ k c) {x : Str} (h : glC c x = true) : Gl X x ∧ (x == ("__debug__" : Str)) = false := by
  unfold glC at h
  simp only [Bool.and_eq_true, decide_eq_true_eq, Bool.not_eq_true'] at h
  exact ⟨by show X.env.scope.names.lookup x = _; rw [y.sc]; exact h.1, h.2⟩
theorem free_of (y : Hy X G W Φ k c) {x : Str} (h : freeC c x = true) : Gl X x ∧ (x == ("__debug__" : Str)) = false ∧ X.mg x = none ∧ x ≠ "__name__" := by
  unfold freeC at h
  simp only [Bool.and_eq_true, Bool.not_eq_true'] at h
  obtain ⟨⟨h1, h2⟩, h3⟩ := h
  obtain ⟨a, b⟩ := gl_of y h1
  refine ⟨a, b, y.cF x (List.contains_iff_mem.mp h2), fun e => ?_⟩
  rw [e] at h3; exact absurd h3 (by decide)
theorem vis_of (y : Hy X G W Φ k c) {x : Str} (h : visC c x = true) : Vis X.env.scope x := by
  unfold visC at h
  unfold Vis
  rw [y.sc]
  split at h <;> first | exact .inl ‹_› | exact .inr (.inl ‹_›) | exact .inr (.inr ‹_›) | cases h
theorem nm_of (y : Hy X G W Φ k c) {i : Nat} {e : Expr} (h : nmC c i e = true) : ∃ x p, e = .Name x p ∧ X.N[i]? = some x ∧ Loc X.env.scope x ∧ (X.fn x = true ∨ X.env.scope.names.lookup x = some .local) := by
  unfold nmC at h
  split at h
  · rename_i x p
    simp only [Bool.and_eq_true, decide_eq_true_eq] at h
    obtain ⟨h1, h2⟩ := h
    refine ⟨x, p, rfl, by rw [y.N]; exact h1, ?_⟩
    rw [y.sc]
    split at h2
    · exact ⟨.inl ‹_›, .inr ‹_›⟩
    · exact ⟨.inr ‹_›, .inl (y.fnT h2 x)⟩
    · cases h2
  · cases h
theorem nms_of (y : Hy X G W Φ k c) : ∀ {is : List Nat} {es : List Expr}, nmsC c is es = true → PGs X es (gNms is) ∧ es.all nostar = true ∧ es.length = is.length
  | [], [], _ => ⟨pgs_nil, rfl, rfl⟩
  | [], _ :: _, h => by cases h
  | _ :: _, [], h => by cases h
  | i :: is, e :: es, h => by
    have h : (nmC c i e && nmsC c is es) = true := h
    rw [Bool.and_eq_true] at h
    obtain ⟨x, p, rfl, h1, h2, h3⟩ := nm_of y h.1
    obtain ⟨q1, q2, q3⟩ := nms_of y h.2
    exact ⟨pgs_cons (pg_name y.ok.nd h1 h2 h3) q1 rfl, by rw [List.all_cons, q2]; rfl, congrArg Nat.succ q3⟩
theorem tg_of (y : Hy X G W Φ k c) {t : Tg} {e : Expr} (h : tgC c t e = true) : PG X e (tgG X.K t) := by
  unfold tgC at h
  split at h
  · obtain ⟨x, p, rfl, h1, h2, h3⟩ := nm_of y h
    exact pg_name y.ok.nd h1 h2 h3
  · obtain ⟨q1, q2, q3⟩ := nms_of y h
    exact pg_tup y.hc q1 (by rw [assignEach_len]; exact q3) (assignEach_nostar q2)
  · cases h
theorem ty_of (y : Hy X G W Φ k c) {t : Ty} {e : Expr} (h : tyC c t e = true) : t ≠ .non ∧ PE X e (tC (.ty (tyN t))) ∧ nostar e = true := by
  unfold tyC at h
  split at h
  · simp only [Bool.and_eq_true, decide_eq_true_eq] at h
    obtain ⟨⟨h1, rfl⟩, h3⟩ := h
    obtain ⟨a, b, d, e⟩ := free_of y h3
    exact ⟨h1, pe_bltn a d (ty_boot t h1) rfl e b, rfl⟩
  · cases h
def tCs : List Ty → TA
  | [] => tNil
  | t :: ts => tCons (tC (.ty (tyN t))) (tCs ts)
theorem tCs_eq {σ : L2.St} {H : Hp} {Q : List V → Hp → Prop} : ∀ ts : List Ty, Q (ts.map fun t => V.ty (tyN t)) H → tCs ts σ H Q
  | [], h => h
  | t :: ts, h => tCs_eq (Q := fun xs H2 => Q (.ty (tyN t) :: xs) H2) ts h
theorem tys_of (y : Hy X G W Φ k c) : ∀ {ts : List Ty} {es : List Expr}, tysC c ts es = true → (∀ t, t ∈ ts → t ≠ .non) ∧ PA X es (tCs ts) ∧ es.all nostar = true ∧ es.length = ts.length
  | [], [], _ => ⟨fun _ z => (nomatch z), pa_nil, rfl, rfl⟩
  | [], _ :: _, h => by cases h
  | _ :: _, [], h => by cases h
  | t :: ts, e :: es, h => by
    have h : (tyC c t e && tysC c ts es) = true := h
    rw [Bool.and_eq_true] at h
    obtain ⟨a1, a2, a3⟩ := ty_of y h.1
    obtain ⟨b1, b2, b3, b4⟩ := tys_of y h.2
    refine ⟨fun u hu => ?_, pa_cons a2 b2 (starEach_cons a3), by rw [List.all_cons, a3, b3]; rfl, congrArg Nat.succ b4⟩
    rcases List.mem_cons.mp hu with rfl | hu
    · exact a1
    · exact b1 u hu
theorem clsV_all : ∀ ts : List Ty, Paired ClsV (ts.map fun t => V.ty (tyN t)) (ts.map fun t => Value.type (tyN t))
  | [] => .nil
  | t :: ts => .cons (.ty _) (clsV_all ts)
/-- isinstance, one class -/
theorem se_isi1 (y : Hy X G W Φ k c) {a z : Expr} {t : Ty} {p pos : Pos} {wa : WE} (hx : freeC c "isinstance" = true) (ha : PE X a (lE G W wa)) (hs : nostar a = true) (hz : tyC c t z = true) :
    PE X (.Call (.Name "isinstance" p) [a, z] [] pos) (lE G W fun E σ h Q => wa E σ h fun x h1 => isTys x h1 [t] fun k => Q (.bl k) h1) := by
  obtain ⟨g1, g2, g3, g4⟩ := free_of y hx
  obtain ⟨z1, z2, z3⟩ := ty_of y hz
  refine PE.imp (pe_callB call_isi g1 g3 boot_isinstance (pa_cons ha (pa_cons z2 pa_nil (starEach_cons z3)) (starEach_cons hs)) g4 g2 (starEach_cons hs) (plain_any (by simp [z3]))) fun σ H Q ⟨σd, h, R, E, at_, w, po⟩ => ⟨σd, h, _, E, at_, w, fun dx h1 x H1 w1 rx rh1 f1 => ?_⟩
  obtain ⟨kk, ty, q⟩ := kind_rep rh1 rx w1
  refine ⟨x, .ty (tyN t), _, _, subTy kk t, rfl, .ty _, by rw [y.ok.k]; exact ty, by rw [y.ok.k]; exact kit_ty (kitB_of kk t z1), ?_⟩
  have q : R (.bl ([t].any (subTy kk))) h1 := q
  rw [show [t].any (subTy kk) = subTy kk t by simp] at q
  exact (po.fm f1).here rh1 q repV_bl
theorem se_isiT (y : Hy X G W Φ k c) {a : Expr} {zs : List Expr} {ts : List Ty} {p pos tp : Pos} {n : Nat} {wa : WE} (hx : freeC c "isinstance" = true) (ha : PE X a (lE G W wa)) (hs : nostar a = true) (hz : tysC c ts zs = true) (hl : zs.length ≤ 10) :
    PE X (.Call (.Name "isinstance" p) [a, .Tuple zs n tp] [] pos) (lE G W fun E σ h Q => wa E σ h fun x h1 => isTys x h1 ts fun k => Q (.bl k) h1) := by
  obtain ⟨g1, g2, g3, g4⟩ := free_of y hx
  obtain ⟨z1, z2, z3, z4⟩ := tys_of y hz
  refine PE.imp (pe_callB call_isiT g1 g3 boot_isinstance (pa_cons ha (pa_cons (pe_tup z2) pa_nil rfl) (starEach_cons hs)) g4 g2 (starEach_cons hs) rfl) fun σ H Q ⟨σd, h, R, E, at_, w, po⟩ => ⟨σd, h, _, E, at_, w, fun dx h1 x H1 w1 rx rh1 f1 => ?_⟩
  refine tCs_eq ts ⟨?_, fun l nl => ?_⟩
  · rw [List.length_map, ← z4, sizeLine_eq]; omega
  · have f2 : Fm h1 H1 h1 (L2.upd H1 l (.tup (ts.map fun t => V.ty (tyN t)))) := Fm.aside nl
    have rh2 := rh1.aside (o := .tup (ts.map fun t => V.ty (tyN t))) nl
    obtain ⟨kk, ty, q⟩ := kind_rep rh2 (rx.fm rh1 f2) w1
    exact ⟨x, l, _, _, _, ts.any (subTy kk), rfl, upd_same, clsV_all ts, by rw [y.ok.k]; exact ty, kitAny_of kk ts z1, (po.fm (f1.trans f2)).here rh2 q repV_bl⟩
end

theorem arg_of {es : List Expr} (h : argC es = true) : es.all nostar = true ∧ es.length < 30 := by
  unfold argC at h
  simpa only [Bool.and_eq_true, decide_eq_true_eq] using h
theorem all_tail {e : Expr} {es : List Expr} (h : (e :: es).all nostar = true) : nostar e = true ∧ es.all nostar = true := by
  simpa only [List.all_cons, Bool.and_eq_true] using h
theorem mem_any {α : Type} {p : α → Bool} {l : List α} (h : l.any p = true) : ∃ x ∈ l, p x = true := List.any_eq_true.mp h

mutual
theorem ckE_ok {G : Gr} {Φ : Fns} {k : Nat} : ∀ (ex : Ex) (X : Cx) (W : WX) (c : Ctx) (e : Expr), Hy X G W Φ k c → ckE c ex e = true → PE X e (lE G W fun E => wpE Φ E ex)
  | .var i, X, W, c, e, y, h => by
    unfold ckE at h
    split at h
    · simp only [Bool.and_eq_true, decide_eq_true_eq, Bool.not_eq_true'] at h
      obtain ⟨⟨⟨h1, h2⟩, h3⟩, h4⟩ := h
      exact se_var (by rw [y.N]; exact h1) (vis_of y h2) h3 h4
    · cases h
  | .cst d, X, W, c, e, y, h => by
    unfold ckE at h
    split at h
    · rw [of_decide_eq_true h]; exact se_cst pe_int fun _ => repV_int
    · rw [of_decide_eq_true h]; exact se_cst pe_bl fun _ => repV_bl
    · exact se_cst pe_non fun _ => repV_non
    · rw [of_decide_eq_true h]; exact se_cst pe_str fun _ => repV_str
    · simp only [Bool.and_eq_true, decide_eq_true_eq] at h
      obtain ⟨g1, g2⟩ := gl_of y h.1
      obtain ⟨u, hu, r⟩ := y.cI _ h.2
      exact se_cst (pe_glob g1 hu r g2) fun _ => repV_int
    · simp only [Bool.and_eq_true, decide_eq_true_eq] at h
      obtain ⟨g1, g2⟩ := gl_of y h.1
      obtain ⟨u, hu, r⟩ := y.cS _ h.2
      exact se_cst (pe_glob g1 hu r g2) fun _ => repV_str
    · cases h
  | .bin op a b, X, W, c, e, y, h => by
    unfold ckE at h
    split at h
    · simp only [Bool.and_eq_true, decide_eq_true_eq] at h
      obtain ⟨⟨rfl, h1⟩, h2⟩ := h
      exact se_op (op_binD y.ok.k op) (ckE_ok a X W c _ y h1) (ckE_ok b X W c _ y h2)
    · cases h
  | .neg a, X, W, c, e, y, h => by
    unfold ckE at h
    split at h
    · exact se_neg (ckE_ok a X W c _ y h)
    · cases h
  | .not a, X, W, c, e, y, h => by
    unfold ckE at h
    split at h
    · exact se_not y.ok.k (ckE_ok a X W c _ y h)
    · cases h
  | .and a b, X, W, c, e, y, h => by
    unfold ckE at h
    split at h
    · rename_i x1 x2 r p
      rw [Bool.and_eq_true] at h
      refine se_and y.ok.k (ckE_ok a X W c _ y h.1) ?_
      cases r with
      | nil => exact pe_one (ckE_ok b X W c _ y h.2)
      | cons z r => exact ckE_ok b X W c _ y h.2
    · cases h
  | .or a b, X, W, c, e, y, h => by
    unfold ckE at h
    split at h
    · rename_i x1 x2 r p
      rw [Bool.and_eq_true] at h
      refine se_or y.ok.k (ckE_ok a X W c _ y h.1) ?_
      cases r with
      | nil => exact pe_one (ckE_ok b X W c _ y h.2)
      | cons z r => exact ckE_ok b X W c _ y h.2
    · cases h
  | .ite t a b, X, W, c, e, y, h => by
    unfold ckE at h
    split at h
    · simp only [Bool.and_eq_true] at h
      exact se_ite (ckT_ok t X W c _ y h.1.1).1 (ckE_ok a X W c _ y h.1.2) (ckE_ok b X W c _ y h.2)
    · cases h
  | .cmp op a b, X, W, c, e, y, h => by
    unfold ckE at h
    split at h
    · simp only [Bool.and_eq_true, decide_eq_true_eq] at h
      obtain ⟨⟨⟨rfl, h0⟩, h1⟩, h2⟩ := h
      exact se_cmp y.ok (ckE_ok a X W c _ y h1) (ckE_ok b X W c _ y h2) (behind_of h0)
    · cases h
  | .chn op op' a b d, X, W, c, e, y, h => by
    unfold ckE at h
    split at h
    · simp only [Bool.and_eq_true, decide_eq_true_eq] at h
      obtain ⟨⟨⟨⟨⟨rfl, rfl⟩, h0⟩, h1⟩, h2⟩, h3⟩ := h
      exact se_chn y.ok (ckE_ok a X W c _ y h1) (ckE_ok b X W c _ y h2) (ckE_ok d X W c _ y h3) (behind_of (op := op') h0)
    · cases h
  | .tup es, X, W, c, e, y, h => by
    unfold ckE at h
    split at h
    · rw [Bool.and_eq_true] at h
      exact se_tup (ckEs_ok es X W c _ y h.1 h.2)
    · cases h
  | .lst es, X, W, c, e, y, h => by
    unfold ckE at h
    split at h
    · rw [Bool.and_eq_true] at h
      exact se_lst (ckEs_ok es X W c _ y h.1 h.2)
    · cases h
  | .dsp ks es, X, W, c, e, y, h => by
    unfold ckE at h
    split at h
    · rename_i keys vs p
      simp only [Bool.and_eq_true, decide_eq_true_eq] at h
      obtain ⟨⟨h1, h2⟩, h3⟩ := h
      obtain ⟨a1, a2, a3, a4⟩ := ckD_ok es X W c p ks keys vs y h3
      by_cases h0 : keys = []
      · subst h0
        have : vs = [] := List.eq_nil_of_length_eq_zero a3.symm
        subst this
        have : ks = [] := List.eq_nil_of_length_eq_zero a4
        subst this
        cases es with
        | nil => exact se_dsp0
        | cons _ _ => cases h3
      · exact se_dsp a1 a2 a3 h0 (by rw [← a4]; exact h1) a4 h2
    · cases h
  | .ix a i, X, W, c, e, y, h => by
    unfold ckE at h
    split at h
    · simp only [Bool.and_eq_true] at h
      exact se_ix (ix_D y.ok) (ckE_ok a X W c _ y h.1.2) (ckE_ok i X W c _ y h.2) (plainIx h.1.1)
    · cases h
  | .rsl a, X, W, c, e, y, h => by
    unfold ckE at h
    split at h
    · exact se_rsl y.ok.k (ckE_ok a X W c _ y h)
    · cases h
  | .sl a lo hi, X, W, c, e, y, h => by
    unfold ckE at h
    split at h
    · simp only [Bool.and_eq_true] at h
      exact se_sl y.ok.k (ckE_ok a X W c _ y h.1.1) (ckO_ok lo X W c _ y h.1.2) (ckO_ok hi X W c _ y h.2)
    · cases h
  | .call f es, X, W, c, e, y, h => by
    unfold ckE at h
    split at h
    · rename_i x qp z0 zs p0
      simp only [Bool.and_eq_true] at h
      obtain ⟨⟨h1, h2⟩, h3⟩ := h
      obtain ⟨a1, a2⟩ := arg_of h1
      unfold callC at h2
      rw [Bool.and_eq_true] at h2
      obtain ⟨p, hp, q⟩ := mem_any h2.2
      simp only [Bool.and_eq_true, decide_eq_true_eq] at q
      obtain ⟨⟨⟨⟨rfl, rfl⟩, q3⟩, q4⟩, q5⟩ := q
      obtain ⟨g1, g2⟩ := gl_of y h2.1
      have := se_call (W := W) (q := qp) (pos := p0) y.ok y.tk (y.pats p hp) y.room g1 q4 (fun ds l => by rw [idArr_ok (i := 0) (n := es.length) (ds := ds) q5 (by omega)]; rfl) (ckEs_ok es X W c _ y a1 h3) g2 (starEach_cons (all_tail a1).1) (plain_any (all_tail a1).2)
      rw [q3] at this
      exact this
    · cases h
  | .callk f es kes arr, X, W, c, e, y, h => by
    unfold ckE at h
    split at h
    · rename_i x qp z0 zs kws p0
      simp only [Bool.and_eq_true] at h
      obtain ⟨⟨⟨h1, h2⟩, h3⟩, h4⟩ := h
      obtain ⟨a1, a2⟩ := arg_of h1
      unfold callkC at h2
      rw [Bool.and_eq_true] at h2
      obtain ⟨p, hp, q⟩ := mem_any h2.2
      simp only [Bool.and_eq_true, decide_eq_true_eq] at q
      obtain ⟨⟨⟨⟨⟨rfl, rfl⟩, q3⟩, q4⟩, q5⟩, q6⟩ := q
      obtain ⟨g1, g2⟩ := gl_of y h2.1
      obtain ⟨k1, k2, k3⟩ := kws_ok (pos := p0) (env := X.env) q6
      have := se_callk (W := W) (q := qp) (pos := p0) y.ok y.tk (y.pats p hp) y.room g1 (ckEs_ok es X W c _ y a1 h3) (ckK_ok kes X W c _ y h4) k1 k2 g2 (starEach_cons (all_tail a1).1) (by rw [plain_any a1, k3]; rfl)
      rw [q3, q4, eqLR_ok q5] at this
      exact this
    · cases h
  | .bi b es, X, W, c, e, y, h => by
    unfold ckE at h
    split at h
    · simp only [Bool.and_eq_true, decide_eq_true_eq] at h
      obtain ⟨⟨⟨h1, rfl⟩, h2⟩, h3⟩ := h
      obtain ⟨a1, a2⟩ := arg_of h1
      obtain ⟨g1, g2, g3, g4⟩ := free_of y h2
      obtain ⟨b1, T, b2⟩ := bi_boot b
      exact se_bi (es' := []) b2 _ b1 (bi_D y.ok y.hc b) g1 g3 (ckEs_ok es X W c _ y a1 h3) g4 g2 (starEach_cons (all_tail a1).1) (plain_any (all_tail a1).2)
    · cases h
  | .isi a ts, X, W, c, e, y, h => by
    unfold ckE at h
    split at h
    · simp only [Bool.and_eq_true, decide_eq_true_eq] at h
      obtain ⟨⟨⟨⟨rfl, h1⟩, h2⟩, h3⟩, h4⟩ := h
      split at h4
      · exact se_isi1 y h1 (ckE_ok a X W c _ y h3) h2 h4
      · rw [Bool.and_eq_true, decide_eq_true_eq] at h4
        exact se_isiT y h1 (ckE_ok a X W c _ y h3) h2 h4.1 h4.2
      · cases h4
    · cases h
  | .met m o es, X, W, c, e, y, h => by
    unfold ckE at h
    split at h
    · rename_i x nm ap ys cp
      simp only [Bool.and_eq_true, decide_eq_true_eq] at h
      obtain ⟨⟨⟨⟨⟨rfl, h1⟩, h2⟩, h3⟩, h4⟩, h5⟩ := h
      obtain ⟨a1, a2⟩ := arg_of h3
      cases ys with
      | nil =>
        cases es with
        | nil => exact se_met0 y.ok (mt_plain m) (mt_slot m) (mt_type m) (ckE_ok o X W c _ y h4) (base_of h1 _) (by rw [h2]; exact beq_self_eq_true _)
        | cons _ _ => cases h5
      | cons z ys =>
        refine se_met y.ok (mt_plain m) (mt_slot m) (mt_type m) (ckE_ok o X W c _ y h4) (ckEs_ok es X W c _ y a1 h5) (base_of h1 _) ?_ (by rw [h2]; exact beq_self_eq_true _) (starEach_cons (all_tail a1).1) (plain_any (all_tail a1).2)
        rw [plain_all a1]
        show (true && true && decide ((z :: ys).length + 0 + 0 < 30)) = true
        rw [decide_eq_true (by omega)] <;> rfl
    · cases h
  | .lc el t it cd vs, X, W, c, e, y, h => by
    unfold ckE at h
    split at h
    · rename_i x tg i ifs scope p
      simp only [Bool.and_eq_true] at h
      obtain ⟨⟨⟨⟨⟨⟨h1, h2⟩, h3⟩, h4⟩, h5⟩, h6⟩, h7⟩ := h
      have hb : BlkOk X.N X.env.scope scope (ownOf c.N vs) := by rw [y.N, y.sc]; exact blkOk_by h1
      have := se_lc (cd := none) (pos := p) (W := W) y.ok.k y.hc y.ok.nd (ckI_ok it X W c tg i y h5) hb (t := t) (by rw [ownOf_snd]; exact h2) (fun s H C cl fp => tg_of (y.blk scope s H C cl fp) h4) (fun s H C cl fp => ckC_ok cd _ (c.blk scope) ifs (y.blk scope s H C cl fp) h7)
        (fun s H C cl fp => ckE_ok el _ W0 (c.blk scope) x (y.blk scope s H C cl fp) h6) (folded_of h3)
      rw [ownOf_snd] at this
      exact this
    · cases h
  | .lc2 el t it cd t1 it1 cd1 vs vs1, X, W, c, e, y, h => by
    unfold ckE at h
    split at h
    · rename_i x tg i ifs tg1 i1 ifs1 scope p
      simp only [Bool.and_eq_true] at h
      obtain ⟨⟨⟨⟨⟨⟨⟨⟨⟨⟨⟨⟨h1, h2⟩, h3⟩, h4⟩, h5⟩, h6⟩, h7⟩, h8⟩, h9⟩, h10⟩, h11⟩, h12⟩, h13⟩ := h
      have hb : BlkOk X.N X.env.scope scope (ownOf c.N vs) := by rw [y.N, y.sc]; exact blkOk_by h1
      have := se_lc2 (cd := none) (cd1 := none) (pos := p) (W := W) y.ok.k y.hc y.ok.nd (ckI_ok it X W c tg i y h9) hb (t := t) (t1 := t1) (vs1 := vs1) (by rw [ownOf_snd]; exact fun v hv => by simpa using List.all_eq_true.mp h4 v hv) (by rw [ownOf_snd]; exact h2) h3 (fun s H C cl fp => tg_of (y.blk scope s H C cl fp) h7) (fun s H C cl fp => ckC_ok cd _ (c.blk scope) ifs (y.blk scope s H C cl fp) h12)
        (fun s H C cl fp => ckI_ok it1 _ W0 (c.blk scope) tg1 i1 (y.blk scope s H C cl fp) h10) (fun s H C cl fp => tg_of (y.blk scope s H C cl fp) h8) (fun s H C cl fp => ckC_ok cd1 _ (c.blk scope) ifs1 (y.blk scope s H C cl fp) h13)
        (fun s H C cl fp => ckE_ok el _ W0 (c.blk scope) x (y.blk scope s H C cl fp) h11) (folded_of h5) (fun _ => folded_of h6)
      rw [ownOf_snd] at this
      exact this
    · cases h
theorem ckT_ok {G : Gr} {Φ : Fns} {k : Nat} : ∀ (t : Te) (X : Cx) (W : WX) (c : Ctx) (e : Expr), Hy X G W Φ k c → ckT c t e = true → PT X e (lT G W fun E => wpT Φ E t) ∧ ((∃ op l p, e = .BoolOp op l p) → PW X e (lT G W fun E => wpT Φ E t))
  | .val a, X, W, c, e, y, h => by
    unfold ckT at h
    rw [Bool.and_eq_true] at h
    refine ⟨st_val y.ok.k (ckE_ok a X W c _ y h.2) (isTrue_of h.1), ?_⟩
    rintro ⟨op, l, p, rfl⟩
    cases h.1
  | .not a, X, W, c, e, y, h => by
    unfold ckT at h
    split at h
    · exact ⟨st_not (ckT_ok a X W c _ y h).1, fun ⟨_, _, _, z⟩ => by cases z⟩
    · cases h
  | .and a b, X, W, c, e, y, h => by
    unfold ckT at h
    split at h
    · rename_i x1 x2 r p
      rw [Bool.and_eq_true] at h
      have key : PW X (.BoolOp .And (x1 :: x2 :: r) p) (lT G W fun E => wpT Φ E (.and a b)) := by
        refine sw_and (ckT_ok a X W c _ y h.1).1 ?_
        cases r with
        | nil => exact pw_and1 (ckT_ok b X W c _ y h.2).1
        | cons z r => exact (ckT_ok b X W c _ y h.2).2 ⟨_, _, _, rfl⟩
      exact ⟨key.pt, fun _ => key⟩
    · cases h
  | .or a b, X, W, c, e, y, h => by
    unfold ckT at h
    split at h
    · rename_i x1 x2 r p
      rw [Bool.and_eq_true] at h
      have key : PW X (.BoolOp .Or (x1 :: x2 :: r) p) (lT G W fun E => wpT Φ E (.or a b)) := by
        refine sw_or (ckT_ok a X W c _ y h.1).1 ?_
        cases r with
        | nil => exact pw_or1 (ckT_ok b X W c _ y h.2).1
        | cons z r => exact (ckT_ok b X W c _ y h.2).2 ⟨_, _, _, rfl⟩
      exact ⟨key.pt, fun _ => key⟩
    · cases h
  | .cmp op a b, X, W, c, e, y, h => by
    unfold ckT at h
    split at h
    · simp only [Bool.and_eq_true, decide_eq_true_eq] at h
      obtain ⟨⟨⟨rfl, h0⟩, h1⟩, h2⟩ := h
      exact ⟨st_cmp y.ok (ckE_ok a X W c _ y h1) (ckE_ok b X W c _ y h2) (behind_of h0), fun ⟨_, _, _, z⟩ => by cases z⟩
    · cases h
  | .chn op op' a b d, X, W, c, e, y, h => by
    unfold ckT at h
    split at h
    · simp only [Bool.and_eq_true, decide_eq_true_eq] at h
      obtain ⟨⟨⟨⟨⟨rfl, rfl⟩, h0⟩, h1⟩, h2⟩, h3⟩ := h
      exact ⟨st_chn y.ok (ckE_ok a X W c _ y h1) (ckE_ok b X W c _ y h2) (ckE_ok d X W c _ y h3) (behind_of (op := op') h0), fun ⟨_, _, _, z⟩ => by cases z⟩
    · cases h
theorem ckEs_ok {G : Gr} {Φ : Fns} {k : Nat} : ∀ (es : List Ex) (X : Cx) (W : WX) (c : Ctx) (xs : List Expr), Hy X G W Φ k c → xs.all nostar = true → ckEs c es xs = true → PA X xs (lA G W fun E => wpEs Φ E es)
  | [], X, W, c, xs, y, hs, h => by
    cases xs with
    | nil => exact sa_nil
    | cons _ _ => cases h
  | a :: as, X, W, c, xs, y, hs, h => by
    cases xs with
    | nil => cases h
    | cons x xs =>
      have h : (ckE c a x && ckEs c as xs) = true := h
      rw [Bool.and_eq_true] at h
      exact sa_cons (ckE_ok a X W c x y h.1) (ckEs_ok as X W c xs y (all_tail hs).2 h.2) (starEach_cons (all_tail hs).1)
theorem ckK_ok {G : Gr} {Φ : Fns} {k : Nat} : ∀ (es : List Ex) (X : Cx) (W : WX) (c : Ctx) (xs : List Keyword), Hy X G W Φ k c → ckK c es xs = true → PK X xs (lA G W fun E => wpEs Φ E es)
  | [], X, W, c, xs, y, h => by
    cases xs with
    | nil => exact sk_nil
    | cons _ _ => cases h
  | a :: as, X, W, c, xs, y, h => by
    cases xs with
    | nil => cases h
    | cons x xs =>
      obtain ⟨nm, x, p⟩ := x
      have h : (ckE c a x && ckK c as xs) = true := h
      rw [Bool.and_eq_true] at h
      exact sk_cons (ckE_ok a X W c x y h.1) (ckK_ok as X W c xs y h.2)
theorem ckD_ok {G : Gr} {Φ : Fns} {k : Nat} : ∀ (es : List Ex) (X : Cx) (W : WX) (c : Ctx) (p : Pos) (ks : List Str) (keys : List (Option Expr)) (xs : List Expr), Hy X G W Φ k c → ckD c ks es keys xs = true → SPP X G W p ks keys xs (fun E => wpEs Φ E es) ∧ keys.all (·.isSome) = true ∧ keys.length = xs.length ∧ ks.length = keys.length
  | [], X, W, c, p, ks, keys, xs, y, h => by
    unfold ckD at h
    split at h
    · exact ⟨sp_nil, rfl, rfl, rfl⟩
    · rename_i e; cases e
    · cases h
  | a :: as, X, W, c, p, ks, keys, xs, y, h => by
    unfold ckD at h
    split at h
    · rename_i e; cases e
    · rename_i e1
      cases e1
      simp only [Bool.and_eq_true, decide_eq_true_eq] at h
      obtain ⟨⟨rfl, h1⟩, h2⟩ := h
      obtain ⟨a1, a2, a3, a4⟩ := ckD_ok as X W c p _ _ _ y h2
      exact ⟨sp_cons (ckE_ok a X W c _ y h1) a1, by rw [List.all_cons, a2] <;> rfl, congrArg Nat.succ a3, congrArg Nat.succ a4⟩
    · cases h
theorem ckO_ok {G : Gr} {Φ : Fns} {k : Nat} : ∀ (o : Option Ex) (X : Cx) (W : WX) (c : Ctx) (x : Option Expr), Hy X G W Φ k c → ckO c o x = true → PO X x (lO G W fun E => wpO Φ E o)
  | none, X, W, c, x, y, h => by
    cases x with
    | none => exact so_none
    | some _ => cases h
  | some a, X, W, c, x, y, h => by
    cases x with
    | none => cases h
    | some x => exact so_some (ckE_ok a X W c x y h)
theorem ckC_ok {G : Gr} {Φ : Fns} {k : Nat} : ∀ (o : Option Te) (X : Cx) (c : Ctx) (xs : List Expr), Hy X G W0 Φ k c → ckC c o xs = true → PTs X xs (lT G W0 fun E σ h Q => wpC Φ o σ h Q)
  | none, X, c, xs, y, h => by
    cases xs with
    | nil => exact sts_none
    | cons _ _ => cases h
  | some a, X, c, xs, y, h => by
    match xs, h with
    | [x], h =>
      have p := (ckT_ok a X W0 c x y h).1
      refine sts_one (PT.imp p fun σ H Q ⟨σd, h, R, E, at_, w, po⟩ => ⟨σd, h, R, E0, at0 at_.s at_.r, w, po⟩)
theorem ckI_ok {G : Gr} {Φ : Fns} {k : Nat} : ∀ (it : It') (X : Cx) (W : WX) (c : Ctx) (tg e : Expr), Hy X G W Φ k c → ckI c it tg e = true → PI X tg e (lI G W fun E => wpI Φ E it)
  | .of a, X, W, c, tg, e, y, h => si_of y.ok.k (ckE_ok a X W c e y h)
  | .rng es, X, W, c, tg, e, y, h => by
    unfold ckI at h
    split at h
    · simp only [Bool.and_eq_true, decide_eq_true_eq] at h
      obtain ⟨⟨⟨rfl, h1⟩, h2⟩, h3⟩ := h
      obtain ⟨a1, a2⟩ := arg_of h2
      obtain ⟨g1, g2, g3, g4⟩ := free_of y h1
      exact si_rng g1 g3 (ckEs_ok es X W c _ y a1 h3) (starEach_cons (all_tail a1).1) (plain_any (all_tail a1).2)
    · cases h
  | .zip a b, X, W, c, tg, e, y, h => by
    unfold ckI at h
    split at h
    · simp only [Bool.and_eq_true, decide_eq_true_eq] at h
      obtain ⟨⟨⟨⟨⟨h0, rfl⟩, h1⟩, h2⟩, h3⟩, h4⟩ := h
      obtain ⟨a1, a2⟩ := arg_of h2
      obtain ⟨g1, g2, g3, g4⟩ := free_of y h1
      cases tg with
      | Tuple elts kk tp => exact si_zip y.ok.k g1 g3 (ckE_ok a X W c _ y h3) (ckE_ok b X W c _ y h4) (starEach_cons (all_tail a1).1) (starEach_cons (all_tail (all_tail a1).2).1) (plain_any (all_tail a1).2)
      | _ => cases h0
    · cases h
  | .enm a, X, W, c, tg, e, y, h => by
    unfold ckI at h
    split at h
    · simp only [Bool.and_eq_true, decide_eq_true_eq] at h
      obtain ⟨⟨⟨⟨h0, rfl⟩, h1⟩, h2⟩, h3⟩ := h
      obtain ⟨a1, a2⟩ := arg_of h2
      obtain ⟨g1, g2, g3, g4⟩ := free_of y h1
      cases tg with
      | Tuple elts kk tp => exact si_enm y.ok.k g1 g3 (ckE_ok a X W c _ y h3) (starEach_cons (all_tail a1).1) (starEach_cons (all_tail a1).1)
      | _ => cases h0
    · cases h
  | .rev a, X, W, c, tg, e, y, h => by
    unfold ckI at h
    split at h
    · simp only [Bool.and_eq_true, decide_eq_true_eq] at h
      obtain ⟨⟨⟨rfl, h1⟩, h2⟩, h3⟩ := h
      obtain ⟨a1, a2⟩ := arg_of h2
      obtain ⟨g1, g2, g3, g4⟩ := free_of y h1
      exact si_rev y.ok.k g1 g3 (ckE_ok a X W c _ y h3) (starEach_cons (all_tail a1).1)
    · cases h
end
end DL
set_option Elab.async false
set_option linter.all false
set_option maxRecDepth 100000
set_option maxHeartbeats 4000000
/-! The D layer, exceptions 3: what a handler says. -/
namespace DL
open PySem PySem.Spec PyProof.Rows L2

/-- a class by its name -/
def cnC (c : Ctx) : CN → Expr → Bool
  | .own k, .Name x _ => glC c x && c.xs.any fun p => decide (p.x = x) && decide (p.c = k)
  | .blt n, .Name x _ => freeC c x && decide (bootBuiltins x = some (.type n))
  | _, _ => false
def cnsC (c : Ctx) : List CN → List Expr → Bool
  | [], [] => true
  | t :: ts, e :: es => cnC c t e && cnsC c ts es
  | _, _ => false
/-- is it the handler's own name -/
def meC (c : Ctx) (i : Nat) : Expr → Bool
  | .Name x _ => decide (c.N[i]? = some x) && decide (c.sc.names.lookup x = some .local) && !(x == ("__debug__" : Str)) && !(x == ("__classdict__" : Str))
  | _ => false
mutual
/-- k: the class of what was caught, i: the slot of its name -/
def ckX (c : Ctx) (k i : Nat) : Hx → Expr → Bool
  | .cst d, e => ckE c (.cst d) e
  | .var j, e => ckE c (.var j) e
  | .fld f, e => (match e with
    | .Attribute z n _ => decide (n = f) && meC c i z && c.xs.any fun p => decide (p.c = k) && decide (p.f = f)
    | _ => false)
  | .isi cs b, e => (match e with
    | .Call (.Name x _) [y, z] [] _ => decide (x = "isinstance") && freeC c x && meC c i y && decide ((k, cs, b) ∈ c.xi) && c.xs.any (fun p => decide (p.c = k)) && (match z, cs with
      | .Name _ _, [t] => cnC c t z
      | .Tuple zs _ _, cs => cnsC c cs zs && decide (zs.length ≤ 10)
      | _, _ => false)
    | _ => false)
  | .tup es, e => (match e with
    | .Tuple xs _ _ => xs.all nostar && ckXs c k i es xs
    | _ => false)
  | .and a b, e => (match e with
    | .BoolOp .And (x :: y :: r) p => ckX c k i a x && (match r with
      | [] => ckX c k i b y
      | z :: r => ckX c k i b (.BoolOp .And (y :: z :: r) p))
    | _ => false)
  | .not a, e => (match e with
    | .UnaryOp .Not x _ => ckX c k i a x
    | _ => false)
  | .cmp op a b, e => (match e with
    | .Compare x [o] [y] _ => decide (op = o) && noset y && ckX c k i a x && ckX c k i b y
    | _ => false)
def ckXs (c : Ctx) (k i : Nat) : List Hx → List Expr → Bool
  | [], [] => true
  | a :: as, x :: xs => ckX c k i a x && ckXs c k i as xs
  | _, _ => false
end
/-- what is needed of the place of a handler -/
structure Hz (X : Cx) (G : Gr) (c : Ctx) : Prop where
  ok : Ok X G
  N : X.N = c.N
  sc : X.env.scope = c.sc
  cF : ∀ x ∈ c.cF, X.mg x = none
  cI : ∀ p ∈ c.cI, ∃ u, X.mg p.1 = some u ∧ RelV (.int p.2) u
  cS : ∀ p ∈ c.cS, ∃ u, X.mg p.1 = some u ∧ RelV (.str p.2) u
  xs : ∀ p ∈ c.xs, XOk X.prog X.w X.K X.mg X.base G p
  xi : ∀ q ∈ c.xi, PySem.W.kitAny X.K (.ref (G.cl q.1)) (q.2.1.map (cnV G)) = some q.2.2
theorem Hy.hz {X : Cx} {G : Gr} {W : WX} {Φ : Fns} {k : Nat} {c : Ctx} (y : Hy X G W Φ k c) (a : Addr) (pn : List (Addr × Obj)) : Hz (X.suite a pn) G c :=
  ⟨⟨y.ok.k, y.ok.nd, y.ok.gd, y.ok.hu, y.ok.sy⟩, y.N, y.sc, y.cF, y.cI, y.cS, y.xs, y.xi⟩
section
variable {X : Cx} {G : Gr} {c : Ctx}
theorem Hz.gl (y : Hz X G c) {x : Str} (h : glC c x = true) : Gl X x ∧ (x == ("__debug__" : Str)) = false := by
  unfold glC at h
  simp only [Bool.and_eq_true, decide_eq_true_eq, Bool.not_eq_true'] at h
  exact ⟨by show X.env.scope.names.lookup x = _; rw [y.sc]; exact h.1, h.2⟩
theorem Hz.free (y : Hz X G c) {x : Str} (h : freeC c x = true) : Gl X x ∧ (x == ("__debug__" : Str)) = false ∧ X.mg x = none ∧ x ≠ "__name__" := by
  unfold freeC at h
  simp only [Bool.and_eq_true, Bool.not_eq_true'] at h
  obtain ⟨⟨h1, h2⟩, h3⟩ := h
  obtain ⟨a, b⟩ := y.gl h1
  refine ⟨a, b, y.cF x (List.contains_iff_mem.mp h2), fun e => ?_⟩
  rw [e] at h3; exact absurd h3 (by decide)
theorem Hz.cn (y : Hz X G c) {t : CN} {e : Expr} (h : cnC c t e = true) : PE X e (tC (cnU G t)) ∧ nostar e = true := by
  unfold cnC at h
  split at h
  · simp only [Bool.and_eq_true] at h
    obtain ⟨g1, g2⟩ := y.gl h.1
    obtain ⟨p, hp, hq⟩ := mem_any h.2
    simp only [Bool.and_eq_true, decide_eq_true_eq] at hq
    obtain ⟨rfl, rfl⟩ := hq
    exact ⟨pe_glob g1 (y.xs p hp).gx rfl g2, rfl⟩
  · simp only [Bool.and_eq_true, decide_eq_true_eq] at h
    obtain ⟨a, b, d, e⟩ := y.free h.1
    exact ⟨pe_bltn a d h.2 rfl e b, rfl⟩
  · cases h
def tCn (G : Gr) : List CN → TA
  | [] => tNil
  | t :: ts => tCons (tC (cnU G t)) (tCn G ts)
theorem tCn_eq {σ : L2.St} {H : Hp} {Q : List V → Hp → Prop} : ∀ ts : List CN, Q (ts.map (cnU G)) H → tCn G ts σ H Q
  | [], h => h
  | t :: ts, h => tCn_eq (Q := fun xs H2 => Q (cnU G t :: xs) H2) ts h
theorem Hz.cns (y : Hz X G c) : ∀ {ts : List CN} {es : List Expr}, cnsC c ts es = true → PA X es (tCn G ts) ∧ es.all nostar = true ∧ es.length = ts.length
  | [], [], _ => ⟨pa_nil, rfl, rfl⟩
  | [], _ :: _, h => by cases h
  | _ :: _, [], h => by cases h
  | t :: ts, e :: es, h => by
    have h : (cnC c t e && cnsC c ts es) = true := h
    rw [Bool.and_eq_true] at h
    obtain ⟨a2, a3⟩ := y.cn h.1
    obtain ⟨b2, b3, b4⟩ := y.cns h.2
    exact ⟨pa_cons a2 b2 (starEach_cons a3), by rw [List.all_cons, a3, b3]; rfl, congrArg Nat.succ b4⟩
theorem clsV_cn (t : CN) : ClsV (cnU G t) (cnV G t) := by cases t <;> constructor
theorem clsV_cns : ∀ ts : List CN, Paired ClsV (ts.map (cnU G)) (ts.map (cnV G))
  | [] => .nil
  | t :: ts => .cons (clsV_cn t) (clsV_cns ts)
theorem kit_one {K : PySem.W.Frag} {t u : Value} {b : Bool} (h : PySem.W.kitAny K t [u] = some b) : PySem.W.kitOne K t u = some b := by
  unfold PySem.W.kitAny at h
  split at h
  · rename_i e; cases h; exact e
  · rename_i e; cases h; exact e
  · cases h
end
/-! ### the caught exception -/
/-- slot i stands for it, its fields are fs -/
def wtX (G : Gr) (i : Nat) (a : Addr) (d : Option Addr) (fs : List (Str × D)) : WX := fun _ _ σ H => σ[i]? = some (some (.ref a)) ∧ ∃ dd gs, d = some dd ∧ H dd = some (.xd gs) ∧ RepF G.K H fs gs
section
variable {X : Cx} {G : Gr} {c : Ctx} {a C : Addr} {oe : Obj} {cls : Value} {d : Option Addr} {pn : List (Addr × Obj)} {i k : Nat} {fs : List (Str × D)}
theorem repF_look {K : PySem.W.Frag} {H : Hp} {f : Str} {x : D} : ∀ {fs : List (Str × D)} {gs : List (Str × V)}, RepF K H fs gs → fs.lookup f = some x → ∃ v, gs.lookup f = some v ∧ RepV K H x v
  | [], _, _, h => by cases h
  | (n, y) :: r, _, ⟨v, s, rfl, rv, rs⟩, h => by
    rw [List.lookup_cons] at h ⊢
    cases e : (f == n) with
    | true =>
      rw [e] at h
      cases h
      exact ⟨v, rfl, rv⟩
    | false =>
      rw [e] at h
      exact repF_look rs h
theorem caught_at {W : WX} {E : DX} {σd : DS} {σ : L2.St} {h : MH} {H : Hp} (lt : k < G.nc) (at_ : At G W E σd σ h H) (hE : ∀ c h', E c [] h') : W (.ref (G.cl k)) none σ H :=
  at_.x k [] h _ none H (hE _ _) ⟨⟨lt, rfl⟩, .inl ⟨rfl, rfl⟩⟩ at_.r Fm.refl
theorem call_x1 (T : KxC X.K C) (F : XfC X.K C) (hz : Zc cls d oe) (hf : ∃ vs, oe.data = .fields vs) (ec : cls = .ref C) :
    CallR (X.suite a ((a, oe) :: pn)) (.builtin "isinstance") (fun xs H Q => ∃ (cc : V) (u : Value) (b : Bool) (dd : Addr) (gs : List (Str × V)), xs = [.ref a, cc] ∧ ClsV cc u ∧ d = some dd ∧ H dd = some (.xd gs) ∧ PySem.W.kitOne X.K (.ref C) u = some b ∧ Q (.bl b) H) := by
  intro pins s σ H xs us Q I r h
  obtain ⟨cc, u, b, dd, gs, rfl, kc, ed, eg, e, q⟩ := h
  obtain ⟨u1, u2, rfl, r1, r2⟩ := vals2 r
  obtain rfl : u1 = Value.ref a := r1
  have e2 := kc.eq r2
  subst e2 ec ed
  obtain ⟨ha, _⟩ := I.pin (a, oe) (List.mem_append_left _ List.mem_cons_self)
  obtain ⟨vs, hd⟩ := hf
  have hx : ObjOk X.prog X.w H s.heap dd (.xd gs) := I.hok dd _ eg
  obtain ⟨mA, hns, hr⟩ := hx
  obtain ⟨od, ho, hl⟩ := lookIn_ns hns
  have J : PySem.W.InstAt s.heap a oe C (some od) := ⟨ha, hz.1, by unfold PySem.W.notCls; rw [hd] <;> rfl, by rw [hz.2]; exact ho⟩
  exact PySem.W.kia_one (PySem.W.kitx_exc T.cl F.ga F.gg F.exC T.ca T.sp T.tk T.ob) I.kIn J e (fun z => nomatch z) fun tk => ⟨.bl b, H, I.tok tk, rfl, q⟩
theorem call_xT (T : KxC X.K C) (F : XfC X.K C) (hz : Zc cls d oe) (hf : ∃ vs, oe.data = .fields vs) (ec : cls = .ref C) :
    CallR (X.suite a ((a, oe) :: pn)) (.builtin "isinstance") (fun xs H Q => ∃ (tp : Addr) (cs : List V) (ws : List Value) (b : Bool) (dd : Addr) (gs : List (Str × V)), xs = [.ref a, .ref tp] ∧ H tp = some (.tup cs) ∧ Paired ClsV cs ws ∧ d = some dd ∧ H dd = some (.xd gs) ∧ PySem.W.kitAny X.K (.ref C) ws = some b ∧ Q (.bl b) H) := by
  intro pins s σ H xs us Q I r h
  obtain ⟨tp, cs, ws, b, dd, gs, rfl, hT, kc, ed, eg, e, q⟩ := h
  obtain ⟨u1, u2, rfl, r1, r2⟩ := vals2 r
  obtain rfl : u1 = Value.ref a := r1
  obtain rfl : u2 = Value.ref tp := r2
  subst ec ed
  obtain ⟨ha, _⟩ := I.pin (a, oe) (List.mem_append_left _ List.mem_cons_self)
  obtain ⟨vs, hd⟩ := hf
  have hx : ObjOk X.prog X.w H s.heap dd (.xd gs) := I.hok dd _ eg
  obtain ⟨mA, hns, hr⟩ := hx
  obtain ⟨od, ho, hl⟩ := lookIn_ns hns
  have J : PySem.W.InstAt s.heap a oe C (some od) := ⟨ha, hz.1, by unfold PySem.W.notCls; rw [hd] <;> rfl, by rw [hz.2]; exact ho⟩
  obtain ⟨_, its, rv, o, h1, h2, n, h3⟩ := (show ObjOk X.prog X.w H s.heap tp (.tup cs) from I.hok tp _ hT)
  have e3 := ClsV.all kc rv
  subst e3
  obtain ⟨oc, od', dt, sl⟩ := o
  simp only at h2 h3
  subst h2 h3
  exact PySem.W.kia_tup (PySem.W.kitx_exc T.cl F.ga F.gg F.exC T.ca T.sp T.tk T.ob) I.kIn J h1 e (fun z => nomatch z) fun tk => ⟨.bl b, H, I.tok tk, rfl, q⟩
theorem Hz.vis (y : Hz X G c) {x : Str} (h : visC c x = true) : Vis X.env.scope x := by
  unfold visC at h
  unfold Vis
  rw [y.sc]
  split at h <;> first | exact .inl ‹_› | exact .inr (.inl ‹_›) | exact .inr (.inr ‹_›) | cases h
theorem Hz.me {σ : L2.St} (y : Hz X G c) {e : Expr} (h : meC c i e = true) : nostar e = true ∧ PE X e (tVar i) := by
  unfold meC at h
  split at h
  · simp only [Bool.and_eq_true, decide_eq_true_eq, Bool.not_eq_true'] at h
    obtain ⟨⟨⟨h1, h2⟩, h3⟩, h4⟩ := h
    exact ⟨rfl, pe_var (by rw [y.N]; exact h1) (.inl (by rw [y.sc]; exact h2)) h3 h4⟩
  · cases h
theorem sx_var (y : Hz X G c) {W : WX} {Φ : Fns} {i : Nat} {e : Expr} (h : ckE c (.var i) e = true) : PE X e (lE G W fun _ σ h Q => ∃ d, σ[i]? = some (some d) ∧ Q d h) := by
  unfold ckE at h
  split at h
  · simp only [Bool.and_eq_true, decide_eq_true_eq, Bool.not_eq_true'] at h
    obtain ⟨⟨⟨h1, h2⟩, h3⟩, h4⟩ := h
    exact se_var (by rw [y.N]; exact h1) (y.vis h2) h3 h4
  · cases h
theorem sx_cst (y : Hz X G c) {W : WX} {dv : D} {e : Expr} (h : ckE c (.cst dv) e = true) : PE X e (lE G W fun _ _ h Q => Q dv h) := by
  unfold ckE at h
  split at h
  · rw [of_decide_eq_true h]; exact se_cst pe_int fun _ => repV_int
  · rw [of_decide_eq_true h]; exact se_cst pe_bl fun _ => repV_bl
  · exact se_cst pe_non fun _ => repV_non
  · rw [of_decide_eq_true h]; exact se_cst pe_str fun _ => repV_str
  · simp only [Bool.and_eq_true, decide_eq_true_eq] at h
    obtain ⟨g1, g2⟩ := y.gl h.1
    obtain ⟨u, hu, r⟩ := y.cI _ h.2
    exact se_cst (pe_glob g1 hu r g2) fun _ => repV_int
  · simp only [Bool.and_eq_true, decide_eq_true_eq] at h
    obtain ⟨g1, g2⟩ := y.gl h.1
    obtain ⟨u, hu, r⟩ := y.cS _ h.2
    exact se_cst (pe_glob g1 hu r g2) fun _ => repV_str
  · cases h
mutual
theorem ckX_ok (hz : Zc cls d oe) (hf : ∃ vs, oe.data = .fields vs) (ec : cls = .ref (G.cl k)) : ∀ (x : Hx) (e : Expr), Hz (X.suite a ((a, oe) :: pn)) G c → ckX c k i x e = true → PE (X.suite a ((a, oe) :: pn)) e (lE G (wtX G i a d fs) fun E => wpX fs E x)
  | .cst dv, e, y, h => by
    unfold ckX at h
    exact sx_cst y h
  | .var j, e, y, h => by
    unfold ckX at h
    exact sx_var (Φ := fun _ _ _ _ _ => False) y h
  | .fld f, e, y, h => by
    unfold ckX at h
    split at h
    · rename_i z n p
      simp only [Bool.and_eq_true, decide_eq_true_eq] at h
      obtain ⟨⟨rfl, h2⟩, h3⟩ := h
      obtain ⟨q, hq, hp⟩ := mem_any h3
      simp only [Bool.and_eq_true, decide_eq_true_eq] at hp
      obtain ⟨rfl, rfl⟩ := hp
      have K := y.xs q hq
      have hb : attributeBase z q.f (X.suite a ((a, oe) :: pn)).env (eval z (X.suite a ((a, oe) :: pn)).env) = eval z (X.suite a ((a, oe) :: pn)).env := by
        unfold meC at h2
        split at h2
        · rfl
        · cases h2
      refine PE.imp (pe_xf (X := X) K.xf K.no hz hf ((y.me (σ := []) h2).2) hb) fun σ H Q ⟨σd, h, R, E, at_, ⟨hE, dv, el, q'⟩, po⟩ => ?_
      obtain ⟨hs, dd, gs, ed, eg, rf⟩ := caught_at K.lt at_ hE
      obtain ⟨v, ev, rv⟩ := repF_look rf el
      exact ⟨_, hs, rfl, ec, dd, gs, v, ed, eg, ev, po.here at_.r q' rv⟩
    · cases h
  | .isi cs b, e, y, h => by
    unfold ckX at h
    split at h
    · rename_i x p u z pos
      simp only [Bool.and_eq_true, decide_eq_true_eq] at h
      obtain ⟨⟨⟨⟨⟨rfl, h2⟩, h3⟩, h4⟩, h5⟩, h6⟩ := h
      obtain ⟨g1, g2, g3, g4⟩ := y.free h2
      obtain ⟨q, hq, hp⟩ := mem_any h5
      have hp := of_decide_eq_true hp
      subst hp
      have K := y.xs q hq
      have hs := (y.me (σ := []) h3).1
      have he := (y.me (σ := []) h3).2
      have kit := y.xi _ h4
      split at h6
      · rename_i t
        obtain ⟨z2, z3⟩ := y.cn h6
        refine PE.imp (pe_callB (call_x1 (X := X) K.kx K.xf hz hf ec) g1 g3 boot_isinstance (pa_cons he (pa_cons z2 pa_nil (starEach_cons z3)) (starEach_cons hs)) g4 g2 (starEach_cons hs) (plain_any (by simp [z3]))) fun σ H Q ⟨σd, h, R, E, at_, ⟨hE, q'⟩, po⟩ => ?_
        obtain ⟨hs, dd, gs, ed, eg, rf⟩ := caught_at K.lt at_ hE
        exact ⟨_, hs, _, _, b, dd, gs, rfl, clsV_cn t, ed, eg, kit_one kit, po.here at_.r q' repV_bl⟩
      · rename_i zs n tp cs'
        rw [Bool.and_eq_true] at h6
        obtain ⟨z2, z3, z4⟩ := y.cns h6.1
        have h10 := of_decide_eq_true h6.2
        refine PE.imp (pe_callB (call_xT (X := X) K.kx K.xf hz hf ec) g1 g3 boot_isinstance (pa_cons he (pa_cons (pe_tup z2) pa_nil rfl) (starEach_cons hs)) g4 g2 (starEach_cons hs) rfl) fun σ H Q ⟨σd, h, R, E, at_, ⟨hE, q'⟩, po⟩ => ?_
        obtain ⟨hs, dd, gs, ed, eg, rf⟩ := caught_at K.lt at_ hE
        refine ⟨_, hs, tCn_eq _ ⟨?_, fun l nl => ?_⟩⟩
        · rw [List.length_map, ← z4, sizeLine_eq]; omega
        · have f2 : Fm h H h (L2.upd H l (.tup (cs.map (cnU G)))) := Fm.aside nl
          exact ⟨l, _, _, b, dd, gs, rfl, upd_same, clsV_cns _, ed, by rw [upd_ne (fun e => by rw [e, nl] at eg; cases eg)]; exact eg, kit, (po.fm f2).here (at_.r.aside nl) q' repV_bl⟩
      · cases h6
    · cases h
  | .tup es, e, y, h => by
    unfold ckX at h
    split at h
    · rw [Bool.and_eq_true] at h
      exact se_tup (ckXs_ok hz hf ec es _ y h.1 h.2)
    · cases h
  | .and a' b', e, y, h => by
    unfold ckX at h
    split at h
    · rename_i x1 x2 r p
      rw [Bool.and_eq_true] at h
      refine se_and y.ok.k (ckX_ok hz hf ec a' _ y h.1) ?_
      cases r with
      | nil => exact pe_one (ckX_ok hz hf ec b' _ y h.2)
      | cons z r => exact ckX_ok hz hf ec b' _ y h.2
    · cases h
  | .not a', e, y, h => by
    unfold ckX at h
    split at h
    · exact se_not y.ok.k (ckX_ok hz hf ec a' _ y h)
    · cases h
  | .cmp op a' b', e, y, h => by
    unfold ckX at h
    split at h
    · simp only [Bool.and_eq_true, decide_eq_true_eq] at h
      obtain ⟨⟨⟨rfl, h0⟩, h1⟩, h2⟩ := h
      exact se_cmp y.ok (ckX_ok hz hf ec a' _ y h1) (ckX_ok hz hf ec b' _ y h2) (behind_of h0)
    · cases h
theorem ckXs_ok (hz : Zc cls d oe) (hf : ∃ vs, oe.data = .fields vs) (ec : cls = .ref (G.cl k)) : ∀ (es : List Hx) (xs : List Expr), Hz (X.suite a ((a, oe) :: pn)) G c → xs.all nostar = true → ckXs c k i es xs = true → PA (X.suite a ((a, oe) :: pn)) xs (lA G (wtX G i a d fs) fun E => wpXs fs E es)
  | [], xs, y, hs, h => by
    cases xs with
    | nil => exact sa_nil
    | cons _ _ => cases h
  | x :: es, xs, y, hs, h => by
    cases xs with
    | nil => cases h
    | cons e xs =>
      have h : (ckX c k i x e && ckXs c k i es xs) = true := h
      rw [Bool.and_eq_true] at h
      exact sa_cons (ckX_ok hz hf ec x e y h.1) (ckXs_ok hz hf ec es xs y (all_tail hs).2 h.2) (starEach_cons (all_tail hs).1)
end
end
end DL
set_option Elab.async false
set_option linter.all false
set_option maxRecDepth 100000
set_option maxHeartbeats 4000000
/-! The D layer, exceptions 4: raise, try, a target with a star. -/
namespace DL
open PySem PySem.Spec PyProof.Rows L2

def locC (c : Ctx) (i : Nat) (x : Str) : Bool := decide (c.N[i]? = some x) && decide (c.sc.names.lookup x = some .local)
section
variable {X : Cx} {G : Gr} {W : WX} {Φ : Fns} {k : Nat} {c : Ctx}
theorem loc_of (y : Hy X G W Φ k c) {i : Nat} {x : Str} (h : locC c i x = true) : X.N[i]? = some x ∧ X.env.scope.names.lookup x = some .local := by
  unfold locC at h
  simp only [Bool.and_eq_true, decide_eq_true_eq] at h
  rw [y.N, y.sc]; exact h
/-! ### a target with a star -/
theorem sg_star {i j : Nat} {x z : Str} {kk : Nat} {pos px py ps : Pos} (hK : X.K = G.K) (hc : X.calm = true) (hN : X.N.Nodup) (hi : X.N[i]? = some x) (hj : X.N[j]? = some z) (h1 : X.env.scope.names.lookup x = some .local) (h2 : X.env.scope.names.lookup z = some .local) :
    PG X (.Tuple [.Name x px, .Starred (.Name z py) ps] kk pos) (lG G W fun F => wpLv Φ F (.star [i] j)) :=
  PG.imp (pg_star hc hN hi hj h1 h2) fun v σ H Q ⟨d, σd, h, P, F, at_, rv, w, p⟩ => by
    have fin : ∀ (ds : List D) (vs : List V), RepVs G.K H ds vs → (1 ≤ ds.length ∧ ds.length ≤ 16000) → (∀ q, h q = none → P ((setAll σd [i] (ds.take 1)).set j (some (.ref q))) (up h q (.lst (ds.drop 1)))) →
        ∃ y xs, vs = y :: xs ∧ xs.length ≤ 16000 ∧ ∀ Dd, H Dd = none → Q ((σ.set i (some y)).set j (some (.ref Dd))) (L2.upd H Dd (.lst xs)) := fun ds vs r hl w => by
      cases ds with
      | nil => exact absurd hl.1 (by decide)
      | cons d0 ds =>
        obtain ⟨y, xs, rfl, ry, rs⟩ := r.cons_inv
        refine ⟨y, xs, rfl, by rw [rs.length]; have := hl.2; simp at this; omega, fun Dd n => ?_⟩
        have f : Fm h H (up h Dd (.lst ds)) (L2.upd H Dd (.lst xs)) := Fm.new n
        exact p _ _ _ _ (w Dd (at_.r.free n)) (((at_.s.fm at_.r f).set (ry.fm at_.r f)).set repV_ref) (at_.r.newLst n rs) f
    cases d with
    | tup ds =>
      obtain ⟨a, vs, rfl, sa, ra⟩ := repV_tup.mp rv
      obtain ⟨y, xs, rfl, hl, q⟩ := fin ds vs ra w.1 w.2
      exact ⟨a, y, xs, rfl, .inl (by rw [hK]; exact sa), hl, q⟩
    | ref a =>
      obtain ⟨ds, ea, hl, w⟩ := w
      obtain ⟨vs, eH, rs⟩ := at_.r.lst ea
      obtain ⟨y, xs, rfl, hl, q⟩ := fin ds vs rs hl w
      exact ⟨a, y, xs, (by exact rv.ref_inv), .inr (.inl (.inl eH)), hl, q⟩
    | _ => exact w.elim
/-! ### raise -/
theorem ss_rai (y : Hy X G W Φ k c) {p : Xe} (hp : p ∈ c.xs) {z : Expr} {q pos pos' : Pos} {wa : WE} (hg : glC c p.x = true) (hs : nostar z = true) (ha : PE X z (lE G W wa)) :
    PS X (.Raise (some (.Call (.Name p.x q) [z] [] pos)) none pos') (lS G W fun Dn σ h => wa (exAt Dn σ) σ h fun d h1 => Dn.ex p.c [(p.f, d)] σ h1) := by
  have K := y.xs p hp
  obtain ⟨g1, g2⟩ := gl_of y hg
  obtain ⟨B, nI, iI, bm, T⟩ := K.xc
  obtain ⟨fI, fd, ps, i1, i2, F1, b1⟩ := K.ini
  have hr : Room (1 + 1) X.A := y.room.mono y.k2
  refine PS.imp (ps_raise y.hc y.tk (pmk_note T i1 i2 F1 hr b1 g1 K.gx (sa_cons ha sa_nil (starEach_cons hs)) g2 (starEach_cons hs) rfl)) fun Q σ H ⟨σd, h, Dn, at_, w, po⟩ => ?_
  refine ⟨σd, h, fun ds h1 => match ds with
    | [d] => Dn.ex p.c [(p.f, d)] σd h1
    | _ => False, exAt Dn σd, at_.at, w, fun ds h1 vs H1 w1 rv rh1 f1 => ?_⟩
  match ds, w1, rv with
  | [d], w1, rv =>
    obtain ⟨v, vs', rfl, rd, rs⟩ := rv.cons_inv
    obtain rfl := rs.nil_inv
    refine ⟨v, rfl, fun dx n => ?_⟩
    have f2 : Fm h1 H1 h1 (L2.upd H1 dx (.xd [(p.f, v)])) := Fm.aside n
    exact at_.x p.c [(p.f, d)] σd h1 _ (some dx) σ _ w1 ⟨⟨K.lt, rfl⟩, .inr ⟨dx, _, rfl, upd_same, ⟨v, [], rfl, rd.fm rh1 f2, rfl⟩, rh1.free n⟩⟩ (at_.s.fm at_.r (f1.trans f2)) (rh1.aside n) (f1.trans f2)
/-! ### a handler -/
def ckH (c : Ctx) (k i : Nat) : Hs → Stmt → Bool
  | .asg j e, st => (match st with
    | .Assign [.Name x _] v _ => locC c j x && decide (j ≠ i) && nocomp v && ckX c k i e v
    | _ => false)
  | .ret e, st => (match st with
    | .Return (some v) _ => ckX c k i e v
    | _ => false)
def ckHs (c : Ctx) (k i : Nat) : List Hs → List Stmt → Bool
  | [], [] => true
  | s :: r, t :: ts => ckH c k i s t && ckHs c k i r ts
  | _, _ => false
def lHs (G : Gr) (a : Addr) (i : Nat) (cls : Value) (d : Option Addr) (k : Nat) (s : List Hs) : TS := fun Q σ H => ∃ σd h Dn fs dd gs, RepS G.K H σd σ ∧ RepH G h H ∧ cls = .ref (G.cl k) ∧ d = some dd ∧ H dd = some (.xd gs) ∧ RepF G.K H fs gs ∧ h dd = none ∧ σ[i]? = some (some (.ref a)) ∧ wpHs fs s Dn σd h ∧ EndR G h H Dn Q
section
variable {a : Addr} {oe : Obj} {cls : Value} {d : Option Addr} {pn : List (Addr × Obj)} {i : Nat}
theorem at_caught {fs : List (Str × D)} {σd : DS} {σ : L2.St} {h : MH} {H : Hp} {dd : Addr} {gs : List (Str × V)} (r1 : RepS G.K H σd σ) (r2 : RepH G h H) (ed : d = some dd) (eg : H dd = some (.xd gs)) (rf : RepF G.K H fs gs) (n : h dd = none) (sl : σ[i]? = some (some (.ref a))) :
    At G (wtX G i a d fs) (fun _ _ _ => True) σd σ h H := ⟨r1, r2, fun c fs' h' cls' dd' H' _ _ r' f => ⟨sl, dd, gs, ed, (f dd _ n eg).2, rf.mono (f.pst r2)⟩⟩
theorem pe_any {X : Cx} {e : Expr} {ι : Type} {t : ι → TE} (h : ∀ x, PE X e (t x)) : PE X e (fun σ H Q => ∃ x, t x σ H Q) := ⟨fun pins s σ H Q I ⟨x, w⟩ => (h x).run pins s σ H Q I w⟩
theorem Hz.loc {X : Cx} (y : Hz X G c) {i : Nat} {x : Str} (h : locC c i x = true) : X.N[i]? = some x ∧ X.env.scope.names.lookup x = some .local := by
  unfold locC at h
  simp only [Bool.and_eq_true, decide_eq_true_eq] at h
  rw [y.N, y.sc]; exact h
theorem ckH_asg {j : Nat} {e : Hx} {st : Stmt} (h : ckH c k i (.asg j e) st = true) : ∃ x px v pos, st = .Assign [.Name x px] v pos ∧ locC c j x = true ∧ j ≠ i ∧ nocomp v = true ∧ ckX c k i e v = true := by
  simp only [ckH] at h
  split at h
  · simp only [Bool.and_eq_true, decide_eq_true_eq] at h
    exact ⟨_, _, _, _, rfl, h.1.1.1, h.1.1.2, h.1.2, h.2⟩
  · cases h
theorem ckH_ret {e : Hx} {st : Stmt} (h : ckH c k i (.ret e) st = true) : ∃ v pos, st = .Return (some v) pos ∧ ckX c k i e v = true := by
  simp only [ckH] at h
  split at h
  · exact ⟨_, _, rfl, h⟩
  · cases h
theorem ckHs_ok (hz : Zc cls d oe) (hf : ∃ vs, oe.data = .fields vs) (ec : cls = .ref (G.cl k)) (y : Hz (X.suite a ((a, oe) :: pn)) G c) : ∀ (s : List Hs) (sts : List Stmt), ckHs c k i s sts = true → PSs (X.suite a ((a, oe) :: pn)) sts (lHs G a i cls d k s)
  | [], [], _ => PSs.imp pss_nil fun Q σ H ⟨σd, h, Dn, fs, dd, gs, r1, r2, _, _, _, _, _, _, w, p⟩ => p.nx σd h σ H w r1 r2 Fm.refl
  | [], _ :: _, h => by cases h
  | _ :: _, [], h => by cases h
  | s :: r, st :: ts, h => by
    obtain ⟨h1, h2⟩ := Bool.and_eq_true_iff.mp (show (ckH c k i s st && ckHs c k i r ts) = true from h)
    clear h
    have ih := ckHs_ok hz hf ec y r ts h2
    clear h2
    have h := h1
    clear h1
    cases s with
    | asg j e =>
      obtain ⟨x, px, v, pos, rfl, h1, h2, h3, h4⟩ := ckH_asg h
      obtain ⟨l1, l2⟩ := y.loc h1
      refine PSs.imp (pss_cons (ps_asg (pe_any fun fs => ckX_ok (fs := fs) hz hf ec e v y h4) (pg_name y.ok.nd l1 (.inl l2) (.inr l2)) (swaps_of (t := some (.Name x px)) (l := pos.line) h3) (stores_of rfl)) ih) fun Q σ H ⟨σd, h, Dn, fs, dd, gs, r1, r2, ec', ed, eg, rf, n, sl, w, p⟩ => ?_
      refine ⟨fs, σd, h, _, fun _ _ _ => True, at_caught r1 r2 ed eg rf n sl, w, fun dv h1 v1 H1 w1 rv rh1 f1 => ?_⟩
      refine ⟨_, h1, Dn, fs, dd, gs, (r1.fm r2 f1).set rv, rh1, ec', ed, (f1 dd _ n eg).2, rf.mono (f1.pst r2), (f1 dd _ n eg).1, ?_, w1, p.fm f1⟩
      rw [List.getElem?_set_ne h2]
      exact sl
    | ret e =>
      obtain ⟨v, pos, rfl, h1⟩ := ckH_ret h
      refine PSs.imp (pss_cons (ps_ret (pe_any fun fs => ckX_ok (fs := fs) hz hf ec e v y h1)) ih) fun Q σ H ⟨σd, h, Dn, fs, dd, gs, r1, r2, ec', ed, eg, rf, n, sl, w, p⟩ => ?_
      exact ⟨fs, σd, h, _, fun _ _ _ => True, at_caught r1 r2 ed eg rf n sl, w, p.rt⟩
/-- try, one clause -/
theorem repS_name {K : PySem.W.Frag} {H : Hp} {σd : DS} {σ : L2.St} {x : Option V} (r : RepS K H σd σ) : RepS K H (σd.set i none) (σ.set i x) := by
  refine ⟨by rw [List.length_set, List.length_set]; exact r.1, fun j dv e => ?_⟩
  by_cases hj : j = i
  · subst hj
    by_cases hl : j < σd.length
    · rw [List.getElem?_set_self hl] at e; cases e
    · rw [List.getElem?_eq_none (by rw [List.length_set]; omega)] at e; cases e
  · rw [List.getElem?_set_ne (Ne.symm hj)] at e
    rw [List.getElem?_set_ne (Ne.symm hj)]
    exact r.2 j dv e
end
/-- where nothing is handled but by this try -/
theorem Hy.tr {W' : WX} (y : Hy X G W Φ k c) (pn : List (Addr × Obj)) (xe : Value → Shared → Prop) (tk : Takes (X.tr pn xe) W') : Hy (X.tr pn xe) G W' Φ k c :=
  ⟨⟨y.ok.k, y.ok.nd, y.ok.gd, y.ok.hu, y.ok.sy⟩, y.hc, y.N, y.sc, y.fnT, tk, y.room, y.k2, y.cF, y.cI, y.cS, y.pats, y.xs, y.xi⟩
theorem ss_try {p : Xe} {i : Nat} {n : Str} {np pos pos' : Pos} {body suite : List Stmt} {b0 : Stmt} {b : List Sm} {s : List Hs} (y : Hy X G W Φ k c) (sf : X.stack = X.env :: X.outer ∧ X.env.frame = some X.env.locals) (hp : p ∈ c.xs) (hg : glC c p.x = true) (hl : locC c i n = true)
    (hb : ∀ (W' : WX) (pn : List (Addr × Obj)) (xe : Value → Shared → Prop), Hy (X.tr pn xe) G W' Φ k c → PassesOwn (model X.prog X.w) X.A X.env xe → PSs (X.tr pn xe) body (lS G W' (wpB Φ b))) (hh : ckHs c p.c i s (b0 :: suite) = true) :
    PS X (.Try body [.ExceptHandler (some (.Name p.x np)) (some n) (b0 :: suite) pos'] [] [] pos) (lS G W (wpS Φ (.try b p.c i s))) := by
  have K := y.xs p hp
  obtain ⟨g1, g2⟩ := gl_of y hg
  obtain ⟨l1, l2⟩ := loc_of y hl
  refine PS.imp (ps_try_as (Wout := W) (i := i) (c := .ref (G.cl p.c)) (tb := fun W' => lS G W' (wpB Φ b)) (ts := fun a cls d => lHs G a i cls d p.c s) sf.1 sf.2 y.ok.nd l1 l2 ⟨g1, g2, .inl K.gx⟩ y.tk (fun W' pn xe tk hp' => hb W' pn xe (y.tr pn xe tk) hp') (fun a oe cls d pn hz hf => ?_)) fun Q σ H ⟨σd, h, Dn, at_, w, po⟩ => ?_
  · by_cases ec : cls = .ref (G.cl p.c)
    · exact ckHs_ok hz hf ec (y.hz a ((a, oe) :: pn)) s _ hh
    · exact PSs.imp pss_never fun Q σ H ⟨σd, h, Dn, fs, dd, gs, r1, r2, ec', _⟩ => absurd ec' ec
  · refine ⟨σd, h, _, ⟨at_.s, at_.r, fun c' fs σd' h' cls dd σ' H' e rx rs rh f => ?_⟩, w, ⟨po.nx, po.rt, po.bk, po.ct⟩⟩
    obtain ⟨⟨lt, rfl⟩, rx'⟩ := id rx
    refine ⟨_, K.exm c' lt, fun hb a na => ?_, fun hb => ?_⟩
    · have ee := of_decide_eq_true hb
      subst ee
      have e : (i < σd'.length ∧ fs ≠ []) ∧ wpHs fs s _ (σd'.set i none) h' := (if_pos rfl).mp e
      obtain ⟨⟨il, fn⟩, w1⟩ := e
      rcases rx' with ⟨z, _⟩ | ⟨dx, gs, ed, eg, rf, n⟩
      · exact absurd z fn
      · have p1 := po.fm f
        refine ⟨_, h', _, fs, dx, gs, repS_name rs, rh, rfl, ed, eg, rf, n, ?_, w1, ⟨fun σ2 h2 τ2 H2 q r2 rh2 f2 => p1.nx _ h2 _ H2 q (repS_name r2) rh2 f2, p1.rt, fun σ2 h2 τ2 H2 q r2 rh2 f2 => p1.bk _ h2 _ H2 q (repS_name r2) rh2 f2, fun σ2 h2 τ2 H2 q r2 rh2 f2 => p1.ct _ h2 _ H2 q (repS_name r2) rh2 f2⟩⟩
        exact List.getElem?_set_self (by rw [← rs.1]; exact il)
    · have ne : c' ≠ p.c := of_decide_eq_false hb
      have e : Dn.ex c' fs σd' h' := (if_neg ne).mp e
      exact at_.x c' fs σd' h' _ dd σ' H' e rx rs rh f
end
end DL
set_option Elab.async false
set_option linter.all false
set_option maxRecDepth 100000
set_option maxHeartbeats 4000000
/-! The D layer, 14: the checker of statements and defs; the levels. -/
namespace DL
open PySem PySem.Spec PyProof.Rows L2

mutual
def ckLv (c : Ctx) : Lv → Expr → Bool
  | .nm i, e => nmC c i e
  | .sub o i, e => (match e with
    | .Subscript a b _ => noslice b && ckE c o a && ckE c i b
    | _ => false)
  | .tup ls, e => (match e with
    | .Tuple es _ _ => es.all nostar && ckLvs c ls es
    | _ => false)
  | .star is j, e => (match is, e with
    | [i], .Tuple [.Name x _, .Starred (.Name z _) _] _ _ => locC c i x && locC c j z
    | _, _ => false)
  | _, _ => false
def ckLvs (c : Ctx) : List Lv → List Expr → Bool
  | [], [] => true
  | l :: ls, e :: es => ckLv c l e && ckLvs c ls es
  | _, _ => false
end
def kindC (c : Ctx) : Bool := match c.sc.kind with
  | .function => true
  | _ => false
/-- two, three names from a display -/
def par2 (c : Ctx) : Lv → Ex → Expr → Expr → Bool
  | .tup [.nm i, .nm j], .tup [a, b], .Tuple [.Name x px, .Name y py] _ _, .Tuple [u, v] _ _ =>
    kindC c && locC c i x && locC c j y && decide (i ≠ j) && decide (x ≠ y) && decide (py.line = px.line) && parC [u, v] && ckE c a u && ckE c b v
  | _, _, _, _ => false
def par3 (c : Ctx) : Lv → Ex → Expr → Expr → Bool
  | .tup [.nm i, .nm j, .nm l], .tup [a, b, d], .Tuple [.Name x px, .Name y py, .Name z pz] _ _, .Tuple [u, v, w] _ _ =>
    kindC c && locC c i x && locC c j y && locC c l z && decide (i ≠ j) && decide (i ≠ l) && decide (j ≠ l) && decide (x ≠ y) && decide (x ≠ z) && decide (y ≠ z) && decide (py.line = px.line) && decide (pz.line = px.line) && parC [u, v, w] && ckE c a u && ckE c b v && ckE c d w
  | _, _, _, _ => false
/-- a display on both sides, stored as it comes -/
def parN (c : Ctx) : Expr → Expr → Bool
  | .Tuple ts _ _, .Tuple vs _ _ => ts.any (notLoc c.sc) || vs.all (foldedForSure 8)
  | _, _ => false
/-- name = comprehension, the block taking the name in -/
def setC (c : Ctx) : Lv → Ex → Expr → Expr → Bool
  | .nm i, .lc el t it cd vs, .Name x px, .ListComp e gs scope pos => kindC c && locC c i x && decide (px.line = pos.line) && !(scope.names.any fun (n, k) => n == x && (k == .local || k == .cell)) && ckE c (.lc el t it cd vs) (.ListComp e gs scope pos)
  | .nm i, .lc2 el t it cd t1 it1 cd1 vs vs1, .Name x px, .ListComp e gs scope pos => kindC c && locC c i x && decide (px.line = pos.line) && !(scope.names.any fun (n, k) => n == x && (k == .local || k == .cell)) && ckE c (.lc2 el t it cd t1 it1 cd1 vs vs1) (.ListComp e gs scope pos)
  | _, _, _, _ => false
/-- a name that an inner block takes in -/
def cellC (c : Ctx) : Expr → Bool
  | .Name x _ => decide (c.sc.names.lookup x = some .cell)
  | _ => false
theorem swaps_of3 {e : Expr} {x : Str} {p : Pos} {l : Nat} {env : Env} (h : env.scope.names.lookup x = some .cell) : swapsWith e (some (.Name x p)) l env = pure false := by
  have k : env.kindOf x = some .cell := h
  unfold swapsWith
  cases e <;> first | rfl | (simp only [k]; have : (some NameKind.cell == some NameKind.local) = false := by decide
                             simp only [this, Bool.and_false, Bool.false_and])
mutual
def ckS (c : Ctx) : Sm → Stmt → Bool
  | .asg l e, s => (match s with
    | .Assign [t] v pos => par2 c l e t v || par3 c l e t v || setC c l e t v || ((nocomp v || noname t || cellC c t) && (notup t || notup v || parN c t v) && nostar t && ckLv c l t && ckE c e v)
    | _ => false)
  | .aug i op e, s => (match s with
    | .AugAssign t o v _ => decide (op = o) && nmC c i t && ckE c e v
    | _ => false)
  | .augs a i op e, s => (match s with
    | .AugAssign (.Subscript x z _) o v _ => decide (op = o) && noslice z && ckE c a x && ckE c i z && ckE c e v
    | _ => false)
  | .ex e, s => (match s with
    | .Expr v _ => nocomp v && ckE c e v
    | _ => false)
  | .ret e, s => (match s with
    | .Return (some v) _ => ckE c e v
    | _ => false)
  | .retN, s => (match s with
    | .Return none _ => true
    | _ => false)
  | .ifs t a b, s => (match s with
    | .If z x y _ => ckT c t z && ckB c a x && ckB c b y
    | _ => false)
  | .for t it b, s => (match s with
    | .For tg i x [] _ => tgC c t tg && noset i && ckI c it tg i && ckB c b x
    | _ => false)
  | .whl t b, s => (match s with
    | .While z x [] _ => ckT c t z && ckB c b x
    | _ => false)
  | .brk, s => (match s with
    | .Break _ => true
    | _ => false)
  | .cnt, s => (match s with
    | .Continue _ => true
    | _ => false)
  | .pas, s => (match s with
    | .Pass _ => true
    | .Expr (.Constant (.str _) _ _) _ => true
    | _ => false)
  | .ded, _ => true
  | .rai k f e, s => (match s with
    | .Raise (some (.Call (.Name x _) [z] [] _)) none _ => nostar z && glC c x && c.xs.any (fun p => decide (p.x = x) && decide (p.c = k) && decide (p.f = f)) && ckE c e z
    | _ => false)
  | .try b k i hs, s => (match s with
    | .Try body [.ExceptHandler (some (.Name x _)) (some n) (b0 :: suite) _] [] [] _ => locC c i n && glC c x && c.xs.any (fun p => decide (p.x = x) && decide (p.c = k)) && ckHs c k i hs (b0 :: suite) && ckB c b body
    | _ => false)
def ckB (c : Ctx) : List Sm → List Stmt → Bool
  | [], [] => true
  | s :: r, t :: ts => ckS c s t && ckB c r ts
  | _, _ => false
end

theorem imp_lS {G : Gr} {W : WX} {ws wu : WS} (h : ∀ Dn σ h, wu Dn σ h → ws Dn σ h) : ∀ Q σ H, lS G W wu Q σ H → lS G W ws Q σ H := fun Q σ H ⟨σd, h', Dn, at_, w, p⟩ => ⟨σd, h', Dn, at_, h _ _ _ w, p⟩
section
variable {X : Cx} {G : Gr} {W : WX} {Φ : Fns} {k : Nat} {c : Ctx}
theorem kind_of (y : Hy X G W Φ k c) (h : kindC c = true) : X.env.scope.kind = .function := by
  unfold kindC at h
  rw [y.sc]
  split at h
  · assumption
  · cases h
mutual
theorem ckLv_ok : ∀ (l : Lv) (e : Expr), Hy X G W Φ k c → ckLv c l e = true → PG X e (lG G W fun F => wpLv Φ F l)
  | .nm i, e, y, h => by
    unfold ckLv at h
    obtain ⟨x, p, rfl, h1, h2, h3⟩ := nm_of y h
    exact sg_nm y.ok.nd h1 h2 h3
  | .sub o i, e, y, h => by
    unfold ckLv at h
    split at h
    · simp only [Bool.and_eq_true] at h
      exact sg_sub y.ok (ckE_ok o X W c _ y h.1.2) (ckE_ok i X W c _ y h.2) (assign_sub h.1.1)
    · cases h
  | .tup ls, e, y, h => by
    unfold ckLv at h
    split at h
    · rw [Bool.and_eq_true] at h
      obtain ⟨h1, h2⟩ := h
      obtain ⟨q, l⟩ := ckLvs_ok ls _ y h1 h2
      exact sg_tup (n := ls.length) y.ok.k y.hc q (by rw [assignEach_len]; exact l) (assignEach_nostar h1)
    · cases h
  | .fld o f, e, y, h => by unfold ckLv at h; cases h
  | .star is j, e, y, h => by
    unfold ckLv at h
    split at h
    · rw [Bool.and_eq_true] at h
      obtain ⟨a1, a2⟩ := loc_of y h.1
      obtain ⟨b1, b2⟩ := loc_of y h.2
      exact sg_star y.ok.k y.hc y.ok.nd a1 b1 a2 b2
    · cases h
theorem ckLvs_ok : ∀ (ls : List Lv) (es : List Expr), Hy X G W Φ k c → es.all nostar = true → ckLvs c ls es = true → PGs X es (lGs G W fun F => wpLvs Φ F ls) ∧ es.length = ls.length
  | [], es, y, hs, h => by
    cases es with
    | nil => exact ⟨PGs.imp sgs_nil fun v σ H Q ⟨ds, σd, h, P, F, at_, rv, w, p⟩ => ⟨ds, σd, h, P, F, at_, rv, by
        cases ds with
        | nil => exact w
        | cons d ds => exact w.elim, p⟩, rfl⟩
    | cons _ _ => cases h
  | l :: ls, es, y, hs, h => by
    cases es with
    | nil => cases h
    | cons e es =>
      have h : (ckLv c l e && ckLvs c ls es) = true := h
      rw [Bool.and_eq_true] at h
      obtain ⟨q, n⟩ := ckLvs_ok ls es y (all_tail hs).2 h.2
      refine ⟨PGs.imp (sgs_cons (ckLv_ok l e y h.1) q (assignEach_one (all_tail hs).1)) fun v σ H Q ⟨ds, σd, h, P, F, at_, rv, w, p⟩ => ⟨ds, σd, h, P, F, at_, rv, by
        cases ds with
        | nil => exact w
        | cons d ds => exact w, p⟩, congrArg Nat.succ n⟩
end

/-- two names: whatever follows -/
theorem ss_par' {a b : Expr} {wl : WL} {pos : Pos} {i j : Nat} {x y : Str} {px py pt : Pos} {kt k2 pt2} {K : En → List D → DS → MH → Prop} (hK : ∀ Dn ds σ h, K Dn ds σ h → ∃ d1 d2, ds = [d1, d2] ∧ Dn.nx ((σ.set i (some d1)).set j (some d2)) h) (hc : X.calm = true) (hN : X.N.Nodup) (hi : X.N[i]? = some x) (hj : X.N[j]? = some y) (hij : i ≠ j)
    (hx : X.env.scope.names.lookup x = some .local) (hy : X.env.scope.names.lookup y = some .local) (ha : PA X [a, b] (lA G W wl))
    (hw : swappedStores [.Tuple [.Name x px, .Name y py] kt pt] (.Tuple [a, b] k2 pt2) X.env = pure (some [x, y])) :
    PS X (.Assign [.Tuple [.Name x px, .Name y py] kt pt] (.Tuple [a, b] k2 pt2) pos) (lS G W fun Dn σ h => wl (exAt Dn σ) σ h fun ds h1 => K Dn ds σ h1) :=
  PS.imp (ps_par hc hN hi hj hij hx hy ha hw rfl) fun Q σ H ⟨σd, h, Dn, at_, w, p⟩ =>
    ⟨σd, h, _, _, at_.at, w, fun ds h1 vs H1 w1 rv r1 f1 => by
      obtain ⟨d1, d2, rfl, q⟩ := hK _ _ _ _ w1
      obtain ⟨v, u, rfl, rv, ru⟩ := rv.two
      exact ⟨v, u, rfl, p.nx _ h1 _ H1 q (((at_.s.fm at_.r f1).set rv).set ru) r1 f1⟩⟩
theorem ss_par3' {a b d : Expr} {wl : WL} {pos : Pos} {i j l : Nat} {x y z : Str} {px py pz pt : Pos} {kt k2 pt2} {K : En → List D → DS → MH → Prop} (hK : ∀ Dn ds σ h, K Dn ds σ h → ∃ d1 d2 d3, ds = [d1, d2, d3] ∧ Dn.nx (((σ.set i (some d1)).set j (some d2)).set l (some d3)) h) (hc : X.calm = true) (hN : X.N.Nodup) (hi : X.N[i]? = some x) (hj : X.N[j]? = some y) (hl : X.N[l]? = some z) (hij : i ≠ j) (hil : i ≠ l) (hjl : j ≠ l)
    (hx : X.env.scope.names.lookup x = some .local) (hy : X.env.scope.names.lookup y = some .local) (hz : X.env.scope.names.lookup z = some .local) (ha : PA X [a, b, d] (lA G W wl))
    (hw : swappedStores [.Tuple [.Name x px, .Name y py, .Name z pz] kt pt] (.Tuple [a, b, d] k2 pt2) X.env = pure (some [x, y, z])) :
    PS X (.Assign [.Tuple [.Name x px, .Name y py, .Name z pz] kt pt] (.Tuple [a, b, d] k2 pt2) pos) (lS G W fun Dn σ h => wl (exAt Dn σ) σ h fun ds h1 => K Dn ds σ h1) :=
  PS.imp (ps_par3 hc hN hi hj hl hij hil hjl hx hy hz ha hw rfl) fun Q σ H ⟨σd, h, Dn, at_, w, p⟩ =>
    ⟨σd, h, _, _, at_.at, w, fun ds h1 vs H1 w1 rv r1 f1 => by
      obtain ⟨d1, d2, d3, rfl, q⟩ := hK _ _ _ _ w1
      obtain ⟨v, us, rfl, rv1, rv⟩ := rv.cons_inv
      obtain ⟨v2, v3, rfl, rv2, rv3⟩ := rv.two
      exact ⟨v, v2, v3, rfl, p.nx _ h1 _ H1 q ((((at_.s.fm at_.r f1).set rv1).set rv2).set rv3) r1 f1⟩⟩
theorem par2_ok (y : Hy X G W Φ k c) {l : Lv} {e : Ex} {t v : Expr} {pos : Pos} (h : par2 c l e t v = true) : PS X (.Assign [t] v pos) (lS G W (wpS Φ (.asg l e))) := by
  unfold par2 at h
  split at h
  · rename_i i j a b x px z py kt pt u v k2 pt2
    simp only [Bool.and_eq_true, decide_eq_true_eq] at h
    obtain ⟨⟨⟨⟨⟨⟨⟨⟨h0, h1⟩, h2⟩, h3⟩, h4⟩, h5⟩, h6⟩, h7⟩, h8⟩ := h
    obtain ⟨x1, x2⟩ := loc_of y h1
    obtain ⟨z1, z2⟩ := loc_of y h2
    have hs : [u, v].all nostar = true := by
      unfold parC at h6
      simp only [Bool.and_eq_true] at h6
      exact h6.1.1
    refine ss_par' (K := fun Dn ds σ h1 => Fits ds.length ∧ (ds.length = 2 ∧ wpLvs Φ (exAt Dn) [.nm i, .nm j] ds σ h1 Dn.nx)) (fun Dn ds σ h ⟨_, l, w⟩ => ?_) y.hc y.ok.nd x1 z1 h3 x2 z2 (ckEs_ok [a, b] X W c [u, v] y hs (by show (ckE c a u && (ckE c b v && true)) = true; rw [h7, h8] <;> rfl)) (stores_par (kind_of y h0) x2 z2 h5 h4 h6)
    match ds, l with
    | [d1, d2], _ => exact ⟨d1, d2, rfl, w⟩
  · cases h
theorem par3_ok (y : Hy X G W Φ k c) {l : Lv} {e : Ex} {t v : Expr} {pos : Pos} (h : par3 c l e t v = true) : PS X (.Assign [t] v pos) (lS G W (wpS Φ (.asg l e))) := by
  unfold par3 at h
  split at h
  · rename_i i j l a b d x px z py q pz kt pt u v w k2 pt2
    simp only [Bool.and_eq_true, decide_eq_true_eq] at h
    obtain ⟨⟨⟨⟨⟨⟨⟨⟨⟨⟨⟨⟨⟨⟨⟨h0, h1⟩, h2⟩, h3⟩, h4⟩, h5⟩, h6⟩, h7⟩, h8⟩, h9⟩, h10⟩, h11⟩, h12⟩, h13⟩, h14⟩, h15⟩ := h
    obtain ⟨x1, x2⟩ := loc_of y h1
    obtain ⟨z1, z2⟩ := loc_of y h2
    obtain ⟨q1, q2⟩ := loc_of y h3
    have hs : [u, v, w].all nostar = true := by
      unfold parC at h12
      simp only [Bool.and_eq_true] at h12
      exact h12.1.1
    refine ss_par3' (K := fun Dn ds σ h1 => Fits ds.length ∧ (ds.length = 3 ∧ wpLvs Φ (exAt Dn) [.nm i, .nm j, .nm l] ds σ h1 Dn.nx)) (fun Dn ds σ h ⟨_, l, w⟩ => ?_) y.hc y.ok.nd x1 z1 q1 h4 h5 h6 x2 z2 q2 (ckEs_ok [a, b, d] X W c [u, v, w] y hs (by show (ckE c a u && (ckE c b v && (ckE c d w && true))) = true; rw [h13, h14, h15] <;> rfl)) (stores_par3 (kind_of y h0) x2 z2 q2 h10 h11 h7 h8 h9 h12)
    match ds, l with
    | [d1, d2, d3], _ => exact ⟨d1, d2, d3, rfl, w⟩
  · cases h
theorem setC_ok (y : Hy X G W Φ k c) {l : Lv} {e : Ex} {t v : Expr} {pos : Pos} (h : setC c l e t v = true) : PS X (.Assign [t] v pos) (lS G W (wpS Φ (.asg l e))) := by
  unfold setC at h
  split at h
  · rename_i i0 el tt it cd vs x px e gs scope p
    simp only [Bool.and_eq_true, decide_eq_true_eq, Bool.not_eq_true'] at h
    obtain ⟨⟨⟨⟨h0, hl⟩, hp⟩, ha⟩, h⟩ := h
    obtain ⟨x1, x2⟩ := loc_of y hl
    have hsw := fun gs l => sw_true (elt := e) (gs := gs) (scope := scope) (pos := p) (py := px) (l := l) (kind_of y h0) x2 (by rw [hp]; exact beq_self_eq_true _) ha
    unfold ckE at h
    split at h
    · rename_i x' tg i ifs scope' p' e1
      cases e1
      simp only [Bool.and_eq_true] at h
      obtain ⟨⟨⟨⟨⟨⟨h1, h2⟩, h3⟩, h4⟩, h5⟩, h6⟩, h7⟩ := h
      have hb : BlkOk X.N X.env.scope scope (ownOf c.N vs) := by rw [y.N, y.sc]; exact blkOk_by h1
      have := ps_setLc (g := tgG X.K tt) (spos := pos) y.hc y.ok.nd x1 x2 (hsw _ _) (ckI_ok it X W c tg i y h5) hb (fun s H C cl fp => tg_of (y.blk scope s H C cl fp) h4) (fun s H C cl fp => ckC_ok cd _ (c.blk scope) ifs (y.blk scope s H C cl fp) h7)
        (fun s H C cl fp => ckE_ok el _ W0 (c.blk scope) _ (y.blk scope s H C cl fp) h6) (folded_of h3)
      rw [ownOf_snd] at this
      exact PS.imp this (asgC_read (wa := fun E => wpE Φ E (.lc el tt it cd vs)) (lc_read (wi := fun E => wpI Φ E it) (wt := fun E σ h Q => wpC Φ cd σ h Q) (we := fun E => wpE Φ E el) y.ok.k h2))
    · cases h
  · rename_i i0 el tt it cd t1 it1 cd1 vs vs1 x px e gs scope p
    simp only [Bool.and_eq_true, decide_eq_true_eq, Bool.not_eq_true'] at h
    obtain ⟨⟨⟨⟨h0, hl⟩, hp⟩, ha⟩, h⟩ := h
    obtain ⟨x1, x2⟩ := loc_of y hl
    have hsw := fun gs l => sw_true (elt := e) (gs := gs) (scope := scope) (pos := p) (py := px) (l := l) (kind_of y h0) x2 (by rw [hp]; exact beq_self_eq_true _) ha
    unfold ckE at h
    split at h
    · rename_i x' tg i ifs tg1 i1 ifs1 scope' p' e1
      cases e1
      simp only [Bool.and_eq_true] at h
      obtain ⟨⟨⟨⟨⟨⟨⟨⟨⟨⟨⟨⟨h1, h2⟩, h3⟩, h4⟩, h5⟩, h6⟩, h7⟩, h8⟩, h9⟩, h10⟩, h11⟩, h12⟩, h13⟩ := h
      have hb : BlkOk X.N X.env.scope scope (ownOf c.N vs) := by rw [y.N, y.sc]; exact blkOk_by h1
      have := ps_setLc2 (g := tgG X.K tt) (g1 := tgG X.K t1) (spos := pos) (vs1 := vs1) y.hc y.ok.nd x1 x2 (hsw _ _) (ckI_ok it X W c tg i y h9) hb (by rw [ownOf_snd]; exact fun v hv => by simpa using List.all_eq_true.mp h4 v hv) (fun s H C cl fp => tg_of (y.blk scope s H C cl fp) h7) (fun s H C cl fp => ckC_ok cd _ (c.blk scope) ifs (y.blk scope s H C cl fp) h12)
        (fun s H C cl fp => ckI_ok it1 _ W0 (c.blk scope) tg1 i1 (y.blk scope s H C cl fp) h10) (fun s H C cl fp => tg_of (y.blk scope s H C cl fp) h8) (fun s H C cl fp => ckC_ok cd1 _ (c.blk scope) ifs1 (y.blk scope s H C cl fp) h13)
        (fun s H C cl fp => ckE_ok el _ W0 (c.blk scope) _ (y.blk scope s H C cl fp) h11) (folded_of h5) (fun _ => folded_of h6)
      rw [ownOf_snd] at this
      exact PS.imp this (asgC_read (wa := fun E => wpE Φ E (.lc2 el tt it cd t1 it1 cd1 vs vs1)) (lc2_read (wi := fun E => wpI Φ E it) (wt := fun E σ h Q => wpC Φ cd σ h Q) (wi1 := fun E => wpI Φ E it1) (wt1 := fun E σ h Q => wpC Φ cd1 σ h Q) (we := fun E => wpE Φ E el) y.ok.k h2 h3))
    · cases h
  · cases h
mutual
theorem ckS_ok : ∀ (s : Sm) (st : Stmt) (X : Cx) (W : WX), Hy X G W Φ k c → PassesOwn (model X.prog X.w) X.A X.env X.xe → (X.stack = X.env :: X.outer ∧ X.env.frame = some X.env.locals) → ckS c s st = true → PS X st (lS G W (wpS Φ s))
  | .asg l e, st, X, W, y, hp, sf, h => by
    unfold ckS at h
    split at h
    · rename_i t v pos
      simp only [Bool.or_eq_true, Bool.and_eq_true] at h
      rcases h with ((h | h) | h) | ⟨⟨⟨⟨h1, h2⟩, h3⟩, h4⟩, h5⟩
      · exact par2_ok y h
      · exact par3_ok y h
      · exact setC_ok y h
      · refine ss_asg (ckE_ok e X W c v y h5) (ckLv_ok l t y h4) ?_ ?_ (assignEach_one h3)
        · show swapsWith v (some t) pos.line X.env = pure false
          rcases h1 with (h1 | h1) | h1
          · exact swaps_of h1
          · exact swaps_of2 h1
          · unfold cellC at h1
            split at h1
            · exact swaps_of3 (by rw [y.sc]; exact of_decide_eq_true h1)
            · cases h1
        · rcases h2 with (h2 | h2) | h2
          · exact stores_of h2
          · exact stores_of2 h2
          · unfold parN at h2
            split at h2
            · exact stores_none (by rw [y.sc]; exact h2)
            · cases h2
    · cases h
  | .aug i op e, st, X, W, y, hp, sf, h => by
    unfold ckS at h
    split at h
    · simp only [Bool.and_eq_true, decide_eq_true_eq] at h
      obtain ⟨⟨rfl, h1⟩, h2⟩ := h
      obtain ⟨x, p, rfl, n1, n2, n3⟩ := nm_of y h1
      exact ss_aug y.ok.nd n1 n2 n3 (ckE_ok e X W c _ y h2)
    · cases h
  | .augs a i op e, st, X, W, y, hp, sf, h => by
    unfold ckS at h
    split at h
    · simp only [Bool.and_eq_true, decide_eq_true_eq] at h
      obtain ⟨⟨⟨⟨rfl, h1⟩, h2⟩, h3⟩, h4⟩ := h
      exact ss_augs y.ok (ckE_ok a X W c _ y h2) (ckE_ok i X W c _ y h3) (ckE_ok e X W c _ y h4) (aug_plain h1)
    · cases h
  | .ex e, st, X, W, y, hp, sf, h => by
    unfold ckS at h
    split at h
    · rw [Bool.and_eq_true] at h
      exact ss_ex (ckE_ok e X W c _ y h.2) (swaps_of h.1)
    · cases h
  | .ret e, st, X, W, y, hp, sf, h => by
    unfold ckS at h
    split at h
    · exact ss_ret (ckE_ok e X W c _ y h)
    · cases h
  | .retN, st, X, W, y, hp, sf, h => by
    unfold ckS at h
    split at h
    · exact ss_retN
    · cases h
  | .ifs t a b, st, X, W, y, hp, sf, h => by
    unfold ckS at h
    split at h
    · simp only [Bool.and_eq_true] at h
      exact ss_ifs (ckT_ok t X W c _ y h.1.1).1 (ckB_ok a _ X W y hp sf h.1.2) (ckB_ok b _ X W y hp sf h.2)
    · cases h
  | .for t it b, st, X, W, y, hp, sf, h => by
    unfold ckS at h
    split at h
    · simp only [Bool.and_eq_true] at h
      obtain ⟨⟨⟨h1, h2⟩, h3⟩, h4⟩ := h
      exact ss_for y.ok.k hp y.hc (ckI_ok it X W c _ _ y h3) (tg_of y h1) (ckB_ok b _ X W y hp sf h4) (folded_of h2)
    · cases h
  | .whl t b, st, X, W, y, hp, sf, h => by
    unfold ckS at h
    split at h
    · rw [Bool.and_eq_true] at h
      exact ss_whl hp (ckT_ok t X W c _ y h.1).1 (ckB_ok b _ X W y hp sf h.2)
    · cases h
  | .brk, st, X, W, y, hp, sf, h => by
    unfold ckS at h
    split at h
    · exact ss_brk
    · cases h
  | .cnt, st, X, W, y, hp, sf, h => by
    unfold ckS at h
    split at h
    · exact ss_cnt
    · cases h
  | .pas, st, X, W, y, hp, sf, h => by
    unfold ckS at h
    split at h
    · exact ss_pas
    · exact ss_doc
    · cases h
  | .ded, st, X, W, y, hp, sf, h => ⟨fun _ _ σ H _ I hh => by
      obtain ⟨σd, h2, Dn, at_, w, p⟩ := hh
      exact (show False from w).elim⟩
  | .rai kc f e, st, X, W, y, hp, sf, h => by
    unfold ckS at h
    split at h
    · simp only [Bool.and_eq_true] at h
      obtain ⟨⟨⟨h1, h2⟩, h3⟩, h4⟩ := h
      obtain ⟨p, hp', hq⟩ := mem_any h3
      simp only [Bool.and_eq_true, decide_eq_true_eq] at hq
      obtain ⟨⟨rfl, rfl⟩, rfl⟩ := hq
      exact ss_rai y hp' h2 h1 (ckE_ok e X W c _ y h4)
    · cases h
  | .try b kc i hs, st, X, W, y, hp, sf, h => by
    unfold ckS at h
    split at h
    · simp only [Bool.and_eq_true] at h
      obtain ⟨⟨⟨⟨h1, h2⟩, h3⟩, h4⟩, h5⟩ := h
      obtain ⟨p, hp', hq⟩ := mem_any h3
      simp only [Bool.and_eq_true, decide_eq_true_eq] at hq
      obtain ⟨rfl, rfl⟩ := hq
      exact ss_try y sf hp' h2 h1 (fun W' pn xe y' hp2 => ckB_ok b _ (X.tr pn xe) W' y' hp2 sf h5) h4
    · cases h
theorem ckB_ok : ∀ (b : List Sm) (sts : List Stmt) (X : Cx) (W : WX), Hy X G W Φ k c → PassesOwn (model X.prog X.w) X.A X.env X.xe → (X.stack = X.env :: X.outer ∧ X.env.frame = some X.env.locals) → ckB c b sts = true → PSs X sts (lS G W (wpB Φ b))
  | [], sts, X, W, y, hp, sf, h => by
    cases sts with
    | nil => exact ss_nil
    | cons _ _ => cases h
  | s :: r, sts, X, W, y, hp, sf, h => by
    cases sts with
    | nil => cases h
    | cons t ts =>
      have h : (ckS c s t && ckB c r ts) = true := h
      rw [Bool.and_eq_true] at h
      exact ss_cons (ws := wpS Φ s) (wu := wpB Φ r) (ckS_ok s t X W y hp sf h.1) (ckB_ok r ts X W y hp sf h.2)
end
end
end DL
set_option Elab.async false
set_option linter.all false
set_option maxRecDepth 100000
set_option maxHeartbeats 4000000
/-! The D layer, 15: defs by levels; the law's end; the Hook. -/
namespace DL
open PySem PySem.Spec PyProof.Rows L2

/-- a def of the program, and its slots -/
structure Row where
  x : Str
  qual : Str
  params : Arguments
  body : List Stmt
  sc : Scope
  N : List Str
  ps : List Str
def scC (N ps : List Str) (sc : Scope) : Bool :=
  (match sc.kind with
  | .function => true
  | _ => false) && !sc.isCoroutine && !sc.isGenerator && decide N.Nodup && decide (N.take ps.length = ps) && (ps.all fun x => match sc.names.lookup x with
    | some .local => true
    | some .cell => true
    | _ => false) && (sc.names.all fun y => match y.2 with
    | .free => false
    | _ => true)
theorem scC_ok {N ps : List Str} {sc : Scope} (h : scC N ps sc = true) : FnScope N ps sc := by
  unfold scC at h
  simp only [Bool.and_eq_true, decide_eq_true_eq, Bool.not_eq_true', List.all_eq_true] at h
  obtain ⟨⟨⟨⟨⟨⟨h1, h2⟩, h3⟩, h4⟩, h5⟩, h6⟩, h7⟩ := h
  refine ⟨?_, h2, h3, h4, h5, fun x hx => ?_, fun y hy e => ?_⟩
  · split at h1
    · assumption
    · cases h1
  · have q := h6 x hx
    split at q
    · exact .inl ‹_›
    · exact .inr ‹_›
    · cases q
  · have q := h7 y hy
    rw [e] at q
    cases q
def rowC (c : Ctx) (r : Row) (f : Fn) : Bool := decide (r.ps.length = f.ar) && decide (r.N.length = f.n) && scC r.N r.ps r.sc && ckB { c with N := r.N, sc := r.sc, top := true } f.body r.body
def rowsC (c : Ctx) : List Row → List Fn → Bool
  | [], [] => true
  | r :: rs, f :: fs => rowC c r f && rowsC c rs fs
  | _, _ => false
theorem rowsC_at {c : Ctx} : ∀ {rs : List Row} {fs : List Fn} {i : Nat} {r : Row}, rowsC c rs fs = true → rs[i]? = some r → ∃ f, fs[i]? = some f ∧ rowC c r f = true
  | [], _, _, _, _, e => by simp at e
  | _ :: _, [], _, _, h, _ => by cases h
  | r :: rs, f :: fs, i, r', h, e => by
    have h : (rowC c r f && rowsC c rs fs) = true := h
    rw [Bool.and_eq_true] at h
    cases i with
    | zero => simp at e; subst e; exact ⟨f, rfl, h.1⟩
    | succ i => exact rowsC_at (i := i) h.2 (by simpa using e)

/-- an own class of exceptions, whatever runs -/
structure XFact (G : Gr) (mg : Str → Option Value) (p : Xe) : Prop where
  lt : p.c < G.nc
  gx : mg p.x = some (.ref (G.cl p.c))
  ini : ∃ (B nI iI : String) (bm : List Value) (fI : Addr) (fd : FuncData) (qual pn : Str) (params : Arguments) (scope : Scope) (kws : List (Str × V)) (p1 p2 p3 p4 : Pos), Xc G.K B nI iI bm (G.cl p.c) ∧
    PySem.W.findIn G.K (.ref (G.cl p.c)) "__init__" = some (some (.ref fI)) ∧ PySem.W.typeIn G.K (.ref fI) = some (.type "function") ∧ PySem.W.takerIn G.K (G.cl p.c) p.f = some none ∧
    FunD G.K "__init__" qual params [.Assign [.Attribute (.Name "self" p1) p.f p2] (.Name pn p3) p4] scope [] kws fI fd ∧ FnScope ["self", pn] ["self", pn] scope ∧ scope.names.lookup ("self" : Str) = some NameKind.local ∧ scope.names.lookup pn = some NameKind.local ∧
    (pn == ("__debug__" : Str)) = false ∧ (pn == ("__classdict__" : Str)) = false ∧ Binds G.K fd ["self", pn] []
  exm : ∀ c', c' < G.nc → PySem.W.exmOne G.K (.ref (G.cl c')) (.ref (G.cl p.c)) = some (decide (c' = p.c))
  xf : XfC G.K (G.cl p.c)
  no : PySem.W.findIn G.K (.ref (G.cl p.c)) p.f = some none
  kx : KxC G.K (G.cl p.c)
theorem XFact.ok {P : Program} {w : World} {G : Gr} {mg : Str → Option Value} {base : Heap} {p : Xe} (f : XFact G mg p) : XOk P w G.K mg base G p := by
  obtain ⟨B, nI, iI, bm, fI, fd, qual, pn, params, scope, kws, p1, p2, p3, p4, T, h1, h2, h3, F, S, l1, l2, d1, d2, b⟩ := f.ini
  exact ⟨f.lt, f.gx, ⟨B, nI, iI, bm, T⟩, ⟨fI, fd, _, h1, h2, init_ok T h3 F S l1 l2 d1 d2, b⟩, f.exm, f.xf, f.no, f.kx⟩
/-- what the module's heap gives: the facts by names, the defs, how they are called -/
structure Facts (K : PySem.W.Frag) (mg : Str → Option Value) (c : Ctx) (rows : List Row) : Prop where
  cF : ∀ x ∈ c.cF, mg x = none
  cI : ∀ p ∈ c.cI, ∃ u, mg p.1 = some u ∧ RelV (.int p.2) u
  cS : ∀ p ∈ c.cS, ∃ u, mg p.1 = some u ∧ RelV (.str p.2) u
  pats : ∀ p ∈ c.pats, ∃ (r : Row) (a : Addr) (fd : FuncData) (dvs : List V) (kws : List (Str × V)) (g : List Value → List Value → List Value) (gV : List V → List V → List V), rows[p.f]? = some r ∧ mg p.x = some (.ref a) ∧
    FunD K r.x r.qual r.params r.body r.sc dvs kws a fd ∧ KBn K fd r.ps p.n p.ks g gV ∧ ∀ H ds vs es zs, RepVs K H ds vs → RepVs K H es zs → ds.length = p.n → es.length = p.ks.length → RepVs K H (arrOf (ds ++ es) p.arr) (gV vs zs)

theorem PsRep {K : PySem.W.Frag} {H : Hp} {ds : List D} {vs : List V} (r : RepVs K H ds vs) (m : Nat) : RepS K H (ds.map some ++ List.replicate m none) (vs.map some ++ List.replicate m none) := by
  refine ⟨by simp [r.length], fun i d e => ?_⟩
  by_cases hi : i < ds.length
  · rw [List.getElem?_append_left (by simpa using hi), List.getElem?_map] at e
    cases q : ds[i]? with
    | none => rw [q] at e; cases e
    | some d' =>
      rw [q] at e
      obtain ⟨v, hv, rv⟩ := r.get q
      have : d' = d := by simpa using e
      subst this
      refine ⟨v, ?_, rv⟩
      rw [List.getElem?_append_left (by rw [List.length_map, r.length]; exact hi), List.getElem?_map, hv] <;> rfl
  · rw [List.getElem?_append_right (by simpa using hi), List.getElem?_replicate] at e
    split at e <;> cases e
section
variable {P : Program} {w : World} {G : Gr} {mg : Str → Option Value} {base : Heap} {c : Ctx} {rows : List Row} {prog : List Fn}
theorem level (hsy : ∃ o, base.get? sysModules = some o ∧ o.cls = .type "dict") (S : Facts G.K mg c rows) (SX : ∀ p ∈ c.xs, XFact G mg p) (SI : ∀ q ∈ c.xi, PySem.W.kitAny G.K (.ref (G.cl q.1)) (q.2.1.map (cnV G)) = some q.2.2) (hck : rowsC c rows prog = true) : ∀ (d i : Nat) (r : Row), rows[i]? = some r → ∀ (f : Addr) (fd : FuncData) (dvs : List V) (kws : List (Str × V)),
    FunD G.K r.x r.qual r.params r.body r.sc dvs kws f fd → FnG P w G.K mg base (d + 2) f fd r.ps (spG G (Ph prog d) i)
  | 0, i, r, hi, f, fd, dvs, kws, F => ⟨fun vs H Q E ⟨_, _, _, _, _, _, z, _⟩ => z.elim, fun A outer s H args us vs Q E _ _ _ _ _ ⟨_, _, _, _, _, _, z, _⟩ => z.elim⟩
  | d + 1, i, r, hi, f, fd, dvs, kws, F => by
    obtain ⟨fn, hf, ck⟩ := rowsC_at hck hi
    unfold rowC at ck
    simp only [Bool.and_eq_true, decide_eq_true_eq] at ck
    obtain ⟨⟨⟨c1, c2⟩, c3⟩, c4⟩ := ck
    have sc := scC_ok c3
    have len : ∀ vs H Q E, spG G (Ph prog (d + 1)) i vs H Q E → vs.length = r.ps.length := fun vs H Q E ⟨ds, h, R, Ex, rv, _, ⟨fn', hf', l, _⟩, _⟩ => by
      rw [hf] at hf'; cases hf'
      rw [rv.length, l, c1]
    refine FunD.okG F sc len fun cdv A outer s H vs Q E hr hgd ⟨ds, h, R, Ex, rv, rh, ⟨fn', hf', l, wp⟩, po, pe⟩ => ?_
    rw [hf] at hf'; cases hf'
    have hun : (A.deeper (envOfC r.qual r.sc s.heap.objs.size f cdv)).units + 100 < cLine := by have := hr.un; omega
    have tk : Takes (cxOf (L2.CX P w) P w G.K mg base r.N r.qual r.sc f cdv A outer s H E) (fun cls dd _ H' => E cls dd H') := takes_of rfl rfl rfl rfl
    have hp : PassesOwn (model P w) (A.deeper (envOfC r.qual r.sc s.heap.objs.size f cdv)) (envOfC r.qual r.sc s.heap.objs.size f cdv) (cxOf (L2.CX P w) P w G.K mg base r.N r.qual r.sc f cdv A outer s H E).xe := PassesOwn.leaving
    have y : Hy (cxOf (L2.CX P w) P w G.K mg base r.N r.qual r.sc f cdv A outer s H E) G (fun cls dd _ H' => E cls dd H') (Ph prog d) (d + 2) { c with N := r.N, sc := r.sc, top := true } :=
      ⟨⟨rfl, sc.nd, hgd, hun, hsy⟩, rfl, rfl, rfl, fun _ _ => rfl, tk, hr, by omega, S.cF, S.cI, S.cS, fun p hp => by
        obtain ⟨r', a, fd', dvs', kws', g, gV, q1, q2, q3, q4, q5⟩ := S.pats p hp
        exact ⟨a, fd', r'.ps, g, gV, q2, q3.kp, level hsy S SX SI hck d p.f r' q1 a fd' dvs' kws' q3, q4, q5⟩, fun p hp => (SX p hp).ok, SI⟩
    refine ⟨_, ckB_ok fn.body r.body _ _ y hp ⟨rfl, rfl⟩ c4, ?_⟩
    have e1 : L2.start r.N vs = vs.map some ++ List.replicate (fn.n - fn.ar) none := by
      unfold L2.start
      rw [c2, rv.length, l]
    refine ⟨_, h, ⟨fun _ h' => R .non h', R, fun _ _ => False, fun _ _ => False, fun c fs _ h' => Ex c fs h'⟩, ⟨?_, rh, fun c fs σd' h' cls dd σ' H' e rx rs rh' fm => pe c fs h' cls dd H' e rx rh' fm⟩, wp, ⟨fun σd' h' σ' H' q rs rh' fm => po _ _ _ _ q repV_non rh' fm, po, fun _ _ _ _ z => z.elim, fun _ _ _ _ z => z.elim⟩⟩
    rw [e1]
    exact PsRep rv _
end

/-! ### the law's end -/
theorem callerA_guards : callerA.guards = some [] := rfl
/-- the law's promise at the heap behind the top -/
theorem law_callG {P : Program} {w : World} {K : PySem.W.Frag} {mg mb : Str → Option Value} {k : Nat} {fa a : Addr} {fd : FuncData} {x : Str} {sp : Sp} {s₁ : Shared} {vs : List Value} {ns : List Int}
    (KX : K.In s₁.heap) (hns : s₁.heap.Ns mainGlobals mg) (hb : s₁.heap.Ns builtinsNs mb) (hbb : ∀ x : Str, x ≠ "__name__" → mb x = bootBuiltins x) (hlim : s₁.heap.NoLimit) (hg : s₁.gens = #[])
    (ha : s₁.heap.get? a = some { cls := .type "list", data := .seq vs.toArray }) (hi : IntsAre vs ns) (hl : ns.length ≤ sizeLine) (hr : Room k callerA)
    (hsy : ∃ o, s₁.heap.get? sysModules = some o ∧ o.cls = .type "dict")
    (F : ∀ base : Heap, (∃ o, base.get? sysModules = some o ∧ o.cls = .type "dict") → FnG P w K mg base k fa fd [x] sp) (hbind : ∀ (s : Shared) (u : Value), BindsTo s fd ⟨[u], []⟩ [(x, u)])
    (hsp : ∀ H : Hp, FzL K H a (ns.map V.int) → sp [.ref a] H (fun v _ => v = .bl true) fun _ _ _ => False) :
    codeAny (model P w) callerA (.call (.ref fa) ⟨[.ref a], []⟩) (fun r s' => r = .ok (.ret (.bool true)) ∧ OldK s₁.heap s'.heap ∧ s'.os = s₁.os ∧ AllBare s'.gens) s₁ := by
  have rv := vals_ints hi
  have lenV := hi.length
  have core : ∀ H : Hp, Only H → FzL K H a (ns.map V.int) → HOk P w H s₁.heap → (∀ b, H b ≠ none → b = a) → (H a ≠ none → K.lookup a = none) →
      codeAny (model P w) callerA (.call (.ref fa) ⟨[.ref a], []⟩) (fun r s' => r = .ok (.ret (.bool true)) ∧ OldK s₁.heap s'.heap ∧ s'.os = s₁.os ∧ AllBare s'.gens) s₁ := by
    intro H hO hS hok hA hK
    have base_of : ∀ {b : Addr} {o : Obj}, s₁.heap.get? b = some o → H b = none → (hidT s₁.heap H).get? b = some o := fun e n => hidT_get e n
    have noA : ∀ {b : Addr} {o : Obj}, s₁.heap.get? b = some o → o.cls ≠ .type "list" → H b = none := fun {b o} e d => by
      cases q : H b with
      | none => rfl
      | some u =>
        have e' : b = a := hA b (by rw [q]; simp)
        subst e'
        rw [ha] at e; cases e
        exact absurd rfl d
    have noD : ∀ {b : Addr} {o : Obj} {es : Array DictEntry} {ep : Nat}, s₁.heap.get? b = some o → o.data = .dict es ep → H b = none := fun {b o es ep} e d => by
      cases q : H b with
      | none => rfl
      | some u =>
        have e' : b = a := hA b (by rw [q]; simp)
        subst e'
        rw [ha] at e; cases e
        have d' : Data.seq vs.toArray _ = Data.dict es ep := d
        cases d'
    have nsK : ∀ {b : Addr} {m : Str → Option Value}, s₁.heap.Ns b m → (hidT s₁.heap H).Ns b m := fun {b m} ⟨o, es, ep, e, d, r⟩ => ⟨o, es, ep, base_of e (noD e d), d, r⟩
    have hKb : K.In (hidT s₁.heap H) := fun b o e => base_of (KX b o e) (by
      cases q : H b with
      | none => rfl
      | some u =>
        have e' : b = a := hA b (by rw [q]; simp)
        subst e'
        rw [hK (by rw [q]; simp)] at e; cases e)
    have hM : Mod K mg (hidT s₁.heap H) := ⟨hKb, nsK hns, ⟨mb, nsK hb, hbb⟩, let ⟨mc, h1, h2⟩ := hlim; ⟨mc, nsK h1, h2⟩⟩
    have e0 : Env0 P w K mg (hidT s₁.heap H) callerA [] s₁ H := ⟨rfl, hM, fun b o e => of_hidT e, Nat.le_of_eq (hidT_size _ _), trivial, fun b hb => absurd (show b ∈ ([] : List Addr) from hb) (by simp), hok, .of_eq hg⟩
    have hsy' : ∃ o, (hidT s₁.heap H).get? sysModules = some o ∧ o.cls = .type "dict" := by
      obtain ⟨o, e, q⟩ := hsy
      exact ⟨o, base_of e (noA e (by rw [q]; decide)), q⟩
    refine codeAny_mono ((F _ hsy').run callerA [] s₁ H ⟨[.ref a], []⟩ [.ref a] [.ref a] _ _ hr callerA_guards e0 (hbind s₁ (.ref a)) (.cons rfl .nil) (hsp H hS)) fun r s' h => ?_
    cases r with
    | error e =>
      obtain ⟨_, _, _, _, _, _, _, _, _, _, _, _, z⟩ := h
      exact z.elim
    | ok fl =>
      cases fl with
      | next => exact False.elim h
      | brk => exact False.elim h
      | cont => exact False.elim h
      | ret u =>
        obtain ⟨v, H', os, bare, un, hok', r', q⟩ := h
        have q' : v = .bl true := q
        subst q'
        obtain rfl : u = Value.bool true := r'
        refine ⟨rfl, OldK.of_keep fun b o e => ?_, os, bare⟩
        cases q : H b with
        | none => exact un.keep b o e q (by intro z; exact absurd (show b ∈ ([] : List Addr) from z) (by simp)) (by simp)
        | some u =>
          rcases hO b with z | ⟨ob, xs, z⟩
          · rw [q] at z; cases z
          · have z2 := un.frzs b ob _ z
            obtain ⟨e1, _⟩ := hok b _ z
            obtain ⟨e2, _⟩ := hok' b _ z2
            rw [e] at e1; cases e1
            exact e2
  cases hk : K.lookup a with
  | some o =>
    have e := KX a o hk
    rw [ha] at e
    cases e
    refine core (fun _ => none) (fun _ => .inl rfl) (.inr ⟨_, vs.toArray, _, hk, rfl, rfl, rfl, by rw [List.size_toArray, lenV]; exact hl, by simpa using rv⟩) (fun b u z => by have z' : (none : Option HO) = some u := z; cases z') (fun b z => absurd rfl z) fun z => absurd rfl z
  | none =>
    refine core (fun b => if b = a then some (.frz { cls := .type "list", data := .seq vs.toArray } (.lst (ns.map V.int))) else none) (fun b => ?_) (.inl ⟨{ cls := .type "list", data := .seq vs.toArray }, if_pos rfl⟩) (fun b u z => ?_) (fun b z => ?_) fun _ => hk
    · by_cases hb : b = a
      · exact .inr ⟨_, _, if_pos hb⟩
      · exact .inl (if_neg hb)
    · by_cases hb : b = a
      · have z' := (if_pos hb).symm.trans z
        cases z'
        subst hb
        exact ⟨ha, by rw [List.length_map]; exact hl, vs, _, rv, ha⟩
      · have z' := (if_neg hb).symm.trans z
        cases z'
    · by_cases hb : b = a
      · exact hb
      · exact absurd (if_neg hb) z

def isDict : Option Obj → Bool
  | some ⟨.type c, _, _, _⟩ => decide (c = "dict")
  | _ => false
theorem isDict_ok {o : Option Obj} (h : isDict o = true) : ∃ b, o = some b ∧ b.cls = .type "dict" := by
  unfold isDict at h
  split at h
  · exact ⟨_, rfl, congrArg Value.type (of_decide_eq_true h)⟩
  · cases h
/-- the facts by names, and that sys.modules stands -/
def hookS (n : Nat) (fa : List He.Fa) (fn : List He.DefD) : PySem.W.Hook where
  α := He.AlD × Bool
  obs := fun s => (He.obsDG n fa fn s.heap.get?, isDict (s.heap.get? sysModules))
  val := fun _ => (He.valD fn, true)
  says := fun _ h => (∃ K : PySem.W.Frag, K.In h ∧ He.SaysD fa fn K) ∧ ∃ o, h.get? sysModules = some o ∧ o.cls = .type "dict"
  of := fun _ s e => ⟨⟨_, He.frG_in, congrArg Prod.fst e⟩, isDict_ok (congrArg Prod.snd e)⟩
  keeps := fun _ _ _ ⟨⟨K, hK, c⟩, o, e, q⟩ k => ⟨⟨K, PySem.W.Frag.In.keeps hK k, c⟩, o, k _ _ e, q⟩
def obS (n : Nat) (fa : List He.Fa) (fn : List He.DefD) (s : PySem.W.SharedT) : He.AlD × Bool := (He.obsDG n fa fn (HandSHeadRun.getT s), isDict (HandSHeadRun.getT s sysModules))
theorem obS_eq {n : Nat} {fa : List He.Fa} {fn : List He.DefD} (s : PySem.W.SharedT) : obS n fa fn s = (hookS n fa fn).obs s.abs := by
  have e : HandSHeadRun.getT s = s.abs.heap.get? := funext (HandSHeadRun.getT_eq s)
  unfold obS
  rw [e] <;> rfl
/-- the facts by names, sys.modules, and more that a fragment shows -/
def hookX (n : Nat) (fa : List He.Fa) (fn : List He.DefD) (xb : PySem.W.Frag → Bool) : PySem.W.Hook where
  α := He.AlD × Bool × Bool
  obs := fun s => (He.obsDG n fa fn s.heap.get?, isDict (s.heap.get? sysModules), xb (He.frG s.heap.get? (He.asD s.heap.get? n)))
  val := fun _ => (He.valD fn, true, true)
  says := fun _ h => (∃ K : PySem.W.Frag, K.In h ∧ He.SaysD fa fn K ∧ xb K = true) ∧ ∃ o, h.get? sysModules = some o ∧ o.cls = .type "dict"
  of := fun _ s e => ⟨⟨_, He.frG_in, congrArg Prod.fst e, congrArg (fun z => z.2.2) e⟩, isDict_ok (congrArg (fun z => z.2.1) e)⟩
  keeps := fun _ _ _ ⟨⟨K, hK, c⟩, o, e, q⟩ k => ⟨⟨K, PySem.W.Frag.In.keeps hK k, c⟩, o, k _ _ e, q⟩
def obX (n : Nat) (fa : List He.Fa) (fn : List He.DefD) (xb : PySem.W.Frag → Bool) (s : PySem.W.SharedT) : He.AlD × Bool × Bool := (He.obsDG n fa fn (HandSHeadRun.getT s), isDict (HandSHeadRun.getT s sysModules), xb (He.frG (HandSHeadRun.getT s) (He.asD (HandSHeadRun.getT s) n)))
theorem obX_eq {n : Nat} {fa : List He.Fa} {fn : List He.DefD} {xb : PySem.W.Frag → Bool} (s : PySem.W.SharedT) : obX n fa fn xb s = (hookX n fa fn xb).obs s.abs := by
  have e : HandSHeadRun.getT s = s.abs.heap.get? := funext (HandSHeadRun.getT_eq s)
  unfold obX
  rw [e] <;> rfl
/-- a law whose script holds ints, by the D layer -/
theorem walk_ofD {l : PySem.W.OpenLaw} {n k i : Nat} {q : Program} {loose : List Str} {XP : (Str → Option Value) → Heap → Prop} {fa : List He.Fa} {fn : List He.DefD} {m : Nat} {dr : DefRec} {c : Ctx} {rows : List Row} {prog : List Fn} {r : Row} {dvs : PySem.W.Frag → List V} {kws : PySem.W.Frag → List (Str × V)}
    {xb : PySem.W.Frag → Bool} (hn : l.most = some n) (hn2 : n ≤ sizeLine) (hdf : dr.params.defaults = []) (hr : Room (k + 2) callerA) (hck : rowsC c rows prog = true) (hi : rows[i]? = some r) (hx : r.ps = [("script" : Str)])
    (gr : PySem.W.Frag → Gr) (hgr : ∀ K, (gr K).K = K)
    (hF : ∀ (K : PySem.W.Frag) (mg : Str → Option Value) (h : Heap), K.In h → h.Ns mainGlobals mg → He.SaysD fa fn K → xb K = true → Facts K mg c rows ∧ (∀ p ∈ c.xs, XFact (gr K) mg p) ∧ (∀ q ∈ c.xi, PySem.W.kitAny K (.ref ((gr K).cl q.1)) (q.2.1.map (cnV (gr K))) = some q.2.2) ∧ ∃ (a : Addr) (fd : FuncData), mg dr.name = some (.ref a) ∧ FunD K r.x r.qual r.params r.body r.sc (dvs K) (kws K) a fd ∧ ∀ (s : Shared) (u : Value), BindsTo s fd ⟨[u], []⟩ [(("script" : Str), u)])
    (law : ∀ ns : List Int, ns.length ≤ n → Ph prog k i [.scr (ns.map D.int)] (fun _ => none) (fun v _ => v = .bl true) (fun _ _ _ => False)) :
    PySem.W.WalkO q loose XP (hookX m fa fn xb).says l.row.toRowW dr [] (fun f vs => PySem.call f vs) := by
  refine Att.attach_call hn hdf fun w s₀ s₁ mg mb fa' o pm cd doc a vs ns Gd Y ho hd hcd hmg hobj hints hlen hg => ?_
  obtain ⟨⟨K, KX, says, xk⟩, hsy⟩ := Y
  obtain ⟨S, SX, SI, a', fd, e1, F, hb⟩ := hF K mg _ KX Gd.T.g says xk
  have eK := hgr K
  generalize gr K = G at SX SI eK
  subst eK
  rw [hmg] at e1
  cases e1
  refine law_callG (k := k + 2) (fd := fd) (x := "script") (sp := spG G (Ph prog k) i) KX Gd.T.g Gd.T.b Gd.T.builtins Gd.T.nolimit hg hobj hints (Nat.le_trans hlen hn2) hr hsy (fun base hs => ?_) hb fun H hS => ?_
  · have q := level (P := l.prog) (w := w) (G := G) (base := base) hs S SX SI hck k i r hi fa' fd (dvs G.K) (kws G.K) F
    rw [hx] at q
    exact q
  · refine ⟨[.scr (ns.map D.int)], fun _ => none, fun v _ => v = .bl true, fun _ _ _ => False, ?_, (show RepH G (fun _ => none) H from fun _ _ z => nomatch z), law ns hlen, (show Post G (fun _ => none) H (fun v _ => v = .bl true) (fun v _ => v = .bl true) from fun d h' v H' e rv _ _ => by
      rw [e] at rv
      exact rv.bl_inv), (show PostE G (fun _ => none) H (fun _ _ _ => False) (fun _ _ _ => False) from fun _ _ _ _ _ _ z => z.elim)⟩
    · refine repVs_cons (repV_scr.mpr ⟨a, _, rfl, hS, ?_⟩) repVs_nil
      have : ∀ ns : List Int, RepVs G.K H (ns.map D.int) (ns.map V.int) := fun ns => by
        induction ns with
        | nil => exact repVs_nil
        | cons x xs ih => exact repVs_cons repV_int ih
      exact this ns
end DL
set_option Elab.async false
set_option linter.all false
set_option maxRecDepth 100000
set_option maxHeartbeats 4000000
/-! The D layer, 16: how defs are called. -/
namespace DL
open PySem PySem.Spec PyProof.Rows L2

def pick {α : Type} (us its ws : List α) : Nat × Nat → Option α
  | (0, i) => us[i]?
  | (1, i) => its[i]?
  | (_, i) => ws[i]?
def gA {α : Type} (src : List (Nat × Nat)) (us its ws : List α) : List α := src.filterMap (pick us its ws)
theorem vals_opt {vs : List V} {us : List Value} (r : Vals vs us) (i : Nat) : (vs[i]? = none ∧ us[i]? = none) ∨ ∃ v u, vs[i]? = some v ∧ us[i]? = some u ∧ RelV v u := by
  cases e : vs[i]? with
  | none => exact .inl ⟨rfl, r.none_of e⟩
  | some v => obtain ⟨u, h1, h2⟩ := r.get e; exact .inr ⟨v, u, rfl, h1, h2⟩
theorem gA_vals {vs ds zs : List V} {us its ws : List Value} (r1 : Vals vs us) (r2 : Vals ds its) (r3 : Vals zs ws) : ∀ src : List (Nat × Nat), Vals (gA src vs ds zs) (gA src us its ws)
  | [] => .nil
  | q :: src => by
    have ih := gA_vals r1 r2 r3 src
    have key : (pick vs ds zs q = none ∧ pick us its ws q = none) ∨ ∃ v u, pick vs ds zs q = some v ∧ pick us its ws q = some u ∧ RelV v u := by
      obtain ⟨a, i⟩ := q
      match a with
      | 0 => exact vals_opt r1 i
      | 1 => exact vals_opt r2 i
      | n + 2 => exact vals_opt r3 i
    unfold gA at ih ⊢
    rcases key with ⟨e1, e2⟩ | ⟨v, u, e1, e2, r⟩
    · rw [List.filterMap_cons, List.filterMap_cons, e1, e2]; exact ih
    · rw [List.filterMap_cons, List.filterMap_cons, e1, e2]; exact .cons r ih
/-- a default as a value -/
def dvD : He.Dv → Option D
  | .non => some .non
  | .bl b => some (.bl b)
  | .int i => some (.int i)
  | .str x => some (.str x)
  | _ => none
theorem dvD_rep {K : PySem.W.Frag} {H : Hp} {d : He.Dv} {x : D} (h : dvD d = some x) : RepV K H x (d.v K) := by
  cases d <;> first | (cases h; exact repV_non) | (cases h; exact repV_bl) | (cases h; exact repV_int) | (cases h; exact repV_str) | cases h
def arrC (n m : Nat) (dfl : List He.Dv) : List (Nat × Nat) → List (Nat ⊕ D) → Bool
  | [], [] => true
  | (0, i) :: s, .inl j :: r => decide (i = j) && decide (i < n) && arrC n m dfl s r
  | (1, i) :: s, .inr d :: r => (match dfl[i]? with
    | some v => (match dvD v with
      | some x => eqLR [.inr x] [.inr d]
      | none => false)
    | none => false) && arrC n m dfl s r
  | (2, i) :: s, .inl j :: r => decide (n + i = j) && decide (i < m) && arrC n m dfl s r
  | _, _ => false
theorem arr_ok {K : PySem.W.Frag} {H : Hp} {n m : Nat} {dfl : List He.Dv} {ds es : List D} {vs zs : List V} (rd : RepVs K H ds vs) (re : RepVs K H es zs) (l1 : ds.length = n) (l2 : es.length = m) : ∀ (src : List (Nat × Nat)) (arr : List (Nat ⊕ D)), arrC n m dfl src arr = true →
    RepVs K H (arrOf (ds ++ es) arr) (gA src vs (dfl.map (He.Dv.v K)) zs)
  | src, arr, h => by
    unfold arrC at h
    split at h
    · exact repVs_nil
    · rename_i i s j r
      simp only [Bool.and_eq_true, decide_eq_true_eq] at h
      obtain ⟨⟨rfl, hl⟩, h⟩ := h
      have ih := arr_ok rd re l1 l2 s r h
      have ed : ds[i]? = some ds[i] := List.getElem?_eq_getElem (by omega)
      obtain ⟨v, ev, rv⟩ := rd.get ed
      have e1 : gA ((0, i) :: s) vs (dfl.map (He.Dv.v K)) zs = v :: gA s vs (dfl.map (He.Dv.v K)) zs := by
        unfold gA
        rw [List.filterMap_cons, show pick vs (dfl.map (He.Dv.v K)) zs (0, i) = some v from ev]
      have e2 : (ds ++ es).getD i .non = ds[i] := by
        rw [List.getD_eq_getElem?_getD, List.getElem?_append_left (by omega), ed] <;> rfl
      rw [e1]
      show RepVs K H ((ds ++ es).getD i .non :: _) _
      rw [e2]
      exact repVs_cons rv ih
    · rename_i i s d r
      rw [Bool.and_eq_true] at h
      have ih := arr_ok rd re l1 l2 s r h.2
      have h1 := h.1
      split at h1
      · rename_i v ev
        split at h1
        · rename_i x ex
          have := eqLR_ok h1
          simp only [List.cons.injEq, Sum.inr.injEq, and_true] at this
          subst this
          have e1 : gA ((1, i) :: s) vs (dfl.map (He.Dv.v K)) zs = v.v K :: gA s vs (dfl.map (He.Dv.v K)) zs := by
            unfold gA
            rw [List.filterMap_cons, show pick vs (dfl.map (He.Dv.v K)) zs (1, i) = some (v.v K) from by show (dfl.map (He.Dv.v K))[i]? = _; rw [List.getElem?_map, ev] <;> rfl]
          rw [e1]
          exact repVs_cons (dvD_rep ex) ih
        · cases h1
      · cases h1
    · rename_i i s j r
      simp only [Bool.and_eq_true, decide_eq_true_eq] at h
      obtain ⟨⟨rfl, hl⟩, h⟩ := h
      have ih := arr_ok rd re l1 l2 s r h
      have ed : es[i]? = some es[i] := List.getElem?_eq_getElem (by omega)
      obtain ⟨v, ev, rv⟩ := re.get ed
      have e1 : gA ((2, i) :: s) vs (dfl.map (He.Dv.v K)) zs = v :: gA s vs (dfl.map (He.Dv.v K)) zs := by
        unfold gA
        rw [List.filterMap_cons, show pick vs (dfl.map (He.Dv.v K)) zs (2, i) = some v from ev]
      have e2 : (ds ++ es).getD (n + i) .non = es[i] := by
        rw [List.getD_eq_getElem?_getD, List.getElem?_append_right (by omega), show n + i - ds.length = i from by omega, ed] <;> rfl
      rw [e1]
      show RepVs K H ((ds ++ es).getD (n + i) .non :: _) _
      rw [e2]
      exact repVs_cons rv ih
    · cases h
/-- a pattern's facts, of whatever heap -/
def PB (rows : List Row) (r : Row) (d : He.DefD) (p : Pat) : Prop := rows[p.f]? = some r ∧ ∀ (K : PySem.W.Frag) (a : Addr) (fd : FuncData), FunD K r.x r.qual r.params r.body r.sc (d.dvs K) (d.kws K) a fd → ∃ (g : List Value → List Value → List Value) (gV : List V → List V → List V), KBn K fd r.ps p.n p.ks g gV ∧
  ∀ H ds vs es zs, RepVs K H ds vs → RepVs K H es zs → ds.length = p.n → es.length = p.ks.length → RepVs K H (arrOf (ds ++ es) p.arr) (gV vs zs)
/-- every parameter is written, there are no defaults -/
theorem pb_plain {rows : List Row} {r : Row} {d : He.DefD} {p : Pat} (h0 : rows[p.f]? = some r) (hd : d.dfl = []) (hk : p.ks = []) (hn : p.n = r.ps.length) (ha : idArr 0 p.arr p.n = true)
    (h : ∀ (kV doc pm : Value) (an : Option Addr) (cdv ct : Value) (us : List Value), us.length = r.ps.length → bindArgs (PySem.W.fnOf r.x r.qual r.params r.body r.sc .none kV doc pm an cdv ct) ⟨us, []⟩ = pure (r.ps.zip us)) : PB rows r d p := ⟨h0, fun K a fd F => by
  have e : d.dvs K = [] := by unfold He.DefD.dvs; rw [hd] <;> rfl
  rw [e] at F
  have b := F.bindsN (ps := r.ps) h
  refine ⟨fun us _ => us, fun vs _ => vs, ⟨fun s us ws X l1 l2 => ?_, fun r1 _ => r1⟩, fun H ds vs es zs rd re l1 l2 => ?_⟩
  · have q := b s us X (by rw [List.append_nil, l1, hn])
    rw [List.append_nil] at q
    rw [hk]
    exact q
  · have z : es = [] := List.eq_nil_of_length_eq_zero (by rw [l2, hk]; rfl)
    rw [z, List.append_nil, idArr_ok (i := 0) (n := p.n) (ds := ds) ha (by omega)]
    exact rd⟩
theorem pb_dfl {rows : List Row} {r : Row} {d : He.DefD} {p : Pat} (src : List (Nat × Nat)) (h0 : rows[p.f]? = some r) (hd : d.dfl ≠ []) (ha : arrC p.n p.ks.length d.dfl src p.arr = true)
    (h : ∀ (T : Addr) (kV doc pm : Value) (an : Option Addr) (cdv ct : Value) (us its ws : List Value), us.length = p.n → its.length = d.dfl.length → ws.length = p.ks.length →
      ∃ k, bindArgs (PySem.W.fnOf r.x r.qual r.params r.body r.sc (.ref T) kV doc pm an cdv ct) ⟨us, p.ks.zip ws⟩ = seqItems? (.ref T) >>= k ∧ k (some its.toArray) = pure (r.ps.zip (gA src us its ws))) : PB rows r d p := ⟨h0, fun K a fd F => by
  have e : d.dvs K ≠ [] := by unfold He.DefD.dvs; exact fun z => hd (List.map_eq_nil_iff.mp z)
  have el : (d.dvs K).length = d.dfl.length := by unfold He.DefD.dvs; rw [List.length_map]
  obtain ⟨its, kb⟩ := F.kbindsD (ps := r.ps) p.n p.ks (gA src) e (fun r1 r2 r3 => gA_vals r1 r2 r3 src) (fun T kV doc pm an cdv ct us its ws l1 l2 l3 => h T kV doc pm an cdv ct us its ws l1 (l2.trans el) l3)
  exact ⟨_, _, kb, fun H ds vs es zs rd re l1 l2 => arr_ok rd re l1 l2 src p.arr ha⟩⟩

/-! ### the facts, from what the Hook says -/
def faOf (names cF : List Str) (cI : List (Str × Int)) (cS : List (Str × Str)) : List He.Fa := names.map .glo ++ (cF.map .free ++ (cI.map (fun p => .int p.1 p.2) ++ cS.map fun p => .str p.1 p.2))
/-- one pattern, all that is seen of it -/
structure PC' (fn : List He.DefD) (names : List Str) (rows : List Row) (p : Pat) : Prop where
  ex : ∃ d r, fn[p.f]? = some d ∧ p.x ∈ names ∧ d.at_ = (p.x, none) ∧ r.x = d.name ∧ r.qual = d.qual ∧ r.params = d.params ∧ r.body = d.body ∧ r.sc = d.scope ∧ PB rows r d p
theorem all_nil {α : Type} {P : α → Prop} : ∀ x ∈ ([] : List α), P x := fun _ h => nomatch h
theorem all_cons {α : Type} {P : α → Prop} {a : α} {l : List α} (h : P a) (t : ∀ x ∈ l, P x) : ∀ x ∈ a :: l, P x := fun x hx => by
  rcases List.mem_cons.mp hx with rfl | hx
  · exact h
  · exact t x hx
theorem facts_ok {names : List Str} {fn : List He.DefD} {K : PySem.W.Frag} {h : Heap} {mg : Str → Option Value} {c : Ctx} {rows : List Row} (X : K.In h) (Gd : h.Ns mainGlobals mg) (says : He.SaysD (faOf names c.cF c.cI c.cS) fn K)
    (hP : ∀ p ∈ c.pats, PC' fn names rows p) : Facts K mg c rows := by
  have fact : ∀ f : He.Fa, f ∈ faOf names c.cF c.cI c.cS → f.ok K = true := fun f hf => by
    obtain ⟨i, hi⟩ := List.getElem?_of_mem hf
    exact says.fact i hi
  unfold faOf at fact
  refine ⟨fun x hx => He.free_ok X Gd (fact _ ?_), fun p hp => ?_, fun p hp => ?_, fun p hp => ?_⟩
  · exact List.mem_append_right _ (List.mem_append_left _ (List.mem_map.mpr ⟨x, hx, rfl⟩))
  · obtain ⟨t, e⟩ := He.int_ok X Gd (fact (.int p.1 p.2) (List.mem_append_right _ (List.mem_append_right _ (List.mem_append_left _ (List.mem_map.mpr ⟨p, hp, rfl⟩)))))
    exact ⟨_, e, t, rfl⟩
  · obtain ⟨t, e⟩ := He.str_ok X Gd (fact (.str p.1 p.2) (List.mem_append_right _ (List.mem_append_right _ (List.mem_append_right _ (List.mem_map.mpr ⟨p, hp, rfl⟩)))))
    exact ⟨_, e, t, rfl⟩
  · obtain ⟨d, r, e1, e2, e3, q1, q2, q3, q4, q5, pb⟩ := (hP p hp).ex
    obtain ⟨fd, F⟩ := says.def_ p.f e1
    rw [← q1, ← q2, ← q3, ← q4, ← q5] at F
    obtain ⟨h0, kb⟩ := pb
    obtain ⟨g, gV, k1, k2⟩ := kb K _ fd F
    refine ⟨r, He.fAd K d.at_, fd, d.dvs K, d.kws K, g, gV, h0, ?_, F, k1, k2⟩
    rw [e3]
    exact He.glo_ok X Gd (fact (.glo p.x) (List.mem_append_left _ (List.mem_map.mpr ⟨_, e2, rfl⟩)))
end DL
set_option Elab.async false
set_option linter.all false
set_option maxRecDepth 100000
set_option maxHeartbeats 4000000
/-! The D layer, exceptions 5: own classes of exceptions, from what a fragment shows. -/
namespace DL
open PySem PySem.Spec PyProof.Rows L2

/-- what they stand on -/
inductive Bs where
  | val | ari | run | idx | lok
def Bs.nm : Bs → String
  | .val => "ValueError" | .ari => "ArithmeticError" | .run => "RuntimeError" | .idx => "IndexError" | .lok => "LookupError"
def Bs.nI : Bs → String
  | .val => "ValueError.__new__" | .ari => "ArithmeticError.__new__" | .run => "RuntimeError.__new__" | .idx => "IndexError.__new__" | .lok => "LookupError.__new__"
def Bs.iI : Bs → String
  | .val => "ValueError.__init__" | .ari => "ArithmeticError.__init__" | .run => "RuntimeError.__init__" | .idx => "IndexError.__init__" | .lok => "LookupError.__init__"
def Bs.bm : Bs → List Value
  | .val => [.type "ValueError", .type "Exception", .type "BaseException", .type "object"]
  | .ari => [.type "ArithmeticError", .type "Exception", .type "BaseException", .type "object"]
  | .run => [.type "RuntimeError", .type "Exception", .type "BaseException", .type "object"]
  | .idx => [.type "IndexError", .type "LookupError", .type "Exception", .type "BaseException", .type "object"]
  | .lok => [.type "LookupError", .type "Exception", .type "BaseException", .type "object"]
theorem Bs.fb : ∀ b : Bs, ExcBaseFacts b.nm b.nI b.iI b.bm
  | .val => PySem.F.excBase_ValueError
  | .ari => PySem.F.excBase_ArithmeticError
  | .run => PySem.F.excBase_RuntimeError
  | .idx => PySem.F.excBase_IndexError
  | .lok => PySem.F.excBase_LookupError
theorem Bs.sf : ∀ b : Bs, StoreFacts b.nm b.bm "object.__setattr__" "object"
  | .val => PySem.F.store_ValueError
  | .ari => PySem.F.store_ArithmeticError
  | .run => PySem.F.store_RuntimeError
  | .idx => PySem.F.store_IndexError
  | .lok => PySem.F.store_LookupError
/-- a class: its name, what it notes, under which name its __init__ takes it -/
structure Xd where
  x : Str
  f : Str
  b : Bs
  pn : Str
def grOf (ds : List Xd) (K : PySem.W.Frag) : Gr := ⟨K, fun c => He.ga K ((ds.map Xd.x).getD c ""), ds.length⟩
def xesOf (ds : List Xd) : List Xe := ds.zipIdx.map fun q => ⟨q.1.x, q.2, q.1.f⟩
def oneB (K : PySem.W.Frag) (C : Addr) (d : Xd) : Bool :=
  PySem.W.excInitIn K C d.b.bm d.b.nI && (PySem.W.excOver K C d.b.bm && (PySem.W.hasDictIn K C && (He.eqO (PySem.W.findIn K (.ref C) "__setattr__") (some (some (.builtin "object.__setattr__"))) &&
  (decide (PySem.W.subIn K (.ref C) (.type "BaseException") = some true) && (decide (PySem.W.typeIn K (.ref C) = some (.type "type")) && (PySem.W.keepIn K (.ref C) &&
  (He.eqO (PySem.W.findIn K (.ref C) "__init__") (some (some (.ref (He.ma K C "__init__")))) && (decide (PySem.W.typeIn K (.ref (He.ma K C "__init__")) = some (.type "function")) && (decide (PySem.W.takerIn K C d.f = some none) &&
  (xfB K C && (He.eqO (PySem.W.findIn K (.ref C) d.f) (some none) && ((PySem.W.clsIn K C).isSome && (He.eqO (PySem.W.findIn K (.ref C) "__class__") (some (some (.builtin "object.__class__"))) &&
  (He.eqO (PySem.W.specialIn K (.builtin "object.__class__") "__get__") (some (some (.builtin "getset_descriptor.__get__"))) && (decide (PySem.W.takesIn K (.builtin "object.__class__") = some true) && decide (PySem.W.mroIn K C (.type "object") = some true))))))))))))))))
def xsB (ds : List Xd) (xi : List (Nat × List CN × Bool)) (K : PySem.W.Frag) : Bool :=
  (ds.all fun d => (He.Fa.glo d.x).ok K && oneB K (He.ga K d.x) d) &&
  ((ds.zipIdx.all fun q => ds.zipIdx.all fun p => decide (PySem.W.exmOne K (.ref (He.ga K q.1.x)) (.ref (He.ga K p.1.x)) = some (decide (q.2 = p.2)))) &&
  (xi.all fun q => decide (PySem.W.kitAny K (.ref ((grOf ds K).cl q.1)) (q.2.1.map (cnV (grOf ds K))) = some q.2.2)))
/-- the def of its __init__, as the text has it -/
structure XD (fn : List He.DefD) (d : Xd) : Prop where
  ex : ∃ (j : Nat) (de : He.DefD) (p1 p2 p3 p4 : Pos), fn[j]? = some de ∧ de.at_ = (d.x, some ("__init__" : Str)) ∧ de.name = "__init__" ∧ de.dfl = [] ∧ de.body = [.Assign [.Attribute (.Name "self" p1) d.f p2] (.Name d.pn p3) p4] ∧ FnScope ["self", d.pn] ["self", d.pn] de.scope ∧
    de.scope.names.lookup ("self" : Str) = some NameKind.local ∧ de.scope.names.lookup d.pn = some NameKind.local ∧ (d.pn == ("__debug__" : Str)) = false ∧ (d.pn == ("__classdict__" : Str)) = false ∧
    ∀ (kV doc pm : Value) (an : Option Addr) (cdv ct : Value) (us : List Value), us.length = 2 → bindArgs (PySem.W.fnOf de.name de.qual de.params de.body de.scope .none kV doc pm an cdv ct) ⟨us, []⟩ = pure ((["self", d.pn] : List Str).zip us)
theorem at_zip {α : Type} {l : List α} {q : α × Nat} (h : q ∈ l.zipIdx) : l[q.2]? = some q.1 := by
  have := List.mem_zipIdx' (x := q.1) (i := q.2) (xs := l) h
  exact (List.getElem?_eq_getElem this.1).trans (congrArg some this.2.symm)
theorem zip_at {α : Type} {l : List α} {i : Nat} {x : α} (h : l[i]? = some x) : (x, i) ∈ l.zipIdx := by
  refine List.mem_iff_getElem?.mpr ⟨i, ?_⟩
  rw [List.getElem?_zipIdx, h]
  simp
theorem cl_at {ds : List Xd} {K : PySem.W.Frag} {i : Nat} {d : Xd} (h : ds[i]? = some d) : (grOf ds K).cl i = He.ga K d.x := by
  show He.ga K ((ds.map Xd.x).getD i "") = _
  rw [List.getD_eq_getElem?_getD, List.getElem?_map, h] <;> rfl
theorem xfacts_ok {ds : List Xd} {xi : List (Nat × List CN × Bool)} {fn : List He.DefD} {fa : List He.Fa} {K : PySem.W.Frag} {h : Heap} {mg : Str → Option Value} (X : K.In h) (Gd : h.Ns mainGlobals mg) (says : He.SaysD fa fn K) (hx : xsB ds xi K = true) (hd : ∀ d ∈ ds, XD fn d) :
    (∀ p ∈ xesOf ds, XFact (grOf ds K) mg p) ∧ ∀ q ∈ xi, PySem.W.kitAny K (.ref ((grOf ds K).cl q.1)) (q.2.1.map (cnV (grOf ds K))) = some q.2.2 := by
  obtain ⟨hx1, hx⟩ := He.ba hx
  obtain ⟨hx2, hx3⟩ := He.ba hx
  rw [List.all_eq_true] at hx1 hx2 hx3
  refine ⟨fun p hp => ?_, fun q hq => of_decide_eq_true (hx3 q hq)⟩
  obtain ⟨⟨d, i⟩, hm, rfl⟩ := List.mem_map.mp hp
  have hi : ds[i]? = some d := at_zip hm
  have dm : d ∈ ds := List.mem_of_getElem? hi
  have il : i < ds.length := (List.getElem?_eq_some_iff.mp hi).1
  have ec := cl_at (K := K) hi
  obtain ⟨g0, o⟩ := He.ba (hx1 d dm)
  obtain ⟨o1, o⟩ := He.ba o
  obtain ⟨o2, o⟩ := He.ba o
  obtain ⟨o3, o⟩ := He.ba o
  obtain ⟨o4, o⟩ := He.ba o
  obtain ⟨o5, o⟩ := He.ba o
  obtain ⟨o6, o⟩ := He.ba o
  obtain ⟨o7, o⟩ := He.ba o
  obtain ⟨o8, o⟩ := He.ba o
  obtain ⟨o9, o⟩ := He.ba o
  obtain ⟨o10, o⟩ := He.ba o
  obtain ⟨o11, o⟩ := He.ba o
  obtain ⟨o12, o⟩ := He.ba o
  obtain ⟨o13, o⟩ := He.ba o
  obtain ⟨o14, o⟩ := He.ba o
  obtain ⟨o15, o⟩ := He.ba o
  obtain ⟨o16, o17⟩ := He.ba o
  obtain ⟨j, de, p1, p2, p3, p4, e1, e2, e3, e4, e5, S, l1, l2, d1, d2, hb⟩ := (hd d dm).ex
  obtain ⟨fd, F⟩ := says.def_ j e1
  have ef : He.fAd K de.at_ = He.ma K (He.ga K d.x) "__init__" := by rw [e2] <;> rfl
  have ev : de.dvs K = [] := by unfold He.DefD.dvs; rw [e4] <;> rfl
  rw [ev] at F
  have B : Binds K fd ["self", d.pn] [] := F.bindsN hb
  rw [ef, e3, e5] at F
  have key : ∀ {P : Addr → Prop}, P (He.ga K d.x) → P ((grOf ds K).cl i) := fun {P} q => by rw [ec]; exact q
  refine ⟨il, key (P := fun C => mg d.x = some (.ref C)) (He.glo_ok X Gd g0), ?_, fun c' hc' => ?_, ?_, ?_, ?_⟩
  · refine ⟨d.b.nm, d.b.nI, d.b.iI, d.b.bm, He.ma K (He.ga K d.x) "__init__", fd, de.qual, d.pn, de.params, de.scope, de.kws K, p1, p2, p3, p4, ?_, ?_, of_decide_eq_true o9, ?_, F, S, l1, l2, d1, d2, B⟩
    · exact key ⟨d.b.fb, d.b.sf, o1, o2, o3, He.eqO_ok o4, of_decide_eq_true o5, of_decide_eq_true o6, o7⟩
    · exact key (P := fun C => PySem.W.findIn K (.ref C) "__init__" = _) (He.eqO_ok o8)
    · exact key (P := fun C => PySem.W.takerIn K C d.f = _) (of_decide_eq_true o10)
  · obtain ⟨d', hd'⟩ : ∃ d', ds[c']? = some d' := ⟨ds[c'], List.getElem?_eq_getElem hc'⟩
    have z := of_decide_eq_true (List.all_eq_true.mp (hx2 (d', c') (zip_at hd')) (d, i) (zip_at hi))
    rw [cl_at hd', ec]
    exact z
  · exact key (xfB_ok o11)
  · exact key (P := fun C => PySem.W.findIn K (.ref C) d.f = _) (He.eqO_ok o12)
  · exact key ⟨o13, He.eqO_ok o14, He.eqO_ok o15, of_decide_eq_true o16, of_decide_eq_true o17⟩
end DL
set_option Elab.async false
set_option linter.all false
set_option maxRecDepth 100000
set_option maxHeartbeats 0
namespace LW
open PySem PySem.Spec PyProof.Rows L2 DL
/-- is_whole: 0 thing 1 low 2 high -/
def f_is_whole : Fn := ⟨3, 3,
  [.ret (.and (.isi (.var 0) [.int]) (.and (.not (.isi (.var 0) [.bool])) (.chn .LtE .LtE (.var 1) (.var 0) (.var 2))))]⟩
/-- is_word: 0 thing 1 sign -/
def f_is_word : Fn := ⟨2, 1,
  [.ret (.and (.isi (.var 0) [.str]) (.and (.chn .Lt .LtE (.cst (.int 0)) (.bi .len [.var 0]) (.cst (.int 8))) (.bi .all [.lc (.cmp .In (.var 1) (.cst (.str "abcdefghijklmnopqrstuvwxyz"))) (.nm 1) (.of (.var 0)) none [1]])))]⟩
/-- is_way: 0 thing -/
def f_is_way : Fn := ⟨1, 1,
  [.ret (.and (.callk 0 [.var 0] [] [.inl 0, .inr (.int (-1000000000000000000)), .inr (.int 1000000000000000000)]) (.cmp .In (.var 0) (.tup [.cst (.int 1), .neg (.cst (.int 1))])))]⟩
/-- last_of: 0 stretch 1 word 2 first 3 many 4 way -/
def f_last_of : Fn := ⟨5, 1,
  [.asg (.tup [.nm 1, .nm 2, .nm 3, .nm 4]) (.var 0),
   .ret (.bin .Add (.var 2) (.bin .Mult (.var 4) (.bin .Sub (.var 3) (.cst (.int 1)))))]⟩
/-- is_stretch: 0 thing -/
def f_is_stretch : Fn := ⟨1, 1,
  [.ifs (.or (.not (.val (.isi (.var 0) [.tuple]))) (.or (.cmp .NotEq (.bi .len [.var 0]) (.cst (.int 4))) (.or (.not (.val (.call 1 [.ix (.var 0) (.cst (.int 0))]))) (.not (.val (.call 2 [.ix (.var 0) (.cst (.int 3))]))))))
    [.ret (.cst (.bl false))]
    [],
   .ifs (.or (.not (.val (.callk 0 [.ix (.var 0) (.cst (.int 1))] [.cst (.int 0)] [.inl 0, .inl 1, .inr (.int 1000000000000000000)]))) (.not (.val (.callk 0 [.ix (.var 0) (.cst (.int 2))] [.cst (.int 1), .bin .Add (.cst (.int 1000000000000000000)) (.cst (.int 1))] [.inl 0, .inl 1, .inl 2]))))
    [.ret (.cst (.bl false))]
    [],
   .ret (.chn .LtE .LtE (.cst (.int 0)) (.call 3 [.var 0]) (.cst (.int 1000000000000000000)))]⟩
/-- is_row: 0 thing 1 one -/
def f_is_row : Fn := ⟨2, 1,
  [.ret (.and (.isi (.var 0) [.list, .tuple]) (.bi .all [.lc (.call 4 [.var 1]) (.nm 1) (.of (.var 0)) none [1]]))]⟩
/-- goes_on: 0 stretch 1 other 2 same -/
def f_goes_on : Fn := ⟨3, 2,
  [.asg (.nm 2) (.cmp .Eq (.tup [.ix (.var 0) (.cst (.int 0)), .ix (.var 0) (.cst (.int 3))]) (.tup [.ix (.var 1) (.cst (.int 0)), .ix (.var 1) (.cst (.int 3))])),
   .ret (.and (.var 2) (.cmp .Eq (.ix (.var 1) (.cst (.int 1))) (.bin .Add (.call 3 [.var 0]) (.ix (.var 0) (.cst (.int 3))))))]⟩
/-- joined: 0 row 1 found 2 stretch 3 word 4 first 5 many 6 way -/
def f_joined : Fn := ⟨7, 1,
  [.asg (.nm 1) (.lst []),
   .for (.nm 2) (.of (.var 0))
    [.ifs (.and (.cmp .NotEq (.var 1) (.lst [])) (.val (.call 6 [.ix (.var 1) (.neg (.cst (.int 1))), .var 2])))
      [.asg (.tup [.nm 3, .nm 4, .nm 5, .nm 6]) (.met .pop (.var 1) []),
       .asg (.nm 2) (.tup [.var 3, .var 4, .bin .Add (.var 5) (.ix (.var 2) (.cst (.int 2))), .var 6])]
      [],
     .ex (.met .append (.var 1) [.var 2])],
   .ret (.var 1)]⟩
/-- yards: 0 row 1 stretch -/
def f_yards : Fn := ⟨2, 1,
  [.ret (.bi .sum [.lc (.ix (.var 1) (.cst (.int 2))) (.nm 1) (.of (.var 0)) none [1]])]⟩
/-- turned_stretch: 0 stretch -/
def f_turned_stretch : Fn := ⟨1, 1,
  [.ret (.tup [.ix (.var 0) (.cst (.int 0)), .call 3 [.var 0], .ix (.var 0) (.cst (.int 2)), .neg (.ix (.var 0) (.cst (.int 3)))])]⟩
/-- turned: 0 row 1 stretch -/
def f_turned : Fn := ⟨2, 1,
  [.ret (.call 7 [.lc (.call 9 [.var 1]) (.nm 1) (.rev (.var 0)) none [1]])]⟩
/-- parted: 0 row 1 at 2 top 3 rest 4 left 5 word 6 first 7 many 8 way 9 part -/
def f_parted : Fn := ⟨10, 2,
  [.ifs (.not (.val (.callk 0 [.var 1] [.cst (.int 0), .call 8 [.var 0]] [.inl 0, .inl 1, .inl 2])))
    [.rai 1 "asked" (.var 1)]
    [],
   .asg (.tup [.nm 2, .nm 3, .nm 4]) (.tup [.lst [], .lst [], .var 1]),
   .for (.tp [5, 6, 7, 8]) (.of (.var 0))
    [.asg (.nm 9) (.bi .min [.var 4, .var 7]),
     .ifs (.cmp .Gt (.var 9) (.cst (.int 0)))
      [.ex (.met .append (.var 2) [.tup [.var 5, .var 6, .var 9, .var 8]])]
      [],
     .ifs (.cmp .Lt (.var 9) (.var 7))
      [.ex (.met .append (.var 3) [.tup [.var 5, .bin .Add (.var 6) (.bin .Mult (.var 8) (.var 9)), .bin .Sub (.var 7) (.var 9), .var 8]])]
      [],
     .aug 4 .Sub (.var 9)],
   .ret (.tup [.call 7 [.var 2], .call 7 [.var 3]])]⟩
/-- stepped: 0 gauge 1 step 2 word 3 parts 4 spools 5 found -/
def f_stepped : Fn := ⟨6, 2,
  [.asg (.star [2] 3) (.var 1),
   .asg (.nm 4) (.ite (.cmp .Eq (.var 2) (.cst (.str "turn"))) (.sl (.var 3) none (some (.cst (.int 1)))) (.sl (.var 3) none (some (.cst (.int 2))))),
   .ifs (.or (.cmp .GtE (.bi .max [.var 4]) (.bi .len [.var 0])) (.and (.cmp .Eq (.var 2) (.cst (.str "wind"))) (.cmp .Gt (.ix (.var 3) (.cst (.int 2))) (.ix (.var 0) (.ix (.var 3) (.cst (.int 0)))))))
    [.ret (.cst .non)]
    [],
   .asg (.nm 5) (.bi .list [.var 0]),
   .ifs (.cmp .Eq (.var 2) (.cst (.str "wind")))
    [.augs (.var 5) (.ix (.var 3) (.cst (.int 0))) .Sub (.ix (.var 3) (.cst (.int 2))),
     .augs (.var 5) (.ix (.var 3) (.cst (.int 1))) .Add (.ix (.var 3) (.cst (.int 2)))]
    [],
   .ifs (.cmp .Eq (.var 2) (.cst (.str "swap")))
    [.asg (.tup [.sub (.var 5) (.ix (.var 3) (.cst (.int 0))), .sub (.var 5) (.ix (.var 3) (.cst (.int 1)))]) (.tup [.ix (.var 5) (.ix (.var 3) (.cst (.int 1))), .ix (.var 5) (.ix (.var 3) (.cst (.int 0)))])]
    [],
   .ret (.bi .tuple [.var 5])]⟩
/-- gauge_by: 0 written 1 gauge 2 here 3 at 4 step -/
def f_gauge_by : Fn := ⟨5, 2,
  [.asg (.nm 2) (.var 1),
   .for (.tp [3, 4]) (.enm (.var 0))
    [.asg (.nm 2) (.call 12 [.var 2, .var 4]),
     .ifs (.cmp .Is (.var 2) (.cst .non))
      [.rai 2 "at" (.var 3)]
      []],
   .ret (.var 2)]⟩
/-- spans: 0 standing 1 found 2 word 3 first 4 many 5 way 6 row 7 one 8 last -/
def f_spans : Fn := ⟨9, 1,
  [.asg (.nm 1) (.lst []),
   .for (.tp [2, 3, 4, 5]) (.of (.lc2 (.var 7) (.nm 6) (.of (.var 0)) none (.nm 7) (.of (.var 6)) none [6, 7] [7]))
    [.asg (.nm 8) (.call 3 [.tup [.var 2, .var 3, .var 4, .var 5]]),
     .ex (.met .append (.var 1) [.tup [.var 2, .bi .min [.var 3, .var 8], .bi .max [.var 3, .var 8]]])],
   .ret (.bi .sorted [.var 1])]⟩
/-- are_apart: 0 some 1 one 2 other -/
def f_are_apart : Fn := ⟨3, 1,
  [.ret (.bi .all [.lc (.or (.cmp .NotEq (.ix (.var 1) (.cst (.int 0))) (.ix (.var 2) (.cst (.int 0)))) (.cmp .Lt (.ix (.var 1) (.cst (.int 2))) (.ix (.var 2) (.cst (.int 1))))) (.tp [1, 2]) (.zip (.var 0) (.sl (.var 0) (some (.cst (.int 1))) none)) none [1, 2]])]⟩
/-- is_standing: 0 thing 1 row -/
def f_is_standing : Fn := ⟨2, 1,
  [.ifs (.or (.not (.val (.isi (.var 0) [.tuple]))) (.not (.chn .LtE .LtE (.cst (.int 2)) (.bi .len [.var 0]) (.cst (.int 6)))))
    [.ret (.cst (.bl false))]
    [],
   .ifs (.not (.val (.bi .all [.lc (.and (.isi (.var 1) [.tuple]) (.and (.call 5 [.var 1]) (.cmp .Eq (.bi .list [.var 1]) (.call 7 [.var 1])))) (.nm 1) (.of (.var 0)) none [1]])))
    [.ret (.cst (.bl false))]
    [],
   .ret (.and (.cmp .LtE (.bi .sum [.lc (.call 8 [.var 1]) (.nm 1) (.of (.var 0)) none [1]]) (.cst (.int 1000000000000000000))) (.call 15 [.call 14 [.var 0]]))]⟩
/-- merged: 0 some 1 found 2 word 3 low 4 high -/
def f_merged : Fn := ⟨5, 1,
  [.asg (.nm 1) (.lst []),
   .for (.tp [2, 3, 4]) (.of (.var 0))
    [.ifs (.and (.cmp .NotEq (.var 1) (.lst [])) (.and (.cmp .Eq (.ix (.ix (.var 1) (.neg (.cst (.int 1)))) (.cst (.int 0))) (.var 2)) (.cmp .Eq (.bin .Add (.ix (.ix (.var 1) (.neg (.cst (.int 1)))) (.cst (.int 2))) (.cst (.int 1))) (.var 3))))
      [.asg (.nm 3) (.ix (.met .pop (.var 1) []) (.cst (.int 1)))]
      [],
     .ex (.met .append (.var 1) [.tup [.var 2, .var 3, .var 4]])],
   .ret (.var 1)]⟩
/-- need_fit: 0 one 1 other -/
def f_need_fit : Fn := ⟨2, 2,
  [.ifs (.not (.val (.call 16 [.var 0])))
    [.rai 0 "part" (.cst (.str "one"))]
    [],
   .ifs (.not (.val (.call 16 [.var 1])))
    [.rai 0 "part" (.cst (.str "other"))]
    [],
   .ifs (.or (.cmp .NotEq (.bi .len [.var 0]) (.bi .len [.var 1])) (.cmp .NotEq (.call 17 [.call 14 [.var 0]]) (.call 17 [.call 14 [.var 1]])))
    [.rai 0 "part" (.cst (.str "yards"))]
    []]⟩
/-- gauge_of: 0 standing 1 row -/
def f_gauge_of : Fn := ⟨2, 1,
  [.ret (.bi .tuple [.lc (.call 8 [.var 1]) (.nm 1) (.of (.var 0)) none [1]])]⟩
/-- stepped_rows: 0 rows 1 step 2 found 3 word 4 one 5 top -/
def f_stepped_rows : Fn := ⟨6, 2,
  [.asg (.tup [.nm 2, .nm 3, .nm 4]) (.tup [.bi .list [.var 0], .ix (.var 1) (.cst (.int 0)), .ix (.var 1) (.cst (.int 1))]),
   .ifs (.cmp .Eq (.var 3) (.cst (.str "turn")))
    [.asg (.sub (.var 2) (.var 4)) (.call 10 [.ix (.var 2) (.var 4)])]
    [.ifs (.cmp .Eq (.var 3) (.cst (.str "swap")))
      [.asg (.tup [.sub (.var 2) (.var 4), .sub (.var 2) (.ix (.var 1) (.cst (.int 2)))]) (.tup [.ix (.var 2) (.ix (.var 1) (.cst (.int 2))), .ix (.var 2) (.var 4)])]
      [.asg (.tup [.nm 5, .sub (.var 2) (.var 4)]) (.call 11 [.ix (.var 2) (.var 4), .ix (.var 1) (.cst (.int 3))]),
       .asg (.sub (.var 2) (.ix (.var 1) (.cst (.int 2)))) (.call 7 [.bin .Add (.call 10 [.var 5]) (.bi .list [.ix (.var 2) (.ix (.var 1) (.cst (.int 2)))])])]],
   .ret (.var 2)]⟩
/-- wound: 0 standing 1 steps 2 rows 3 step 4 row -/
def f_wound : Fn := ⟨5, 2,
  [.ex (.call 13 [.var 1, .call 19 [.var 0]]),
   .asg (.nm 2) (.var 0),
   .for (.nm 3) (.of (.var 1))
    [.asg (.nm 2) (.call 20 [.var 2, .var 3])],
   .ret (.bi .tuple [.lc (.bi .tuple [.var 4]) (.nm 4) (.of (.var 2)) none [4]])]⟩
/-- across: 0 standing -/
def f_across : Fn := ⟨1, 1,
  [.ret (.call 7 [.bin .Add (.call 10 [.ix (.var 0) (.cst (.int 0))]) (.bi .list [.ix (.var 0) (.cst (.int 1))])])]⟩
/-- slid: 0 one 1 other 2 many -/
def f_slid : Fn := ⟨3, 2,
  [.ifs (.cmp .NotEq (.call 22 [.var 0]) (.call 22 [.var 1]))
    [.ret (.cst .non)]
    [],
   .asg (.nm 2) (.bin .Sub (.call 8 [.ix (.var 0) (.cst (.int 0))]) (.call 8 [.ix (.var 1) (.cst (.int 0))])),
   .ifs (.cmp .Eq (.var 2) (.cst (.int 0)))
    [.ret (.lst [])]
    [],
   .ret (.ite (.cmp .Gt (.var 2) (.cst (.int 0))) (.lst [.tup [.cst (.str "wind"), .cst (.int 0), .cst (.int 1), .var 2]]) (.lst [.tup [.cst (.str "wind"), .cst (.int 1), .cst (.int 0), .neg (.var 2)]]))]⟩
/-- way_there: 0 one 1 other 2 begin 3 end -/
def f_way_there : Fn := ⟨4, 2,
  [.ex (.call 18 [.var 0, .var 1]),
   .ifs (.cmp .Eq (.bi .len [.var 0]) (.cst (.int 2)))
    [.ret (.call 23 [.var 0, .var 1])]
    [],
   .ded,
   .ded,
   .ded]⟩
/-- fewest: 0 one 1 other 2 many 3 names 4 row 5 name 6 way 7 begin 8 here 9 came 10 some 11 at 12 step 13 later 14 found -/
def f_fewest : Fn := ⟨15, 2,
  [.ex (.call 18 [.var 0, .var 1]),
   .asg (.nm 2) (.bi .sum [.call 19 [.var 0]]),
   .ifs (.or (.cmp .Gt (.var 2) (.cst (.int 4))) (.cmp .Gt (.bi .len [.var 0]) (.cst (.int 3))))
    [.rai 3 "many" (.var 2)]
    [],
   .ifs (.cmp .Eq (.bi .len [.var 0]) (.cst (.int 2)))
    [.ret (.call 23 [.var 0, .var 1])]
    [],
   .ded,
   .ded,
   .ded,
   .ded,
   .ded,
   .ded,
   .ded]⟩
/-- _law_pen: 0 script -/
def f__law_pen : Fn := ⟨1, 1,
  [.ret (.dsp ["cells", "turn", "left"] [.bi .list [.sl (.var 0) none (some (.cst (.int 63)))], .cst (.int 0), .cst (.int 0)])]⟩
/-- _law_draw: 0 pen 1 many 2 digit 3 turn 4 cell 5 primes 6 prime 7 drawn -/
def f__law_draw : Fn := ⟨8, 2,
  [.ifs (.cmp .Gt (.ix (.var 0) (.cst (.str "left"))) (.cst (.int 0)))
    [.asg (.nm 2) (.bin .Mod (.ix (.var 0) (.cst (.str "left"))) (.var 1)),
     .asg (.sub (.var 0) (.cst (.str "left"))) (.bin .FloorDiv (.ix (.var 0) (.cst (.str "left"))) (.var 1)),
     .ret (.var 2)]
    [],
   .asg (.nm 3) (.ix (.var 0) (.cst (.str "turn"))),
   .asg (.sub (.var 0) (.cst (.str "turn"))) (.bin .Add (.var 3) (.cst (.int 1))),
   .asg (.nm 4) (.bin .Add (.bin .Mult (.cst (.int 31)) (.var 3)) (.cst (.int 11))),
   .ifs (.cmp .NotEq (.ix (.var 0) (.cst (.str "cells"))) (.lst []))
    [.asg (.nm 4) (.ix (.ix (.var 0) (.cst (.str "cells"))) (.bin .Mod (.var 3) (.bi .len [.ix (.var 0) (.cst (.str "cells"))])))]
    [],
   .ifs (.and (.cmp .Lt (.var 3) (.bi .len [.ix (.var 0) (.cst (.str "cells"))])) (.cmp .GtE (.bi .abs [.var 4]) (.bin .Pow (.cst (.int 10)) (.cst (.int 18)))))
    [.asg (.sub (.var 0) (.cst (.str "left"))) (.bin .FloorDiv (.bin .Sub (.bi .abs [.var 4]) (.bin .Pow (.cst (.int 10)) (.cst (.int 18)))) (.var 1)),
     .ret (.bin .Mod (.bin .Sub (.bi .abs [.var 4]) (.bin .Pow (.cst (.int 10)) (.cst (.int 18)))) (.var 1))]
    [],
   .asg (.nm 5) (.lst [.cst (.int 2147483647), .cst (.int 2147483629), .cst (.int 2147483587), .cst (.int 2147483579), .cst (.int 2147483563)]),
   .asg (.nm 6) (.ix (.var 5) (.bin .Mod (.var 3) (.cst (.int 5)))),
   .asg (.nm 7) (.bin .Mod (.bin .Add (.bin .Add (.bin .Mult (.bin .Mod (.var 4) (.var 6)) (.cst (.int 48271))) (.bin .Mult (.bin .Mult (.cst (.int 39373)) (.var 3)) (.var 3))) (.cst (.int 29))) (.var 6)),
   .asg (.nm 7) (.bin .Mod (.bin .Mult (.var 7) (.bin .Add (.var 7) (.cst (.int 69621)))) (.ix (.var 5) (.bin .Mod (.bin .Add (.var 3) (.cst (.int 2))) (.cst (.int 5))))),
   .ret (.bin .Mod (.bin .FloorDiv (.bin .Mod (.bin .Mult (.var 7) (.var 7)) (.cst (.int 2147483549))) (.cst (.int 64))) (.var 1))]⟩
/-- _law_pick: 0 pen 1 some -/
def f__law_pick : Fn := ⟨2, 2,
  [.ret (.ix (.var 1) (.call 27 [.var 0, .bi .len [.var 1]]))]⟩
/-- _law_great: 0 pen 1 figures 2 found 3 k -/
def f__law_great : Fn := ⟨4, 2,
  [.asg (.nm 2) (.cst (.int 0)),
   .for (.nm 3) (.rng [.var 1])
    [.asg (.nm 2) (.bin .Add (.bin .Mult (.cst (.int 10)) (.var 2)) (.call 27 [.var 0, .cst (.int 10)]))],
   .ret (.var 2)]⟩
/-- _law_words: 0 pen 1 many 2 letters 3 base 4 k 5 at 6 first 7 step -/
def f__law_words : Fn := ⟨8, 2,
  [.asg (.nm 2) (.cst (.str "abcdefghijklmnopqrstuvwxyz")),
   .asg (.nm 3) (.met .join (.cst (.str "")) [.lc (.call 28 [.var 0, .var 2]) (.nm 4) (.rng [.bin .Add (.cst (.int 1)) (.call 27 [.var 0, .cst (.int 8)])]) none [4]]),
   .asg (.tup [.nm 5, .nm 6]) (.tup [.call 27 [.var 0, .bi .len [.var 3]], .call 27 [.var 0, .cst (.int 26)]]),
   .asg (.nm 7) (.call 28 [.var 0, .lst [.cst (.int 1), .cst (.int 3), .cst (.int 5), .cst (.int 7), .cst (.int 9), .cst (.int 11), .cst (.int 15), .cst (.int 17), .cst (.int 19), .cst (.int 21), .cst (.int 23), .cst (.int 25)]]),
   .ret (.lc (.bin .Add (.bin .Add (.sl (.var 3) none (some (.var 5))) (.ix (.var 2) (.bin .Mod (.bin .Add (.var 6) (.bin .Mult (.var 7) (.var 4))) (.cst (.int 26))))) (.sl (.var 3) (some (.bin .Add (.var 5) (.cst (.int 1)))) none)) (.nm 4) (.rng [.var 1]) none [4])]⟩
/-- _law_turned_about: 0 pen 1 some 2 left 3 k -/
def f__law_turned_about : Fn := ⟨4, 2,
  [.asg (.nm 2) (.bi .list [.var 1]),
   .ret (.lc (.met .pop (.var 2) [.call 27 [.var 0, .bi .len [.var 2]]]) (.nm 3) (.rng [.bi .len [.var 2]]) none [3])]⟩
/-- _law_below: 0 pen 1 bound 2 kind -/
def f__law_below : Fn := ⟨3, 2,
  [.asg (.nm 2) (.call 27 [.var 0, .cst (.int 8)]),
   .ifs (.cmp .Eq (.var 2) (.cst (.int 0)))
    [.ret (.bi .min [.call 27 [.var 0, .cst (.int 9)], .bin .Sub (.var 1) (.cst (.int 1))])]
    [],
   .ifs (.cmp .Eq (.var 2) (.cst (.int 1)))
    [.ret (.bi .max [.cst (.int 0), .bin .Sub (.bin .Sub (.var 1) (.cst (.int 1))) (.call 27 [.var 0, .cst (.int 9)])])]
    [],
   .ret (.bin .Mod (.call 29 [.var 0, .bi .len [.bi .str [.var 1]]]) (.var 1))]⟩
/-- _law_is_from: 0 thing 1 low 2 high -/
def f__law_is_from : Fn := ⟨3, 3,
  [.ret (.and (.isi (.var 0) [.int]) (.and (.not (.isi (.var 0) [.bool])) (.chn .LtE .LtE (.var 1) (.var 0) (.var 2))))]⟩
/-- _law_is_word: 0 thing 1 one -/
def f__law_is_word : Fn := ⟨2, 1,
  [.ifs (.or (.not (.val (.isi (.var 0) [.str]))) (.not (.chn .Lt .Lt (.cst (.int 0)) (.bi .len [.var 0]) (.cst (.int 9)))))
    [.ret (.cst (.bl false))]
    [],
   .ret (.cmp .Eq (.lc (.var 1) (.nm 1) (.of (.var 0)) (some (.cmp .NotIn (.var 1) (.cst (.str "abcdefghijklmnopqrstuvwxyz")))) [1]) (.lst []))]⟩
/-- _law_is_step: 0 thing 1 spools 2 one -/
def f__law_is_step : Fn := ⟨3, 1,
  [.ifs (.or (.not (.val (.isi (.var 0) [.tuple]))) (.or (.cmp .Eq (.var 0) (.tup [])) (.cmp .NotIn (.ix (.var 0) (.cst (.int 0))) (.tup [.cst (.str "wind"), .cst (.str "turn"), .cst (.str "swap"), .cst (.str "do")]))))
    [.ret (.cst (.bl false))]
    [],
   .ifs (.cmp .NotEq (.bi .len [.var 0]) (.ix (.dsp ["wind", "turn", "swap", "do"] [.cst (.int 4), .cst (.int 2), .cst (.int 3), .cst (.int 3)]) (.ix (.var 0) (.cst (.int 0)))))
    [.ret (.cst (.bl false))]
    [],
   .ifs (.cmp .Eq (.ix (.var 0) (.cst (.int 0))) (.cst (.str "do")))
    [.ret (.and (.call 34 [.ix (.var 0) (.cst (.int 1))]) (.call 33 [.ix (.var 0) (.cst (.int 2)), .neg (.cst (.int 9)), .cst (.int 9)]))]
    [],
   .asg (.nm 1) (.ite (.cmp .Eq (.ix (.var 0) (.cst (.int 0))) (.cst (.str "turn"))) (.sl (.var 0) (some (.cst (.int 1))) (some (.cst (.int 2)))) (.sl (.var 0) (some (.cst (.int 1))) (some (.cst (.int 3))))),
   .ifs (.cmp .NotEq (.lc (.var 2) (.nm 2) (.of (.var 1)) (some (.not (.val (.call 33 [.var 2, .cst (.int 0), .cst (.int 5)])))) [2]) (.lst []))
    [.ret (.cst (.bl false))]
    [],
   .ifs (.and (.cmp .NotEq (.ix (.var 0) (.cst (.int 0))) (.cst (.str "turn"))) (.cmp .Eq (.ix (.var 0) (.cst (.int 1))) (.ix (.var 0) (.cst (.int 2)))))
    [.ret (.cst (.bl false))]
    [],
   .ret (.or (.cmp .NotEq (.ix (.var 0) (.cst (.int 0))) (.cst (.str "wind"))) (.call 33 [.ix (.var 0) (.cst (.int 3)), .cst (.int 1), .bin .Pow (.cst (.int 10)) (.cst (.int 18))]))]⟩
/-- _law_dealt: 0 pen 1 stretches 2 spools 3 found 4 k 5 word 6 low 7 many 8 way 9 row 10 first -/
def f__law_dealt : Fn := ⟨11, 3,
  [.asg (.nm 3) (.lc (.lst []) (.nm 4) (.rng [.var 2]) none [4]),
   .for (.tp [5, 6, 7]) (.of (.call 31 [.var 0, .var 1]))
    [.asg (.nm 8) (.call 28 [.var 0, .lst [.cst (.int 1), .neg (.cst (.int 1))]]),
     .asg (.nm 9) (.ix (.var 3) (.call 27 [.var 0, .var 2])),
     .asg (.nm 10) (.ite (.cmp .Eq (.var 8) (.cst (.int 1))) (.var 6) (.bin .Sub (.bin .Add (.var 6) (.var 7)) (.cst (.int 1)))),
     .ifs (.and (.cmp .NotEq (.var 9) (.lst [])) (.and (.cmp .Eq (.ix (.ix (.var 9) (.neg (.cst (.int 1)))) (.cst (.int 0))) (.var 5)) (.and (.cmp .Eq (.ix (.ix (.var 9) (.neg (.cst (.int 1)))) (.cst (.int 3))) (.var 8)) (.cmp .Eq (.var 10) (.bin .Add (.ix (.ix (.var 9) (.neg (.cst (.int 1)))) (.cst (.int 1))) (.bin .Mult (.ix (.ix (.var 9) (.neg (.cst (.int 1)))) (.cst (.int 2))) (.var 8)))))))
      [.asg (.sub (.var 9) (.neg (.cst (.int 1)))) (.tup [.var 5, .ix (.ix (.var 9) (.neg (.cst (.int 1)))) (.cst (.int 1)), .bin .Add (.ix (.ix (.var 9) (.neg (.cst (.int 1)))) (.cst (.int 2))) (.var 7), .var 8])]
      [.ex (.met .append (.var 9) [.tup [.var 5, .var 10, .var 7, .var 8]])]],
   .ret (.bi .tuple [.lc (.bi .tuple [.var 9]) (.nm 9) (.of (.var 3)) none [9]])]⟩
/-- _law_great_stretches: 0 pen 1 words 2 found 3 at 4 most 5 k 6 word 7 many 8 low -/
def f__law_great_stretches : Fn := ⟨9, 2,
  [.asg (.tup [.nm 2, .nm 3, .nm 4]) (.tup [.lst [], .dsp [] [], .call 28 [.var 0, .lst [.cst (.int 8), .cst (.int 8), .cst (.int 8), .cst (.int 8), .cst (.int 17)]]]),
   .for (.nm 5) (.rng [.call 27 [.var 0, .var 4]])
    [.asg (.tup [.nm 6, .nm 7]) (.tup [.call 28 [.var 0, .var 1], .bin .Add (.cst (.int 1)) (.call 29 [.var 0, .call 28 [.var 0, .lst [.cst (.int 16), .cst (.int 12), .cst (.int 2), .cst (.int 1), .cst (.int 0)]]])]),
     .asg (.nm 8) (.bin .Add (.met .get (.var 3) [.var 6, .call 27 [.var 0, .cst (.int 9)]]) (.call 27 [.var 0, .cst (.int 2)])),
     .asg (.sub (.var 3) (.var 6)) (.bin .Add (.var 8) (.var 7)),
     .ex (.met .append (.var 2) [.tup [.var 6, .var 8, .var 7]])],
   .ret (.var 2)]⟩
/-- _law_cut_stretches: 0 pen 1 stretches 2 found 3 word 4 low 5 many 6 n -/
def f__law_cut_stretches : Fn := ⟨7, 2,
  [.asg (.nm 2) (.lst []),
   .for (.tp [3, 4, 5]) (.of (.var 1))
    [.asg (.nm 6) (.ite (.cmp .Eq (.call 27 [.var 0, .cst (.int 2)]) (.cst (.int 0))) (.call 32 [.var 0, .var 5]) (.cst (.int 0))),
     .ifs (.cmp .Gt (.var 6) (.cst (.int 0)))
      [.ex (.met .extend (.var 2) [.lst [.tup [.var 3, .var 4, .var 6], .tup [.var 3, .bin .Add (.var 4) (.var 6), .bin .Sub (.var 5) (.var 6)]]])]
      [.ex (.met .append (.var 2) [.tup [.var 3, .var 4, .var 5]])]],
   .ret (.var 2)]⟩
/-- _law_split: 0 row 1 n 2 top 3 rest 4 word 5 first 6 many 7 way 8 part -/
def f__law_split : Fn := ⟨9, 2,
  [.asg (.tup [.nm 2, .nm 3]) (.tup [.lst [], .lst []]),
   .for (.tp [4, 5, 6, 7]) (.of (.var 0))
    [.asg (.nm 8) (.bi .min [.var 1, .var 6]),
     .asg (.nm 1) (.bin .Sub (.var 1) (.var 8)),
     .ifs (.cmp .Gt (.var 8) (.cst (.int 0)))
      [.ex (.met .append (.var 2) [.tup [.var 4, .var 5, .var 8, .var 7]])]
      [],
     .ifs (.cmp .Lt (.var 8) (.var 6))
      [.ex (.met .append (.var 3) [.tup [.var 4, .bin .Add (.var 5) (.bin .Mult (.var 7) (.var 8)), .bin .Sub (.var 6) (.var 8), .var 7]])]
      []],
   .ret (.tup [.var 2, .var 3])]⟩
/-- _law_flipped: 0 row 1 word 2 first 3 many 4 way -/
def f__law_flipped : Fn := ⟨5, 1,
  [.ret (.lc (.tup [.var 1, .bin .Add (.var 2) (.bin .Mult (.var 4) (.bin .Sub (.var 3) (.cst (.int 1)))), .var 3, .bin .Sub (.cst (.int 0)) (.var 4)]) (.tp [1, 2, 3, 4]) (.of (.rsl (.var 0))) none [1, 2, 3, 4])]⟩
/-- _law_one_row: 0 row 1 found 2 word 3 first 4 many 5 way -/
def f__law_one_row : Fn := ⟨6, 1,
  [.asg (.nm 1) (.lst []),
   .for (.tp [2, 3, 4, 5]) (.of (.var 0))
    [.ifs (.and (.cmp .NotEq (.var 1) (.lst [])) (.and (.cmp .Eq (.ix (.ix (.var 1) (.neg (.cst (.int 1)))) (.cst (.int 0))) (.var 2)) (.and (.cmp .Eq (.ix (.ix (.var 1) (.neg (.cst (.int 1)))) (.cst (.int 3))) (.var 5)) (.cmp .Eq (.var 3) (.bin .Add (.ix (.ix (.var 1) (.neg (.cst (.int 1)))) (.cst (.int 1))) (.bin .Mult (.ix (.ix (.var 1) (.neg (.cst (.int 1)))) (.cst (.int 2))) (.var 5)))))))
      [.asg (.sub (.var 1) (.neg (.cst (.int 1)))) (.tup [.var 2, .ix (.ix (.var 1) (.neg (.cst (.int 1)))) (.cst (.int 1)), .bin .Add (.ix (.ix (.var 1) (.neg (.cst (.int 1)))) (.cst (.int 2))) (.var 4), .var 5])]
      [.ex (.met .append (.var 1) [.tup [.var 2, .var 3, .var 4, .var 5]])]],
   .ret (.bi .tuple [.var 1])]⟩
/-- _law_stretches_wound: 0 standing 1 steps 2 rows 3 row 4 step 5 word 6 a 7 b 8 n 9 one 10 top -/
def f__law_stretches_wound : Fn := ⟨11, 2,
  [.asg (.nm 2) (.lc (.bi .list [.var 3]) (.nm 3) (.of (.var 0)) none [3]),
   .for (.nm 4) (.of (.var 1))
    [.ifs (.or (.not (.val (.call 35 [.var 4]))) (.or (.cmp .NotEq (.ix (.var 4) (.cst (.int 0))) (.cst (.str "wind"))) (.cmp .GtE (.bi .max [.sl (.var 4) (some (.cst (.int 1))) (some (.cst (.int 3)))]) (.bi .len [.var 2]))))
      [.ret (.cst .non)]
      [],
     .asg (.tup [.nm 5, .nm 6, .nm 7, .nm 8]) (.var 4),
     .ifs (.cmp .Gt (.var 8) (.bi .sum [.lc (.ix (.var 9) (.cst (.int 2))) (.nm 9) (.of (.ix (.var 2) (.var 6))) none [9]]))
      [.ret (.cst .non)]
      [],
     .asg (.tup [.nm 10, .sub (.var 2) (.var 6)]) (.call 39 [.ix (.var 2) (.var 6), .var 8]),
     .asg (.sub (.var 2) (.var 7)) (.bin .Add (.call 40 [.var 10]) (.ix (.var 2) (.var 7)))],
   .ret (.bi .tuple [.lc (.call 41 [.var 3]) (.nm 3) (.of (.var 2)) none [3]])]⟩
/-- _law_across: 0 standing -/
def f__law_across : Fn := ⟨1, 1,
  [.ret (.call 41 [.bin .Add (.call 40 [.ix (.var 0) (.cst (.int 0))]) (.bi .list [.ix (.var 0) (.cst (.int 1))])])]⟩
/-- _law_pair_right: 0 one 1 other 2 told 3 is_one -/
def f__law_pair_right : Fn := ⟨4, 2,
  [.asg (.tup [.nm 2, .nm 3]) (.tup [.call 24 [.var 0, .var 1], .cmp .Eq (.call 43 [.var 0]) (.call 43 [.var 1])]),
   .ifs (.not (.val (.var 3)))
    [.ret (.cmp .Is (.var 2) (.cst .non))]
    [],
   .ifs (.or (.not (.val (.isi (.var 2) [.list]))) (.or (.cmp .NotEq (.bi .len [.var 2]) (.bi .int [.cmp .NotEq (.var 0) (.var 1)])) (.cmp .NotEq (.call 42 [.var 0, .var 2]) (.var 1))))
    [.ret (.cst (.bl false))]
    [],
   .ret (.cmp .Eq (.call 21 [.var 0, .var 2]) (.var 1))]⟩
/-- _law_fewest_right: 0 one 1 other 2 many 3 told 4 e -/
def f__law_fewest_right : Fn := ⟨5, 3,
  [.try
    [.asg (.nm 3) (.call 25 [.var 0, .var 1])] 3 4 [.ret (.and (.cmp .Gt (.var 2) (.cst (.int 4))) (.and (.cmp .Eq (.fld "many") (.var 2)) (.isi [.blt "RuntimeError"] true)))],
   .ifs (.cmp .Gt (.var 2) (.cst (.int 4)))
    [.ret (.cst (.bl false))]
    [],
   .ifs (.cmp .Is (.call 24 [.var 0, .var 1]) (.cst .non))
    [.ret (.cmp .Is (.var 3) (.cst .non))]
    [],
   .ifs (.or (.not (.val (.isi (.var 3) [.list]))) (.cmp .NotEq (.bi .len [.var 3]) (.bi .int [.cmp .NotEq (.var 0) (.var 1)])))
    [.ret (.cst (.bl false))]
    [],
   .ret (.cmp .Eq (.call 42 [.var 0, .var 3]) (.var 1))]⟩
/-- law: 0 script 1 pen 2 turn 3 words 4 stretches 5 word 6 low 7 many 8 one 9 slid_on 10 again 11 a 12 left 13 each 14 dealt 15 turned_one 16 other -/
def f_law : Fn := ⟨17, 1,
  [.asg (.nm 1) (.call 26 [.var 0]),
   .for (.nm 2) (.rng [.cst (.int 6)])
    [.asg (.nm 3) (.call 30 [.var 1, .cst (.int 2)]),
     .asg (.nm 4) (.call 37 [.var 1, .var 3]),
     .ifs (.cmp .Eq (.call 27 [.var 1, .cst (.int 2)]) (.cst (.int 0)))
      [.asg (.nm 4) (.lc (.tup [.var 5, .var 6, .bin .Add (.cst (.int 1)) (.call 27 [.var 1, .cst (.int 2)])]) (.tp [5, 6, 7]) (.of (.sl (.var 4) none (some (.cst (.int 2))))) none [5, 6, 7]),
       .asg (.nm 4) (.bin .Add (.lc (.var 8) (.nm 8) (.of (.sl (.var 4) none (some (.cst (.int 1))))) none [8]) (.lc (.var 8) (.nm 8) (.of (.sl (.var 4) (some (.cst (.int 1))) none)) (some (.cmp .NotEq (.ix (.var 8) (.cst (.int 0))) (.ix (.ix (.var 4) (.cst (.int 0))) (.cst (.int 0))))) [8]))]
      [],
     .asg (.nm 7) (.bi .sum [.lc (.ix (.var 8) (.cst (.int 2))) (.nm 8) (.of (.var 4)) none [8]]),
     .asg (.nm 8) (.call 36 [.var 1, .var 4, .cst (.int 2)]),
     .asg (.nm 9) (.var 8),
     .for (.nm 10) (.rng [.call 27 [.var 1, .cst (.int 3)]])
      [.asg (.nm 11) (.call 27 [.var 1, .cst (.int 2)]),
       .asg (.nm 12) (.bi .sum [.lc (.ix (.var 13) (.cst (.int 2))) (.nm 13) (.of (.ix (.var 9) (.var 11))) none [13]]),
       .ifs (.cmp .Gt (.var 12) (.cst (.int 0)))
        [.asg (.nm 9) (.call 42 [.var 9, .lst [.tup [.cst (.str "wind"), .var 11, .bin .Sub (.cst (.int 1)) (.var 11), .bin .Add (.cst (.int 1)) (.call 32 [.var 1, .var 12])]]])]
        []],
     .asg (.nm 14) (.call 36 [.var 1, .call 38 [.var 1, .var 4], .cst (.int 2)]),
     .asg (.nm 15) (.tup [.call 41 [.call 40 [.ix (.var 8) (.cst (.int 0))]], .ix (.var 8) (.cst (.int 1))]),
     .for (.nm 16) (.of (.lst [.var 9, .var 8, .var 15, .tup [.ix (.var 8) (.cst (.int 1)), .ix (.var 8) (.cst (.int 0))], .var 14]))
      [.ifs (.or (.not (.val (.call 44 [.var 8, .var 16]))) (.not (.val (.call 44 [.var 16, .var 8]))))
        [.ret (.cst (.bl false))]
        [],
       .ifs (.not (.val (.call 45 [.var 8, .var 16, .var 7])))
        [.ret (.cst (.bl false))]
        []],
     .ifs (.cmp .NotEq (.call 43 [.var 9]) (.call 43 [.var 8]))
      [.ret (.cst (.bl false))]
      []],
   .ret (.cst (.bl true))]⟩
def prog : List Fn := [f_is_whole, f_is_word, f_is_way, f_last_of, f_is_stretch, f_is_row, f_goes_on, f_joined, f_yards, f_turned_stretch, f_turned, f_parted, f_stepped, f_gauge_by, f_spans, f_are_apart, f_is_standing, f_merged, f_need_fit, f_gauge_of, f_stepped_rows, f_wound, f_across, f_slid, f_way_there, f_fewest, f__law_pen, f__law_draw, f__law_pick, f__law_great, f__law_words, f__law_turned_about, f__law_below, f__law_is_from, f__law_is_word, f__law_is_step, f__law_dealt, f__law_great_stretches, f__law_cut_stretches, f__law_split, f__law_flipped, f__law_one_row, f__law_stretches_wound, f__law_across, f__law_pair_right, f__law_fewest_right, f_law]
theorem at_is_whole : prog[0]? = some f_is_whole := rfl
theorem at_is_word : prog[1]? = some f_is_word := rfl
theorem at_is_way : prog[2]? = some f_is_way := rfl
theorem at_last_of : prog[3]? = some f_last_of := rfl
theorem at_is_stretch : prog[4]? = some f_is_stretch := rfl
theorem at_is_row : prog[5]? = some f_is_row := rfl
theorem at_goes_on : prog[6]? = some f_goes_on := rfl
theorem at_joined : prog[7]? = some f_joined := rfl
theorem at_yards : prog[8]? = some f_yards := rfl
theorem at_turned_stretch : prog[9]? = some f_turned_stretch := rfl
theorem at_turned : prog[10]? = some f_turned := rfl
theorem at_parted : prog[11]? = some f_parted := rfl
theorem at_stepped : prog[12]? = some f_stepped := rfl
theorem at_gauge_by : prog[13]? = some f_gauge_by := rfl
theorem at_spans : prog[14]? = some f_spans := rfl
theorem at_are_apart : prog[15]? = some f_are_apart := rfl
theorem at_is_standing : prog[16]? = some f_is_standing := rfl
theorem at_merged : prog[17]? = some f_merged := rfl
theorem at_need_fit : prog[18]? = some f_need_fit := rfl
theorem at_gauge_of : prog[19]? = some f_gauge_of := rfl
theorem at_stepped_rows : prog[20]? = some f_stepped_rows := rfl
theorem at_wound : prog[21]? = some f_wound := rfl
theorem at_across : prog[22]? = some f_across := rfl
theorem at_slid : prog[23]? = some f_slid := rfl
theorem at_way_there : prog[24]? = some f_way_there := rfl
theorem at_fewest : prog[25]? = some f_fewest := rfl
theorem at__law_pen : prog[26]? = some f__law_pen := rfl
theorem at__law_draw : prog[27]? = some f__law_draw := rfl
theorem at__law_pick : prog[28]? = some f__law_pick := rfl
theorem at__law_great : prog[29]? = some f__law_great := rfl
theorem at__law_words : prog[30]? = some f__law_words := rfl
theorem at__law_turned_about : prog[31]? = some f__law_turned_about := rfl
theorem at__law_below : prog[32]? = some f__law_below := rfl
theorem at__law_is_from : prog[33]? = some f__law_is_from := rfl
theorem at__law_is_word : prog[34]? = some f__law_is_word := rfl
theorem at__law_is_step : prog[35]? = some f__law_is_step := rfl
theorem at__law_dealt : prog[36]? = some f__law_dealt := rfl
theorem at__law_great_stretches : prog[37]? = some f__law_great_stretches := rfl
theorem at__law_cut_stretches : prog[38]? = some f__law_cut_stretches := rfl
theorem at__law_split : prog[39]? = some f__law_split := rfl
theorem at__law_flipped : prog[40]? = some f__law_flipped := rfl
theorem at__law_one_row : prog[41]? = some f__law_one_row := rfl
theorem at__law_stretches_wound : prog[42]? = some f__law_stretches_wound := rfl
theorem at__law_across : prog[43]? = some f__law_across := rfl
theorem at__law_pair_right : prog[44]? = some f__law_pair_right := rfl
theorem at__law_fewest_right : prog[45]? = some f__law_fewest_right := rfl
theorem at_law : prog[46]? = some f_law := rfl
end LW
set_option Elab.async false
set_option linter.all false
set_option maxRecDepth 100000
set_option maxHeartbeats 0
namespace LW
open PySem PySem.Spec PyProof.Rows L2 DL
def top (i : Nat) : Stmt := PySem.Challenge.pw_spoolrounds_k79_whole_two_spools_slide.main.body.getD i (.Pass ⟨0, 0, 0, 0⟩)
def dd (i : Nat) (x : Str) (dfl : List He.Dv) : He.DefD := ⟨(x, none), x, x, defArgs (top i), defBody (top i), defScope (top i), dfl, []⟩
def d_is_whole : He.DefD := dd 9 "is_whole" [.int (-1000000000000000000), .int 1000000000000000000]
def d_is_word : He.DefD := dd 10 "is_word" []
def d_is_way : He.DefD := dd 11 "is_way" []
def d_last_of : He.DefD := dd 12 "last_of" []
def d_is_stretch : He.DefD := dd 13 "is_stretch" []
def d_is_row : He.DefD := dd 14 "is_row" []
def d_goes_on : He.DefD := dd 15 "goes_on" []
def d_joined : He.DefD := dd 16 "joined" []
def d_yards : He.DefD := dd 17 "yards" []
def d_turned_stretch : He.DefD := dd 18 "turned_stretch" []
def d_turned : He.DefD := dd 19 "turned" []
def d_parted : He.DefD := dd 20 "parted" []
def d_stepped : He.DefD := dd 22 "stepped" []
def d_gauge_by : He.DefD := dd 23 "gauge_by" []
def d_spans : He.DefD := dd 31 "spans" []
def d_are_apart : He.DefD := dd 32 "are_apart" []
def d_is_standing : He.DefD := dd 33 "is_standing" []
def d_merged : He.DefD := dd 34 "merged" []
def d_need_fit : He.DefD := dd 35 "need_fit" []
def d_gauge_of : He.DefD := dd 36 "gauge_of" []
def d_stepped_rows : He.DefD := dd 37 "stepped_rows" []
def d_wound : He.DefD := dd 38 "wound" []
def d_across : He.DefD := dd 39 "across" []
def d_slid : He.DefD := dd 40 "slid" []
def d_way_there : He.DefD := dd 47 "way_there" []
def d_fewest : He.DefD := dd 51 "fewest" []
def d__law_pen : He.DefD := dd 53 "_law_pen" []
def d__law_draw : He.DefD := dd 54 "_law_draw" []
def d__law_pick : He.DefD := dd 55 "_law_pick" []
def d__law_great : He.DefD := dd 56 "_law_great" []
def d__law_words : He.DefD := dd 57 "_law_words" []
def d__law_turned_about : He.DefD := dd 58 "_law_turned_about" []
def d__law_below : He.DefD := dd 59 "_law_below" []
def d__law_is_from : He.DefD := dd 60 "_law_is_from" []
def d__law_is_word : He.DefD := dd 61 "_law_is_word" []
def d__law_is_step : He.DefD := dd 62 "_law_is_step" []
def d__law_dealt : He.DefD := dd 63 "_law_dealt" []
def d__law_great_stretches : He.DefD := dd 64 "_law_great_stretches" []
def d__law_cut_stretches : He.DefD := dd 65 "_law_cut_stretches" []
def d__law_split : He.DefD := dd 66 "_law_split" []
def d__law_flipped : He.DefD := dd 67 "_law_flipped" []
def d__law_one_row : He.DefD := dd 68 "_law_one_row" []
def d__law_stretches_wound : He.DefD := dd 69 "_law_stretches_wound" []
def d__law_across : He.DefD := dd 70 "_law_across" []
def d__law_pair_right : He.DefD := dd 71 "_law_pair_right" []
def d__law_fewest_right : He.DefD := dd 72 "_law_fewest_right" []
def d_law : He.DefD := dd 73 "law" []
def cin (i j : Nat) (x q : Str) : He.DefD := (fun st => ⟨(x, some "__init__"), "__init__", q, defArgs st, defBody st, defScope st, [], []⟩) (match top i with
  | .ClassDef _ _ _ body _ _ _ _ _ _ _ => body.getD j (.Pass ⟨0, 0, 0, 0⟩)
  | s => s)
def i_NoStanding : He.DefD := cin 1 0 "NoStanding" "NoStanding.__init__"
def i_NoSpot : He.DefD := cin 2 0 "NoSpot" "NoSpot.__init__"
def i_TooFew : He.DefD := cin 3 0 "TooFew" "TooFew.__init__"
def i_TooMany : He.DefD := cin 4 0 "TooMany" "TooMany.__init__"
def fn : List He.DefD := [d_is_whole, d_is_word, d_is_way, d_last_of, d_is_stretch, d_is_row, d_goes_on, d_joined, d_yards, d_turned_stretch, d_turned, d_parted, d_stepped, d_gauge_by, d_spans, d_are_apart, d_is_standing, d_merged, d_need_fit, d_gauge_of, d_stepped_rows, d_wound, d_across, d_slid, d_way_there, d_fewest, d__law_pen, d__law_draw, d__law_pick, d__law_great, d__law_words, d__law_turned_about, d__law_below, d__law_is_from, d__law_is_word, d__law_is_step, d__law_dealt, d__law_great_stretches, d__law_cut_stretches, d__law_split, d__law_flipped, d__law_one_row, d__law_stretches_wound, d__law_across, d__law_pair_right, d__law_fewest_right, d_law, i_NoStanding, i_NoSpot, i_TooFew, i_TooMany]
def xds : List Xd := [⟨"NoStanding", "part", .val, "part"⟩, ⟨"NoSpot", "asked", .idx, "asked"⟩, ⟨"TooFew", "at", .ari, "at"⟩, ⟨"TooMany", "many", .run, "many"⟩]
def xis : List (Nat × List CN × Bool) := [(3, [.blt "RuntimeError"], true)]
def gnames0 : List Str := ["is_whole", "is_word", "is_way", "last_of", "is_stretch", "is_row", "goes_on", "joined", "yards", "turned_stretch", "turned", "parted"]
def gnames1 : List Str := ["stepped", "gauge_by", "spans", "are_apart", "is_standing", "merged", "need_fit", "gauge_of", "stepped_rows", "wound", "across", "slid"]
def gnames2 : List Str := ["way_there", "fewest", "_law_pen", "_law_draw", "_law_pick", "_law_great", "_law_words", "_law_turned_about", "_law_below", "_law_is_from", "_law_is_word", "_law_is_step"]
def gnames3 : List Str := ["_law_dealt", "_law_great_stretches", "_law_cut_stretches", "_law_split", "_law_flipped", "_law_one_row", "_law_stretches_wound", "_law_across", "_law_pair_right", "_law_fewest_right", "law"]
def gnames : List Str := gnames0 ++ gnames1 ++ gnames2 ++ gnames3
def nm0 : List Str := ["__name__", "NoStanding", "NoSpot", "TooFew", "TooMany", "LETTERS", "MOST_LETTERS", "MOST", "is_whole", "is_word", "is_way", "last_of"]
def nm1 : List Str := ["is_stretch", "is_row", "goes_on", "joined", "yards", "turned_stretch", "turned", "parted", "stepped", "gauge_by", "undone", "LEAST_SPOOLS"]
def nm2 : List Str := ["MOST_SPOOLS", "FEW_SPOOLS", "FEW_YARDS", "spans", "are_apart", "is_standing", "merged", "need_fit", "gauge_of", "stepped_rows", "wound", "across"]
def nm3 : List Str := ["slid", "gathered", "cut_at", "ends_of", "least_yard", "fetched", "sorted_pile", "way_there", "singles", "numbered", "windings", "fewest"]
def nm4 : List Str := ["_law_pen", "_law_draw", "_law_pick", "_law_great", "_law_words", "_law_turned_about", "_law_below", "_law_is_from", "_law_is_word", "_law_is_step", "_law_dealt", "_law_great_stretches"]
def nm5 : List Str := ["_law_cut_stretches", "_law_split", "_law_flipped", "_law_one_row", "_law_stretches_wound", "_law_across", "_law_pair_right", "_law_fewest_right"]
def nm : List Str := nm0 ++ nm1 ++ nm2 ++ nm3 ++ nm4 ++ nm5
def rw (d : He.DefD) (N ps : List Str) : DL.Row := ⟨d.name, d.qual, d.params, d.body, d.scope, N, ps⟩
def r_is_whole : DL.Row := rw d_is_whole ["thing", "low", "high"] ["thing", "low", "high"]
def r_is_word : DL.Row := rw d_is_word ["thing", "sign"] ["thing"]
def r_is_way : DL.Row := rw d_is_way ["thing"] ["thing"]
def r_last_of : DL.Row := rw d_last_of ["stretch", "word", "first", "many", "way"] ["stretch"]
def r_is_stretch : DL.Row := rw d_is_stretch ["thing"] ["thing"]
def r_is_row : DL.Row := rw d_is_row ["thing", "one"] ["thing"]
def r_goes_on : DL.Row := rw d_goes_on ["stretch", "other", "same"] ["stretch", "other"]
def r_joined : DL.Row := rw d_joined ["row", "found", "stretch", "word", "first", "many", "way"] ["row"]
def r_yards : DL.Row := rw d_yards ["row", "stretch"] ["row"]
def r_turned_stretch : DL.Row := rw d_turned_stretch ["stretch"] ["stretch"]
def r_turned : DL.Row := rw d_turned ["row", "stretch"] ["row"]
def r_parted : DL.Row := rw d_parted ["row", "at", "top", "rest", "left", "word", "first", "many", "way", "part"] ["row", "at"]
def r_stepped : DL.Row := rw d_stepped ["gauge", "step", "word", "parts", "spools", "found"] ["gauge", "step"]
def r_gauge_by : DL.Row := rw d_gauge_by ["written", "gauge", "here", "at", "step"] ["written", "gauge"]
def r_spans : DL.Row := rw d_spans ["standing", "found", "word", "first", "many", "way", "row", "one", "last"] ["standing"]
def r_are_apart : DL.Row := rw d_are_apart ["some", "one", "other"] ["some"]
def r_is_standing : DL.Row := rw d_is_standing ["thing", "row"] ["thing"]
def r_merged : DL.Row := rw d_merged ["some", "found", "word", "low", "high"] ["some"]
def r_need_fit : DL.Row := rw d_need_fit ["one", "other"] ["one", "other"]
def r_gauge_of : DL.Row := rw d_gauge_of ["standing", "row"] ["standing"]
def r_stepped_rows : DL.Row := rw d_stepped_rows ["rows", "step", "found", "word", "one", "top"] ["rows", "step"]
def r_wound : DL.Row := rw d_wound ["standing", "steps", "rows", "step", "row"] ["standing", "steps"]
def r_across : DL.Row := rw d_across ["standing"] ["standing"]
def r_slid : DL.Row := rw d_slid ["one", "other", "many"] ["one", "other"]
def r_way_there : DL.Row := rw d_way_there ["one", "other", "begin", "end"] ["one", "other"]
def r_fewest : DL.Row := rw d_fewest ["one", "other", "many", "names", "row", "name", "way", "begin", "here", "came", "some", "at", "step", "later", "found"] ["one", "other"]
def r__law_pen : DL.Row := rw d__law_pen ["script"] ["script"]
def r__law_draw : DL.Row := rw d__law_draw ["pen", "many", "digit", "turn", "cell", "primes", "prime", "drawn"] ["pen", "many"]
def r__law_pick : DL.Row := rw d__law_pick ["pen", "some"] ["pen", "some"]
def r__law_great : DL.Row := rw d__law_great ["pen", "figures", "found", "k"] ["pen", "figures"]
def r__law_words : DL.Row := rw d__law_words ["pen", "many", "letters", "base", "k", "at", "first", "step"] ["pen", "many"]
def r__law_turned_about : DL.Row := rw d__law_turned_about ["pen", "some", "left", "k"] ["pen", "some"]
def r__law_below : DL.Row := rw d__law_below ["pen", "bound", "kind"] ["pen", "bound"]
def r__law_is_from : DL.Row := rw d__law_is_from ["thing", "low", "high"] ["thing", "low", "high"]
def r__law_is_word : DL.Row := rw d__law_is_word ["thing", "one"] ["thing"]
def r__law_is_step : DL.Row := rw d__law_is_step ["thing", "spools", "one"] ["thing"]
def r__law_dealt : DL.Row := rw d__law_dealt ["pen", "stretches", "spools", "found", "k", "word", "low", "many", "way", "row", "first"] ["pen", "stretches", "spools"]
def r__law_great_stretches : DL.Row := rw d__law_great_stretches ["pen", "words", "found", "at", "most", "k", "word", "many", "low"] ["pen", "words"]
def r__law_cut_stretches : DL.Row := rw d__law_cut_stretches ["pen", "stretches", "found", "word", "low", "many", "n"] ["pen", "stretches"]
def r__law_split : DL.Row := rw d__law_split ["row", "n", "top", "rest", "word", "first", "many", "way", "part"] ["row", "n"]
def r__law_flipped : DL.Row := rw d__law_flipped ["row", "word", "first", "many", "way"] ["row"]
def r__law_one_row : DL.Row := rw d__law_one_row ["row", "found", "word", "first", "many", "way"] ["row"]
def r__law_stretches_wound : DL.Row := rw d__law_stretches_wound ["standing", "steps", "rows", "row", "step", "word", "a", "b", "n", "one", "top"] ["standing", "steps"]
def r__law_across : DL.Row := rw d__law_across ["standing"] ["standing"]
def r__law_pair_right : DL.Row := rw d__law_pair_right ["one", "other", "told", "is_one"] ["one", "other"]
def r__law_fewest_right : DL.Row := rw d__law_fewest_right ["one", "other", "many", "told", "e"] ["one", "other", "many"]
def r_law : DL.Row := rw d_law ["script", "pen", "turn", "words", "stretches", "word", "low", "many", "one", "slid_on", "again", "a", "left", "each", "dealt", "turned_one", "other"] ["script"]
def rows : List DL.Row := [r_is_whole, r_is_word, r_is_way, r_last_of, r_is_stretch, r_is_row, r_goes_on, r_joined, r_yards, r_turned_stretch, r_turned, r_parted, r_stepped, r_gauge_by, r_spans, r_are_apart, r_is_standing, r_merged, r_need_fit, r_gauge_of, r_stepped_rows, r_wound, r_across, r_slid, r_way_there, r_fewest, r__law_pen, r__law_draw, r__law_pick, r__law_great, r__law_words, r__law_turned_about, r__law_below, r__law_is_from, r__law_is_word, r__law_is_step, r__law_dealt, r__law_great_stretches, r__law_cut_stretches, r__law_split, r__law_flipped, r__law_one_row, r__law_stretches_wound, r__law_across, r__law_pair_right, r__law_fewest_right, r_law]
def p0 : Pat := ⟨"is_whole", 0, 1, [], [.inl 0, .inr (.int (-1000000000000000000)), .inr (.int 1000000000000000000)]⟩
def p1 : Pat := ⟨"is_way", 2, 1, [], [.inl 0]⟩
def p2 : Pat := ⟨"is_word", 1, 1, [], [.inl 0]⟩
def p3 : Pat := ⟨"is_whole", 0, 1, ["low", "high"], [.inl 0, .inl 1, .inl 2]⟩
def p4 : Pat := ⟨"is_whole", 0, 1, ["low"], [.inl 0, .inl 1, .inr (.int 1000000000000000000)]⟩
def p5 : Pat := ⟨"last_of", 3, 1, [], [.inl 0]⟩
def p6 : Pat := ⟨"is_stretch", 4, 1, [], [.inl 0]⟩
def p7 : Pat := ⟨"goes_on", 6, 2, [], [.inl 0, .inl 1]⟩
def p8 : Pat := ⟨"joined", 7, 1, [], [.inl 0]⟩
def p9 : Pat := ⟨"turned_stretch", 9, 1, [], [.inl 0]⟩
def p10 : Pat := ⟨"yards", 8, 1, [], [.inl 0]⟩
def p11 : Pat := ⟨"stepped", 12, 2, [], [.inl 0, .inl 1]⟩
def p12 : Pat := ⟨"is_row", 5, 1, [], [.inl 0]⟩
def p13 : Pat := ⟨"are_apart", 15, 1, [], [.inl 0]⟩
def p14 : Pat := ⟨"spans", 14, 1, [], [.inl 0]⟩
def p15 : Pat := ⟨"is_standing", 16, 1, [], [.inl 0]⟩
def p16 : Pat := ⟨"merged", 17, 1, [], [.inl 0]⟩
def p17 : Pat := ⟨"turned", 10, 1, [], [.inl 0]⟩
def p18 : Pat := ⟨"parted", 11, 2, [], [.inl 0, .inl 1]⟩
def p19 : Pat := ⟨"gauge_by", 13, 2, [], [.inl 0, .inl 1]⟩
def p20 : Pat := ⟨"gauge_of", 19, 1, [], [.inl 0]⟩
def p21 : Pat := ⟨"stepped_rows", 20, 2, [], [.inl 0, .inl 1]⟩
def p22 : Pat := ⟨"across", 22, 1, [], [.inl 0]⟩
def p23 : Pat := ⟨"need_fit", 18, 2, [], [.inl 0, .inl 1]⟩
def p24 : Pat := ⟨"slid", 23, 2, [], [.inl 0, .inl 1]⟩
def p25 : Pat := ⟨"_law_draw", 27, 2, [], [.inl 0, .inl 1]⟩
def p26 : Pat := ⟨"_law_pick", 28, 2, [], [.inl 0, .inl 1]⟩
def p27 : Pat := ⟨"_law_great", 29, 2, [], [.inl 0, .inl 1]⟩
def p28 : Pat := ⟨"_law_is_from", 33, 3, [], [.inl 0, .inl 1, .inl 2]⟩
def p29 : Pat := ⟨"_law_is_word", 34, 1, [], [.inl 0]⟩
def p30 : Pat := ⟨"_law_turned_about", 31, 2, [], [.inl 0, .inl 1]⟩
def p31 : Pat := ⟨"_law_below", 32, 2, [], [.inl 0, .inl 1]⟩
def p32 : Pat := ⟨"_law_is_step", 35, 1, [], [.inl 0]⟩
def p33 : Pat := ⟨"_law_split", 39, 2, [], [.inl 0, .inl 1]⟩
def p34 : Pat := ⟨"_law_flipped", 40, 1, [], [.inl 0]⟩
def p35 : Pat := ⟨"_law_one_row", 41, 1, [], [.inl 0]⟩
def p36 : Pat := ⟨"way_there", 24, 2, [], [.inl 0, .inl 1]⟩
def p37 : Pat := ⟨"_law_across", 43, 1, [], [.inl 0]⟩
def p38 : Pat := ⟨"_law_stretches_wound", 42, 2, [], [.inl 0, .inl 1]⟩
def p39 : Pat := ⟨"wound", 21, 2, [], [.inl 0, .inl 1]⟩
def p40 : Pat := ⟨"fewest", 25, 2, [], [.inl 0, .inl 1]⟩
def p41 : Pat := ⟨"_law_pen", 26, 1, [], [.inl 0]⟩
def p42 : Pat := ⟨"_law_words", 30, 2, [], [.inl 0, .inl 1]⟩
def p43 : Pat := ⟨"_law_great_stretches", 37, 2, [], [.inl 0, .inl 1]⟩
def p44 : Pat := ⟨"_law_dealt", 36, 3, [], [.inl 0, .inl 1, .inl 2]⟩
def p45 : Pat := ⟨"_law_cut_stretches", 38, 2, [], [.inl 0, .inl 1]⟩
def p46 : Pat := ⟨"_law_pair_right", 44, 2, [], [.inl 0, .inl 1]⟩
def p47 : Pat := ⟨"_law_fewest_right", 45, 3, [], [.inl 0, .inl 1, .inl 2]⟩
def pats : List Pat := [p0, p1, p2, p3, p4, p5, p6, p7, p8, p9, p10, p11, p12, p13, p14, p15, p16, p17, p18, p19, p20, p21, p22, p23, p24, p25, p26, p27, p28, p29, p30, p31, p32, p33, p34, p35, p36, p37, p38, p39, p40, p41, p42, p43, p44, p45, p46, p47]
def cI : List (Str × Int) := [("MOST_LETTERS", 8), ("MOST", 1000000000000000000), ("LEAST_SPOOLS", 2), ("MOST_SPOOLS", 6), ("FEW_SPOOLS", 3), ("FEW_YARDS", 4)]
def cS : List (Str × Str) := [("LETTERS", "abcdefghijklmnopqrstuvwxyz")]
def cF : List Str := ["ArithmeticError", "IndexError", "RuntimeError", "ValueError", "abs", "all", "bool", "enumerate", "int", "isinstance", "len", "list", "max", "min", "range", "reversed", "sorted", "str", "sum", "tuple", "zip"]
def ctx : DL.Ctx := ⟨[], ⟨.function, [], false, false, []⟩, true, pats, cI, cS, cF, xesOf xds, xis⟩
def fa : List He.Fa := faOf gnames ctx.cF ctx.cI ctx.cS
theorem checked : rowsC ctx rows prog = true := by decide +kernel
theorem pb0 : PB rows r_is_whole d_is_whole p0 := pb_dfl [(0, 0), (1, 0), (1, 1)] rfl (List.cons_ne_nil _ _) (by decide +kernel) fun _ _ _ _ _ _ _ us its ws l1 l2 l3 => match us, its, ws, l1, l2, l3 with | [_], [_, _], [], _, _, _ => ⟨_, rfl, rfl⟩
theorem pb1 : PB rows r_is_way d_is_way p1 := pb_plain rfl rfl rfl rfl rfl fun _ _ _ _ _ _ us hl => match us, hl with | [_], _ => rfl
theorem pb2 : PB rows r_is_word d_is_word p2 := pb_plain rfl rfl rfl rfl rfl fun _ _ _ _ _ _ us hl => match us, hl with | [_], _ => rfl
theorem pb3 : PB rows r_is_whole d_is_whole p3 := pb_dfl [(0, 0), (2, 0), (2, 1)] rfl (List.cons_ne_nil _ _) (by decide +kernel) fun _ _ _ _ _ _ _ us its ws l1 l2 l3 => match us, its, ws, l1, l2, l3 with | [_], [_, _], [_, _], _, _, _ => ⟨_, rfl, rfl⟩
theorem pb4 : PB rows r_is_whole d_is_whole p4 := pb_dfl [(0, 0), (2, 0), (1, 1)] rfl (List.cons_ne_nil _ _) (by decide +kernel) fun _ _ _ _ _ _ _ us its ws l1 l2 l3 => match us, its, ws, l1, l2, l3 with | [_], [_, _], [_], _, _, _ => ⟨_, rfl, rfl⟩
theorem pb5 : PB rows r_last_of d_last_of p5 := pb_plain rfl rfl rfl rfl rfl fun _ _ _ _ _ _ us hl => match us, hl with | [_], _ => rfl
theorem pb6 : PB rows r_is_stretch d_is_stretch p6 := pb_plain rfl rfl rfl rfl rfl fun _ _ _ _ _ _ us hl => match us, hl with | [_], _ => rfl
theorem pb7 : PB rows r_goes_on d_goes_on p7 := pb_plain rfl rfl rfl rfl rfl fun _ _ _ _ _ _ us hl => match us, hl with | [_, _], _ => rfl
theorem pb8 : PB rows r_joined d_joined p8 := pb_plain rfl rfl rfl rfl rfl fun _ _ _ _ _ _ us hl => match us, hl with | [_], _ => rfl
theorem pb9 : PB rows r_turned_stretch d_turned_stretch p9 := pb_plain rfl rfl rfl rfl rfl fun _ _ _ _ _ _ us hl => match us, hl with | [_], _ => rfl
theorem pb10 : PB rows r_yards d_yards p10 := pb_plain rfl rfl rfl rfl rfl fun _ _ _ _ _ _ us hl => match us, hl with | [_], _ => rfl
theorem pb11 : PB rows r_stepped d_stepped p11 := pb_plain rfl rfl rfl rfl rfl fun _ _ _ _ _ _ us hl => match us, hl with | [_, _], _ => rfl
theorem pb12 : PB rows r_is_row d_is_row p12 := pb_plain rfl rfl rfl rfl rfl fun _ _ _ _ _ _ us hl => match us, hl with | [_], _ => rfl
theorem pb13 : PB rows r_are_apart d_are_apart p13 := pb_plain rfl rfl rfl rfl rfl fun _ _ _ _ _ _ us hl => match us, hl with | [_], _ => rfl
theorem pb14 : PB rows r_spans d_spans p14 := pb_plain rfl rfl rfl rfl rfl fun _ _ _ _ _ _ us hl => match us, hl with | [_], _ => rfl
theorem pb15 : PB rows r_is_standing d_is_standing p15 := pb_plain rfl rfl rfl rfl rfl fun _ _ _ _ _ _ us hl => match us, hl with | [_], _ => rfl
theorem pb16 : PB rows r_merged d_merged p16 := pb_plain rfl rfl rfl rfl rfl fun _ _ _ _ _ _ us hl => match us, hl with | [_], _ => rfl
theorem pb17 : PB rows r_turned d_turned p17 := pb_plain rfl rfl rfl rfl rfl fun _ _ _ _ _ _ us hl => match us, hl with | [_], _ => rfl
theorem pb18 : PB rows r_parted d_parted p18 := pb_plain rfl rfl rfl rfl rfl fun _ _ _ _ _ _ us hl => match us, hl with | [_, _], _ => rfl
theorem pb19 : PB rows r_gauge_by d_gauge_by p19 := pb_plain rfl rfl rfl rfl rfl fun _ _ _ _ _ _ us hl => match us, hl with | [_, _], _ => rfl
theorem pb20 : PB rows r_gauge_of d_gauge_of p20 := pb_plain rfl rfl rfl rfl rfl fun _ _ _ _ _ _ us hl => match us, hl with | [_], _ => rfl
theorem pb21 : PB rows r_stepped_rows d_stepped_rows p21 := pb_plain rfl rfl rfl rfl rfl fun _ _ _ _ _ _ us hl => match us, hl with | [_, _], _ => rfl
theorem pb22 : PB rows r_across d_across p22 := pb_plain rfl rfl rfl rfl rfl fun _ _ _ _ _ _ us hl => match us, hl with | [_], _ => rfl
theorem pb23 : PB rows r_need_fit d_need_fit p23 := pb_plain rfl rfl rfl rfl rfl fun _ _ _ _ _ _ us hl => match us, hl with | [_, _], _ => rfl
theorem pb24 : PB rows r_slid d_slid p24 := pb_plain rfl rfl rfl rfl rfl fun _ _ _ _ _ _ us hl => match us, hl with | [_, _], _ => rfl
theorem pb25 : PB rows r__law_draw d__law_draw p25 := pb_plain rfl rfl rfl rfl rfl fun _ _ _ _ _ _ us hl => match us, hl with | [_, _], _ => rfl
theorem pb26 : PB rows r__law_pick d__law_pick p26 := pb_plain rfl rfl rfl rfl rfl fun _ _ _ _ _ _ us hl => match us, hl with | [_, _], _ => rfl
theorem pb27 : PB rows r__law_great d__law_great p27 := pb_plain rfl rfl rfl rfl rfl fun _ _ _ _ _ _ us hl => match us, hl with | [_, _], _ => rfl
theorem pb28 : PB rows r__law_is_from d__law_is_from p28 := pb_plain rfl rfl rfl rfl rfl fun _ _ _ _ _ _ us hl => match us, hl with | [_, _, _], _ => rfl
theorem pb29 : PB rows r__law_is_word d__law_is_word p29 := pb_plain rfl rfl rfl rfl rfl fun _ _ _ _ _ _ us hl => match us, hl with | [_], _ => rfl
theorem pb30 : PB rows r__law_turned_about d__law_turned_about p30 := pb_plain rfl rfl rfl rfl rfl fun _ _ _ _ _ _ us hl => match us, hl with | [_, _], _ => rfl
theorem pb31 : PB rows r__law_below d__law_below p31 := pb_plain rfl rfl rfl rfl rfl fun _ _ _ _ _ _ us hl => match us, hl with | [_, _], _ => rfl
theorem pb32 : PB rows r__law_is_step d__law_is_step p32 := pb_plain rfl rfl rfl rfl rfl fun _ _ _ _ _ _ us hl => match us, hl with | [_], _ => rfl
theorem pb33 : PB rows r__law_split d__law_split p33 := pb_plain rfl rfl rfl rfl rfl fun _ _ _ _ _ _ us hl => match us, hl with | [_, _], _ => rfl
theorem pb34 : PB rows r__law_flipped d__law_flipped p34 := pb_plain rfl rfl rfl rfl rfl fun _ _ _ _ _ _ us hl => match us, hl with | [_], _ => rfl
theorem pb35 : PB rows r__law_one_row d__law_one_row p35 := pb_plain rfl rfl rfl rfl rfl fun _ _ _ _ _ _ us hl => match us, hl with | [_], _ => rfl
theorem pb36 : PB rows r_way_there d_way_there p36 := pb_plain rfl rfl rfl rfl rfl fun _ _ _ _ _ _ us hl => match us, hl with | [_, _], _ => rfl
theorem pb37 : PB rows r__law_across d__law_across p37 := pb_plain rfl rfl rfl rfl rfl fun _ _ _ _ _ _ us hl => match us, hl with | [_], _ => rfl
theorem pb38 : PB rows r__law_stretches_wound d__law_stretches_wound p38 := pb_plain rfl rfl rfl rfl rfl fun _ _ _ _ _ _ us hl => match us, hl with | [_, _], _ => rfl
theorem pb39 : PB rows r_wound d_wound p39 := pb_plain rfl rfl rfl rfl rfl fun _ _ _ _ _ _ us hl => match us, hl with | [_, _], _ => rfl
theorem pb40 : PB rows r_fewest d_fewest p40 := pb_plain rfl rfl rfl rfl rfl fun _ _ _ _ _ _ us hl => match us, hl with | [_, _], _ => rfl
theorem pb41 : PB rows r__law_pen d__law_pen p41 := pb_plain rfl rfl rfl rfl rfl fun _ _ _ _ _ _ us hl => match us, hl with | [_], _ => rfl
theorem pb42 : PB rows r__law_words d__law_words p42 := pb_plain rfl rfl rfl rfl rfl fun _ _ _ _ _ _ us hl => match us, hl with | [_, _], _ => rfl
theorem pb43 : PB rows r__law_great_stretches d__law_great_stretches p43 := pb_plain rfl rfl rfl rfl rfl fun _ _ _ _ _ _ us hl => match us, hl with | [_, _], _ => rfl
theorem pb44 : PB rows r__law_dealt d__law_dealt p44 := pb_plain rfl rfl rfl rfl rfl fun _ _ _ _ _ _ us hl => match us, hl with | [_, _, _], _ => rfl
theorem pb45 : PB rows r__law_cut_stretches d__law_cut_stretches p45 := pb_plain rfl rfl rfl rfl rfl fun _ _ _ _ _ _ us hl => match us, hl with | [_, _], _ => rfl
theorem pb46 : PB rows r__law_pair_right d__law_pair_right p46 := pb_plain rfl rfl rfl rfl rfl fun _ _ _ _ _ _ us hl => match us, hl with | [_, _], _ => rfl
theorem pb47 : PB rows r__law_fewest_right d__law_fewest_right p47 := pb_plain rfl rfl rfl rfl rfl fun _ _ _ _ _ _ us hl => match us, hl with | [_, _, _], _ => rfl
theorem hP : ∀ p ∈ ctx.pats, PC' fn gnames rows p := all_cons ⟨d_is_whole, r_is_whole, rfl, by decide +kernel, rfl, rfl, rfl, rfl, rfl, rfl, pb0⟩ (
  all_cons ⟨d_is_way, r_is_way, rfl, by decide +kernel, rfl, rfl, rfl, rfl, rfl, rfl, pb1⟩ (
  all_cons ⟨d_is_word, r_is_word, rfl, by decide +kernel, rfl, rfl, rfl, rfl, rfl, rfl, pb2⟩ (
  all_cons ⟨d_is_whole, r_is_whole, rfl, by decide +kernel, rfl, rfl, rfl, rfl, rfl, rfl, pb3⟩ (
  all_cons ⟨d_is_whole, r_is_whole, rfl, by decide +kernel, rfl, rfl, rfl, rfl, rfl, rfl, pb4⟩ (
  all_cons ⟨d_last_of, r_last_of, rfl, by decide +kernel, rfl, rfl, rfl, rfl, rfl, rfl, pb5⟩ (
  all_cons ⟨d_is_stretch, r_is_stretch, rfl, by decide +kernel, rfl, rfl, rfl, rfl, rfl, rfl, pb6⟩ (
  all_cons ⟨d_goes_on, r_goes_on, rfl, by decide +kernel, rfl, rfl, rfl, rfl, rfl, rfl, pb7⟩ (
  all_cons ⟨d_joined, r_joined, rfl, by decide +kernel, rfl, rfl, rfl, rfl, rfl, rfl, pb8⟩ (
  all_cons ⟨d_turned_stretch, r_turned_stretch, rfl, by decide +kernel, rfl, rfl, rfl, rfl, rfl, rfl, pb9⟩ (
  all_cons ⟨d_yards, r_yards, rfl, by decide +kernel, rfl, rfl, rfl, rfl, rfl, rfl, pb10⟩ (
  all_cons ⟨d_stepped, r_stepped, rfl, by decide +kernel, rfl, rfl, rfl, rfl, rfl, rfl, pb11⟩ (
  all_cons ⟨d_is_row, r_is_row, rfl, by decide +kernel, rfl, rfl, rfl, rfl, rfl, rfl, pb12⟩ (
  all_cons ⟨d_are_apart, r_are_apart, rfl, by decide +kernel, rfl, rfl, rfl, rfl, rfl, rfl, pb13⟩ (
  all_cons ⟨d_spans, r_spans, rfl, by decide +kernel, rfl, rfl, rfl, rfl, rfl, rfl, pb14⟩ (
  all_cons ⟨d_is_standing, r_is_standing, rfl, by decide +kernel, rfl, rfl, rfl, rfl, rfl, rfl, pb15⟩ (
  all_cons ⟨d_merged, r_merged, rfl, by decide +kernel, rfl, rfl, rfl, rfl, rfl, rfl, pb16⟩ (
  all_cons ⟨d_turned, r_turned, rfl, by decide +kernel, rfl, rfl, rfl, rfl, rfl, rfl, pb17⟩ (
  all_cons ⟨d_parted, r_parted, rfl, by decide +kernel, rfl, rfl, rfl, rfl, rfl, rfl, pb18⟩ (
  all_cons ⟨d_gauge_by, r_gauge_by, rfl, by decide +kernel, rfl, rfl, rfl, rfl, rfl, rfl, pb19⟩ (
  all_cons ⟨d_gauge_of, r_gauge_of, rfl, by decide +kernel, rfl, rfl, rfl, rfl, rfl, rfl, pb20⟩ (
  all_cons ⟨d_stepped_rows, r_stepped_rows, rfl, by decide +kernel, rfl, rfl, rfl, rfl, rfl, rfl, pb21⟩ (
  all_cons ⟨d_across, r_across, rfl, by decide +kernel, rfl, rfl, rfl, rfl, rfl, rfl, pb22⟩ (
  all_cons ⟨d_need_fit, r_need_fit, rfl, by decide +kernel, rfl, rfl, rfl, rfl, rfl, rfl, pb23⟩ (
  all_cons ⟨d_slid, r_slid, rfl, by decide +kernel, rfl, rfl, rfl, rfl, rfl, rfl, pb24⟩ (
  all_cons ⟨d__law_draw, r__law_draw, rfl, by decide +kernel, rfl, rfl, rfl, rfl, rfl, rfl, pb25⟩ (
  all_cons ⟨d__law_pick, r__law_pick, rfl, by decide +kernel, rfl, rfl, rfl, rfl, rfl, rfl, pb26⟩ (
  all_cons ⟨d__law_great, r__law_great, rfl, by decide +kernel, rfl, rfl, rfl, rfl, rfl, rfl, pb27⟩ (
  all_cons ⟨d__law_is_from, r__law_is_from, rfl, by decide +kernel, rfl, rfl, rfl, rfl, rfl, rfl, pb28⟩ (
  all_cons ⟨d__law_is_word, r__law_is_word, rfl, by decide +kernel, rfl, rfl, rfl, rfl, rfl, rfl, pb29⟩ (
  all_cons ⟨d__law_turned_about, r__law_turned_about, rfl, by decide +kernel, rfl, rfl, rfl, rfl, rfl, rfl, pb30⟩ (
  all_cons ⟨d__law_below, r__law_below, rfl, by decide +kernel, rfl, rfl, rfl, rfl, rfl, rfl, pb31⟩ (
  all_cons ⟨d__law_is_step, r__law_is_step, rfl, by decide +kernel, rfl, rfl, rfl, rfl, rfl, rfl, pb32⟩ (
  all_cons ⟨d__law_split, r__law_split, rfl, by decide +kernel, rfl, rfl, rfl, rfl, rfl, rfl, pb33⟩ (
  all_cons ⟨d__law_flipped, r__law_flipped, rfl, by decide +kernel, rfl, rfl, rfl, rfl, rfl, rfl, pb34⟩ (
  all_cons ⟨d__law_one_row, r__law_one_row, rfl, by decide +kernel, rfl, rfl, rfl, rfl, rfl, rfl, pb35⟩ (
  all_cons ⟨d_way_there, r_way_there, rfl, by decide +kernel, rfl, rfl, rfl, rfl, rfl, rfl, pb36⟩ (
  all_cons ⟨d__law_across, r__law_across, rfl, by decide +kernel, rfl, rfl, rfl, rfl, rfl, rfl, pb37⟩ (
  all_cons ⟨d__law_stretches_wound, r__law_stretches_wound, rfl, by decide +kernel, rfl, rfl, rfl, rfl, rfl, rfl, pb38⟩ (
  all_cons ⟨d_wound, r_wound, rfl, by decide +kernel, rfl, rfl, rfl, rfl, rfl, rfl, pb39⟩ (
  all_cons ⟨d_fewest, r_fewest, rfl, by decide +kernel, rfl, rfl, rfl, rfl, rfl, rfl, pb40⟩ (
  all_cons ⟨d__law_pen, r__law_pen, rfl, by decide +kernel, rfl, rfl, rfl, rfl, rfl, rfl, pb41⟩ (
  all_cons ⟨d__law_words, r__law_words, rfl, by decide +kernel, rfl, rfl, rfl, rfl, rfl, rfl, pb42⟩ (
  all_cons ⟨d__law_great_stretches, r__law_great_stretches, rfl, by decide +kernel, rfl, rfl, rfl, rfl, rfl, rfl, pb43⟩ (
  all_cons ⟨d__law_dealt, r__law_dealt, rfl, by decide +kernel, rfl, rfl, rfl, rfl, rfl, rfl, pb44⟩ (
  all_cons ⟨d__law_cut_stretches, r__law_cut_stretches, rfl, by decide +kernel, rfl, rfl, rfl, rfl, rfl, rfl, pb45⟩ (
  all_cons ⟨d__law_pair_right, r__law_pair_right, rfl, by decide +kernel, rfl, rfl, rfl, rfl, rfl, rfl, pb46⟩ (
  all_cons ⟨d__law_fewest_right, r__law_fewest_right, rfl, by decide +kernel, rfl, rfl, rfl, rfl, rfl, rfl, pb47⟩ (all_nil))))))))))))))))))))))))))))))))))))))))))))))))
theorem xd_NoStanding : XD fn ⟨"NoStanding", "part", .val, "part"⟩ := ⟨47, i_NoStanding, _, _, _, _, rfl, rfl, rfl, rfl, rfl, scC_ok (by decide +kernel), by decide +kernel, by decide +kernel, by decide +kernel, by decide +kernel, fun _ _ _ _ _ _ us hl => match us, hl with | [_, _], _ => rfl⟩
theorem xd_NoSpot : XD fn ⟨"NoSpot", "asked", .idx, "asked"⟩ := ⟨48, i_NoSpot, _, _, _, _, rfl, rfl, rfl, rfl, rfl, scC_ok (by decide +kernel), by decide +kernel, by decide +kernel, by decide +kernel, by decide +kernel, fun _ _ _ _ _ _ us hl => match us, hl with | [_, _], _ => rfl⟩
theorem xd_TooFew : XD fn ⟨"TooFew", "at", .ari, "at"⟩ := ⟨49, i_TooFew, _, _, _, _, rfl, rfl, rfl, rfl, rfl, scC_ok (by decide +kernel), by decide +kernel, by decide +kernel, by decide +kernel, by decide +kernel, fun _ _ _ _ _ _ us hl => match us, hl with | [_, _], _ => rfl⟩
theorem xd_TooMany : XD fn ⟨"TooMany", "many", .run, "many"⟩ := ⟨50, i_TooMany, _, _, _, _, rfl, rfl, rfl, rfl, rfl, scC_ok (by decide +kernel), by decide +kernel, by decide +kernel, by decide +kernel, by decide +kernel, fun _ _ _ _ _ _ us hl => match us, hl with | [_, _], _ => rfl⟩
theorem hX : ∀ d ∈ xds, XD fn d := all_cons xd_NoStanding (all_cons xd_NoSpot (all_cons xd_TooFew (all_cons xd_TooMany (all_nil))))
abbrev R : PySem.W.OpenRow := PySem.W.OpenLaw.row PySem.Challenge.rw_spoolrounds_k79_whole_two_spools_slide
abbrev hk : PySem.W.Hook := hookX 6 fa fn (xsB xds xis)
def ob (s : PySem.W.SharedT) : He.AlD × Bool × Bool := obX 6 fa fn (xsB xds xis) s
theorem run (w : World) : HandSHeadRun.RunEq R (PySem.W.view R.prog [73]) hk ob 4000 nm w := by
  intro os
  kernel_rfl
theorem facts (K : PySem.W.Frag) (mg : Str → Option Value) (h : Heap) (X : K.In h) (Gd : h.Ns mainGlobals mg) (says : He.SaysD fa fn K) (xk : xsB xds xis K = true) : Facts K mg ctx rows ∧ (∀ p ∈ ctx.xs, XFact (grOf xds K) mg p) ∧ (∀ q ∈ ctx.xi, PySem.W.kitAny K (.ref ((grOf xds K).cl q.1)) (q.2.1.map (cnV (grOf xds K))) = some q.2.2) ∧
    ∃ (a : Addr) (fd : FuncData), mg "law" = some (.ref a) ∧ FunD K r_law.x r_law.qual r_law.params r_law.body r_law.sc (d_law.dvs K) (d_law.kws K) a fd ∧ ∀ (s : Shared) (u : Value), BindsTo s fd ⟨[u], []⟩ [(("script" : Str), u)] := by
  obtain ⟨q1, q2⟩ := xfacts_ok X Gd says xk hX
  refine ⟨facts_ok X Gd says hP, q1, q2, ?_⟩
  obtain ⟨fd, F⟩ := says.def_ 46 (d := d_law) rfl
  refine ⟨_, fd, ?_, F, fun s u => ?_⟩
  · have q : He.Fa.ok K (.glo "law") = true := says.fact 46 rfl
    exact He.glo_ok X Gd q
  · exact FunD.bindsA (ps := ["script"]) F (fun _ _ _ _ _ _ us hl => match us, hl with | [_], _ => rfl) s [u] rfl
end LW
set_option Elab.async false
set_option linter.all false
set_option maxRecDepth 100000
set_option maxHeartbeats 1000000
/-! The D layer's rules for proofs, 1. -/
namespace DL
open PySem L2
section
variable {Φ : Fns} {E : DX} {σ : DS} {h : MH} {Q : D → MH → Prop} {P : Bool → MH → Prop}
@[simp] theorem wpE_var {i : Nat} : wpE Φ E (.var i) σ h Q = ∃ d, σ[i]? = some (some d) ∧ Q d h := rfl
@[simp] theorem wpE_cst {d : D} : wpE Φ E (.cst d) σ h Q = Q d h := rfl
@[simp] theorem wpE_bin {op : Operator} {a b : Ex} : wpE Φ E (.bin op a b) σ h Q = wpE Φ E a σ h fun x h1 => wpE Φ E b σ h1 fun y h2 => bop op x y h2 Q := rfl
def negD (x : D) (h : MH) (Q : D → MH → Prop) : Prop := match x with
  | .int i => Q (.int (-i)) h
  | _ => False
@[simp] theorem negD_int {i : Int} : negD (.int i) h Q = Q (.int (-i)) h := rfl
@[simp] theorem wpE_neg {a : Ex} : wpE Φ E (.neg a) σ h Q = wpE Φ E a σ h fun x h1 => negD x h1 Q := rfl
@[simp] theorem wpE_not {a : Ex} : wpE Φ E (.not a) σ h Q = wpE Φ E a σ h fun x h1 => tru x h1 fun k => Q (.bl (!k)) h1 := rfl
@[simp] theorem wpE_and {a b : Ex} : wpE Φ E (.and a b) σ h Q = wpE Φ E a σ h fun x h1 => tru x h1 fun k => if k = true then wpE Φ E b σ h1 Q else Q x h1 := rfl
@[simp] theorem wpE_or {a b : Ex} : wpE Φ E (.or a b) σ h Q = wpE Φ E a σ h fun x h1 => tru x h1 fun k => if k = true then Q x h1 else wpE Φ E b σ h1 Q := rfl
@[simp] theorem wpE_ite {c : Te} {a b : Ex} : wpE Φ E (.ite c a b) σ h Q = wpT Φ E c σ h fun k h1 => if k = true then wpE Φ E a σ h1 Q else wpE Φ E b σ h1 Q := rfl
@[simp] theorem wpE_cmp {op : CmpOp} {a b : Ex} : wpE Φ E (.cmp op a b) σ h Q = wpE Φ E a σ h fun x h1 => wpE Φ E b σ h1 fun y h2 => cop op x y h2 fun k => Q (.bl k) h2 := rfl
@[simp] theorem wpE_chn {op op' : CmpOp} {a b c : Ex} : wpE Φ E (.chn op op' a b c) σ h Q = wpE Φ E a σ h fun x h1 => wpE Φ E b σ h1 fun y h2 => cop op x y h2 fun k =>
      if k = true then wpE Φ E c σ h2 fun z h3 => cop op' y z h3 fun k' => Q (.bl k') h3 else Q (.bl false) h2 := rfl
@[simp] theorem wpE_tup {es : List Ex} : wpE Φ E (.tup es) σ h Q = wpEs Φ E es σ h fun ds h1 => Fits ds.length ∧ Q (.tup ds) h1 := rfl
@[simp] theorem wpE_lst {es : List Ex} : wpE Φ E (.lst es) σ h Q = wpEs Φ E es σ h fun ds h1 => Fits ds.length ∧ al (.lst ds) h1 Q := rfl
@[simp] theorem wpE_dsp {ks : List Str} {es : List Ex} : wpE Φ E (.dsp ks es) σ h Q = wpEs Φ E es σ h fun ds h1 => al (.dct ((ks.map Sum.inr).zip ds)) h1 Q := rfl
@[simp] theorem wpE_ix {a i : Ex} : wpE Φ E (.ix a i) σ h Q = wpE Φ E a σ h fun x h1 => wpE Φ E i σ h1 fun y h2 => ixD x y h2 Q := rfl
@[simp] theorem wpE_rsl {a : Ex} : wpE Φ E (.rsl a) σ h Q = wpE Φ E a σ h fun x h1 => rslD x h1 Q := rfl
@[simp] theorem rslD_tup {ds : List D} : rslD (.tup ds) h Q = Q (.tup ds.reverse) h := rfl
@[simp] theorem rslD_ref {a : Addr} : rslD (.ref a) h Q = ∃ xs, h a = some (.lst xs) ∧ al (.lst xs.reverse) h Q := rfl
@[simp] theorem wpE_sl {a : Ex} {lo hi : Option Ex} : wpE Φ E (.sl a lo hi) σ h Q = wpE Φ E a σ h fun x h1 => wpO Φ E lo σ h1 fun l h2 => wpO Φ E hi σ h2 fun u h3 => slD x l u h3 Q := rfl
@[simp] theorem wpE_call {f : Nat} {es : List Ex} : wpE Φ E (.call f es) σ h Q = wpEs Φ E es σ h fun ds h1 => ds.length = es.length ∧ Φ f ds h1 Q E := rfl
@[simp] theorem wpE_callk {f : Nat} {es kes : List Ex} {arr : List (Nat ⊕ D)} : wpE Φ E (.callk f es kes arr) σ h Q = wpEs Φ E es σ h fun ds h1 => wpEs Φ E kes σ h1 fun ks h2 => (ds.length = es.length ∧ ks.length = kes.length) ∧ Φ f (arrOf (ds ++ ks) arr) h2 Q E := rfl
@[simp] theorem wpE_bi {b : Bi} {es : List Ex} : wpE Φ E (.bi b es) σ h Q = wpEs Φ E es σ h fun ds h1 => bi b ds h1 Q := rfl
@[simp] theorem wpE_isi {a : Ex} {ts : List Ty} : wpE Φ E (.isi a ts) σ h Q = wpE Φ E a σ h fun x h1 => isTys x h1 ts fun k => Q (.bl k) h1 := rfl
@[simp] theorem wpE_met {m : Mt} {o : Ex} {es : List Ex} : wpE Φ E (.met m o es) σ h Q = wpE Φ E o σ h fun x h1 => mtTy m x h1 ∧ wpEs Φ E es σ h1 fun ds h2 => met m x ds h2 Q := rfl
@[simp] theorem wpE_lc {el : Ex} {t : Tg} {it : It'} {cd : Option Te} {vs : List Nat} : wpE Φ E (.lc el t it cd vs) σ h Q = wpI Φ E it σ h fun J h1 => lcGo t J.ok (wpC Φ cd) (wpE Φ (fun _ _ _ => False) el) (wipeD σ vs) (fun acc h2 => al (.lst acc) h2 Q) J.its [] h1 := rfl
@[simp] theorem wpE_lc2 {el : Ex} {t : Tg} {it : It'} {cd : Option Te} {t1 : Tg} {it1 : It'} {cd1 : Option Te} {vs vs1 : List Nat} : wpE Φ E (.lc2 el t it cd t1 it1 cd1 vs vs1) σ h Q = wpI Φ E it σ h fun J h1 =>
      lcGo2 t J.ok (wpC Φ cd) (fun σ1 acc h2 K => wpI Φ (fun _ _ _ => False) it1 σ1 h2 fun J1 h3 => lcGo t1 J1.ok (wpC Φ cd1) (wpE Φ (fun _ _ _ => False) el) (wipeD σ1 vs1) K J1.its acc h3)
        (wipeD σ vs) (fun acc h2 => al (.lst acc) h2 Q) J.its [] h1 := rfl
@[simp] theorem wpT_not {a : Te} : wpT Φ E (.not a) σ h P = wpT Φ E a σ h fun k h1 => P (!k) h1 := rfl
@[simp] theorem wpT_and {a b : Te} : wpT Φ E (.and a b) σ h P = wpT Φ E a σ h fun k h1 => if k = true then wpT Φ E b σ h1 P else P false h1 := rfl
@[simp] theorem wpT_or {a b : Te} : wpT Φ E (.or a b) σ h P = wpT Φ E a σ h fun k h1 => if k = true then P true h1 else wpT Φ E b σ h1 P := rfl
@[simp] theorem wpT_cmp {op : CmpOp} {a b : Ex} : wpT Φ E (.cmp op a b) σ h P = wpE Φ E a σ h fun x h1 => wpE Φ E b σ h1 fun y h2 => cop op x y h2 fun k => P k h2 := rfl
@[simp] theorem wpT_chn {op op' : CmpOp} {a b c : Ex} : wpT Φ E (.chn op op' a b c) σ h P = wpE Φ E a σ h fun x h1 => wpE Φ E b σ h1 fun y h2 => cop op x y h2 fun k =>
      if k = true then wpE Φ E c σ h2 fun z h3 => cop op' y z h3 fun k' => P k' h3 else P false h2 := rfl
@[simp] theorem wpT_val {e : Ex} : wpT Φ E (.val e) σ h P = wpE Φ E e σ h fun x h1 => tru x h1 fun k => P k h1 := rfl
@[simp] theorem wpEs_nil {R : List D → MH → Prop} : wpEs Φ E [] σ h R = R [] h := rfl
@[simp] theorem wpEs_cons {e : Ex} {r : List Ex} {R : List D → MH → Prop} : wpEs Φ E (e :: r) σ h R = wpE Φ E e σ h fun x h1 => wpEs Φ E r σ h1 fun xs h2 => R (x :: xs) h2 := rfl
@[simp] theorem wpO_none {R : Option Int → MH → Prop} : wpO Φ E none σ h R = R none h := rfl
def intD (x : D) (h : MH) (R : Option Int → MH → Prop) : Prop := match x with
  | .int i => R (some i) h
  | _ => False
@[simp] theorem intD_int {i : Int} {R : Option Int → MH → Prop} : intD (.int i) h R = R (some i) h := rfl
@[simp] theorem wpO_some {e : Ex} {R : Option Int → MH → Prop} : wpO Φ E (some e) σ h R = wpE Φ E e σ h fun x h1 => intD x h1 R := rfl
@[simp] theorem wpC_none : wpC Φ none σ h P = P true h := rfl
@[simp] theorem wpC_some {t : Te} : wpC Φ (some t) σ h P = wpT Φ (fun _ _ _ => False) t σ h P := rfl
@[simp] theorem wpI_of {e : Ex} {R : ItV → MH → Prop} : wpI Φ E (.of e) σ h R = wpE Φ E e σ h fun x h1 => walkD x h1 fun J => R J h1 := rfl
@[simp] theorem wpI_rng {es : List Ex} {R : ItV → MH → Prop} : wpI Φ E (.rng es) σ h R = wpEs Φ E es σ h fun ds h1 => rngD ds fun J => R J h1 := rfl
@[simp] theorem wpI_zip {a b : Ex} {R : ItV → MH → Prop} : wpI Φ E (.zip a b) σ h R = wpE Φ E a σ h fun x h1 => wpE Φ E b σ h1 fun y h2 => zipD x y h2 fun J => R J h2 := rfl
@[simp] theorem wpI_enm {e : Ex} {R : ItV → MH → Prop} : wpI Φ E (.enm e) σ h R = wpE Φ E e σ h fun x h1 => enmD x h1 fun J => R J h1 := rfl
@[simp] theorem wpI_rev {e : Ex} {R : ItV → MH → Prop} : wpI Φ E (.rev e) σ h R = wpE Φ E e σ h fun x h1 => revD x h1 fun J => R J h1 := rfl
variable {F : DS → DX} {S : DS → MH → Prop}
@[simp] theorem wpLv_nm {i : Nat} {d : D} : wpLv Φ F (.nm i) d σ h S = S (σ.set i (some d)) h := rfl
@[simp] theorem wpLv_sub {o i : Ex} {d : D} : wpLv Φ F (.sub o i) d σ h S = wpE Φ (F σ) o σ h fun x h1 => wpE Φ (F σ) i σ h1 fun k h2 => setD x k d h2 fun h3 => S σ h3 := rfl
@[simp] theorem wpLv_tup {ls : List Lv} {ds : List D} : wpLv Φ F (.tup ls) (.tup ds) σ h S = (ds.length = ls.length ∧ wpLvs Φ F ls ds σ h S) := rfl
@[simp] theorem wpLv_starT {is : List Nat} {r : Nat} {ds : List D} : wpLv Φ F (.star is r) (.tup ds) σ h S = ((is.length ≤ ds.length ∧ ds.length ≤ 16000) ∧ ∀ p, h p = none → S ((setAll σ is (ds.take is.length)).set r (some (.ref p))) (up h p (.lst (ds.drop is.length)))) := rfl
@[simp] theorem wpLv_starL {is : List Nat} {r : Nat} {a : Addr} : wpLv Φ F (.star is r) (.ref a) σ h S = ∃ ds, h a = some (.lst ds) ∧ (is.length ≤ ds.length ∧ ds.length ≤ 16000) ∧ ∀ p, h p = none → S ((setAll σ is (ds.take is.length)).set r (some (.ref p))) (up h p (.lst (ds.drop is.length))) := rfl
@[simp] theorem wpLvs_nil : wpLvs Φ F [] [] σ h S = S σ h := rfl
@[simp] theorem wpLvs_cons {l : Lv} {ls : List Lv} {d : D} {ds : List D} : wpLvs Φ F (l :: ls) (d :: ds) σ h S = wpLv Φ F l d σ h fun σ1 h1 => wpLvs Φ F ls ds σ1 h1 S := rfl
variable {Dn : En}
@[simp] theorem wpS_asg {l : Lv} {e : Ex} : wpS Φ (.asg l e) Dn σ h = wpE Φ (exAt Dn σ) e σ h fun d h1 => wpLv Φ (exAt Dn) l d σ h1 Dn.nx := rfl
@[simp] theorem wpS_augs {a i : Ex} {op : Operator} {e : Ex} : wpS Φ (.augs a i op e) Dn σ h = wpE Φ (exAt Dn σ) a σ h fun x h1 => wpE Φ (exAt Dn σ) i σ h1 fun k h2 => ixL x k h2 fun y h3 => wpE Φ (exAt Dn σ) e σ h3 fun z h4 => augD op y z h4 fun u h5 => setD x k u h5 fun h6 => Dn.nx σ h6 := rfl
@[simp] theorem wpS_aug {i : Nat} {op : Operator} {e : Ex} : wpS Φ (.aug i op e) Dn σ h = ∃ x, σ[i]? = some (some x) ∧ wpE Φ (exAt Dn σ) e σ h fun y h1 => augD op x y h1 fun z h2 => Dn.nx (σ.set i (some z)) h2 := rfl
@[simp] theorem wpS_ex {e : Ex} : wpS Φ (.ex e) Dn σ h = wpE Φ (exAt Dn σ) e σ h fun _ h1 => Dn.nx σ h1 := rfl
@[simp] theorem wpS_ret {e : Ex} : wpS Φ (.ret e) Dn σ h = wpE Φ (exAt Dn σ) e σ h Dn.rt := rfl
@[simp] theorem wpS_retN : wpS Φ .retN Dn σ h = Dn.rt .non h := rfl
@[simp] theorem wpS_ifs {c : Te} {a b : List Sm} : wpS Φ (.ifs c a b) Dn σ h = wpT Φ (exAt Dn σ) c σ h fun k h1 => if k = true then wpB Φ a Dn σ h1 else wpB Φ b Dn σ h1 := rfl
@[simp] theorem wpS_for {t : Tg} {it : It'} {b : List Sm} : wpS Φ (.for t it b) Dn σ h = wpI Φ (exAt Dn σ) it σ h fun J h1 => forGo t J.ok (wpB Φ b) Dn J.its σ h1 := rfl
@[simp] theorem wpS_whl {c : Te} {b : List Sm} : wpS Φ (.whl c b) Dn σ h = whlGo (fun σ h P => wpT Φ (exAt Dn σ) c σ h P) (wpB Φ b) Dn σ h := rfl
@[simp] theorem wpS_brk : wpS Φ .brk Dn σ h = Dn.bk σ h := rfl
@[simp] theorem wpS_cnt : wpS Φ .cnt Dn σ h = Dn.ct σ h := rfl
@[simp] theorem wpS_pas : wpS Φ .pas Dn σ h = Dn.nx σ h := rfl
@[simp] theorem wpS_ded : wpS Φ .ded Dn σ h = False := rfl
@[simp] theorem wpS_rai {c : Nat} {f : Str} {e : Ex} : wpS Φ (.rai c f e) Dn σ h = wpE Φ (exAt Dn σ) e σ h fun d h1 => Dn.ex c [(f, d)] σ h1 := rfl
@[simp] theorem wpS_try {b : List Sm} {c i : Nat} {s : List Hs} : wpS Φ (.try b c i s) Dn σ h = wpB Φ b { Dn with ex := fun c' fs σ' h' => if c' = c then (i < σ'.length ∧ fs ≠ []) ∧ wpHs fs s { Dn with nx := fun σ1 h1 => Dn.nx (σ1.set i none) h1, bk := fun σ1 h1 => Dn.bk (σ1.set i none) h1, ct := fun σ1 h1 => Dn.ct (σ1.set i none) h1 } (σ'.set i none) h' else Dn.ex c' fs σ' h' } σ h := rfl
section
variable {fs : List (Str × D)}
@[simp] theorem wpX_cst {d : D} : wpX fs E (.cst d) σ h Q = Q d h := rfl
@[simp] theorem wpX_var {i : Nat} : wpX fs E (.var i) σ h Q = ∃ d, σ[i]? = some (some d) ∧ Q d h := rfl
@[simp] theorem wpX_fld {f : Str} : wpX fs E (.fld f) σ h Q = ((∀ c h', E c [] h') ∧ ∃ d, fs.lookup f = some d ∧ Q d h) := rfl
@[simp] theorem wpX_isi {cs : List CN} {b : Bool} : wpX fs E (.isi cs b) σ h Q = ((∀ c h', E c [] h') ∧ Q (.bl b) h) := rfl
@[simp] theorem wpX_tup {es : List Hx} : wpX fs E (.tup es) σ h Q = wpXs fs E es σ h fun ds h1 => Fits ds.length ∧ Q (.tup ds) h1 := rfl
@[simp] theorem wpX_and {a b : Hx} : wpX fs E (.and a b) σ h Q = wpX fs E a σ h fun x h1 => tru x h1 fun k => if k = true then wpX fs E b σ h1 Q else Q x h1 := rfl
@[simp] theorem wpX_not {a : Hx} : wpX fs E (.not a) σ h Q = wpX fs E a σ h fun x h1 => tru x h1 fun k => Q (.bl (!k)) h1 := rfl
@[simp] theorem wpX_cmp {op : CmpOp} {a b : Hx} : wpX fs E (.cmp op a b) σ h Q = wpX fs E a σ h fun x h1 => wpX fs E b σ h1 fun y h2 => cop op x y h2 fun k => Q (.bl k) h2 := rfl
@[simp] theorem wpXs_nil {R : List D → MH → Prop} : wpXs fs E [] σ h R = R [] h := rfl
@[simp] theorem wpXs_cons {e : Hx} {r : List Hx} {R : List D → MH → Prop} : wpXs fs E (e :: r) σ h R = wpX fs E e σ h fun x h1 => wpXs fs E r σ h1 fun xs h2 => R (x :: xs) h2 := rfl
@[simp] theorem wpHs_nil {Dn : En} : wpHs fs [] Dn σ h = Dn.nx σ h := rfl
@[simp] theorem wpHs_asg {i : Nat} {e : Hx} {r : List Hs} {Dn : En} : wpHs fs (.asg i e :: r) Dn σ h = wpX fs (fun _ _ _ => True) e σ h fun d h1 => wpHs fs r Dn (σ.set i (some d)) h1 := rfl
@[simp] theorem wpHs_ret {e : Hx} {r : List Hs} {Dn : En} : wpHs fs (.ret e :: r) Dn σ h = wpX fs (fun _ _ _ => True) e σ h Dn.rt := rfl
end
@[simp] theorem wpB_nil : wpB Φ [] Dn σ h = Dn.nx σ h := rfl
/-- one statement, then the rest (not for simp) -/
theorem wpB_cons {s : Sm} {r : List Sm} : wpB Φ (s :: r) Dn σ h = wpS Φ s { Dn with nx := fun σ' h' => wpB Φ r Dn σ' h' } σ h := rfl
@[simp] theorem wpB_one {s : Sm} : wpB Φ [s] Dn σ h = wpS Φ s Dn σ h := rfl
end
/-- a call's goal -/
theorem ph_of {prog : List Fn} {d f : Nat} {fn : Fn} {ds : List D} {h : MH} {Q : D → MH → Prop} {E : DX} (e : prog[f]? = some fn) (l : ds.length = fn.ar)
    (w : wpB (Ph prog d) fn.body ⟨fun _ h' => Q .non h', Q, fun _ _ => False, fun _ _ => False, fun c fs _ h' => E c fs h'⟩ (ds.map some ++ List.replicate (fn.n - fn.ar) none) h) : Ph prog (d + 1) f ds h Q E := ⟨fn, e, l, w⟩

/-! ### operations at known values -/
section
variable {h : MH} {Q : D → MH → Prop} {P : Bool → Prop}
end
end DL
namespace DL
open PySem L2
section
variable {h : MH} {Q : D → MH → Prop} {P : Bool → Prop} {R : ItV → Prop}
@[simp] theorem bop_add_int {i j : Int} : bop .Add (.int i) (.int j) h Q = Q (.int (i + j)) h := rfl
@[simp] theorem bop_add_str {i j : Str} : bop .Add (.str i) (.str j) h Q = (Fits (i.length + j.length) ∧ Q (.str (i ++ j)) h) := rfl
@[simp] theorem bop_add_tup {i j : List D} : bop .Add (.tup i) (.tup j) h Q = (Fits (i.length + j.length) ∧ Q (.tup (i ++ j)) h) := rfl
@[simp] theorem bop_add_ref {a b : Addr} : bop .Add (.ref a) (.ref b) h Q = ∃ xs ys, h a = some (.lst xs) ∧ h b = some (.lst ys) ∧ Fits (xs.length + ys.length) ∧ al (.lst (xs ++ ys)) h Q := rfl
@[simp] theorem bop_sub_int {i j : Int} : bop .Sub (.int i) (.int j) h Q = Q (.int (i - j)) h := rfl
@[simp] theorem bop_mul_int {i j : Int} : bop .Mult (.int i) (.int j) h Q = (MulOk i j ∧ Q (.int (i * j)) h) := rfl
@[simp] theorem bop_mul_tup {i : List D} {k : Int} : bop .Mult (.tup i) (.int k) h Q = ((-(2 ^ 63) ≤ k ∧ k < 2 ^ 63) ∧ (k ≤ 1000 ∧ i.length ≤ 1000) ∧ Q (.tup (List.replicate k.toNat i).flatten) h) := rfl
@[simp] theorem bop_mul_str {a : Str} {k : Int} : bop .Mult (.str a) (.int k) h Q = ((k ≤ 1000 ∧ a.length ≤ 1000 ∧ -(2 ^ 63) ≤ k) ∧ Q (.str (Txt.mul a k)) h) := rfl
@[simp] theorem bop_div_int {i j : Int} : bop .FloorDiv (.int i) (.int j) h Q = (DivOk j ∧ Q (.int (i / j)) h) := rfl
@[simp] theorem bop_mod_int {i j : Int} : bop .Mod (.int i) (.int j) h Q = (0 < j ∧ Q (.int (i % j)) h) := rfl
@[simp] theorem bop_pow_int {i j : Int} : bop .Pow (.int i) (.int j) h Q = ((0 ≤ j ∧ j ≤ 1000000 ∧ i.natAbs < 2 ^ 64) ∧ Q (.int (i ^ j.toNat)) h) := rfl
@[simp] theorem tru_bl {b : Bool} : tru (.bl b) h P = P b := rfl
@[simp] theorem tru_non : tru .non h P = P false := rfl
@[simp] theorem tru_int {i : Int} : tru (.int i) h P = P (i != 0) := rfl
@[simp] theorem cop_eq {x y : D} : cop .Eq x y h P = eqD x y h P := rfl
@[simp] theorem cop_ne {x y : D} : cop .NotEq x y h P = eqD x y h fun k => P (!k) := rfl
@[simp] theorem cop_lt {i j : Int} : cop .Lt (.int i) (.int j) h P = P (decide (i < j)) := rfl
@[simp] theorem cop_le {i j : Int} : cop .LtE (.int i) (.int j) h P = P (decide (i ≤ j)) := rfl
@[simp] theorem cop_gt {i j : Int} : cop .Gt (.int i) (.int j) h P = P (decide (j < i)) := rfl
@[simp] theorem cop_ge {i j : Int} : cop .GtE (.int i) (.int j) h P = P (decide (j ≤ i)) := rfl
@[simp] theorem cop_is {x y : D} : cop .Is x y h P = isOp x y P := rfl
@[simp] theorem cop_isnot {x y : D} : cop .IsNot x y h P = isOp x y fun k => P (!k) := rfl
@[simp] theorem cop_in {x y : D} : cop .In x y h P = inOp x y h P := rfl
@[simp] theorem cop_notin {x y : D} : cop .NotIn x y h P = inOp x y h fun k => P (!k) := rfl
@[simp] theorem isOp_bl {a b : Bool} : isOp (.bl a) (.bl b) P = P (decide (a = b)) := rfl
@[simp] theorem eqD_int {i j : Int} : eqD (.int i) (.int j) h P = P (decide (i = j)) := rfl
@[simp] theorem eqD_str {i j : Str} : eqD (.str i) (.str j) h P = P (decide (i = j)) := rfl
@[simp] theorem eqD_bl {i j : Bool} : eqD (.bl i) (.bl j) h P = P (decide (i = j)) := rfl
@[simp] theorem inOp_str {a b : Str} : inOp (.str a) (.str b) h P = P (subStr a b) := rfl
@[simp] theorem ixD_tup {ds : List D} {i : Int} : ixD (.tup ds) (.int i) h Q = ∃ d, atI ds i = some d ∧ Q d h := rfl
@[simp] theorem ixD_scr {ds : List D} {i : Int} : ixD (.scr ds) (.int i) h Q = ∃ d, atI ds i = some d ∧ Q d h := rfl
@[simp] theorem ixD_str {z : Str} {i : Int} : ixD (.str z) (.int i) h Q = (Fits z.length ∧ ∃ c, atI z.cps.toList i = some c ∧ Q (.str ⟨#[c]⟩) h) := rfl
@[simp] theorem slD_tup {ds : List D} {lo hi : Option Int} : slD (.tup ds) lo hi h Q = Q (.tup (cut ds lo hi)) h := rfl
@[simp] theorem slD_scr {ds : List D} {lo hi : Option Int} : slD (.scr ds) lo hi h Q = al (.lst (cut ds lo hi)) h Q := rfl
@[simp] theorem slD_str {z : Str} {lo hi : Option Int} : slD (.str z) lo hi h Q = (Fits z.length ∧ Q (.str ⟨(cut z.cps.toList lo hi).toArray⟩) h) := rfl
@[simp] theorem slD_ref {a : Addr} {lo hi : Option Int} : slD (.ref a) lo hi h Q = ∃ xs, h a = some (.lst xs) ∧ al (.lst (cut xs lo hi)) h Q := rfl
@[simp] theorem walkD_tup {ds : List D} : walkD (.tup ds) h R = R ⟨ds, fun _ => True⟩ := rfl
@[simp] theorem walkD_scr {ds : List D} : walkD (.scr ds) h R = R ⟨ds, fun _ => True⟩ := rfl
@[simp] theorem walkD_str {z : Str} : walkD (.str z) h R = R ⟨z.cps.toList.map fun c => .str ⟨#[c]⟩, fun _ => True⟩ := rfl
@[simp] theorem walkD_ref {a : Addr} : walkD (.ref a) h R = ∃ xs, h a = some (.lst xs) ∧ R ⟨xs, fun h' => h' a = some (.lst xs)⟩ := rfl
@[simp] theorem rngD1 {n : Int} : rngD [.int n] R = ((-(2 ^ 60) < n ∧ n < 2 ^ 60) ∧ R ⟨(List.range n.toNat).map fun (k : Nat) => .int k, fun _ => True⟩) := rfl
@[simp] theorem zipD_tup {a b : List D} : zipD (.tup a) (.tup b) h R = R ⟨(a.zip b).map fun p => .tup [p.1, p.2], fun _ => True⟩ := rfl
@[simp] theorem zipD_ref {a b : Addr} : zipD (.ref a) (.ref b) h R = ∃ xs ys, h a = some (.lst xs) ∧ h b = some (.lst ys) ∧ R ⟨(xs.zip ys).map fun p => .tup [p.1, p.2], fun h' => h' a = some (.lst xs) ∧ h' b = some (.lst ys)⟩ := rfl
@[simp] theorem bi_len_str {z : Str} : bi .len [.str z] h Q = (Fits z.length ∧ Q (.int z.length) h) := rfl
@[simp] theorem bi_len_tup {z : List D} : bi .len [.tup z] h Q = Q (.int z.length) h := rfl
@[simp] theorem bi_len_ref {a : Addr} : bi .len [.ref a] h Q = ∃ xs, h a = some (.lst xs) ∧ Q (.int xs.length) h := rfl
@[simp] theorem bi_len_scr {z : List D} : bi .len [.scr z] h Q = Q (.int z.length) h := rfl
@[simp] theorem bi_abs_int {i : Int} : bi .abs [.int i] h Q = Q (.int (if i < 0 then -i else i)) h := rfl
@[simp] theorem bi_max_int {i j : Int} : bi .max [.int i, .int j] h Q = Q (.int (if j > i then j else i)) h := rfl
@[simp] theorem bi_min_int {i j : Int} : bi .min [.int i, .int j] h Q = Q (.int (if j < i then j else i)) h := rfl
@[simp] theorem bi_sum_ref {a : Addr} : bi .sum [.ref a] h Q = ∃ ds ns, h a = some (.lst ds) ∧ intsOf ds = some ns ∧ Q (.int ns.sum) h := rfl
@[simp] theorem bi_all_ref {a : Addr} : bi .all [.ref a] h Q = ∃ ds ns, h a = some (.lst ds) ∧ blsOf ds = some ns ∧ Q (.bl (ns.all id)) h := rfl
@[simp] theorem bi_sum_tup {ds : List D} : bi .sum [.tup ds] h Q = ∃ ns, intsOf ds = some ns ∧ Q (.int ns.sum) h := rfl
@[simp] theorem bi_list_tup {ds : List D} : bi .list [.tup ds] h Q = al (.lst ds) h Q := rfl
@[simp] theorem bi_list_str {z : Str} : bi .list [.str z] h Q = (Fits z.length ∧ al (.lst (z.cps.toList.map fun c => .str ⟨#[c]⟩)) h Q) := rfl
@[simp] theorem bi_list_ref {a : Addr} : bi .list [.ref a] h Q = ∃ xs, h a = some (.lst xs) ∧ al (.lst xs) h Q := rfl
@[simp] theorem bi_tuple_ref {a : Addr} : bi .tuple [.ref a] h Q = ∃ xs, h a = some (.lst xs) ∧ Q (.tup xs) h := rfl
@[simp] theorem bi_str_int {i : Int} : bi .str [.int i] h Q = (i.natAbs.log2 < 1920 ∧ Q (.str (toString i)) h) := rfl
@[simp] theorem met_append {a : Addr} {y : D} : met .append (.ref a) [y] h Q = ∃ xs, h a = some (.lst xs) ∧ xs.length < sizeLine ∧ Q .non (up h a (.lst (xs ++ [y]))) := rfl
@[simp] theorem met_pop0 {a : Addr} : met .pop (.ref a) [] h Q = ∃ xs d, h a = some (.lst xs) ∧ xs[xs.length - 1]? = some d ∧ Q d (up h a (.lst xs.dropLast)) := rfl
@[simp] theorem mtTy_append {a : Addr} : mtTy .append (.ref a) h = ∃ xs, h a = some (.lst xs) := rfl
@[simp] theorem mtTy_extend {a : Addr} : mtTy .extend (.ref a) h = ∃ xs, h a = some (.lst xs) := rfl
@[simp] theorem mtTy_pop {a : Addr} : mtTy .pop (.ref a) h = ∃ xs, h a = some (.lst xs) := rfl
@[simp] theorem mtTy_get {a : Addr} : mtTy .get (.ref a) h = ∃ xs, h a = some (.dct xs) := rfl
@[simp] theorem mtTy_join {z : Str} : mtTy .join (.str z) h = True := rfl
variable {σ : DS} {S : DS → Prop}
@[simp] theorem bindT_nm {i : Nat} {d : D} : bindT (.nm i) d σ S = S (σ.set i (some d)) := rfl
@[simp] theorem bindT_tp {is : List Nat} {ds : List D} : bindT (.tp is) (.tup ds) σ S = (ds.length = is.length ∧ S (setAll σ is ds)) := rfl
@[simp] theorem setAll_nil {ds : List D} : setAll σ [] ds = σ := rfl
@[simp] theorem setAll_cons {i : Nat} {is : List Nat} {d : D} {ds : List D} : setAll σ (i :: is) (d :: ds) = setAll (σ.set i (some d)) is ds := rfl
@[simp] theorem wipeD_nil : wipeD σ [] = σ := rfl
@[simp] theorem wipeD_cons {v : Nat} {vs : List Nat} : wipeD σ (v :: vs) = (wipeD σ vs).set v none := rfl
@[simp] theorem arrOf_nil {ds : List D} : arrOf ds [] = [] := rfl
@[simp] theorem arrOf_inl {ds : List D} {i : Nat} {r : List (Nat ⊕ D)} : arrOf ds (.inl i :: r) = ds.getD i .non :: arrOf ds r := rfl
@[simp] theorem arrOf_inr {ds : List D} {d : D} {r : List (Nat ⊕ D)} : arrOf ds (.inr d :: r) = d :: arrOf ds r := rfl
theorem and_bl {k c : Bool} : (if k = true then Q (.bl c) h else Q (.bl k) h) = Q (.bl (k && c)) h := by cases k <;> rfl
theorem and_bl' {k c : Bool} : (if k = true then Q (.bl c) h else Q (.bl false) h) = Q (.bl (k && c)) h := by cases k <;> rfl
theorem or_bl {k c : Bool} : (if k = true then Q (.bl k) h else Q (.bl c) h) = Q (.bl (k || c)) h := by cases k <;> rfl
end

/-! ### kinds -/
/-- a reference holds a list or a dict -/
def Kd (h : MH) : D → Prop
  | .ref a => (∃ xs, h a = some (.lst xs)) ∨ ∃ kvs, h a = some (.dct kvs)
  | _ => True
def tyB : D → Ty
  | .non => .non | .bl _ => .bool | .int _ => .int | .str _ => .str | .tup _ => .tuple | .ref _ => .list | .scr _ => .list
theorem isTys_of {h : MH} {x : D} {ts : List Ty} {P : Bool → Prop} (k : Kd h x) (hl : ts.contains .list = false) (hd : ts.contains .dict = false) (p : P (ts.any (subTy (tyB x)))) : isTys x h ts P := by
  unfold isTys
  cases x with
  | ref a =>
    have e : ∀ t : Ty, t = .list ∨ t = .dict → ts.any (subTy t) = false := fun t ht => by
      rw [List.any_eq_false]
      intro u hu
      have h1 : u ≠ .list := fun z => by rw [z] at hu; rw [List.contains_iff_mem.mpr hu] at hl; cases hl
      have h2 : u ≠ .dict := fun z => by rw [z] at hu; rw [List.contains_iff_mem.mpr hu] at hd; cases hd
      rcases ht with rfl | rfl <;> (unfold subTy; simp [Ne.symm h1, Ne.symm h2])
    have e0 : P (ts.any (subTy .list)) := p
    rw [e .list (.inl rfl)] at e0
    rcases k with ⟨xs, g⟩ | ⟨xs, g⟩
    · exact .inl ⟨xs, g, p⟩
    · refine .inr ⟨xs, g, ?_⟩
      show P (ts.any (subTy .dict))
      rw [e .dict (.inr rfl)]; exact e0
  | _ => exact p

/-! ### loops -/
theorem for_rule {t : Tg} {ok : MH → Prop} {body : En → DS → MH → Prop} {Dn : En} (Inv : List D → DS → MH → Prop) (hok : ∀ r σ h, Inv r σ h → ok h) (hd : ∀ σ h, Inv [] σ h → Dn.nx σ h)
    (step : ∀ d r σ h (K : DS → MH → Prop), Inv (d :: r) σ h → (∀ σ' h', Inv r σ' h' → K σ' h') → bindT t d σ fun σ1 => body { Dn with nx := K, ct := K, bk := Dn.nx } σ1 h) : ∀ its σ h, Inv its σ h → forGo t ok body Dn its σ h
  | [], σ, h, i => ⟨hok _ _ _ i, hd _ _ i⟩
  | d :: r, σ, h, i => ⟨hok _ _ _ i, step d r σ h _ i fun σ' h' i' => for_rule Inv hok hd step r σ' h' i'⟩
theorem lc_rule {t : Tg} {ok : MH → Prop} {cd : DT} {elt : DE} {σ : DS} {K : List D → MH → Prop} (Inv : List D → List D → MH → Prop) (hok : ∀ r acc h, Inv r acc h → ok h) (hd : ∀ acc h, Inv [] acc h → K acc h)
    (step : ∀ d r acc h (N : List D → MH → Prop), Inv (d :: r) acc h → (∀ acc' h', Inv r acc' h' → N acc' h') → bindT t d σ fun σ1 => cd σ1 h fun k h1 =>
      if k = true then elt σ1 h1 fun x h2 => acc.length < sizeLine ∧ N (acc ++ [x]) h2 else N acc h1) : ∀ its acc h, Inv its acc h → lcGo t ok cd elt σ K its acc h
  | [], acc, h, i => ⟨hok _ _ _ i, hd _ _ i⟩
  | d :: r, acc, h, i => by
    refine ⟨hok _ _ _ i, step d r acc h (lcGo t ok cd elt σ K r) i fun acc' h' i' => lc_rule Inv hok hd step r acc' h' i'⟩
/-- a comprehension that leaves the heap -/
theorem lc_map {t : Tg} {ok : MH → Prop} {cd : DT} {elt : DE} {σ : DS} {K : List D → MH → Prop} {h : MH} (f : D → List D) (its : List D) (hok : ok h) (hz : its.length ≤ sizeLine)
    (step : ∀ d ∈ its, ∀ (acc : List D) (N : List D → MH → Prop), acc.length < sizeLine → N (acc ++ f d) h → bindT t d σ fun σ1 => cd σ1 h fun k h1 =>
      if k = true then elt σ1 h1 fun x h2 => acc.length < sizeLine ∧ N (acc ++ [x]) h2 else N acc h1) (hf : ∀ d ∈ its, (f d).length ≤ 1) (hd : K (its.flatMap f) h) : lcGo t ok cd elt σ K its [] h := by
  refine lc_rule (fun r acc h' => h' = h ∧ ∃ p, its = p ++ r ∧ acc = p.flatMap f) (fun r acc h' i => i.1 ▸ hok) (fun acc h' i => ?_) (fun d r acc h' N i hN => ?_) its [] h ⟨rfl, [], rfl, rfl⟩
  · obtain ⟨rfl, p, e, rfl⟩ := i
    rw [List.append_nil] at e
    subst e
    exact hd
  · obtain ⟨rfl, p, e, rfl⟩ := i
    have hm : d ∈ its := by rw [e]; exact List.mem_append_right _ List.mem_cons_self
    have hp : (p.flatMap f).length ≤ p.length := by
      have : ∀ q : List D, (∀ x ∈ q, (f x).length ≤ 1) → (q.flatMap f).length ≤ q.length := fun q => by
        induction q with
        | nil => intro _; simp
        | cons x q ih =>
          intro hq
          rw [List.flatMap_cons, List.length_append, List.length_cons]
          have h1 := hq x List.mem_cons_self
          have h2 := ih fun y hy => hq y (List.mem_cons_of_mem _ hy)
          omega
      exact this p fun x hx => hf x (by rw [e]; exact List.mem_append_left _ hx)
    have hl : p.length < its.length := by rw [e, List.length_append, List.length_cons]; omega
    refine step d hm _ _ (by omega) (hN _ _ ⟨rfl, p ++ [d], by rw [e, List.append_assoc]; rfl, ?_⟩)
    rw [List.flatMap_append, List.flatMap_cons, List.flatMap_nil, List.append_nil]
end DL
namespace DL
open PySem L2
/-! ### a heap that grows -/
def Gw (h h' : MH) : Prop := ∀ a o, h a = some o → h' a = some o
section
variable {h h1 h2 : MH}
theorem Gw.refl : Gw h h := fun _ _ e => e
theorem Gw.trans (f : Gw h h1) (g : Gw h1 h2) : Gw h h2 := fun a o e => g a o (f a o e)
theorem Gw.up {p : Addr} {o : MO} (n : h p = none) : Gw h (DL.up h p o) := fun a u e => (up_ne (fun z => by rw [z, n] at e; cases e)).trans e
/-- a newly made object may be written -/
theorem Gw.up2 {p : Addr} {o : MO} (f : Gw h h1) (n : h p = none) : Gw h (DL.up h1 p o) := fun a u e => (up_ne (fun z => by rw [z, n] at e; cases e)).trans (f a u e)
theorem Kd.gw {x : D} (f : Gw h h1) (k : Kd h x) : Kd h1 x := by
  cases x with
  | ref a =>
    rcases k with ⟨xs, e⟩ | ⟨xs, e⟩
    · exact .inl ⟨xs, f _ _ e⟩
    · exact .inr ⟨xs, f _ _ e⟩
  | _ => exact k
end
theorem bls_map : ∀ l : List Bool, blsOf (l.map D.bl) = some l
  | [] => rfl
  | b :: l => by simp [blsOf, bls_map l]
theorem ints_map : ∀ l : List Int, intsOf (l.map D.int) = some l
  | [] => rfl
  | b :: l => by simp [intsOf, ints_map l]
theorem strs_map : ∀ l : List Str, strsOf (l.map D.str) = some l
  | [] => rfl
  | b :: l => by simp [strsOf, strs_map l]
theorem flat_one {α : Type} (f : α → D) (l : List α) (g : D → List D) (w : α → D) (hg : ∀ a ∈ l, g (w a) = [f a]) : (l.map w).flatMap g = l.map f := by
  induction l with
  | nil => rfl
  | cons a l ih => rw [List.map_cons, List.flatMap_cons, hg a List.mem_cons_self, ih fun b hb => hg b (List.mem_cons_of_mem _ hb)]; rfl
end DL
namespace DL
theorem fits_le {n : Nat} (h : n ≤ 16777216) : Fits n := by
  unfold Fits
  rw [PySem.sizeLine_eq]
  exact h
end DL
namespace DL
open PySem L2
theorem ixN_nat (n k : Nat) : ixN n (k : Int) = if k < n then some k else none := by
  unfold ixN
  rw [if_pos (Int.natCast_nonneg k)]
  by_cases h : k < n
  · rw [if_pos (by omega), if_pos h, Int.toNat_natCast]
  · rw [if_neg (by omega), if_neg h]
@[simp] theorem atI_nat {α : Type} {ds : List α} {k : Nat} : atI ds (k : Int) = ds[k]? := by
  unfold atI
  rw [ixN_nat]
  split
  · rfl
  · rw [List.getElem?_eq_none (by omega)]; rfl
@[simp] theorem atI_lit {α : Type} {ds : List α} {k : Nat} : atI ds (no_index (OfNat.ofNat k : Int)) = ds[k]? := atI_nat (k := k)
@[simp] theorem atI_neg1 {α : Type} {ds : List α} : atI ds (-1) = ds[ds.length - 1]? := by
  unfold atI
  cases ds with
  | nil => rfl
  | cons a l =>
    have e : ixN (a :: l).length (-1) = some l.length := by
      unfold ixN
      rw [if_neg (by decide), if_pos (by rw [List.length_cons]; omega)]
      congr 1
      rw [List.length_cons]; omega
    rw [e] <;> rfl
end DL
namespace DL
@[simp] theorem up_self {h : MH} {a : PySem.Addr} {o : MO} : up h a o a = some o := up_same
@[simp] theorem al_eq {o : MO} {h : MH} {Q : D → MH → Prop} : al o h Q = ∀ p, h p = none → Q (.ref p) (up h p o) := rfl
end DL
namespace DL
open PySem L2
/-- a comprehension of pure values; the heap grows -/
theorem lc_mapG {t : Tg} {ok : MH → Prop} {cd : DT} {elt : DE} {σ : DS} {K : List D → MH → Prop} {h0 : MH} (f : D → List D) (its acc0 : List D) (hok : ∀ h, Gw h0 h → ok h) (hz : acc0.length + its.length ≤ sizeLine)
    (step : ∀ d ∈ its, ∀ (acc : List D) (h : MH) (N : List D → MH → Prop), acc.length < sizeLine → Gw h0 h → (∀ h', Gw h h' → N (acc ++ f d) h') → bindT t d σ fun σ1 => cd σ1 h fun k h1 =>
      if k = true then elt σ1 h1 fun x h2 => acc.length < sizeLine ∧ N (acc ++ [x]) h2 else N acc h1) (hf : ∀ d ∈ its, (f d).length ≤ 1) (hd : ∀ h', Gw h0 h' → K (acc0 ++ its.flatMap f) h') : lcGo t ok cd elt σ K its acc0 h0 := by
  refine lc_rule (fun r acc h' => Gw h0 h' ∧ ∃ p, its = p ++ r ∧ acc = acc0 ++ p.flatMap f) (fun r acc h' i => hok _ i.1) (fun acc h' i => ?_) (fun d r acc h' N i hN => ?_) its acc0 h0 ⟨.refl, [], rfl, by simp⟩
  · obtain ⟨g, p, e, rfl⟩ := i
    rw [List.append_nil] at e
    subst e
    exact hd _ g
  · obtain ⟨g, p, e, rfl⟩ := i
    have hm : d ∈ its := by rw [e]; exact List.mem_append_right _ List.mem_cons_self
    have hp : (p.flatMap f).length ≤ p.length := by
      have : ∀ q : List D, (∀ x ∈ q, (f x).length ≤ 1) → (q.flatMap f).length ≤ q.length := fun q => by
        induction q with
        | nil => intro _; simp
        | cons x q ih =>
          intro hq
          rw [List.flatMap_cons, List.length_append, List.length_cons]
          have h1 := hq x List.mem_cons_self
          have h2 := ih fun y hy => hq y (List.mem_cons_of_mem _ hy)
          omega
      exact this p fun x hx => hf x (by rw [e]; exact List.mem_append_left _ hx)
    have hl : p.length < its.length := by rw [e, List.length_append, List.length_cons]; omega
    refine step d hm _ _ _ (by rw [List.length_append]; omega) g fun h2 g2 => hN _ _ ⟨g.trans g2, p ++ [d], by rw [e, List.append_assoc]; rfl, ?_⟩
    rw [List.flatMap_append, List.flatMap_cons, List.flatMap_nil, List.append_nil, List.append_assoc]
/-- two clauses, all of every part -/
theorem lc2_map {t : Tg} {ok : MH → Prop} {cd : DT} {inn : DS → List D → MH → (List D → MH → Prop) → Prop} {σ : DS} {K : List D → MH → Prop} (f : D → List D) : ∀ (its acc : List D) (h0 : MH), (∀ h, ok h) → (acc ++ its.flatMap f).length ≤ sizeLine →
    (∀ d ∈ its, ∀ (acc : List D) (h : MH) (N : List D → MH → Prop), (acc ++ f d).length ≤ sizeLine → N (acc ++ f d) h → bindT t d σ fun σ1 => cd σ1 h fun k h1 => if k = true then inn σ1 acc h1 N else N acc h1) → K (acc ++ its.flatMap f) h0 → lcGo2 t ok cd inn σ K its acc h0
  | [], acc, h0, hok, hz, step, hd => ⟨hok _, by simpa using hd⟩
  | d :: r, acc, h0, hok, hz, step, hd => by
    rw [List.flatMap_cons, ← List.append_assoc] at hz hd
    exact ⟨hok _, step d List.mem_cons_self acc h0 _ (by rw [List.length_append] at hz; omega) (lc2_map f r (acc ++ f d) h0 hok hz (fun x hx => step x (List.mem_cons_of_mem _ hx)) hd)⟩
@[simp] theorem isTys_tup {ds : List D} {h : MH} {ts : List Ty} {P : Bool → Prop} : isTys (.tup ds) h ts P = P (ts.any (subTy .tuple)) := rfl
@[simp] theorem isTys_str {z : Str} {h : MH} {ts : List Ty} {P : Bool → Prop} : isTys (.str z) h ts P = P (ts.any (subTy .str)) := rfl
@[simp] theorem isTys_int {z : Int} {h : MH} {ts : List Ty} {P : Bool → Prop} : isTys (.int z) h ts P = P (ts.any (subTy .int)) := rfl
@[simp] theorem isTys_bl {z : Bool} {h : MH} {ts : List Ty} {P : Bool → Prop} : isTys (.bl z) h ts P = P (ts.any (subTy .bool)) := rfl
theorem cut_from {α : Type} (xs : List α) (k : Nat) : cut xs (some (k : Int)) none = xs.drop k := by
  unfold cut
  rw [HT.sIx_none, HT.sIx_nat, List.take_of_length_le (by rw [List.length_drop]; omega)]
  by_cases h : k ≤ xs.length
  · rw [Nat.min_eq_left h]
  · rw [Nat.min_eq_right (by omega), List.drop_length, List.drop_eq_nil_of_le (by omega)]
theorem cut_to {α : Type} (xs : List α) (k : Nat) : cut xs none (some (k : Int)) = xs.take k := by
  unfold cut
  rw [HT.sIx_none, HT.sIx_nat, List.drop_zero, Nat.sub_zero]
  by_cases h : k ≤ xs.length
  · rw [Nat.min_eq_left h]
  · rw [Nat.min_eq_right (by omega), List.take_length, List.take_of_length_le (by omega)]
end DL
namespace DL
theorem flat_pure {α β : Type} (f : α → β) : ∀ l : List α, (l.flatMap fun x => [f x]) = l.map f
  | [] => rfl
  | a :: l => by rw [List.flatMap_cons, flat_pure f l]; rfl
theorem bls_flat {α : Type} (f : α → Bool) (l : List α) : blsOf (l.flatMap fun x => [D.bl (f x)]) = some (l.map f) := by
  rw [flat_pure, show (fun x => D.bl (f x)) = D.bl ∘ f from rfl, ← List.map_map]; exact bls_map _
theorem ints_flat {α : Type} (f : α → Int) (l : List α) : intsOf (l.flatMap fun x => [D.int (f x)]) = some (l.map f) := by
  rw [flat_pure, show (fun x => D.int (f x)) = D.int ∘ f from rfl, ← List.map_map]; exact ints_map _
end DL
namespace DL
open PySem L2
/-- .. ahead of it acc0; the heap stays -/
theorem lc_mapA {t : Tg} {ok : MH → Prop} {cd : DT} {elt : DE} {σ : DS} {K : List D → MH → Prop} {h : MH} (f : D → List D) (its acc0 : List D) (hok : ok h) (hz : (acc0 ++ its.flatMap f).length ≤ sizeLine)
    (step : ∀ d ∈ its, ∀ (acc : List D) (N : List D → MH → Prop), (acc ++ f d).length ≤ sizeLine → N (acc ++ f d) h → bindT t d σ fun σ1 => cd σ1 h fun k h1 =>
      if k = true then elt σ1 h1 fun x h2 => acc.length < sizeLine ∧ N (acc ++ [x]) h2 else N acc h1) (hd : K (acc0 ++ its.flatMap f) h) : lcGo t ok cd elt σ K its acc0 h := by
  refine lc_rule (fun r acc h' => h' = h ∧ ∃ p, its = p ++ r ∧ acc = acc0 ++ p.flatMap f) (fun r acc h' i => i.1 ▸ hok) (fun acc h' i => ?_) (fun d r acc h' N i hN => ?_) its acc0 h ⟨rfl, [], rfl, by simp⟩
  · obtain ⟨rfl, p, e, rfl⟩ := i
    rw [List.append_nil] at e
    subst e
    exact hd
  · obtain ⟨rfl, p, e, rfl⟩ := i
    have hm : d ∈ its := by rw [e]; exact List.mem_append_right _ List.mem_cons_self
    refine step d hm _ _ ?_ (hN _ _ ⟨rfl, p ++ [d], by rw [e, List.append_assoc]; rfl, ?_⟩)
    · rw [e, List.flatMap_append, List.flatMap_cons] at hz
      simp only [List.length_append] at hz ⊢
      omega
    · rw [List.flatMap_append, List.flatMap_cons, List.flatMap_nil, List.append_nil, List.append_assoc]
/-- the parts of a tuple -/
def part : D → List D
  | .tup ds => ds
  | _ => []
end DL
set_option Elab.async false
set_option linter.all false
set_option maxRecDepth 100000
set_option maxHeartbeats 1000000
set_option exponentiation.threshold 20000
namespace LW
open PySem L2 DL
/-! ### what the two tests ask for, plainly -/
abbrev M18 : Int := 1000000000000000000
def letters : Str := "abcdefghijklmnopqrstuvwxyz"
def isWh (lo hi : Int) : D → Bool
  | .int i => decide (lo ≤ i) && decide (i ≤ hi)
  | _ => false
def isWd : D → Bool
  | .str z => decide (0 < z.length) && (decide (z.length ≤ 8) && z.cps.toList.all fun c => subStr ⟨#[c]⟩ letters)
  | _ => false
def isWy : D → Bool
  | .int i => 1 == i || -1 == i
  | _ => false
/-! everything within is of a kind -/
mutual
def Wf (h : MH) : D → Prop
  | .ref a => Kd h (.ref a)
  | .str z => Fits z.length ∧ PyData.strOk z = true
  | .tup ds => ds.length ≤ 1000 ∧ Wfs h ds
  | .scr _ => False
  | .non => True
  | .bl _ => True
  | .int _ => True
def Wfs (h : MH) : List D → Prop
  | [] => True
  | d :: ds => Wf h d ∧ Wfs h ds
end
theorem Wf.kd {h : MH} {x : D} (w : Wf h x) : Kd h x := by
  cases x <;> first | trivial | exact w
theorem Wfs.mem {h : MH} : ∀ {ds : List D}, Wfs h ds → ∀ d ∈ ds, Wf h d
  | [], _, _, hd => nomatch hd
  | x :: ds, w, d, hd => by
    have w : Wf h x ∧ Wfs h ds := by simpa only [Wfs] using w
    rcases List.mem_cons.mp hd with rfl | hd
    · exact w.1
    · exact Wfs.mem w.2 d hd
theorem wfs_of {h : MH} : ∀ {ds : List D}, (∀ d ∈ ds, Wf h d) → Wfs h ds
  | [], _ => by simp only [Wfs]
  | x :: ds, w => by simp only [Wfs]; exact ⟨w x List.mem_cons_self, wfs_of fun d hd => w d (List.mem_cons_of_mem _ hd)⟩
theorem wf_tup {h : MH} {ds : List D} : Wf h (.tup ds) ↔ ds.length ≤ 1000 ∧ ∀ d ∈ ds, Wf h d := by
  simp only [Wf]
  exact ⟨fun w => ⟨w.1, w.2.mem⟩, fun w => ⟨w.1, wfs_of w.2⟩⟩
mutual
theorem Wf.gw {h h' : MH} (f : Gw h h') : ∀ {x : D}, Wf h x → Wf h' x
  | .ref a, w => by simp only [Wf] at w ⊢; exact w.gw f
  | .str _, w => w
  | .tup ds, w => by simp only [Wf] at w ⊢; exact ⟨w.1, Wfs.gw f w.2⟩
  | .scr _, w => w
  | .non, w => w
  | .bl _, w => w
  | .int _, w => w
theorem Wfs.gw {h h' : MH} (f : Gw h h') : ∀ {ds : List D}, Wfs h ds → Wfs h' ds
  | [], _ => by simp only [Wfs]
  | x :: ds, w => by
    simp only [Wfs] at w ⊢
    exact ⟨Wf.gw f w.1, Wfs.gw f w.2⟩
end
end LW
namespace LW
open PySem L2 DL
@[simp] theorem ixD_ref_int {a : Addr} {i : Int} {h : MH} {Q : D → MH → Prop} : ixD (.ref a) (.int i) h Q = ((∃ xs d, h a = some (.lst xs) ∧ atI xs i = some d ∧ Q d h) ∨ (∃ kvs d, h a = some (.dct kvs) ∧ getK kvs (.inl i) = some d ∧ Q d h)) := by
  apply propext
  constructor
  · rintro (⟨xs, j, d, e, r⟩ | ⟨kvs, k, d, e, r⟩)
    · cases e; exact .inl ⟨xs, d, r⟩
    · cases e; exact .inr ⟨kvs, d, r⟩
  · rintro (⟨xs, d, r⟩ | ⟨kvs, d, r⟩)
    · exact .inl ⟨xs, i, d, rfl, r⟩
    · exact .inr ⟨kvs, .inl i, d, rfl, r⟩
end LW
namespace DL
open PySem L2
@[simp] theorem ixD_ref_str {a : Addr} {k : Str} {h : MH} {Q : D → MH → Prop} : ixD (.ref a) (.str k) h Q = ∃ kvs d, h a = some (.dct kvs) ∧ getK kvs (.inr k) = some d ∧ Q d h := by
  apply propext
  constructor
  · rintro (⟨xs, j, d, e, r⟩ | ⟨kvs, k', d, e, r⟩)
    · cases e
    · cases e; exact ⟨kvs, d, r⟩
  · rintro ⟨kvs, d, r⟩
    exact .inr ⟨kvs, _, d, rfl, r⟩
@[simp] theorem setD_ref_str {a : Addr} {k : Str} {v : D} {h : MH} {P : MH → Prop} : setD (.ref a) (.str k) v h P = ∃ kvs, h a = some (.dct kvs) ∧ kvs.length < sizeLine ∧ P (up h a (.dct (putK kvs (.inr k) v))) := by
  apply propext
  constructor
  · rintro (⟨xs, j, d, e, r⟩ | ⟨kvs, k', e, r⟩)
    · cases e
    · cases e; exact ⟨kvs, r⟩
  · rintro ⟨kvs, r⟩
    exact .inr ⟨kvs, _, rfl, r⟩
/-- a pen's dict -/
def penL (c : Addr) (t l : Int) : List (Key × D) := [(.inr "cells", .ref c), (.inr "turn", .int t), (.inr "left", .int l)]
section
variable {c : Addr} {t l : Int}
@[simp] theorem penL_cells : getK (penL c t l) (.inr "cells") = some (.ref c) := by simp [penL, getK]
@[simp] theorem penL_turn : getK (penL c t l) (.inr "turn") = some (.int t) := by
  have : ("cells" : Str) ≠ "turn" := by decide
  simp [penL, getK, this]
@[simp] theorem penL_left : getK (penL c t l) (.inr "left") = some (.int l) := by
  have h1 : ("cells" : Str) ≠ "left" := by decide
  have h2 : ("turn" : Str) ≠ "left" := by decide
  simp [penL, getK, h1, h2]
@[simp] theorem penL_len : (penL c t l).length < sizeLine := by rw [sizeLine_eq]; show 3 < _; decide
@[simp] theorem penL_putT {t' : Int} : putK (penL c t l) (.inr "turn") (.int t') = penL c t' l := by
  have h1 : ("cells" : Str) ≠ "turn" := by decide
  have h2 : ("left" : Str) ≠ "turn" := by decide
  simp [penL, putK, h1, h2]
@[simp] theorem penL_putL {t' : Int} : putK (penL c t l) (.inr "left") (.int t') = penL c t t' := by
  have h1 : ("cells" : Str) ≠ "left" := by decide
  have h2 : ("turn" : Str) ≠ "left" := by decide
  simp [penL, putK, h1, h2]
end
/-- a pen that has drawn at most n numbers -/
def Pen (h : MH) (p c : Addr) (n : Nat) : Prop := ∃ cs t l, h p = some (.dct (penL c t l)) ∧ h c = some (.lst (List.map D.int cs)) ∧ cs.length ≤ 63 ∧ 0 ≤ t ∧ t ≤ n ∧ 0 ≤ l
/-- everything but the pen stays -/
def Gx (p : Addr) (h h' : MH) : Prop := (∀ a o, a ≠ p → h a = some o → h' a = some o) ∧ ((∃ kvs, h p = some (.dct kvs)) → ∃ kvs, h' p = some (.dct kvs))
theorem Gx.refl {p : Addr} {h : MH} : Gx p h h := ⟨fun _ _ _ e => e, fun e => e⟩
theorem Gx.trans {p : Addr} {h h1 h2 : MH} (f : Gx p h h1) (g : Gx p h1 h2) : Gx p h h2 := ⟨fun a o n e => g.1 a o n (f.1 a o n e), fun e => g.2 (f.2 e)⟩
theorem Gw.gx {p : Addr} {h h1 : MH} (f : Gw h h1) : Gx p h h1 := ⟨fun a o _ e => f a o e, fun ⟨k, e⟩ => ⟨k, f _ _ e⟩⟩
theorem Gx.pen {p : Addr} {h h1 : MH} {kvs : List (Key × D)} (f : Gx p h h1) (e : ∃ k, h1 p = some (.dct k)) : Gx p h (up h1 p (.dct kvs)) :=
  ⟨fun a o n e => (up_ne n).trans (f.1 a o n e), fun _ => ⟨kvs, up_same⟩⟩
theorem Gx.new {p q : Addr} {h h1 : MH} {o : MO} (f : Gx p h h1) (hq : h q = none) (np : p ≠ q) : Gx p h (up h1 q o) :=
  ⟨fun a u n e => (up_ne (fun z => by rw [z, hq] at e; cases e)).trans (f.1 a u n e), fun e => by
    obtain ⟨k, e⟩ := f.2 e
    exact ⟨k, (up_ne np).trans e⟩⟩
section
variable {p c q : Addr} {h h1 : MH} {n m : Nat} {o : MO}
theorem Gx.fresh (f : Gx p h h1) (np : p ≠ q) (e : h1 q = none) : h q = none := by
  cases z : h q with
  | none => rfl
  | some o => rw [f.1 _ _ (Ne.symm np) z] at e; cases e
theorem Pen.gw (f : Gw h h1) : Pen h p c n → Pen h1 p c n
  | ⟨cs, t, l, e, ec, r⟩ => ⟨cs, t, l, f _ _ e, f _ _ ec, r⟩
theorem Pen.mono (hm : n ≤ m) : Pen h p c n → Pen h p c m
  | ⟨cs, t, l, e, ec, a, b, d, r⟩ => ⟨cs, t, l, e, ec, a, b, by omega, r⟩
theorem Pen.has : Pen h p c n → ∃ kvs, h p = some (.dct kvs)
  | ⟨cs, t, l, e, _⟩ => ⟨_, e⟩
theorem Pen.nep : Pen h p c n → h q = none → p ≠ q
  | ⟨cs, t, l, e, _⟩, n => fun z => by rw [z, n] at e; cases e
theorem Pen.nec : Pen h p c n → h q = none → c ≠ q
  | ⟨cs, t, l, e, ec, _⟩, n => fun z => by rw [z, n] at ec; cases ec
theorem Pen.cp : Pen h p c n → c ≠ p
  | ⟨cs, t, l, e, ec, _⟩ => fun z => by rw [z, e] at ec; cases ec
/-- another object is written -/
theorem Pen.put (np : p ≠ q) (nc : c ≠ q) : Pen h p c n → Pen (up h q o) p c n
  | ⟨cs, t, l, e, ec, r⟩ => ⟨cs, t, l, (up_ne np).trans e, (up_ne nc).trans ec, r⟩
end
theorem Gx.kd {p : Addr} {h h1 : MH} {x : D} {c : Addr} {n : Nat} (pn : Pen h p c n) (f : Gx p h h1) (k : Kd h x) : Kd h1 x := by
  cases x with
  | ref a =>
    by_cases z : a = p
    · subst z
      rcases k with ⟨xs, e⟩ | ⟨xs, e⟩
      · obtain ⟨kvs, e2⟩ := pn.has; rw [e] at e2; cases e2
      · exact .inr (f.2 ⟨xs, e⟩)
    · rcases k with ⟨xs, e⟩ | ⟨xs, e⟩
      · exact .inl ⟨xs, f.1 _ _ z e⟩
      · exact .inr ⟨xs, f.1 _ _ z e⟩
  | _ => exact k
theorem eqD_lsts {a b : Addr} {xs ys : List D} {h : MH} {P : Bool → Prop} (e : h a = some (.lst xs)) (f : h b = some (.lst ys)) (z : xs = [] ∨ ys = []) (q : P (decide (xs.length = ys.length))) : eqD (.ref a) (.ref b) h P := by
  by_cases l : xs.length = ys.length
  · have : xs = [] ∧ ys = [] := by
      rcases z with rfl | rfl
      · exact ⟨rfl, List.length_eq_zero_iff.mp l.symm⟩
      · exact ⟨List.length_eq_zero_iff.mp l, rfl⟩
    obtain ⟨rfl, rfl⟩ := this
    exact .inl ⟨.list [], .list [], .lst e rfl (fun i d t hd => by simp at hd), .lst f rfl (fun i d t hd => by simp at hd), by decide, by decide, q⟩
  · rw [decide_eq_false l] at q
    exact .inr ⟨xs, ys, e, f, l, q⟩
end DL
namespace DL
open PySem L2
/-- one statement, what holds behind it, the rest -/
theorem wpB_seq {Φ : Fns} {s : Sm} {rest : List Sm} {Dn : En} {σ : DS} {h : MH} (R : DS → MH → Prop) (w : ∀ K : DS → MH → Prop, (∀ σ h, R σ h → K σ h) → wpS Φ s { Dn with nx := K } σ h) (tail : ∀ σ h, R σ h → wpB Φ rest Dn σ h) : wpB Φ (s :: rest) Dn σ h := by
  rw [wpB_cons]
  exact w _ tail
theorem mulL {i j : Int} (h : i.natAbs < 2 ^ 64) : MulOk i j := .inl h
theorem mulR {i j : Int} (h : j.natAbs < 2 ^ 64) : MulOk i j := .inr (.inl h)
theorem divOk {j : Int} (m0 : 0 < j) (mb : j.natAbs < 2 ^ 64) : DivOk j := ⟨m0, Nat.lt_trans mb (Nat.pow_lt_pow_right (by decide) (by decide))⟩
end DL
namespace LW
open PySem L2 DL
section
variable {d : Nat} {h : MH} {Q : D → MH → Prop} {E : DX} {p c : Addr} {n : Nat}
def primes : List D := [.int 2147483647, .int 2147483629, .int 2147483587, .int 2147483579, .int 2147483563]
theorem primes_at (t : Int) : ∃ v : Int, atI primes (t % 5) = some (.int v) ∧ 0 < v ∧ v < 2 ^ 31 := by
  have : t % 5 = 0 ∨ t % 5 = 1 ∨ t % 5 = 2 ∨ t % 5 = 3 ∨ t % 5 = 4 := by omega
  rcases this with e | e | e | e | e <;> rw [e] <;> exact ⟨_, rfl, by decide, by decide⟩
end
end LW
namespace LW
open PySem L2 DL
section
variable {d : Nat} {h : MH} {Q : D → MH → Prop} {E : DX} {p c : Addr} {n : Nat}
theorem ixD_lst {a : Addr} {xs : List D} {i : Int} {x : D} (ea : h a = some (.lst xs)) (e : atI xs i = some x) (q : Q x h) : ixD (.ref a) (.int i) h Q := .inl ⟨xs, i, x, rfl, ea, e, q⟩
end
end LW
namespace LW
open PySem L2 DL
theorem join_sing : ∀ cs : List Nat, PySem.Str.join (PySem.Str.ofString "") (cs.map fun c => (⟨#[c]⟩ : Str)) = ⟨cs.toArray⟩
  | [] => rfl
  | [c] => rfl
  | c :: b :: r => by
    show (⟨#[c]⟩ : Str) ++ PySem.Str.ofString "" ++ PySem.Str.join (PySem.Str.ofString "") ((b :: r).map fun c => (⟨#[c]⟩ : Str)) = _
    rw [join_sing (b :: r)]
    show (⟨(#[c] ++ (PySem.Str.ofString "").cps) ++ (b :: r).toArray⟩ : Str) = _
    rw [show (PySem.Str.ofString "").cps = #[] by decide]
    simp
/-- a text of at most 8 signs -/
def Wd (z : Str) : Prop := z.length ≤ 8 ∧ PyData.strOk z = true
theorem len_list (z : Str) : z.length = z.cps.toList.length := by simp [Str.length]
theorem sum_sing : ∀ cs : List Nat, ((cs.map (fun v => (⟨#[v]⟩ : Str))).map (·.length)).sum = cs.length
  | [] => rfl
  | a :: r => by
    rw [List.map_cons, List.map_cons, List.sum_cons, sum_sing r, List.length_cons]
    show 1 + _ = _
    omega
end LW
namespace LW
open PySem L2 DL
/-! ### things that can be shown -/
def Ok80 (k w : Nat) (t : PyData) : Prop := t.showable = true ∧ t.leavesShort 80 = true ∧ t.bulk ≤ w ∧ t.depth ≤ k
def Gd (h : MH) (k w : Nat) (x : D) : Prop := Wf h x ∧ ∃ t, Den h x t ∧ Ok80 k w t
section
variable {p c : Addr} {h h1 : MH} {n k w : Nat} {x : D}
theorem Ok80.mono {t : PyData} {k' w' : Nat} (hk : k ≤ k') (hw : w ≤ w') : Ok80 k w t → Ok80 k' w' t
  | ⟨a, b, c, d⟩ => ⟨a, b, Nat.le_trans c hw, Nat.le_trans d hk⟩
theorem Gd.mono {k' w' : Nat} (hk : k ≤ k') (hw : w ≤ w') : Gd h k w x → Gd h k' w' x
  | ⟨a, t, b, c⟩ => ⟨a, t, b, c.mono hk hw⟩
theorem Gx.den (pn : Pen h p c n) (f : Gx p h h1) {t : PyData} (e : Den h x t) : Den h1 x t := by
  obtain ⟨cs, tt, l, ep, _⟩ := pn
  induction e with
  | non => exact .non
  | bl b => exact .bl b
  | int i => exact .int i
  | str x => exact .str x
  | tup hl hs ih => exact .tup hl fun i d t a b => ih i d t a b
  | lst ha hl hs ih => exact .lst (f.1 _ _ (fun z => by rw [z, ep] at ha; cases ha) ha) hl fun i d t a b => ih i d t a b
  | dct0 ha => exact .dct0 (f.1 _ _ (fun z => by rw [z, ep] at ha; cases ha) ha)
mutual
theorem Gx.wf (pn : Pen h p c n) (f : Gx p h h1) : ∀ {x : D}, Wf h x → Wf h1 x
  | .ref a, w => by simp only [Wf] at w ⊢; exact f.kd pn w
  | .str _, w => w
  | .tup ds, w => by simp only [Wf] at w ⊢; exact ⟨w.1, Gx.wfs pn f w.2⟩
  | .scr _, w => w
  | .non, w => w
  | .bl _, w => w
  | .int _, w => w
theorem Gx.wfs (pn : Pen h p c n) (f : Gx p h h1) : ∀ {ds : List D}, Wfs h ds → Wfs h1 ds
  | [], w => by simp only [Wfs]
  | d :: ds, w => by
    have w : Wf h d ∧ Wfs h ds := by simpa only [Wfs] using w
    simp only [Wfs]
    exact ⟨Gx.wf pn f w.1, Gx.wfs pn f w.2⟩
end
theorem Gd.gx (pn : Pen h p c n) (f : Gx p h h1) : Gd h k w x → Gd h1 k w x
  | ⟨a, t, b, c⟩ => ⟨Gx.wf pn f a, t, Gx.den pn f b, c⟩
theorem gd_non : Gd h 0 0 .non := ⟨trivial, _, .non, rfl, rfl, Nat.le_refl _, Nat.le_refl _⟩
theorem gd_bl {b : Bool} : Gd h 0 0 (.bl b) := ⟨trivial, _, .bl b, rfl, rfl, Nat.le_refl _, Nat.le_refl _⟩
theorem gd_int {i : Int} (hi : i.natAbs < 2 ^ 79) : Gd h 0 0 (.int i) := by
  have hl : i.natAbs.log2 < 79 := by
    by_cases z : i.natAbs = 0
    · rw [z]; decide
    · exact (Nat.log2_lt z).mpr hi
  refine ⟨trivial, _, .int i, ?_, ?_, Nat.le_refl _, Nat.le_refl _⟩
  · show decide (i.natAbs.log2 < 1920) = true
    exact decide_eq_true (by omega)
  · show decide (Str.length (Str.ofString (toString i)) ≤ 80) = true
    refine decide_eq_true ?_
    rw [ofString_length]
    exact int_text_length_le (by decide) hl
theorem gd_str {z : Str} (hz : z.length ≤ w) (hw : w ≤ 1000) (ok : PyData.strOk z = true) : Gd h 0 w (.str z) := by
  refine ⟨⟨fits_le (by omega), ok⟩, _, .str z, rfl, ?_, hz, Nat.zero_le _⟩
  show (z.cps.toList.all fun c => decide (c < 16 ^ 8)) = true
  rw [List.all_eq_true]
  intro x hx
  have ok : Array.all z.cps (· < 0x110000) = true := ok
  rw [Array.all_eq_true_iff_forall_mem] at ok
  have := of_decide_eq_true (ok x (by simpa using hx))
  exact decide_eq_true (by omega)
theorem gd_items : ∀ {ds : List D}, (∀ d ∈ ds, Gd h k w d) → ∃ ts, ts.length = ds.length ∧ (∀ (i : Nat) d t, ds[i]? = some d → ts[i]? = some t → Den h d t) ∧ PyData.showableAll ts = true ∧ PyData.leavesShortAll 80 ts = true ∧ PyData.bulkAll ts ≤ ds.length * (w + 1) ∧ PyData.depthAll ts ≤ k
  | [], _ => ⟨[], rfl, (fun i d t a => by simp at a), rfl, rfl, Nat.zero_le _, Nat.zero_le _⟩
  | d :: ds, H => by
    obtain ⟨ts, a, b, c1, c2, c3, c4⟩ := gd_items fun x hx => H x (List.mem_cons_of_mem _ hx)
    obtain ⟨_, t, e, o1, o2, o3, o4⟩ := H d List.mem_cons_self
    refine ⟨t :: ts, by rw [List.length_cons, List.length_cons, a], fun i x y hx hy => ?_, ?_, ?_, ?_, ?_⟩
    · cases i with
      | zero => cases hx; cases hy; exact e
      | succ i => exact b i x y hx hy
    · simp only [PyData.showableAll, o1, c1, Bool.and_self]
    · simp only [PyData.leavesShortAll, o2, c2, Bool.and_self]
    · simp only [PyData.bulkAll, List.length_cons, Nat.succ_mul]
      omega
    · simp only [PyData.depthAll]
      omega
theorem gd_tup {ds : List D} {m : Nat} (H : ∀ d ∈ ds, Gd h k w d) (hl : ds.length ≤ m) (hm : m ≤ 1000) : Gd h (k + 1) (m * (w + 1)) (.tup ds) := by
  obtain ⟨ts, a, b, c1, c2, c3, c4⟩ := gd_items H
  refine ⟨wf_tup.mpr ⟨by omega, fun d hd => (H d hd).1⟩, .tuple ts, .tup a b, ?_, ?_, ?_, ?_⟩
  · simp only [PyData.showable]; exact c1
  · simp only [PyData.leavesShort]; exact c2
  · simp only [PyData.bulk]; exact Nat.le_trans c3 (Nat.mul_le_mul_right _ hl)
  · simp only [PyData.depth]; omega
theorem gd_lst {a : Addr} {ds : List D} {m : Nat} (ea : h a = some (.lst ds)) (H : ∀ d ∈ ds, Gd h k w d) (hl : ds.length ≤ m) : Gd h (k + 1) (m * (w + 1)) (.ref a) := by
  obtain ⟨ts, z, b, c1, c2, c3, c4⟩ := gd_items H
  refine ⟨?_, .list ts, .lst ea z b, ?_, ?_, ?_, ?_⟩
  · simp only [Wf]; exact .inl ⟨_, ea⟩
  · simp only [PyData.showable]; exact c1
  · simp only [PyData.leavesShort]; exact c2
  · simp only [PyData.bulk]; exact Nat.le_trans c3 (Nat.mul_le_mul_right _ hl)
  · simp only [PyData.depth]; omega
theorem gd_dct {a : Addr} (ea : h a = some (.dct [])) : Gd h 1 0 (.ref a) := by
  refine ⟨?_, .dict [], .dct0 ea, ?_, ?_, ?_, ?_⟩
  · simp only [Wf]; exact .inr ⟨_, ea⟩
  · rfl
  · rfl
  · exact Nat.le_refl _
  · exact Nat.le_refl _
end
section
variable {d : Nat} {h : MH} {Q : D → MH → Prop} {E : DX} {p c : Addr} {n : Nat}
/-- a thing that is no row of rows -/
def Fl (v : D) : Prop := ∀ ds, v = .tup ds → ds.length ≤ 2 ∧ ∀ es, .tup es ∉ ds
theorem al_rule {o : MO} {h : MH} {Q : D → MH → Prop} (H : ∀ q h', h q = none → Gw h h' → h' q = some o → Q (.ref q) h') : al o h Q := fun q hq => H q _ hq (Gw.up hq) up_self
end
end LW
set_option Elab.async false
set_option linter.all false
set_option maxRecDepth 100000
set_option maxHeartbeats 1000000
set_option exponentiation.threshold 20000
namespace LW
open PySem L2 DL
/-! ### stretches -/
structure S4 where
  w : Str
  f : Int
  m : Int
  y : Int
  deriving DecidableEq
def S4.d (s : S4) : D := .tup [.str s.w, .int s.f, .int s.m, .int s.y]
def S4.p (s : S4) : PyData := .tuple [.str s.w, .int s.f, .int s.m, .int s.y]
theorem S4.toP (s : S4) : toP s.d = s.p := by simp [S4.d, S4.p, DL.toP, toPs]
theorem S4.imm (s : S4) : imm s.d = true := by simp [S4.d, DL.imm, imms]
theorem S4.inj {s t : S4} (h : s.d = t.d) : s = t := by
  cases s; cases t
  simp [S4.d] at h
  simp [h]
end LW
namespace LW
open PySem L2 DL
def S4.last (s : S4) : Int := s.f + s.y * (s.m - 1)
def S4.goes (a b : S4) : Bool := (a.w == b.w && a.y == b.y) && decide (b.f = a.last + a.y)
theorem shaped_tup2 {z : Str} {i : Int} (hz : PyData.strOk z = true) : SeqAt.shaped (.tuple [.str z, .int i]) = true := by
  simp [SeqAt.shaped, PyData.canLay0, PyData.canLayAll0, PyData.depth, PyData.depthAll, hz]
theorem shaped_S4 {s : S4} (hz : PyData.strOk s.w = true) : s.p.canLay0 = true ∧ s.p.depth = 1 := by
  simp [S4.p, PyData.canLay0, PyData.canLayAll0, PyData.depth, PyData.depthAll, hz]
section
variable {d : Nat} {h : MH} {Q : D → MH → Prop} {E : DX}
theorem deepEq_imm {x y : D} {P : Bool → Prop} (hx : imm x = true) (hy : imm y = true) (sx : SeqAt.shaped (toP x) = true) (sy : SeqAt.shaped (toP y) = true) (p : P (PyData.eqv (toP x) (toP y))) : deepEq x y h P := ⟨_, _, imm_den hx, imm_den hy, sx, sy, p⟩
theorem eqD_tup {a b : List D} {P : Bool → Prop} (hx : imms a = true) (hy : imms b = true) (sx : SeqAt.shaped (.tuple (toPs a)) = true) (sy : SeqAt.shaped (.tuple (toPs b)) = true) (p : P (PyData.eqvAll (toPs a) (toPs b))) : eqD (.tup a) (.tup b) h P :=
  deepEq_imm (x := .tup a) (y := .tup b) (by rw [DL.imm]; exact hx) (by rw [DL.imm]; exact hy) (by rw [toP]; exact sx) (by rw [toP]; exact sy) (by rw [toP, toP, PyData.eqv]; exact p)
theorem way_mul {y k : Int} (h : y = 1 ∨ y = -1) : DL.MulOk y k := by
  rcases h with rfl | rfl <;> exact .inl (by decide)
end
/-! ### rows joined -/
def jn1 (found : List S4) (s : S4) : List S4 := match found.getLast? with
  | some l => if l.goes s = true then found.dropLast ++ [⟨l.w, l.f, l.m + s.m, l.y⟩] else found ++ [s]
  | none => [s]
def jn (ss : List S4) : List S4 := ss.foldl jn1 []
/-- nothing goes on -/
def form : List S4 → Bool
  | a :: b :: r => !a.goes b && form (b :: r)
  | _ => true
theorem jn1_len (found : List S4) (s : S4) : (jn1 found s).length ≤ found.length + 1 := by
  unfold jn1
  split
  · split
    · rename_i l e _
      rw [List.length_append, List.length_dropLast]
      simp
    · simp
  · simp
theorem foldl_jn_len : ∀ (ss found : List S4), (ss.foldl jn1 found).length ≤ found.length + ss.length
  | [], found => Nat.le_refl _
  | s :: ss, found => by
    have h1 := jn1_len found s
    have h2 := foldl_jn_len ss (jn1 found s)
    rw [List.foldl_cons, List.length_cons]; omega
theorem jn_form : ∀ (ss found : List S4) (l : S4), form (l :: ss) = true → ss.foldl jn1 (found ++ [l]) = found ++ l :: ss
  | [], found, l, _ => rfl
  | s :: ss, found, l, h => by
    have h : (!l.goes s && form (s :: ss)) = true := h
    rw [Bool.and_eq_true] at h
    have g : l.goes s = false := by simpa using h.1
    rw [List.foldl_cons]
    have e : jn1 (found ++ [l]) s = (found ++ [l]) ++ [s] := by
      unfold jn1
      rw [List.getLast?_concat]
      simp [g]
    rw [e, jn_form ss (found ++ [l]) s h.2, List.append_assoc] <;> rfl
theorem jn_noform : ∀ (ss found : List S4) (l : S4), form (l :: ss) = false → (ss.foldl jn1 (found ++ [l])).length < found.length + 1 + ss.length
  | [], found, l, h => by cases h
  | s :: ss, found, l, h => by
    have h : (!l.goes s && form (s :: ss)) = false := h
    rw [List.foldl_cons, List.length_cons]
    cases g : l.goes s with
    | true =>
      have e : (jn1 (found ++ [l]) s).length = found.length + 1 := by
        unfold jn1
        rw [List.getLast?_concat]
        simp [g]
      have := foldl_jn_len ss (jn1 (found ++ [l]) s)
      omega
    | false =>
      rw [g] at h
      have e : jn1 (found ++ [l]) s = (found ++ [l]) ++ [s] := by
        unfold jn1
        rw [List.getLast?_concat]
        simp [g]
      have := jn_noform ss (found ++ [l]) s (by simpa using h)
      rw [e]
      simp at this ⊢
      omega
theorem jn_eq (ss : List S4) : decide (ss = jn ss) = form ss := by
  cases ss with
  | nil => rfl
  | cons a ss =>
    have e0 : jn (a :: ss) = ss.foldl jn1 ([] ++ [a]) := rfl
    rw [e0]
    cases c : form (a :: ss) with
    | true => rw [jn_form ss [] a c]; simp
    | false =>
      have := jn_noform ss [] a c
      rw [decide_eq_false_iff_not]
      intro e
      rw [← e] at this
      simp at this
      omega
/-- what joined keeps: first good ones, texts that may be compared -/
def Good2 (l : List S4) : Prop := ∀ s ∈ l, PyData.strOk s.w = true ∧ (s.y = 1 ∨ s.y = -1)
theorem jn1_good {found : List S4} {s : S4} (f : Good2 found) (o : PyData.strOk s.w = true ∧ (s.y = 1 ∨ s.y = -1)) : Good2 (jn1 found s) := by
  unfold jn1
  intro t ht
  split at ht
  · rename_i l e
    have hl := f l (List.mem_of_getLast? e)
    split at ht
    · rcases List.mem_append.mp ht with ht | ht
      · exact f t (List.dropLast_subset _ ht)
      · rw [List.mem_singleton] at ht; subst ht; exact hl
    · rcases List.mem_append.mp ht with ht | ht
      · exact f t ht
      · rw [List.mem_singleton] at ht; subst ht; exact o
  · rw [List.mem_singleton] at ht; subst ht; exact o
theorem imms_S4 : ∀ l : List S4, imms (l.map S4.d) = true
  | [] => rfl
  | s :: l => by rw [List.map_cons, imms, S4.imm, imms_S4 l]; rfl
theorem toPs_S4 : ∀ l : List S4, toPs (l.map S4.d) = l.map S4.p
  | [] => rfl
  | s :: l => by rw [List.map_cons, toPs, S4.toP, toPs_S4 l]; rfl
theorem canLay_S4 : ∀ {l : List S4}, (∀ s ∈ l, PyData.strOk s.w = true) → PyData.canLayAll0 (l.map S4.p) = true ∧ PyData.depthAll (l.map S4.p) ≤ 1
  | [], _ => ⟨rfl, Nat.zero_le _⟩
  | s :: l, f => by
    obtain ⟨h1, h2⟩ := shaped_S4 (f s List.mem_cons_self)
    obtain ⟨h3, h4⟩ := canLay_S4 (l := l) fun t ht => f t (List.mem_cons_of_mem _ ht)
    rw [List.map_cons, PyData.canLayAll0, PyData.depthAll, h1, h2, h3]
    exact ⟨rfl, by omega⟩
theorem shaped_lst {l : List S4} (f : ∀ s ∈ l, PyData.strOk s.w = true) : SeqAt.shaped (.list (l.map S4.p)) = true := by
  obtain ⟨h1, h2⟩ := canLay_S4 f
  simp [SeqAt.shaped, PyData.canLay0, PyData.depth, h1]
  omega
theorem eqvAll_S4 : ∀ a b : List S4, PyData.eqvAll (a.map S4.p) (b.map S4.p) = decide (a = b)
  | [], [] => by simp [PyData.eqvAll]
  | [], _ :: _ => by simp [PyData.eqvAll]
  | _ :: _, [] => by simp [PyData.eqvAll]
  | x :: a, y :: b => by
    rw [List.map_cons, List.map_cons, PyData.eqvAll, eqvAll_S4 a b]
    have e : PyData.eqv x.p y.p = decide (x = y) := by
      cases x; cases y
      simp [S4.p, PyData.eqv, PyData.eqvAll]
      rw [Bool.eq_iff_iff]; simp [and_assoc]
    rw [e, ← Bool.decide_and]
    exact decide_eq_decide.mpr (by rw [List.cons.injEq])
theorem den_lst {h : MH} {a : Addr} {l : List S4} (e : h a = some (.lst (l.map S4.d))) : Den h (.ref a) (.list (l.map S4.p)) := by
  refine .lst e (by simp) fun i d t hd ht => ?_
  rw [List.getElem?_map] at hd ht
  cases q : l[i]? with
  | none => rw [q] at hd; cases hd
  | some s =>
    rw [q] at hd ht
    cases hd; cases ht
    have := imm_den (h := h) s.imm
    rw [s.toP] at this
    exact this
theorem eqD_lst {h : MH} {a b : Addr} {l m : List S4} {P : Bool → Prop} (ea : h a = some (.lst (l.map S4.d))) (eb : h b = some (.lst (m.map S4.d))) (fl : ∀ s ∈ l, PyData.strOk s.w = true) (fm : ∀ s ∈ m, PyData.strOk s.w = true) (p : P (decide (l = m))) : eqD (.ref a) (.ref b) h P := by
  refine Or.inl ?_
  refine ⟨_, _, den_lst ea, den_lst eb, shaped_lst fl, shaped_lst fm, ?_⟩
  rw [PyData.eqv, eqvAll_S4]
  exact p
end LW
set_option Elab.async false
set_option linter.all false
set_option maxRecDepth 100000
set_option maxHeartbeats 1000000
set_option exponentiation.threshold 20000
namespace LW
open PySem L2 DL
/-! ### yards one by one, plainly -/
structure Y3 where
  w : Str
  n : Int
  y : Int
  deriving DecidableEq
def S4.at (s : S4) (k : Nat) : Y3 := ⟨s.w, s.f + s.y * k, s.y⟩
def ex1 (s : S4) : List Y3 := (List.range s.m.toNat).map s.at
def ex (ss : List S4) : List Y3 := ss.flatMap ex1
def one (a : Y3) : S4 := ⟨a.w, a.n, 1, a.y⟩
def flp (a : Y3) : Y3 := ⟨a.w, a.n, -a.y⟩
/-- yards in one form -/
def nf (l : List Y3) : List S4 := jn (l.map one)
def Pos (ss : List S4) : Prop := ∀ s ∈ ss, 1 ≤ s.m
theorem goes_iff {a b : S4} : a.goes b = true ↔ a.w = b.w ∧ a.y = b.y ∧ b.f = a.f + a.y * a.m := by
  unfold S4.goes S4.last
  simp only [Bool.and_eq_true, beq_iff_eq, decide_eq_true_eq]
  have e : a.f + a.y * (a.m - 1) + a.y = a.f + a.y * a.m := by rw [Int.mul_sub, Int.mul_one]; omega
  rw [e]
  exact ⟨fun ⟨⟨h1, h2⟩, h3⟩ => ⟨h1, h2, h3⟩, fun ⟨h1, h2, h3⟩ => ⟨⟨h1, h2⟩, h3⟩⟩
theorem jn1_con {fd : List S4} {l s : S4} : jn1 (fd ++ [l]) s = if l.goes s = true then fd ++ [⟨l.w, l.f, l.m + s.m, l.y⟩] else fd ++ [l] ++ [s] := by
  unfold jn1
  rw [List.getLast?_concat]
  simp
theorem jn1_nil {s : S4} : jn1 [] s = [s] := rfl
theorem snoc_cases {α : Type} (l : List α) : l = [] ∨ ∃ a x, l = a ++ [x] := by
  rcases List.eq_nil_or_concat l with h | ⟨a, x, h⟩
  · exact .inl h
  · exact .inr ⟨a, x, by rw [h, List.concat_eq_append]⟩
/-- a stretch joined is its yards joined, one by one -/
theorem jn1_step (fd : List S4) (s : S4) (k : Nat) (hk : 1 ≤ k) : jn1 (jn1 fd ⟨s.w, s.f, k, s.y⟩) (one (s.at k)) = jn1 fd ⟨s.w, s.f, (k : Int) + 1, s.y⟩ := by
  have key : ∀ (g : List S4) (u : S4), u.w = s.w → u.y = s.y → s.f + s.y * k = u.f + u.y * u.m → jn1 (g ++ [u]) (one (s.at k)) = g ++ [⟨u.w, u.f, u.m + 1, u.y⟩] := fun g u h1 h2 h3 => by
    have c : u.goes (one (s.at k)) = true := goes_iff.mpr ⟨h1, h2, h3⟩
    rw [jn1_con, if_pos c]
    rfl
  rcases snoc_cases fd with rfl | ⟨a, l, rfl⟩
  · rw [jn1_nil, jn1_nil]
    exact key [] ⟨s.w, s.f, k, s.y⟩ rfl rfl rfl
  · rw [jn1_con, jn1_con]
    by_cases c : l.goes ⟨s.w, s.f, k, s.y⟩ = true
    · have c' := goes_iff.mp c
      have c2 : l.goes ⟨s.w, s.f, (k : Int) + 1, s.y⟩ = true := goes_iff.mpr c'
      rw [if_pos c, if_pos c2]
      refine (key a ⟨l.w, l.f, l.m + k, l.y⟩ c'.1 c'.2.1 ?_).trans ?_
      rotate_left
      · simp only [Int.add_assoc]
      · have h3 : s.f = l.f + l.y * l.m := c'.2.2
        show s.f + s.y * k = l.f + l.y * (l.m + k)
        have h2 : l.y = s.y := c'.2.1
        rw [h3, Int.mul_add, h2, Int.add_assoc]
    · have c2 : ¬ l.goes ⟨s.w, s.f, (k : Int) + 1, s.y⟩ = true := fun z => c (goes_iff.mpr (goes_iff.mp z))
      rw [if_neg c, if_neg c2]
      exact key _ ⟨s.w, s.f, k, s.y⟩ rfl rfl rfl
theorem jn1_range (fd : List S4) (s : S4) : ∀ k : Nat, 1 ≤ k → ((List.range k).map fun i => one (s.at i)).foldl jn1 fd = jn1 fd ⟨s.w, s.f, k, s.y⟩
  | 0, h => absurd h (by decide)
  | 1, _ => by
    show jn1 fd (one (s.at 0)) = _
    unfold one S4.at
    simp
  | k + 2, _ => by
    rw [List.range_succ, List.map_append, List.foldl_append, jn1_range fd s (k + 1) (by omega)]
    exact jn1_step fd s (k + 1) (by omega)
theorem jn1_ex (fd : List S4) {s : S4} (h : 1 ≤ s.m) : ((ex1 s).map one).foldl jn1 fd = jn1 fd s := by
  have e : ((s.m.toNat : Nat) : Int) = s.m := Int.toNat_of_nonneg (by omega)
  have := jn1_range fd s s.m.toNat (by omega)
  rw [e] at this
  unfold ex1
  rw [List.map_map]
  exact this
theorem jn_ex' : ∀ (ss fd : List S4), Pos ss → ((ex ss).map one).foldl jn1 fd = ss.foldl jn1 fd
  | [], fd, _ => rfl
  | s :: ss, fd, h => by
    unfold ex
    rw [List.flatMap_cons, List.map_append, List.foldl_append, jn1_ex fd (h s List.mem_cons_self), List.foldl_cons]
    exact jn_ex' ss _ fun t ht => h t (List.mem_cons_of_mem _ ht)
/-- a row joined is its yards' one form -/
theorem jn_ex {ss : List S4} (h : Pos ss) : jn ss = nf (ex ss) := (jn_ex' ss [] h).symm
theorem range_add (a b : Nat) : List.range (a + b) = List.range a ++ (List.range b).map (a + ·) := by rw [List.range_add]
theorem ex1_two {w : Str} {f y m n : Int} (hm : 0 ≤ m) (hn : 0 ≤ n) : ex1 ⟨w, f, m + n, y⟩ = ex1 ⟨w, f, m, y⟩ ++ ex1 ⟨w, f + y * m, n, y⟩ := by
  obtain ⟨a, rfl⟩ := Int.eq_ofNat_of_zero_le hm
  obtain ⟨b, rfl⟩ := Int.eq_ofNat_of_zero_le hn
  unfold ex1
  show (List.range ((a : Int) + b).toNat).map _ = (List.range (a : Int).toNat).map _ ++ (List.range (b : Int).toNat).map _
  rw [show ((a : Int) + b).toNat = a + b by omega, Int.toNat_natCast, Int.toNat_natCast, range_add, List.map_append, List.map_map]
  congr 1
  refine List.map_congr_left fun k _ => ?_
  show (⟨w, f + y * ((a + k : Nat) : Int), y⟩ : Y3) = ⟨w, f + y * a + y * k, y⟩
  rw [show ((a + k : Nat) : Int) = (a : Int) + k by omega, Int.mul_add, Int.add_assoc]
theorem ex_app (a b : List S4) : ex (a ++ b) = ex a ++ ex b := List.flatMap_append
theorem ex_sing (s : S4) : ex [s] = ex1 s := by simp [ex]
theorem ex_jn1 {fd : List S4} {s : S4} (hf : Pos fd) (hs : 1 ≤ s.m) : ex (jn1 fd s) = ex fd ++ ex1 s ∧ Pos (jn1 fd s) := by
  rcases snoc_cases fd with rfl | ⟨a, l, rfl⟩
  · rw [jn1_nil, ex_sing]
    exact ⟨rfl, fun t ht => by rw [List.mem_singleton.mp ht]; exact hs⟩
  · have hl : 1 ≤ l.m := hf l (by simp)
    rw [jn1_con]
    by_cases c : l.goes s = true
    · obtain ⟨h1, h2, h3⟩ := goes_iff.mp c
      rw [if_pos c, ex_app, ex_app, ex_sing, ex_sing, List.append_assoc, ex1_two (by omega) (by omega)]
      refine ⟨?_, fun t ht => ?_⟩
      · cases s; cases l; simp only at h1 h2 h3 ⊢; subst h1 h2 h3; rfl
      · rcases List.mem_append.mp ht with ht | ht
        · exact hf t (List.mem_append_left _ ht)
        · rw [List.mem_singleton.mp ht]; show 1 ≤ l.m + s.m; omega
    · rw [if_neg c, ex_app, ex_sing]
      refine ⟨rfl, fun t ht => ?_⟩
      rcases List.mem_append.mp ht with ht | ht
      · exact hf t ht
      · rw [List.mem_singleton.mp ht]; exact hs
theorem ex_jn' : ∀ (ss fd : List S4), Pos fd → Pos ss → ex (ss.foldl jn1 fd) = ex fd ++ ex ss ∧ Pos (ss.foldl jn1 fd)
  | [], fd, hf, _ => by simp [ex]; exact hf
  | s :: ss, fd, hf, h => by
    obtain ⟨e1, p1⟩ := ex_jn1 hf (h s List.mem_cons_self)
    obtain ⟨e2, p2⟩ := ex_jn' ss (jn1 fd s) p1 fun t ht => h t (List.mem_cons_of_mem _ ht)
    rw [List.foldl_cons]
    exact ⟨by rw [e2, e1, List.append_assoc]; simp [ex], p2⟩
theorem ex_jn {ss : List S4} (h : Pos ss) : ex (jn ss) = ex ss ∧ Pos (jn ss) := by
  have := ex_jn' ss [] (fun _ z => nomatch z) h
  exact this
theorem pos_one (l : List Y3) : Pos (l.map one) := fun s hs => by
  obtain ⟨a, _, rfl⟩ := List.mem_map.mp hs
  exact Int.le_refl _
theorem ex_one : ∀ l : List Y3, ex (l.map one) = l
  | [] => rfl
  | a :: l => by
    have e : ex ((a :: l).map one) = ex1 (one a) ++ ex (l.map one) := by simp [ex]
    rw [e, ex_one l]
    have : ex1 (one a) = [a] := by
      show (List.range 1).map _ = _
      cases a
      simp [one, S4.at]
    rw [this]; rfl
theorem ex_nf (l : List Y3) : ex (nf l) = l ∧ Pos (nf l) := by
  obtain ⟨a, b⟩ := ex_jn (pos_one l)
  exact ⟨a.trans (ex_one l), b⟩
/-- rows in one form -/
theorem jn_nf (l : List Y3) : jn (nf l) = nf l := by rw [jn_ex (ex_nf l).2, (ex_nf l).1]
theorem nf_len (l : List Y3) : (nf l).length ≤ l.length := by
  have := foldl_jn_len (l.map one) []
  unfold nf jn
  simpa using this
theorem jn_len (ss : List S4) : (jn ss).length ≤ ss.length := by
  have := foldl_jn_len ss []
  unfold jn
  simpa using this
/-! turned about -/
def flip1 (s : S4) : S4 := ⟨s.w, s.last, s.m, -s.y⟩
theorem ex1_flip {s : S4} (h : 1 ≤ s.m) : ex1 (flip1 s) = (ex1 s).reverse.map flp := by
  obtain ⟨k, hk⟩ : ∃ k : Nat, s.m = k := ⟨s.m.toNat, by omega⟩
  unfold ex1
  show (List.range s.m.toNat).map _ = _
  rw [hk, Int.toNat_natCast, ← List.map_reverse, List.map_map]
  have hr : (List.range k).reverse = (List.range k).map fun i => k - 1 - i := by
    refine List.ext_getElem? fun i => ?_
    by_cases hi : i < k
    · rw [List.getElem?_reverse (by simpa using hi), List.getElem?_map, List.getElem?_range hi, List.length_range, List.getElem?_range (by omega)]
      rfl
    · rw [List.getElem?_eq_none (by simpa using hi), List.getElem?_eq_none (by simpa using hi)]
  rw [hr, List.map_map]
  refine List.map_congr_left fun i hi => ?_
  have hi : i < k := List.mem_range.mp hi
  show (⟨s.w, (s.f + s.y * (s.m - 1)) + -s.y * i, -s.y⟩ : Y3) = ⟨s.w, s.f + s.y * ((k - 1 - i : Nat) : Int), -s.y⟩
  have e : ((k - 1 - i : Nat) : Int) = (s.m - 1) - i := by omega
  rw [e, Int.mul_sub s.y (s.m - 1) i, Int.neg_mul]
  congr 1
  omega
theorem ex_flip : ∀ {ss : List S4}, Pos ss → ex (ss.reverse.map flip1) = (ex ss).reverse.map flp
  | [], _ => rfl
  | s :: ss, h => by
    have ih := ex_flip (ss := ss) fun t ht => h t (List.mem_cons_of_mem _ ht)
    rw [List.reverse_cons, List.map_append, ex_app, ih]
    show _ ++ ex [flip1 s] = _
    rw [ex_sing, ex1_flip (h s List.mem_cons_self)]
    have e : ex (s :: ss) = ex1 s ++ ex ss := by simp [ex]
    rw [e, List.reverse_append, List.map_append]
theorem pos_flip {ss : List S4} (h : Pos ss) : Pos (ss.reverse.map flip1) := fun s hs => by
  obtain ⟨t, ht, rfl⟩ := List.mem_map.mp hs
  exact h t (List.mem_reverse.mp ht)
/-! the topmost yards -/
def prt : List S4 → Int → List S4 × List S4
  | [], _ => ([], [])
  | s :: ss, n =>
    let p := if n < s.m then n else s.m
    let r := prt ss (n - p)
    ((if 0 < p then [⟨s.w, s.f, p, s.y⟩] else []) ++ r.1, (if p < s.m then [⟨s.w, s.f + s.y * p, s.m - p, s.y⟩] else []) ++ r.2)
theorem ex1_len (s : S4) : (ex1 s).length = s.m.toNat := by simp [ex1]
theorem prt_ok : ∀ {ss : List S4} {n : Int}, Pos ss → 0 ≤ n → ex (prt ss n).1 = (ex ss).take n.toNat ∧ ex (prt ss n).2 = (ex ss).drop n.toNat ∧ Pos (prt ss n).1 ∧ Pos (prt ss n).2 ∧ (prt ss n).1.length + (prt ss n).2.length ≤ ss.length + (if 0 < n then 1 else 0)
  | [], n, _, _ => by simp [prt, ex, Pos]
  | s :: ss, n, h, hn => by
    have hs : 1 ≤ s.m := h s List.mem_cons_self
    have hss : Pos ss := fun t ht => h t (List.mem_cons_of_mem _ ht)
    have e0 : ex (s :: ss) = ex1 s ++ ex ss := by simp [ex]
    have hl := ex1_len s
    by_cases c : n < s.m
    · obtain ⟨i1, i2, i3, i4, i5⟩ := prt_ok (ss := ss) (n := 0) hss (Int.le_refl _)
      have e : prt (s :: ss) n = ((if 0 < n then [⟨s.w, s.f, n, s.y⟩] else []) ++ (prt ss 0).1, [⟨s.w, s.f + s.y * n, s.m - n, s.y⟩] ++ (prt ss 0).2) := by
        show (_, _) = _
        simp only [if_pos c, Int.sub_self]
      have two : ex1 s = ex1 ⟨s.w, s.f, n, s.y⟩ ++ ex1 ⟨s.w, s.f + s.y * n, s.m - n, s.y⟩ := by
        rw [← ex1_two hn (by omega)]
        cases s
        simp only
        congr 2
        omega
      have l1 : (ex1 ⟨s.w, s.f, n, s.y⟩).length = n.toNat := ex1_len _
      have z1 : ex (prt ss 0).1 = [] := by rw [i1]; rfl
      have z2 : ex (prt ss 0).2 = ex ss := by rw [i2]; rfl
      rw [e, e0, two]
      refine ⟨?_, ?_, ?_, ?_, ?_⟩
      · rw [ex_app, z1, List.append_nil, List.append_assoc, List.take_append_of_le_length (by omega), List.take_of_length_le (by omega)]
        split
        · rw [ex_sing]
        · rw [show n = 0 by omega]; rfl
      · rw [ex_app, z2, ex_sing, List.append_assoc, ← l1, List.drop_left]
      · intro t ht
        rcases List.mem_append.mp ht with ht | ht
        · split at ht
          · rw [List.mem_singleton.mp ht]; show 1 ≤ n; omega
          · cases ht
        · exact i3 t ht
      · intro t ht
        rcases List.mem_append.mp ht with ht | ht
        · rw [List.mem_singleton.mp ht]; show 1 ≤ s.m - n; omega
        · exact i4 t ht
      · rw [if_neg (Int.lt_irrefl 0)] at i5
        simp only [List.length_append, List.length_cons, List.length_nil] at i5 ⊢
        split <;> simp <;> omega
    · obtain ⟨i1, i2, i3, i4, i5⟩ := prt_ok (ss := ss) (n := n - s.m) hss (by omega)
      have e : prt (s :: ss) n = ([⟨s.w, s.f, s.m, s.y⟩] ++ (prt ss (n - s.m)).1, [] ++ (prt ss (n - s.m)).2) := by
        show (_, _) = _
        simp only [if_neg c, Int.lt_irrefl, if_false, if_pos (show 0 < s.m by omega)]
      have en : n.toNat = (ex1 s).length + (n - s.m).toNat := by omega
      rw [e, e0]
      refine ⟨?_, ?_, ?_, ?_, ?_⟩
      · rw [ex_app, ex_sing, i1, en, List.take_length_add_append]
      · rw [List.nil_append, i2, en, List.drop_length_add_append]
      · intro t ht
        rcases List.mem_append.mp ht with ht | ht
        · rw [List.mem_singleton.mp ht]; exact hs
        · exact i3 t ht
      · exact i4
      · simp only [List.length_append, List.length_cons, List.length_nil, List.nil_append] at i5 ⊢
        split at i5 <;> split <;> omega
theorem sum_ex : ∀ {ss : List S4}, Pos ss → (ss.map S4.m).sum = ((ex ss).length : Int)
  | [], _ => rfl
  | s :: ss, h => by
    have hs : 1 ≤ s.m := h s List.mem_cons_self
    have ih := sum_ex (ss := ss) fun t ht => h t (List.mem_cons_of_mem _ ht)
    have e0 : ex (s :: ss) = ex1 s ++ ex ss := by simp [ex]
    rw [List.map_cons, List.sum_cons, ih, e0, List.length_append, ex1_len]
    omega
end LW
set_option Elab.async false
set_option linter.all false
set_option maxRecDepth 100000
set_option maxHeartbeats 1000000
set_option exponentiation.threshold 20000
namespace LW
open PySem L2 DL
/-- a row: a tuple or a list of stretches -/
def Src (h : MH) (x : D) (ss : List S4) : Prop := x = .tup (ss.map S4.d) ∨ ∃ a, x = .ref a ∧ h a = some (.lst (ss.map S4.d))
section
variable {h h1 : MH} {x : D} {ss : List S4}
theorem Src.gw (s : Src h x ss) (g : Gw h h1) : Src h1 x ss := by
  rcases s with e | ⟨a, e, f⟩
  · exact .inl e
  · exact .inr ⟨a, e, g _ _ f⟩
theorem Src.gx {p c : Addr} {n : Nat} (s : Src h x ss) (pn : Pen h p c n) (g : Gx p h h1) : Src h1 x ss := by
  rcases s with e | ⟨a, e, f⟩
  · exact .inl e
  · exact .inr ⟨a, e, g.1 _ _ (fun z => by obtain ⟨k, e⟩ := pn.has; rw [z, e] at f; cases f) f⟩
theorem Src.walk {P : ItV → Prop} (s : Src h x ss) (g : Gw h h1) (p : ∀ ok : MH → Prop, (∀ h', Gw h h' → ok h') → P ⟨ss.map S4.d, ok⟩) : walkD x h1 P := by
  rcases s with rfl | ⟨a, rfl, f⟩
  · exact p _ fun _ _ => trivial
  · exact ⟨_, g _ _ f, p _ fun h' g' => g' _ _ f⟩
theorem Src.rev {P : ItV → Prop} (s : Src h x ss) (g : Gw h h1) (p : ∀ ok : MH → Prop, (∀ h', Gw h h' → ok h') → P ⟨(ss.map S4.d).reverse, ok⟩) : revD x h1 P := by
  rcases s with rfl | ⟨a, rfl, f⟩
  · exact p _ fun _ _ => trivial
  · exact ⟨_, g _ _ f, p _ fun h' g' => g' _ _ f⟩
theorem Src.items {P : List D → Prop} (s : Src h x ss) (p : P (ss.map S4.d)) : itemsOf x h P := by
  rcases s with rfl | ⟨a, rfl, f⟩
  · exact p
  · exact ⟨_, f, p⟩
theorem Src.kd (s : Src h x ss) : Kd h x := by
  rcases s with rfl | ⟨a, rfl, f⟩
  · trivial
  · exact .inl ⟨_, f⟩
end
section
variable {d : Nat} {h : MH} {Q : D → MH → Prop} {E : DX}
theorem jn1_last {found : List S4} {l s : S4} (e : found.getLast? = some l) : jn1 found s = if l.goes s = true then found.dropLast ++ [⟨l.w, l.f, l.m + s.m, l.y⟩] else found ++ [s] := by
  unfold jn1
  rw [e]
theorem good_flip {ss : List S4} (o : Good2 ss) : Good2 (ss.reverse.map flip1) := fun s hs => by
  obtain ⟨t, ht, rfl⟩ := List.mem_map.mp hs
  have := o t (List.mem_reverse.mp ht)
  refine ⟨this.1, ?_⟩
  show -t.y = 1 ∨ -t.y = -1
  have := this.2
  omega
theorem min_prt (l m : Int) : (if m < l then m else l) = if l < m then l else m := by
  split <;> split <;> omega
end
end LW
set_option Elab.async false
set_option linter.all false
set_option maxRecDepth 100000
set_option maxHeartbeats 1000000
set_option exponentiation.threshold 20000
namespace LW
open PySem L2 DL
/-! ### steps and gauges -/
inductive Stp where
  | wind (a b : Nat) (n : Int) | turn (a : Nat) | swap (a b : Nat)
def Stp.d : Stp → D
  | .wind a b n => .tup [.str "wind", .int a, .int b, .int n]
  | .turn a => .tup [.str "turn", .int a]
  | .swap a b => .tup [.str "swap", .int a, .int b]
def gst (g : List Int) : Stp → Option (List Int)
  | .wind a b n => if a < g.length ∧ b < g.length ∧ n ≤ g.getD a 0 then some ((g.set a (g.getD a 0 - n)).set b (g.getD b 0 + n)) else none
  | .turn a => if a < g.length then some g else none
  | .swap a b => if a < g.length ∧ b < g.length then some ((g.set a (g.getD b 0)).set b (g.getD a 0)) else none
def Stp.ne : Stp → Prop
  | .wind a b _ => a ≠ b
  | .swap a b => a ≠ b
  | .turn _ => True
def gD : Option (List Int) → D
  | some g => .tup (g.map .int)
  | none => .non
section
variable {d : Nat} {h : MH} {Q : D → MH → Prop} {E : DX}
theorem s_wt : ("wind" : Str) ≠ "turn" := by decide +kernel
theorem s_ws : ("wind" : Str) ≠ "swap" := by decide +kernel
theorem s_ts : ("turn" : Str) ≠ "swap" := by decide +kernel
theorem getI {g : List Int} {a : Nat} (h : a < g.length) : (g.map D.int)[a]? = some (.int (g.getD a 0)) := by
  rw [List.getElem?_map, List.getElem?_eq_getElem h, List.getD_eq_getElem?_getD, List.getElem?_eq_getElem h]; rfl
theorem setI {g : List Int} {a : Nat} {v : Int} : (g.map D.int).set a (.int v) = (g.set a v).map D.int := by rw [List.map_set]
theorem getA {g : List Int} {a : Nat} (h : a < g.length) : atI (g.map D.int) (a : Int) = some (.int (g.getD a 0)) := by rw [DL.atI_nat]; exact getI h
theorem setD_lst {q : Addr} {xs : List D} {j : Nat} {v : D} {P : MH → Prop} (e : h q = some (.lst xs)) (hj : j < xs.length) (p : P (up h q (.lst (xs.set j v)))) : setD (.ref q) (.int (j : Int)) v h P :=
  .inl ⟨xs, j, j, rfl, e, by rw [ixN_nat, if_pos hj], p⟩
theorem ixL_lst {q : Addr} {xs : List D} {j : Nat} {v : D} (e : h q = some (.lst xs)) (ej : xs[j]? = some v) (p : Q v h) : ixL (.ref q) (.int (j : Int)) h Q := ⟨j, xs, v, rfl, e, ej, p⟩
theorem ixD_at {q : Addr} {xs : List D} {j : Nat} {v : D} (e : h q = some (.lst xs)) (ej : xs[j]? = some v) (p : Q v h) : ixD (.ref q) (.int (j : Int)) h Q := ixD_lst e (by rw [DL.atI_nat]; exact ej) p
theorem aug_sub {i j : Int} (q : Q (.int (i - j)) h) : augD .Sub (.int i) (.int j) h Q := q
theorem aug_add {i j : Int} (q : Q (.int (i + j)) h) : augD .Add (.int i) (.int j) h Q := q
theorem max_two {q : Addr} {a b : Int} (e : h q = some (.lst [.int a, .int b])) (k : Q (.int (if a < b then b else a)) h) : bi .max [.ref q] h Q := ⟨_, e, a, [b], rfl, fun m m1 m2 => by
  have h1 := m2 a (by simp)
  have h2 := m2 b (by simp)
  have h3 : m = a ∨ m = b := by simpa using m1
  have : m = if a < b then b else a := by split <;> omega
  rw [this]; exact k⟩
theorem max_one {q : Addr} {a : Int} (e : h q = some (.lst [.int a])) (k : Q (.int a) h) : bi .max [.ref q] h Q := ⟨_, e, a, [], rfl, fun m m1 m2 => by
  have h3 : m = a := by simpa using m1
  rw [h3]; exact k⟩
end
end LW
set_option Elab.async false
set_option linter.all false
set_option maxRecDepth 100000
set_option maxHeartbeats 1000000
set_option exponentiation.threshold 20000
namespace LW
open PySem L2 DL
/-! ### steps on yards, plainly -/
def yst (ys : List (List Y3)) : Stp → List (List Y3)
  | .wind a b n => (ys.set a ((ys.getD a []).drop n.toNat)).set b (((ys.getD a []).take n.toNat).reverse.map flp ++ ys.getD b [])
  | .turn a => ys.set a ((ys.getD a []).reverse.map flp)
  | .swap a b => (ys.set a (ys.getD b [])).set b (ys.getD a [])
def gau (ys : List (List Y3)) : List Int := ys.map fun y => (y.length : Int)
def okY (a : Y3) : Prop := PyData.strOk a.w = true ∧ (a.y = 1 ∨ a.y = -1)
def GoodY (ys : List (List Y3)) : Prop := ∀ y ∈ ys, ∀ a ∈ y, okY a
def Stp.pos : Stp → Prop
  | .wind _ _ n => 1 ≤ n
  | _ => True
theorem gst_len {g g' : List Int} {st : Stp} (e : gst g st = some g') : g'.length = g.length := by
  cases st <;> simp only [gst] at e <;> split at e <;> cases e <;> simp
theorem gau_len (ys : List (List Y3)) : (gau ys).length = ys.length := by simp [gau]
theorem gau_getD {ys : List (List Y3)} {a : Nat} (h : a < ys.length) : (gau ys).getD a 0 = ((ys.getD a []).length : Int) := by
  rw [List.getD_eq_getElem?_getD, List.getD_eq_getElem?_getD, gau, List.getElem?_map, List.getElem?_eq_getElem h]; rfl
theorem gau_set (ys : List (List Y3)) (a : Nat) (v : List Y3) : gau (ys.set a v) = (gau ys).set a (v.length : Int) := by unfold gau; rw [List.map_set]
/-- the gauge follows the yards -/
theorem gau_yst {ys : List (List Y3)} {st : Stp} {g' : List Int} (hn : st.ne) (hp : st.pos) (e : gst (gau ys) st = some g') : gau (yst ys st) = g' := by
  cases st with
  | wind a b n =>
    simp only [gst] at e
    split at e
    · rename_i c
      obtain ⟨c1, c2, c3⟩ := c
      rw [gau_len] at c1 c2
      cases e
      have hp : 1 ≤ n := hp
      rw [gau_getD c1] at c3
      simp only [yst, gau_set, gau_getD c1, gau_getD c2]
      have e1 : ((((ys.getD a []).drop n.toNat).length : Nat) : Int) = ((ys.getD a []).length : Int) - n := by rw [List.length_drop]; omega
      have e2 : (((((ys.getD a []).take n.toNat).reverse.map flp ++ ys.getD b []).length : Nat) : Int) = ((ys.getD b []).length : Int) + n := by
        rw [List.length_append, List.length_map, List.length_reverse, List.length_take]; omega
      rw [e1, e2]
    · cases e
  | turn a =>
    simp only [gst] at e
    split at e
    · rename_i c
      rw [gau_len] at c
      cases e
      simp only [yst, gau_set]
      rw [List.length_map, List.length_reverse, ← gau_getD c, List.getD_eq_getElem?_getD, List.getElem?_eq_getElem (by rw [gau_len]; exact c)]
      exact List.set_getElem_self (by rw [gau_len]; exact c)
    · cases e
  | swap a b =>
    simp only [gst] at e
    split at e
    · rename_i c
      rw [gau_len] at c
      cases e
      simp only [yst, gau_set, gau_getD c.1, gau_getD c.2]
    · cases e
theorem mem_getD {α : Type} {l : List (List α)} {a : Nat} {x : α} (h : x ∈ l.getD a []) : ∃ y ∈ l, x ∈ y := by
  rw [List.getD_eq_getElem?_getD] at h
  cases e : l[a]? with
  | none => rw [e] at h; cases h
  | some y => rw [e] at h; exact ⟨y, List.mem_of_getElem? e, h⟩
theorem mem_set' {α : Type} {l : List α} {a : Nat} {v x : α} (h : x ∈ l.set a v) : x ∈ l ∨ x = v := List.mem_or_eq_of_mem_set h
/-- whose yards lie there -/
theorem yst_mem {ys : List (List Y3)} {st : Stp} {y : List Y3} {a : Y3} (hy : y ∈ yst ys st) (ha : a ∈ y) : ∃ y0 ∈ ys, ∃ a0 ∈ y0, a = a0 ∨ a = flp a0 := by
  have g : ∀ {i}, a ∈ ys.getD i [] → ∃ y0 ∈ ys, ∃ a0 ∈ y0, a = a0 ∨ a = flp a0 := fun {i} h => by
    obtain ⟨y0, h1, h2⟩ := mem_getD h
    exact ⟨y0, h1, a, h2, .inl rfl⟩
  have gf : ∀ {i} {l : List Y3}, (∀ b ∈ l, b ∈ ys.getD i []) → a ∈ l.map flp → ∃ y0 ∈ ys, ∃ a0 ∈ y0, a = a0 ∨ a = flp a0 := fun {i l} hl h => by
    obtain ⟨b, hb, rfl⟩ := List.mem_map.mp h
    obtain ⟨y0, h1, h2⟩ := mem_getD (hl b hb)
    exact ⟨y0, h1, b, h2, .inr rfl⟩
  cases st with
  | wind i j n =>
    rcases mem_set' hy with hy | rfl
    · rcases mem_set' hy with hy | rfl
      · exact ⟨y, hy, a, ha, .inl rfl⟩
      · exact g (List.mem_of_mem_drop ha)
    · rcases List.mem_append.mp ha with ha | ha
      · exact gf (fun b hb => List.mem_of_mem_take (List.mem_reverse.mp hb)) ha
      · exact g ha
  | turn i =>
    rcases mem_set' hy with hy | rfl
    · exact ⟨y, hy, a, ha, .inl rfl⟩
    · exact gf (fun b hb => List.mem_reverse.mp hb) ha
  | swap i j =>
    rcases mem_set' hy with hy | rfl
    · rcases mem_set' hy with hy | rfl
      · exact ⟨y, hy, a, ha, .inl rfl⟩
      · exact g ha
    · exact g ha
theorem okY_flp {a : Y3} (o : okY a) : okY (flp a) := ⟨o.1, by have := o.2; show -a.y = 1 ∨ -a.y = -1; omega⟩
theorem GoodY.yst {ys : List (List Y3)} {st : Stp} (o : GoodY ys) : GoodY (yst ys st) := fun y hy a ha => by
  obtain ⟨y0, h1, a0, h2, h3⟩ := yst_mem hy ha
  rcases h3 with rfl | rfl
  · exact o y0 h1 _ h2
  · exact okY_flp (o y0 h1 _ h2)
theorem good_jn' : ∀ (l found : List S4), Good2 found → Good2 l → Good2 (l.foldl jn1 found)
  | [], _, f, _ => f
  | t :: l, found, f, ht => good_jn' l _ (jn1_good f (ht t List.mem_cons_self)) fun u hu => ht u (List.mem_cons_of_mem _ hu)
theorem good_jn {l : List S4} (h : Good2 l) : Good2 (jn l) := good_jn' l [] (fun _ z => nomatch z) h
theorem good_nf {y : List Y3} (h : ∀ a ∈ y, okY a) : Good2 (nf y) := good_jn fun s hs => by
  obtain ⟨a, ha, rfl⟩ := List.mem_map.mp hs
  exact h a ha
theorem good_one {s t : S4} {c : Prop} [Decidable c] (hs : PyData.strOk s.w = true ∧ (s.y = 1 ∨ s.y = -1)) (hw : t.w = s.w) (hy : t.y = s.y) : Good2 (if c then [t] else []) := fun u hu => by
  split at hu
  · rw [List.mem_singleton.mp hu, hw, hy]; exact hs
  · cases hu
theorem good_app {a b : List S4} (ha : Good2 a) (hb : Good2 b) : Good2 (a ++ b) := fun u hu => by
  rcases List.mem_append.mp hu with hu | hu
  · exact ha u hu
  · exact hb u hu
theorem good_prt : ∀ {ss : List S4} {n : Int}, Good2 ss → Good2 (prt ss n).1 ∧ Good2 (prt ss n).2
  | [], _, h => ⟨h, h⟩
  | s :: ss, n, h => by
    have hs := h s List.mem_cons_self
    obtain ⟨i1, i2⟩ := good_prt (ss := ss) (n := n - (if n < s.m then n else s.m)) fun t ht => h t (List.mem_cons_of_mem _ ht)
    exact ⟨good_app (good_one hs rfl rfl) i1, good_app (good_one hs rfl rfl) i2⟩
/-! a row's pieces, in one form -/
theorem nf_drop {y : List Y3} {n : Int} (h : 0 ≤ n) : jn (prt (nf y) n).2 = nf (y.drop n.toNat) := by
  obtain ⟨p1, p2, p3, p4, _⟩ := prt_ok (ex_nf y).2 h
  rw [jn_ex p4, p2, (ex_nf y).1]
theorem nf_take {y : List Y3} {n : Int} (h : 0 ≤ n) : jn (prt (nf y) n).1 = nf (y.take n.toNat) := by
  obtain ⟨p1, p2, p3, p4, _⟩ := prt_ok (ex_nf y).2 h
  rw [jn_ex p3, p1, (ex_nf y).1]
theorem nf_flip (y : List Y3) : jn ((nf y).reverse.map flip1) = nf (y.reverse.map flp) := by
  rw [jn_ex (pos_flip (ex_nf y).2), ex_flip (ex_nf y).2, (ex_nf y).1]
theorem nf_app (a b : List Y3) : jn (nf a ++ nf b) = nf (a ++ b) := by
  have p : Pos (nf a ++ nf b) := fun t ht => by
    rcases List.mem_append.mp ht with ht | ht
    · exact (ex_nf a).2 t ht
    · exact (ex_nf b).2 t ht
  rw [jn_ex p, ex_app, (ex_nf a).1, (ex_nf b).1]
theorem nf_len_take_drop {y : List Y3} {n : Int} (h : 0 ≤ n) : (nf (y.take n.toNat)).length + (nf (y.drop n.toNat)).length ≤ (nf y).length + 1 := by
  obtain ⟨p1, p2, p3, p4, p5⟩ := prt_ok (ex_nf y).2 h
  have h1 := jn_len (prt (nf y) n).1
  have h2 := jn_len (prt (nf y) n).2
  rw [nf_take h] at h1
  rw [nf_drop h] at h2
  split at p5 <;> omega
theorem nf_len_flip (y : List Y3) : (nf (y.reverse.map flp)).length ≤ (nf y).length := by
  rw [← nf_flip]
  have := jn_len ((nf y).reverse.map flip1)
  simpa using this
theorem nf_len_app (a b : List Y3) : (nf (a ++ b)).length ≤ (nf a).length + (nf b).length := by
  rw [← nf_app]
  have := jn_len (nf a ++ nf b)
  simpa using this
def tot (ys : List (List Y3)) : Nat := (ys.map fun y => (nf y).length).sum
theorem tot_set : ∀ {ys : List (List Y3)} {a : Nat} (v : List Y3), a < ys.length → tot (ys.set a v) + (nf (ys.getD a [])).length = tot ys + (nf v).length
  | [], _, _, h => absurd h (by simp)
  | y :: ys, 0, v, _ => by simp [tot]; omega
  | y :: ys, a + 1, v, h => by
    have := tot_set (ys := ys) (a := a) v (by simpa using h)
    simp [tot] at this ⊢
    omega
theorem tot_mem : ∀ {ys : List (List Y3)} {y : List Y3}, y ∈ ys → (nf y).length ≤ tot ys
  | x :: ys, y, h => by
    have e : tot (x :: ys) = (nf x).length + tot ys := by simp [tot]
    rcases List.mem_cons.mp h with rfl | h
    · omega
    · have := tot_mem h
      omega
theorem tot_getD {ys : List (List Y3)} (a : Nat) : (nf (ys.getD a [])).length ≤ tot ys := by
  rw [List.getD_eq_getElem?_getD]
  cases e : ys[a]? with
  | none => exact Nat.zero_le _
  | some y => exact tot_mem (List.mem_of_getElem? e)
theorem getD_set_ne {α : Type} {l : List α} {a b : Nat} {v d : α} (h : a ≠ b) : (l.set a v).getD b d = l.getD b d := by
  rw [List.getD_eq_getElem?_getD, List.getElem?_set_ne h, ← List.getD_eq_getElem?_getD]
theorem tot_yst {ys : List (List Y3)} {st : Stp} {g' : List Int} (hn : st.ne) (hp : st.pos) (e : gst (gau ys) st = some g') : tot (yst ys st) ≤ tot ys + 1 := by
  cases st with
  | wind a b n =>
    simp only [gst] at e
    split at e
    · rename_i c
      obtain ⟨c1, c2, c3⟩ := c
      rw [gau_len] at c1 c2
      have hp : 1 ≤ n := hp
      have hn : a ≠ b := hn
      have t1 := tot_set (ys := ys) ((ys.getD a []).drop n.toNat) c1
      have t2 := tot_set (ys := ys.set a ((ys.getD a []).drop n.toNat)) (a := b) (((ys.getD a []).take n.toNat).reverse.map flp ++ ys.getD b []) (by simpa using c2)
      rw [getD_set_ne hn] at t2
      have h1 := nf_len_take_drop (y := ys.getD a []) (n := n) (by omega)
      have h2 := nf_len_app (((ys.getD a []).take n.toNat).reverse.map flp) (ys.getD b [])
      have h3 := nf_len_flip ((ys.getD a []).take n.toNat)
      show tot ((ys.set a ((ys.getD a []).drop n.toNat)).set b (((ys.getD a []).take n.toNat).reverse.map flp ++ ys.getD b [])) ≤ _
      omega
    · cases e
  | turn a =>
    simp only [gst] at e
    split at e
    · rename_i c
      rw [gau_len] at c
      have t1 := tot_set (ys := ys) ((ys.getD a []).reverse.map flp) c
      have h3 := nf_len_flip (ys.getD a [])
      show tot (ys.set a ((ys.getD a []).reverse.map flp)) ≤ _
      omega
    · cases e
  | swap a b =>
    simp only [gst] at e
    split at e
    · rename_i c
      rw [gau_len] at c
      have hn : a ≠ b := hn
      have t1 := tot_set (ys := ys) (ys.getD b []) c.1
      have t2 := tot_set (ys := ys.set a (ys.getD b [])) (a := b) (ys.getD a []) (by simpa using c.2)
      rw [getD_set_ne hn] at t2
      show tot ((ys.set a (ys.getD b [])).set b (ys.getD a [])) ≤ _
      omega
    · cases e
end LW
set_option Elab.async false
set_option linter.all false
set_option maxRecDepth 100000
set_option maxHeartbeats 1000000
set_option exponentiation.threshold 20000
namespace LW
open PySem L2 DL
/-- a tuple or a list -/
def Sq (h : MH) (x : D) (ds : List D) : Prop := x = .tup ds ∨ ∃ a, x = .ref a ∧ h a = some (.lst ds)
theorem Src.list {h : MH} {x : D} {ss : List S4} {Q : D → MH → Prop} (s : Src h x ss) (q : al (.lst (ss.map S4.d)) h Q) : bi .list [x] h Q := by
  rcases s with rfl | ⟨a, rfl, f⟩
  · exact q
  · exact ⟨_, f, q⟩
section
variable {h h1 : MH} {x : D} {ds : List D}
theorem Sq.gw (s : Sq h x ds) (g : Gw h h1) : Sq h1 x ds := by
  rcases s with e | ⟨a, e, f⟩
  · exact .inl e
  · exact .inr ⟨a, e, g _ _ f⟩
theorem Sq.walk {P : ItV → Prop} (s : Sq h x ds) (g : Gw h h1) (p : ∀ ok : MH → Prop, (∀ h', Gw h h' → ok h') → P ⟨ds, ok⟩) : walkD x h1 P := by
  rcases s with rfl | ⟨a, rfl, f⟩
  · exact p _ fun _ _ => trivial
  · exact ⟨_, g _ _ f, p _ fun h' g' => g' _ _ f⟩
theorem Sq.enm {P : ItV → Prop} (s : Sq h x ds) (g : Gw h h1) (p : ∀ ok : MH → Prop, (∀ h', Gw h h' → ok h') → P ⟨ds.zipIdx.map fun p => .tup [.int p.2, p.1], ok⟩) : enmD x h1 P := by
  rcases s with rfl | ⟨a, rfl, f⟩
  · exact p _ fun _ _ => trivial
  · exact ⟨_, g _ _ f, p _ fun h' g' => g' _ _ f⟩
theorem Sq.list {Q : D → MH → Prop} (s : Sq h x ds) (q : al (.lst ds) h Q) : bi .list [x] h Q := by
  rcases s with rfl | ⟨a, rfl, f⟩
  · exact q
  · exact ⟨_, f, q⟩
theorem Sq.tuple {Q : D → MH → Prop} (s : Sq h x ds) (q : Q (.tup ds) h) : bi .tuple [x] h Q := by
  rcases s with rfl | ⟨a, rfl, f⟩
  · exact q
  · exact ⟨_, f, q⟩
end
/-- rows on spools -/
def Its (h : MH) (ds : List D) (sss : List (List S4)) : Prop := ds.length = sss.length ∧ ∀ (i : Nat) d ss, ds[i]? = some d → sss[i]? = some ss → Src h d ss
def Rows2 (h : MH) (x : D) (sss : List (List S4)) : Prop := ∃ ds, Sq h x ds ∧ Its h ds sss
theorem Its.gw {h h1 : MH} {ds : List D} {sss : List (List S4)} (s : Its h ds sss) (g : Gw h h1) : Its h1 ds sss := ⟨s.1, fun i d ss a b => (s.2 i d ss a b).gw g⟩
theorem Its.set {h : MH} {ds : List D} {sss : List (List S4)} {a : Nat} {v : D} {w : List S4} (s : Its h ds sss) (sv : Src h v w) : Its h (ds.set a v) (sss.set a w) := by
  refine ⟨by simp [s.1], fun i d ss hd hs => ?_⟩
  rw [List.getElem?_set] at hd hs
  split at hd
  · rename_i c
    rw [if_pos c] at hs
    split at hd
    · rename_i c2
      rw [if_pos (by rw [← s.1]; exact c2)] at hs
      cases hd; cases hs
      exact sv
    · cases hd
  · rename_i c
    rw [if_neg c] at hs
    exact s.2 i d ss hd hs
theorem Its.get {h : MH} {ds : List D} {sss : List (List S4)} {a : Nat} (s : Its h ds sss) (ha : a < sss.length) : ∃ d, ds[a]? = some d ∧ Src h d (sss.getD a []) := by
  have hd : a < ds.length := by rw [s.1]; exact ha
  refine ⟨ds[a], List.getElem?_eq_getElem hd, s.2 a _ _ (List.getElem?_eq_getElem hd) ?_⟩
  rw [List.getD_eq_getElem?_getD, List.getElem?_eq_getElem ha]; rfl
theorem nfs_getD {ys : List (List Y3)} {a : Nat} (ha : a < ys.length) : (ys.map nf).getD a [] = nf (ys.getD a []) := by
  rw [List.getD_eq_getElem?_getD, List.getD_eq_getElem?_getD, List.getElem?_map, List.getElem?_eq_getElem ha]; rfl
theorem fresh_gw {h h1 : MH} {q : Addr} (g : Gw h h1) (e : h1 q = none) : h q = none := by
  cases z : h q with
  | none => rfl
  | some o => rw [g _ _ z] at e; cases e
end LW
set_option Elab.async false
set_option linter.all false
set_option maxRecDepth 100000
set_option maxHeartbeats 1000000
set_option exponentiation.threshold 20000
namespace LW
open PySem L2 DL
/-- the gauge behind steps, or the first that can't be done -/
def gby (g : List Int) : List Stp → Nat → List Int ⊕ Nat
  | [], _ => .inl g
  | st :: r, k => match gst g st with
    | some g' => gby g' r (k + 1)
    | none => .inr k
def rowT (ss : List S4) : D := .tup (ss.map S4.d)
def stD (ys : List (List Y3)) : D := .tup ((ys.map nf).map rowT)
def runY (ys : List (List Y3)) (sts : List Stp) : List (List Y3) := sts.foldl yst ys
theorem is_tn {ds : List D} {P : Bool → Prop} (p : P false) : isOp (.tup ds) .non P := p
theorem is_nn {P : Bool → Prop} (p : P true) : isOp .non .non P := p
section
variable {d : Nat} {h : MH} {Q : D → MH → Prop} {E : DX}
theorem run_snoc (ys : List (List Y3)) (a : List Stp) (st : Stp) : runY ys (a ++ [st]) = yst (runY ys a) st := by simp [runY]
theorem yst_len (ys : List (List Y3)) (st : Stp) : (yst ys st).length = ys.length := by cases st <;> simp [yst]
theorem run_len (ys : List (List Y3)) : ∀ sts : List Stp, (runY ys sts).length = ys.length := fun sts => by
  unfold runY
  induction sts generalizing ys with
  | nil => rfl
  | cons st r ih => rw [List.foldl_cons, ih, yst_len]
theorem Src.tuple {x : D} {ss : List S4} (s : Src h x ss) (q : Q (rowT ss) h) : bi .tuple [x] h Q := by
  rcases s with rfl | ⟨a, rfl, f⟩
  · exact q
  · exact ⟨_, f, q⟩
end
end LW
set_option Elab.async false
set_option linter.all false
set_option maxRecDepth 100000
set_option maxHeartbeats 1000000
set_option exponentiation.threshold 20000
namespace LW
open PySem L2 DL
def Y3.d (a : Y3) : D := .tup [.str a.w, .int a.n, .int a.y]
@[simp] theorem met_extend {a b : Addr} {h : MH} {Q : D → MH → Prop} : met .extend (.ref a) [.ref b] h Q = ∃ xs zs, h a = some (.lst xs) ∧ h b = some (.lst zs) ∧ Fits (xs.length + zs.length) ∧ Q .non (up h a (.lst (xs ++ zs))) := rfl
theorem yMul {y k : Int} (h : y = 1 ∨ y = -1) : DL.MulOk y k := by rcases h with rfl | rfl <;> exact mulL (by decide)
theorem mulY {y k : Int} (h : y = 1 ∨ y = -1) : DL.MulOk k y := by rcases h with rfl | rfl <;> exact mulR (by decide)
theorem ixN_neg1 {k : Nat} : ixN (k + 1) (-1) = some k := by
  unfold ixN
  rw [if_neg (by decide), if_pos (by omega)]
  congr 1
  omega
section
variable {d : Nat} {h : MH} {Q : D → MH → Prop} {E : DX} {p c : Addr} {n : Nat}
theorem ixD_last {a : Addr} {xs : List D} {x : D} (ea : h a = some (.lst (xs ++ [x]))) (q : Q x h) : ixD (.ref a) (.int (-1)) h Q := by
  refine ixD_lst ea ?_ q
  rw [atI_neg1, List.length_append]
  simp
end
end LW
set_option Elab.async false
set_option linter.all false
set_option maxRecDepth 100000
set_option maxHeartbeats 1000000
set_option exponentiation.threshold 20000
namespace LW
open PySem L2 DL
/-- spools as lists of yards, newly made -/
structure Yr (h0 h : MH) (p : Addr) (rs : List Addr) (ys : List (List Y3)) : Prop where
  e : h p = some (.lst (rs.map D.ref))
  l : rs.length = ys.length
  nd : ∀ (i j : Nat) (r : Addr), rs[i]? = some r → rs[j]? = some r → i = j
  np : p ∉ rs
  f : ∀ r ∈ rs, h0 r = none
  fp : h0 p = none
  i : ∀ (i : Nat) r y, rs[i]? = some r → ys[i]? = some y → h r = some (.lst (y.map Y3.d))
  g : Gw h0 h
section
variable {h0 h h1 : MH} {p : Addr} {rs : List Addr} {ys : List (List Y3)}
theorem Yr.gw (s : Yr h0 h p rs ys) (g : Gw h h1) : Yr h0 h1 p rs ys := ⟨g _ _ s.e, s.l, s.nd, s.np, s.f, s.fp, fun i r y a b => g _ _ (s.i i r y a b), s.g.trans g⟩
theorem Yr.at (s : Yr h0 h p rs ys) {a : Nat} (ha : a < ys.length) : ∃ r, rs[a]? = some r ∧ (rs.map D.ref)[a]? = some (.ref r) ∧ h r = some (.lst ((ys.getD a []).map Y3.d)) := by
  have hr : a < rs.length := by rw [s.l]; exact ha
  refine ⟨rs[a], List.getElem?_eq_getElem hr, by rw [List.getElem?_map, List.getElem?_eq_getElem hr]; rfl, s.i a _ _ (List.getElem?_eq_getElem hr) ?_⟩
  rw [List.getD_eq_getElem?_getD, List.getElem?_eq_getElem ha]; rfl
/-- a spool is written -/
theorem Yr.put (s : Yr h0 h p rs ys) {a : Nat} {r : Addr} (hr : rs[a]? = some r) (y' : List Y3) : Yr h0 (up h r (.lst (y'.map Y3.d))) p rs (ys.set a y') := by
  have mr := List.mem_of_getElem? hr
  have pr : p ≠ r := fun z => s.np (z ▸ mr)
  refine ⟨(up_ne pr).trans s.e, by rw [List.length_set]; exact s.l, s.nd, s.np, s.f, s.fp, fun i r2 y a1 a2 => ?_, s.g.up2 (s.f r mr)⟩
  rw [List.getElem?_set] at a2
  split at a2
  · rename_i c
    subst c
    rw [hr] at a1
    cases a1
    split at a2
    · cases a2; exact up_same
    · cases a2
  · rename_i c
    have : r2 ≠ r := fun z => by
      subst z
      exact c (s.nd _ _ _ hr a1)
    exact (up_ne this).trans (s.i i r2 y a1 a2)
/-- another list in a spool's place -/
theorem Yr.swap1 (s : Yr h0 h p rs ys) {a : Nat} {q : Addr} (ha : a < ys.length) (y' : List Y3) (fq : h q = none) (hq : h1 q = some (.lst (y'.map Y3.d))) (g : Gw h h1) : Yr h0 (up h1 p (.lst ((rs.set a q).map D.ref))) p (rs.set a q) (ys.set a y') := by
  have nq : q ∉ rs := fun z => by
    obtain ⟨i, hi, e⟩ := List.getElem_of_mem z
    have := s.i i q (ys[i]'(by rw [← s.l]; exact hi)) (by rw [List.getElem?_eq_getElem hi, e]) (List.getElem?_eq_getElem _)
    rw [fq] at this; cases this
  have pq : p ≠ q := fun z => by have := s.e; rw [z, fq] at this; cases this
  refine ⟨up_same, by rw [List.length_set, List.length_set]; exact s.l, ?_, fun z => ?_, fun r hr => ?_, s.fp, fun i r y a1 a2 => ?_, (s.g.trans g).up2 s.fp⟩
  · intro i j r h1 h2
    have ne : ∀ {k r}, rs[k]? = some r → r ≠ q := fun {k r} e z => nq (z ▸ List.mem_of_getElem? e)
    rw [List.getElem?_set] at h1 h2
    split at h1
    · rename_i c
      split at h1
      · cases h1
        split at h2
        · omega
        · exact absurd rfl (ne h2)
      · cases h1
    · split at h2
      · split at h2
        · cases h2
          exact absurd rfl (ne h1)
        · cases h2
      · exact s.nd _ _ _ h1 h2
  · rcases List.mem_or_eq_of_mem_set z with z | z
    · exact s.np z
    · exact pq z
  · rcases List.mem_or_eq_of_mem_set hr with z | z
    · exact s.f r z
    · rw [z]; exact fresh_gw s.g fq
  · rw [List.getElem?_set] at a1 a2
    split at a1
    · rename_i c
      rw [if_pos c, if_pos ha] at a2
      split at a1
      · cases a1
        cases a2
        exact (up_ne pq.symm).trans hq
      · cases a1
    · rename_i c
      rw [if_neg c] at a2
      have := s.i i r y a1 a2
      have pr : r ≠ p := fun z => s.np (z ▸ List.mem_of_getElem? a1)
      exact (up_ne pr).trans (g _ _ this)
end
end LW
set_option Elab.async false
set_option linter.all false
set_option maxRecDepth 100000
set_option maxHeartbeats 1000000
set_option exponentiation.threshold 20000
namespace LW
open PySem L2 DL
theorem getD_set_self {α : Type} {l : List α} {a : Nat} {v d : α} (h : a < l.length) : (l.set a v).getD a d = v := by
  rw [List.getD_eq_getElem?_getD, List.getElem?_set_self h]; rfl
theorem wind_zero {ys : List (List Y3)} {a b : Nat} (ha : a < ys.length) (hb : b < ys.length) (n : a ≠ b) : yst ys (.wind a b 0) = ys := by
  show (ys.set a ((ys.getD a []).drop 0)).set b (((ys.getD a []).take 0).reverse.map flp ++ ys.getD b []) = ys
  refine List.ext_getElem? fun i => ?_
  rw [List.getElem?_set, List.getElem?_set]
  split
  · rename_i c
    subst c
    rw [if_pos (by simpa using hb), List.getD_eq_getElem?_getD, List.getD_eq_getElem?_getD, List.getElem?_eq_getElem hb]
    simp
  · split
    · rename_i c
      subst c
      simp [List.getD_eq_getElem?_getD, List.getElem?_eq_getElem ha]
    · rfl
theorem wind_succ {ys : List (List Y3)} {a b j : Nat} (ha : a < ys.length) (hb : b < ys.length) (n : a ≠ b) (hj : j < (ys.getD a []).length) :
    ∃ x t, (yst ys (.wind a b j)).getD a [] = x :: t ∧ ((yst ys (.wind a b j)).set a t).set b (flp x :: (yst ys (.wind a b j)).getD b []) = yst ys (.wind a b ((j + 1 : Nat) : Int)) := by
  have e : ∀ k : Nat, yst ys (.wind a b k) = (ys.set a ((ys.getD a []).drop k)).set b (((ys.getD a []).take k).reverse.map flp ++ ys.getD b []) := fun k => rfl
  refine ⟨(ys.getD a [])[j], (ys.getD a []).drop (j + 1), ?_, ?_⟩
  · rw [e, getD_set_ne n.symm, getD_set_self ha, List.drop_eq_getElem_cons hj]
  · rw [e, e, getD_set_self (by simpa using hb), List.set_comm _ _ n.symm, List.set_set, List.set_set, List.take_succ_eq_append_getElem hj, List.reverse_append, List.map_append, List.append_assoc]
    rfl
theorem fl_set : ∀ {ys : List (List Y3)} {a : Nat} (v : List Y3), a < ys.length → (ys.set a v).flatten.length + (ys.getD a []).length = ys.flatten.length + v.length
  | [], _, _, h => absurd h (by simp)
  | y :: ys, 0, v, _ => by simp; omega
  | y :: ys, a + 1, v, h => by
    have := fl_set (ys := ys) (a := a) v (by simpa using h)
    simp at this ⊢
    omega
theorem fl_getD {ys : List (List Y3)} (a : Nat) : (ys.getD a []).length ≤ ys.flatten.length := by
  by_cases h : a < ys.length
  · have := fl_set (ys := ys) (a := a) [] h
    simp only [List.length_nil] at this
    omega
  · rw [List.getD_eq_getElem?_getD, List.getElem?_eq_none (by omega)]; exact Nat.zero_le _
theorem fl_yst {ys : List (List Y3)} {st : Stp} {g' : List Int} (hn : st.ne) (hp : st.pos) (e : gst (gau ys) st = some g') : (yst ys st).flatten.length = ys.flatten.length := by
  cases st with
  | wind a b n =>
    simp only [gst] at e
    split at e
    · rename_i c
      obtain ⟨c1, c2, c3⟩ := c
      rw [gau_len] at c1 c2
      rw [gau_getD c1] at c3
      have hp : 1 ≤ n := hp
      have hn : a ≠ b := hn
      have t1 := fl_set (ys := ys) ((ys.getD a []).drop n.toNat) c1
      have t2 := fl_set (ys := ys.set a ((ys.getD a []).drop n.toNat)) (a := b) (((ys.getD a []).take n.toNat).reverse.map flp ++ ys.getD b []) (by simpa using c2)
      rw [getD_set_ne hn] at t2
      rw [List.length_append, List.length_map, List.length_reverse, List.length_take] at t2
      rw [List.length_drop] at t1
      show ((ys.set a ((ys.getD a []).drop n.toNat)).set b (((ys.getD a []).take n.toNat).reverse.map flp ++ ys.getD b [])).flatten.length = _
      omega
    · cases e
  | turn a =>
    simp only [gst] at e
    split at e
    · rename_i c
      rw [gau_len] at c
      have t1 := fl_set (ys := ys) ((ys.getD a []).reverse.map flp) c
      rw [List.length_map, List.length_reverse] at t1
      show (ys.set a ((ys.getD a []).reverse.map flp)).flatten.length = _
      omega
    · cases e
  | swap a b =>
    simp only [gst] at e
    split at e
    · rename_i c
      rw [gau_len] at c
      have hn : a ≠ b := hn
      have t1 := fl_set (ys := ys) (ys.getD b []) c.1
      have t2 := fl_set (ys := ys.set a (ys.getD b [])) (a := b) (ys.getD a []) (by simpa using c.2)
      rw [getD_set_ne hn] at t2
      show ((ys.set a (ys.getD b [])).set b (ys.getD a [])).flatten.length = _
      omega
    · cases e
theorem fl_wind {ys : List (List Y3)} {a b j : Nat} (c1 : a < ys.length) (c2 : b < ys.length) (hn : a ≠ b) (hj : j ≤ (ys.getD a []).length) : (yst ys (.wind a b (j : Int))).flatten.length = ys.flatten.length := by
  have t1 := fl_set (ys := ys) ((ys.getD a []).drop j) c1
  have t2 := fl_set (ys := ys.set a ((ys.getD a []).drop j)) (a := b) (((ys.getD a []).take j).reverse.map flp ++ ys.getD b []) (by simpa using c2)
  rw [getD_set_ne hn] at t2
  rw [List.length_append, List.length_map, List.length_reverse, List.length_take] at t2
  rw [List.length_drop] at t1
  show ((ys.set a ((ys.getD a []).drop j)).set b (((ys.getD a []).take j).reverse.map flp ++ ys.getD b [])).flatten.length = _
  omega
/-- lists of yards, newly made -/
structure Yl (h0 h : MH) (rs : List Addr) (ys : List (List Y3)) : Prop where
  l : rs.length = ys.length
  nd : ∀ (i j : Nat) (r : Addr), rs[i]? = some r → rs[j]? = some r → i = j
  f : ∀ r ∈ rs, h0 r = none
  i : ∀ (i : Nat) r y, rs[i]? = some r → ys[i]? = some y → h r = some (.lst (y.map Y3.d))
  g : Gw h0 h
theorem Yl.nil {h0 : MH} : Yl h0 h0 [] [] := ⟨rfl, (fun i j r a => by simp at a), (fun _ z => nomatch z), (fun i r y a => by simp at a), .refl⟩
theorem Yl.mem {h0 h : MH} {rs : List Addr} {ys : List (List Y3)} (s : Yl h0 h rs ys) {r : Addr} (hr : r ∈ rs) : ∃ o, h r = some o := by
  obtain ⟨i, hi, e⟩ := List.getElem_of_mem hr
  exact ⟨_, s.i i r (ys[i]'(by rw [← s.l]; exact hi)) (by rw [List.getElem?_eq_getElem hi, e]) (List.getElem?_eq_getElem _)⟩
theorem Yl.snoc {h0 h h1 : MH} {rs : List Addr} {ys : List (List Y3)} {q : Addr} {y : List Y3} (s : Yl h0 h rs ys) (fq : h q = none) (g : Gw h h1) (e : h1 q = some (.lst (y.map Y3.d))) : Yl h0 h1 (rs ++ [q]) (ys ++ [y]) := by
  have nq : q ∉ rs := fun z => by obtain ⟨o, e⟩ := s.mem z; rw [fq] at e; cases e
  refine ⟨by simp [s.l], fun i j r a b => ?_, fun r hr => ?_, fun i r y' a b => ?_, s.g.trans g⟩
  · rw [List.getElem?_append] at a b
    split at a
    · split at b
      · exact s.nd i j r a b
      · have : r = q := by
          have := List.mem_of_getElem? b
          simpa using this
        exact absurd (this ▸ List.mem_of_getElem? a) nq
    · have ra : r = q := by
        have := List.mem_of_getElem? a
        simpa using this
      split at b
      · exact absurd (ra ▸ List.mem_of_getElem? b) nq
      · have h1 := (List.getElem?_eq_some_iff.mp a).1
        have h2 := (List.getElem?_eq_some_iff.mp b).1
        simp at h1 h2
        omega
  · rcases List.mem_append.mp hr with hr | hr
    · exact s.f r hr
    · rw [List.mem_singleton.mp hr]; exact fresh_gw s.g fq
  · rw [List.getElem?_append] at a b
    split at a
    · rename_i c
      rw [if_pos (by rw [← s.l]; exact c)] at b
      exact g _ _ (s.i i r y' a b)
    · rename_i c
      rw [if_neg (by rw [← s.l]; exact c)] at b
      have h1 := (List.getElem?_eq_some_iff.mp a).1
      simp at h1
      have ei : i = rs.length := by omega
      have ei2 : i - ys.length = 0 := by rw [← s.l]; omega
      rw [ei2] at b
      rw [ei, Nat.sub_self] at a
      cases a; cases b
      exact e
theorem Yl.yr {h0 h h1 : MH} {rs : List Addr} {ys : List (List Y3)} {p : Addr} (s : Yl h0 h rs ys) (fp : h p = none) (g : Gw h h1) (e : h1 p = some (.lst (rs.map D.ref))) : Yr h0 h1 p rs ys :=
  ⟨e, s.l, s.nd, (fun z => by obtain ⟨o, e⟩ := s.mem z; rw [fp] at e; cases e), s.f, fresh_gw s.g fp, fun i r y a b => g _ _ (s.i i r y a b), s.g.trans g⟩
/-- spools, whosever -/
def Sp (h : MH) (q : Addr) (ys : List (List Y3)) : Prop := ∃ rs : List Addr, h q = some (.lst (rs.map D.ref)) ∧ rs.length = ys.length ∧ ∀ (i : Nat) r y, rs[i]? = some r → ys[i]? = some y → h r = some (.lst (y.map Y3.d))
theorem Sp.gw {h h1 : MH} {q : Addr} {ys : List (List Y3)} (s : Sp h q ys) (g : Gw h h1) : Sp h1 q ys := let ⟨rs, a, b, c⟩ := s; ⟨rs, g _ _ a, b, fun i r y e f => g _ _ (c i r y e f)⟩
theorem Yr.sp {h0 h : MH} {p : Addr} {rs : List Addr} {ys : List (List Y3)} (s : Yr h0 h p rs ys) : Sp h p ys := ⟨rs, s.e, s.l, s.i⟩
theorem Yr.swap2 {h0 h : MH} {p : Addr} {rs : List Addr} {ys : List (List Y3)} {a b : Nat} {ra rb : Addr} {o : MO} (s : Yr h0 h p rs ys) (hn : a ≠ b) (ha : a < ys.length) (hb : b < ys.length) (ea : rs[a]? = some ra) (eb : rs[b]? = some rb) :
    Yr h0 (up (up h p o) p (.lst (((rs.set a rb).set b ra).map D.ref))) p ((rs.set a rb).set b ra) ((ys.set a (ys.getD b [])).set b (ys.getD a [])) := by
  have la : a < rs.length := by rw [s.l]; exact ha
  have lb : b < rs.length := by rw [s.l]; exact hb
  have mem : ∀ r ∈ (rs.set a rb).set b ra, r ∈ rs := fun r hr => by
    rcases List.mem_or_eq_of_mem_set hr with hr | rfl
    · rcases List.mem_or_eq_of_mem_set hr with hr | rfl
      · exact hr
      · exact List.mem_of_getElem? eb
    · exact List.mem_of_getElem? ea
  have get : ∀ i : Nat, ((rs.set a rb).set b ra)[i]? = rs[if i = b then a else if i = a then b else i]? := fun i => by
    rw [List.getElem?_set, List.getElem?_set]
    by_cases c1 : b = i
    · subst c1
      rw [if_pos rfl, if_pos (by simpa using lb), if_pos rfl, ea]
    · rw [if_neg c1, if_neg (Ne.symm c1)]
      by_cases c2 : a = i
      · subst c2
        rw [if_pos rfl, if_pos la, if_pos rfl, eb]
      · rw [if_neg c2, if_neg (Ne.symm c2)]
  have getY : ∀ i : Nat, ((ys.set a (ys.getD b [])).set b (ys.getD a []))[i]? = ys[if i = b then a else if i = a then b else i]? := fun i => by
    rw [List.getElem?_set, List.getElem?_set]
    by_cases c1 : b = i
    · subst c1
      rw [if_pos rfl, if_pos (by simpa using hb), if_pos rfl, List.getD_eq_getElem?_getD, List.getElem?_eq_getElem ha]; rfl
    · rw [if_neg c1, if_neg (Ne.symm c1)]
      by_cases c2 : a = i
      · subst c2
        rw [if_pos rfl, if_pos ha, if_pos rfl, List.getD_eq_getElem?_getD, List.getElem?_eq_getElem hb]; rfl
      · rw [if_neg c2, if_neg (Ne.symm c2)]
  refine ⟨up_same, by simp [s.l], fun i j r h1 h2 => ?_, fun z => s.np (mem _ z), fun r hr => s.f r (mem r hr), s.fp, fun i r y h1 h2 => ?_, (s.g.up2 s.fp).up2 s.fp⟩
  · rw [get] at h1 h2
    have := s.nd _ _ _ h1 h2
    revert this
    repeat' split
    all_goals (intro this; omega)
  · have mr := mem r (List.mem_of_getElem? h1)
    rw [get] at h1
    rw [getY] at h2
    have pr : r ≠ p := fun z => s.np (z ▸ mr)
    exact (up_ne pr).trans ((up_ne pr).trans (s.i _ r y h1 h2))
section
variable {d : Nat} {h : MH} {Q : D → MH → Prop} {E : DX}
theorem met_popI {a : Addr} {x : D} {xs : List D} (e : h a = some (.lst (x :: xs))) (hl : xs.length + 1 < 2 ^ 62) (q : Q x (up h a (.lst xs))) : met .pop (.ref a) [.int 0] h Q :=
  ⟨_, 0, x, e, by rw [show (0 : Int) = ((0 : Nat) : Int) from rfl, ixN_nat, if_pos (by simp)], rfl, by simpa using hl, q⟩
theorem met_ins0 {a : Addr} {x : D} {xs : List D} (e : h a = some (.lst xs)) (hl : xs.length < sizeLine) (q : Q .non (up h a (.lst (x :: xs)))) : met .insert (.ref a) [.int 0, x] h Q :=
  ⟨xs, e, hl, Int.le_refl _, by decide, q⟩
end
end LW
set_option Elab.async false
set_option linter.all false
set_option maxRecDepth 100000
set_option maxHeartbeats 1000000
set_option exponentiation.threshold 20000
namespace LW
open PySem L2 DL
theorem gby_snoc : ∀ {sts : List Stp} {g hg g2 : List Int} {st : Stp} {k : Nat}, gby g sts k = .inl hg → gst hg st = some g2 → gby g (sts ++ [st]) k = .inl g2
  | [], g, hg, g2, st, k, e, f => by
    have e : g = hg := by simpa [gby] using e
    subst e
    simp [gby, f]
  | s :: sts, g, hg, g2, st, k, e, f => by
    rw [List.cons_append]
    unfold gby at e ⊢
    cases c : gst g s with
    | none => rw [c] at e; cases e
    | some g1 => rw [c] at e; exact gby_snoc e f
def Stp.bd : Stp → Prop
  | .wind a b n => a ≤ 6 ∧ b ≤ 6 ∧ n ≤ 1000000000000000000
  | .turn a => a ≤ 6
  | .swap a b => a ≤ 6 ∧ b ≤ 6
theorem sumI_set : ∀ {g : List Int} {a : Nat} (v : Int), a < g.length → (g.set a v).sum + g.getD a 0 = g.sum + v
  | [], _, _, h => absurd h (by simp)
  | y :: ys, 0, v, _ => by simp; omega
  | y :: ys, a + 1, v, h => by
    have := sumI_set (g := ys) (a := a) v (by simpa using h)
    simp at this ⊢
    omega
def Gau (T : Int) (g : List Int) : Prop := (∀ v ∈ g, 0 ≤ v) ∧ g.sum = T
theorem sum_mem : ∀ {g : List Int}, (∀ v ∈ g, 0 ≤ v) → 0 ≤ g.sum ∧ ∀ v ∈ g, v ≤ g.sum
  | [], _ => ⟨Int.le_refl _, fun _ z => nomatch z⟩
  | x :: g, h => by
    obtain ⟨a, b⟩ := sum_mem (g := g) fun v hv => h v (List.mem_cons_of_mem _ hv)
    have h0 := h x List.mem_cons_self
    rw [List.sum_cons]
    refine ⟨by omega, fun v hv => ?_⟩
    rcases List.mem_cons.mp hv with rfl | hv
    · omega
    · have := b v hv; omega
theorem getD_mem {g : List Int} {a : Nat} (h : a < g.length) : g.getD a 0 ∈ g := by
  rw [List.getD_eq_getElem?_getD, List.getElem?_eq_getElem h]; exact List.getElem_mem h
theorem getI_set_ne {l : List Int} {a b : Nat} {v d : Int} (h : a ≠ b) : (l.set a v).getD b d = l.getD b d := by
  rw [List.getD_eq_getElem?_getD, List.getElem?_set_ne h, ← List.getD_eq_getElem?_getD]
/-- a step keeps what lies on all spools -/
theorem Gau.gst {T : Int} {g g' : List Int} {st : Stp} (G : Gau T g) (hn : st.ne) (hp : st.pos) (e : gst g st = some g') : Gau T g' := by
  obtain ⟨G1, G2⟩ := G
  cases st with
  | wind a b n =>
    simp only [LW.gst] at e
    split at e
    · rename_i c
      obtain ⟨c1, c2, c3⟩ := c
      cases e
      have hp : 1 ≤ n := hp
      have hn : a ≠ b := hn
      have t1 := sumI_set (g := g) (g.getD a 0 - n) c1
      have t2 := sumI_set (g := g.set a (g.getD a 0 - n)) (a := b) (g.getD b 0 + n) (by simpa using c2)
      rw [getI_set_ne hn] at t2
      have b0 := G1 _ (getD_mem c2)
      refine ⟨fun v hv => ?_, by omega⟩
      rcases List.mem_or_eq_of_mem_set hv with hv | rfl
      · rcases List.mem_or_eq_of_mem_set hv with hv | rfl
        · exact G1 v hv
        · omega
      · omega
    · cases e
  | turn a =>
    simp only [LW.gst] at e
    split at e
    · cases e; exact ⟨G1, G2⟩
    · cases e
  | swap a b =>
    simp only [LW.gst] at e
    split at e
    · rename_i c
      cases e
      have hn : a ≠ b := hn
      have t1 := sumI_set (g := g) (g.getD b 0) c.1
      have t2 := sumI_set (g := g.set a (g.getD b 0)) (a := b) (g.getD a 0) (by simpa using c.2)
      rw [getI_set_ne hn] at t2
      refine ⟨fun v hv => ?_, by omega⟩
      rcases List.mem_or_eq_of_mem_set hv with hv | rfl
      · rcases List.mem_or_eq_of_mem_set hv with hv | rfl
        · exact G1 v hv
        · exact G1 _ (getD_mem c.2)
      · exact G1 _ (getD_mem c.1)
    · cases e
theorem mod_wrap {a b L : Int} (a0 : 0 ≤ a) (aL : a < L) (b0 : 0 ≤ b) (bL : b < L - 1) : ∃ c : Nat, (a + 1 + b) % L = c ∧ (c : Int) < L ∧ (c : Int) ≠ a := by
  by_cases h : a + 1 + b < L
  · exact ⟨(a + 1 + b).toNat, by rw [Int.emod_eq_of_lt (by omega) h]; omega, by omega, by omega⟩
  · refine ⟨(a + 1 + b - L).toNat, ?_, by omega, by omega⟩
    have e : a + 1 + b = (a + 1 + b - L) + L * 1 := by omega
    rw [e, Int.add_mul_emod_self_left, Int.emod_eq_of_lt (by omega) (by omega)]
    omega
section
variable {d : Nat} {h : MH} {Q : D → MH → Prop} {E : DX} {p c : Addr} {n : Nat}
theorem bop_subI {i j : Int} (q : Q (.int (i - j)) h) : bop .Sub (.int i) (.int j) h Q := q
theorem bop_addI {i j : Int} (q : Q (.int (i + j)) h) : bop .Add (.int i) (.int j) h Q := q
end
end LW
set_option Elab.async false
set_option linter.all false
set_option maxRecDepth 100000
set_option maxHeartbeats 1000000
set_option exponentiation.threshold 20000
namespace LW
open PySem L2 DL
theorem ex_at {C : En} {σ : DS} {c : Nat} {fs : List (Str × D)} {h' : MH} (p : C.ex c fs σ h') : exAt C σ c fs h' := p
end LW
set_option Elab.async false
set_option linter.all false
set_option maxRecDepth 100000
set_option maxHeartbeats 1000000
set_option exponentiation.threshold 20000
namespace LW
open PySem L2 DL
/-- a small stretch -/
structure Sm4 (s : S4) : Prop where
  w : Wd s.w
  f0 : 0 ≤ s.f
  f1 : s.f ≤ 10 ^ 20
  m1 : 1 ≤ s.m
  m2 : s.m ≤ 10 ^ 20
  y : s.y = 1 ∨ s.y = -1
def Bd (kvs : List (Key × D)) (B : Int) : Prop := ∀ kv ∈ kvs, ∃ v : Int, kv.2 = .int v ∧ 0 ≤ v ∧ v ≤ B
theorem getK_bd {kvs : List (Key × D)} {B e : Int} {k : Key} (b : Bd kvs B) (e0 : 0 ≤ e) (e1 : e ≤ B) : ∃ f : Int, (getK kvs k).getD (.int e) = .int f ∧ 0 ≤ f ∧ f ≤ B := by
  unfold getK
  cases z : kvs.find? fun kv => decide (kv.1 = k) with
  | none => exact ⟨e, rfl, e0, e1⟩
  | some kv =>
    obtain ⟨v, hv, r⟩ := b kv (List.mem_of_find?_eq_some z)
    exact ⟨v, by simp [hv], r⟩
theorem putK_bd {kvs : List (Key × D)} {B B' v : Int} {k : Key} (b : Bd kvs B) (hB : B ≤ B') (v0 : 0 ≤ v) (v1 : v ≤ B') : Bd (DL.putK kvs k (.int v)) B' ∧ (DL.putK kvs k (.int v)).length ≤ kvs.length + 1 := by
  unfold DL.putK
  split
  · refine ⟨fun kv h => ?_, by rw [List.length_map]; omega⟩
    obtain ⟨x, hx, rfl⟩ := List.mem_map.mp h
    split
    · exact ⟨v, rfl, v0, v1⟩
    · obtain ⟨w, e, a, c⟩ := b x hx
      exact ⟨w, e, a, by omega⟩
  · refine ⟨fun kv h => ?_, by rw [List.length_append]; simp⟩
    rcases List.mem_append.mp h with h | h
    · obtain ⟨w, e, a, c⟩ := b kv h
      exact ⟨w, e, a, by omega⟩
    · rw [List.mem_singleton.mp h]; exact ⟨v, rfl, v0, v1⟩
theorem Gw.fresh {h h1 : MH} {q : Addr} (f : Gw h h1) (e : h1 q = none) : h q = none := by
  cases z : h q with
  | none => rfl
  | some o => rw [f _ _ z] at e; cases e
/-- lists of rows, made anew -/
def Rows (h0 h : MH) (i : Nat) (wide : Int) (rs : List Addr) : Prop := ∀ r ∈ rs, h0 r = none ∧ ∃ ss : List S4, h r = some (.lst (ss.map S4.d)) ∧ ss.length ≤ i ∧ ∀ s ∈ ss, Sm4 s ∧ s.m ≤ wide
theorem Rows.keep {h0 h h1 : MH} {i : Nat} {wide : Int} {rs : List Addr} (R : Rows h0 h i wide rs) (k : ∀ r xs, r ∈ rs → h r = some (.lst xs) → h1 r = some (.lst xs)) : Rows h0 h1 i wide rs := fun r hr => by
  obtain ⟨a, ss, b, c⟩ := R r hr
  exact ⟨a, ss, k _ _ hr b, c⟩
theorem Rows.ne {h0 h : MH} {i : Nat} {wide : Int} {rs : List Addr} {q : Addr} (R : Rows h0 h i wide rs) (e : h q = some (.lst (rs.map D.ref))) : ∀ r ∈ rs, r ≠ q := fun r hr z => by
  obtain ⟨_, ss, e2, _⟩ := R r hr
  rw [z, e] at e2
  cases rs with
  | nil => cases hr
  | cons a l =>
    cases ss with
    | nil => cases e2
    | cons s ss => simp [S4.d] at e2
section
variable {d : Nat} {h : MH} {Q : D → MH → Prop} {E : DX} {p c : Addr} {n : Nat}
/-- new empty lists -/
theorem empties {Φ : Fns} {σ : DS} {i k : Nat} {K : List D → MH → Prop} {h : MH} (hk : k ≤ 1000) (q : ∀ rs h', rs.length = k → Gw h h' → Rows h h' 0 1 rs → K (rs.map D.ref) h') :
    lcGo (.nm i) (fun _ => True) (wpC Φ none) (wpE Φ (fun _ _ _ => False) (.lst [])) σ K ((List.range k).map fun (j : Nat) => D.int j) [] h := by
  refine lc_rule (fun r acc h' => ∃ rs : List Addr, acc = rs.map D.ref ∧ rs.length + r.length = k ∧ Gw h h' ∧ Rows h h' 0 1 rs)
    (fun _ _ _ _ => trivial) (fun acc h' ⟨rs, e1, e2, g, R⟩ => ?_) (fun dd r acc h' N ⟨rs, e1, e2, g, R⟩ hN => ?_) _ _ _ ⟨[], rfl, by simp, .refl, fun _ z => nomatch z⟩
  · subst e1
    rw [List.length_cons] at e2
    simp [-al_eq]
    refine ⟨fits_le (by decide), al_rule fun q1 h1 hq1 g1 e1 => ⟨by rw [sizeLine_eq]; omega, hN _ _ ⟨rs ++ [q1], by simp, by rw [List.length_append]; simp; omega, g.trans g1, fun r hr => ?_⟩⟩⟩
    rcases List.mem_append.mp hr with hr | hr
    · obtain ⟨a, ss, b, c⟩ := R r hr
      exact ⟨a, ss, g1 _ _ b, c⟩
    · rw [List.mem_singleton.mp hr]
      refine ⟨?_, [], e1, Nat.zero_le _, fun _ z => nomatch z⟩
      cases z : h q1 with
      | none => rfl
      | some o => rw [g _ _ z] at hq1; cases hq1
  · subst e1
    exact q rs h' e2 g R
end
end LW
set_option Elab.async false
set_option linter.all false
set_option maxRecDepth 100000
set_option maxHeartbeats 1000000
set_option exponentiation.threshold 20000
namespace LW
open PySem L2 DL
theorem Its.snoc {h : MH} {ds : List D} {sss : List (List S4)} {v : D} {w : List S4} (s : Its h ds sss) (sv : Src h v w) : Its h (ds ++ [v]) (sss ++ [w]) := by
  refine ⟨by simp [s.1], fun i d ss a b => ?_⟩
  rw [List.getElem?_append] at a b
  split at a
  · rename_i c
    rw [if_pos (by rw [← s.1]; exact c)] at b
    exact s.2 i d ss a b
  · rename_i c
    rw [if_neg (by rw [← s.1]; exact c)] at b
    rw [← s.1] at b
    cases e : i - ds.length with
    | zero => rw [e] at a b; cases a; cases b; exact sv
    | succ k => rw [e] at a; simp at a
theorem its_nil {h : MH} : Its h [] [] := ⟨rfl, fun i d ss a => by simp at a⟩
/-- the law's rows behind a winding, in one form -/
theorem jn_wind {ys : List (List Y3)} {a b : Nat} {n : Int} (ha : a < ys.length) (hb : b < ys.length) (hn : 0 ≤ n) :
    (((ys.map nf).set a (prt (nf (ys.getD a [])) n).2).set b ((prt (nf (ys.getD a [])) n).1.reverse.map flip1 ++ nf (ys.getD b []))).map jn = (yst ys (.wind a b n)).map nf := by
  obtain ⟨p1, p2, p3, p4, _⟩ := prt_ok (ex_nf (ys.getD a [])).2 hn
  have e1 : jn ((prt (nf (ys.getD a [])) n).1.reverse.map flip1 ++ nf (ys.getD b [])) = nf (((ys.getD a []).take n.toNat).reverse.map flp ++ ys.getD b []) := by
    have ps : Pos ((prt (nf (ys.getD a [])) n).1.reverse.map flip1 ++ nf (ys.getD b [])) := fun t ht => by
      rcases List.mem_append.mp ht with ht | ht
      · exact pos_flip p3 t ht
      · exact (ex_nf _).2 t ht
    rw [jn_ex ps, ex_app, ex_flip p3, p1, (ex_nf _).1, (ex_nf _).1]
  have e2 : (ys.map nf).map jn = ys.map nf := by
    rw [List.map_map]
    exact List.map_congr_left fun y _ => jn_nf y
  simp only [yst, List.map_set, e1, nf_drop hn, e2]
section
variable {d : Nat} {h : MH} {Q : D → MH → Prop} {E : DX}
theorem lsum_ok {σ : DS} {Φ : Fns} {X : DX} {ok : MH → Prop} {K : List D → MH → Prop} {ss : List S4} (hl : ss.length ≤ 1000) (hσ : 9 < σ.length) (hok : ok h) (q : K ((ss.map S4.m).map D.int) h) :
    lcGo (.nm 9) ok (wpC Φ none) (wpE Φ X (.ix (.var 9) (.cst (.int 2)))) σ K (ss.map S4.d) [] h := by
  refine lc_rule (fun r acc h' => h' = h ∧ ∃ done rest : List S4, ss = done ++ rest ∧ r = rest.map S4.d ∧ acc = (done.map S4.m).map D.int) (fun r acc h' ⟨e, _⟩ => by rw [e]; exact hok) (fun acc h' ⟨e, done, rest, m1, m2, m3⟩ => ?_) (fun dd r acc h' N ⟨e, done, rest, m1, m2, m3⟩ hN => ?_) _ _ _ ⟨rfl, [], ss, rfl, rfl, rfl⟩
  · subst e m3
    cases rest with
    | nil => cases m2
    | cons s rest =>
      rw [List.map_cons] at m2
      cases m2
      have dl : done.length < 1000 := by rw [m1] at hl; simp at hl; omega
      simp [S4.d, hσ, -al_eq, -ixD_ref_int]
      refine ⟨by rw [sizeLine_eq]; omega, ?_⟩
      have := hN (acc' := ((done ++ [s]).map S4.m).map D.int) (h' := h') ⟨rfl, done ++ [s], rest, by rw [m1]; simp, rfl, rfl⟩
      simpa using this
  · subst e m3
    cases rest with
    | cons _ _ => cases m2
    | nil =>
      rw [List.append_nil] at m1
      subst m1
      exact q
theorem max_twoT {a b : Int} (k : Q (.int (if a < b then b else a)) h) : bi .max [.tup [.int a, .int b]] h Q := ⟨a, [b], rfl, fun m m1 m2 => by
  have h1 := m2 a (by simp)
  have h2 := m2 b (by simp)
  have h3 : m = a ∨ m = b := by simpa using m1
  have : m = if a < b then b else a := by split <;> omega
  rw [this]; exact k⟩
end
end LW
set_option Elab.async false
set_option linter.all false
set_option maxRecDepth 100000
set_option maxHeartbeats 1000000
set_option exponentiation.threshold 20000
namespace LW
open PySem L2 DL
/-- rows whose yards are these -/
structure Rwy (sss : List (List S4)) (ys : List (List Y3)) (B : Nat) : Prop where
  e : sss.map ex = ys
  ps : ∀ ss ∈ sss, Pos ss
  gd : ∀ ss ∈ sss, Good2 ss
  l : sss.flatten.length ≤ B
theorem Rwy.len {sss : List (List S4)} {ys : List (List Y3)} {B : Nat} (R : Rwy sss ys B) : sss.length = ys.length := by rw [← R.e, List.length_map]
theorem Rwy.at {sss : List (List S4)} {ys : List (List Y3)} {B : Nat} (R : Rwy sss ys B) (a : Nat) : ex (sss.getD a []) = ys.getD a [] := by
  rw [← R.e, List.getD_eq_getElem?_getD, List.getD_eq_getElem?_getD, List.getElem?_map]
  cases sss[a]? with
  | none => rfl
  | some s => rfl
theorem memD {α : Type} {l : List (List α)} {a : Nat} : l.getD a [] = [] ∨ l.getD a [] ∈ l := by
  rw [List.getD_eq_getElem?_getD]
  cases e : l[a]? with
  | none => exact .inl rfl
  | some y => exact .inr (List.mem_of_getElem? e)
theorem Rwy.psD {sss : List (List S4)} {ys : List (List Y3)} {B : Nat} (R : Rwy sss ys B) (a : Nat) : Pos (sss.getD a []) := by
  rcases memD (l := sss) (a := a) with h | h
  · rw [h]; exact fun _ z => nomatch z
  · exact R.ps _ h
theorem Rwy.gdD {sss : List (List S4)} {ys : List (List Y3)} {B : Nat} (R : Rwy sss ys B) (a : Nat) : Good2 (sss.getD a []) := by
  rcases memD (l := sss) (a := a) with h | h
  · rw [h]; exact fun _ z => nomatch z
  · exact R.gd _ h
theorem fl_getS {sss : List (List S4)} (a : Nat) : (sss.getD a []).length ≤ sss.flatten.length := by
  rcases memD (l := sss) (a := a) with h | h
  · rw [h]; exact Nat.zero_le _
  · obtain ⟨l1, l2, e⟩ := List.append_of_mem h
    generalize sss.getD a [] = z at e h
    rw [e, List.flatten_append, List.flatten_cons, List.length_append, List.length_append]
    omega
theorem fl_setS : ∀ {ys : List (List S4)} {a : Nat} (v : List S4), a < ys.length → (ys.set a v).flatten.length + (ys.getD a []).length = ys.flatten.length + v.length
  | [], _, _, h => absurd h (by simp)
  | y :: ys, 0, v, _ => by simp; omega
  | y :: ys, a + 1, v, h => by
    have := fl_setS (ys := ys) (a := a) v (by simpa using h)
    simp at this ⊢
    omega
/-- a winding -/
theorem Rwy.wind {sss : List (List S4)} {ys : List (List Y3)} {B a b : Nat} {n : Int} (R : Rwy sss ys B) (ha : a < ys.length) (hb : b < ys.length) (ab : a ≠ b) (hn : 1 ≤ n) :
    Rwy ((sss.set a (prt (sss.getD a []) n).2).set b ((prt (sss.getD a []) n).1.reverse.map flip1 ++ sss.getD b [])) (yst ys (.wind a b n)) (B + 1) := by
  obtain ⟨p1, p2, p3, p4, p5⟩ := prt_ok (R.psD a) (show 0 ≤ n by omega)
  have gp := good_prt (n := n) (R.gdD a)
  refine ⟨?_, fun ss hs => ?_, fun ss hs => ?_, ?_⟩
  · rw [List.map_set, List.map_set, R.e, p2, ex_app, ex_flip p3, p1, R.at, R.at]
    rfl
  · rcases List.mem_or_eq_of_mem_set hs with hs | rfl
    · rcases List.mem_or_eq_of_mem_set hs with hs | rfl
      · exact R.ps ss hs
      · exact p4
    · intro t ht
      rcases List.mem_append.mp ht with ht | ht
      · exact pos_flip p3 t ht
      · exact R.psD b t ht
  · rcases List.mem_or_eq_of_mem_set hs with hs | rfl
    · rcases List.mem_or_eq_of_mem_set hs with hs | rfl
      · exact R.gd ss hs
      · exact gp.2
    · exact good_app (good_flip gp.1) (R.gdD b)
  · have l1 := fl_setS (ys := sss) (prt (sss.getD a []) n).2 (by rw [R.len]; exact ha)
    have l2 := fl_setS (ys := sss.set a (prt (sss.getD a []) n).2) (a := b) ((prt (sss.getD a []) n).1.reverse.map flip1 ++ sss.getD b []) (by rw [List.length_set, R.len]; exact hb)
    rw [getD_set_ne ab] at l2
    rw [List.length_append, List.length_map, List.length_reverse] at l2
    rw [if_pos (by omega)] at p5
    have := R.l
    omega
theorem lsumX_ok {σ : DS} {Φ : Fns} {X : DX} {ok : MH → Prop} {K : List D → MH → Prop} {v : Nat} {ss : List S4} (hl : ss.length ≤ 1000) (hσ : v < σ.length) (hok : ok h) (q : K ((ss.map S4.m).map D.int) h) :
    lcGo (.nm v) ok (wpC Φ none) (wpE Φ X (.ix (.var v) (.cst (.int 2)))) σ K (ss.map S4.d) [] h := by
  refine lc_rule (fun r acc h' => h' = h ∧ ∃ done rest : List S4, ss = done ++ rest ∧ r = rest.map S4.d ∧ acc = (done.map S4.m).map D.int) (fun r acc h' ⟨e, _⟩ => by rw [e]; exact hok) (fun acc h' ⟨e, done, rest, m1, m2, m3⟩ => ?_) (fun dd r acc h' N ⟨e, done, rest, m1, m2, m3⟩ hN => ?_) _ _ _ ⟨rfl, [], ss, rfl, rfl, rfl⟩
  · subst e m3
    cases rest with
    | nil => cases m2
    | cons s rest =>
      rw [List.map_cons] at m2
      cases m2
      have dl : done.length < 1000 := by rw [m1] at hl; simp at hl; omega
      simp [S4.d, hσ, -al_eq, -ixD_ref_int]
      refine ⟨by rw [sizeLine_eq]; omega, ?_⟩
      have := hN (acc' := ((done ++ [s]).map S4.m).map D.int) (h' := h') ⟨rfl, done ++ [s], rest, by rw [m1]; simp, rfl, rfl⟩
      simpa using this
  · subst e m3
    cases rest with
    | cons _ _ => cases m2
    | nil =>
      rw [List.append_nil] at m1
      subst m1
      exact q
/-- rows that lie elsewhere stay -/
theorem Its.keep {h h1 : MH} {p : Addr} {ds : List D} {sss : List (List S4)} (it : Its h ds sss) (rf : ∀ d ∈ ds, ∃ r, d = D.ref r ∧ r ≠ p) (k : ∀ z l, z ≠ p → h z = some (.lst l) → h1 z = some (.lst l)) : Its h1 ds sss := by
  refine ⟨it.1, fun i d ss a b => ?_⟩
  obtain ⟨r, rfl, nr⟩ := rf d (List.mem_of_getElem? a)
  rcases it.2 i _ _ a b with z | ⟨r', z, z2⟩
  · cases z
  · cases z; exact .inr ⟨r, rfl, k _ _ nr z2⟩
theorem gby_shift : ∀ {sts : List Stp} {g g2 : List Int} {k j : Nat}, gby g sts k = .inl g2 → gby g sts j = .inl g2
  | [], _, _, _, _, e => e
  | st :: sts, g, g2, k, j, e => by
    unfold gby at e ⊢
    cases c : gst g st with
    | none => rw [c] at e; cases e
    | some g1 => rw [c] at e; exact gby_shift (k := k + 1) e
/-- windings alone -/
def Wnd (st : Stp) : Prop := ∃ a b n, st = .wind a b n ∧ a ≠ b ∧ 1 ≤ n ∧ n ≤ 1000000000000000000
theorem Wnd.np {st : Stp} (w : Wnd st) : st.ne ∧ st.pos := by
  obtain ⟨a, b, n, rfl, h1, h2, _⟩ := w
  exact ⟨h1, h2⟩
end LW
set_option Elab.async false
set_option linter.all false
set_option maxRecDepth 100000
set_option maxHeartbeats 1000000
set_option exponentiation.threshold 20000
namespace LW
open PySem L2 DL
/-- a stretch as it is dealt -/
def T3 (x : D) : Prop := ∃ (w : Str) (low many : Int), x = .tup [.str w, .int low, .int many] ∧ Wd w ∧ 0 ≤ low ∧ low ≤ 10 ^ 18 ∧ 1 ≤ many ∧ many ≤ 10 ^ 16
end LW
set_option Elab.async false
set_option linter.all false
set_option maxRecDepth 100000
set_option maxHeartbeats 1000000
set_option exponentiation.threshold 20000
namespace LW
open PySem L2 DL
/-- a row in one form stays so when a stretch is joined on -/
theorem jn_keep {ss : List S4} {s : S4} (h : jn ss = ss) (ps : Pos ss) (p1 : 1 ≤ s.m) : jn (jn1 ss s) = jn1 ss s := by
  obtain ⟨e, pt⟩ := ex_jn1 ps p1
  have ps2 : Pos (ss ++ [s]) := fun t ht => by
    rcases List.mem_append.mp ht with ht | ht
    · exact ps t ht
    · rw [List.mem_singleton.mp ht]; exact p1
  have e2 : jn (ss ++ [s]) = jn1 ss s := by
    have : jn (ss ++ [s]) = jn1 (jn ss) s := by simp [jn]
    rw [this, h]
  rw [jn_ex pt, e, ← e2, jn_ex ps2, ex_app, ex_sing]
/-- a row in one form is the one form of its yards -/
theorem nf_of {ss : List S4} (h : jn ss = ss) (ps : Pos ss) : nf (ex ss) = ss := by rw [← jn_ex ps, h]
end LW
set_option Elab.async false
set_option linter.all false
set_option maxRecDepth 100000
set_option maxHeartbeats 1000000
set_option exponentiation.threshold 20000
namespace LW
open PySem L2 DL
def RowsJ (h0 h : MH) (i : Nat) (wide : Int) (rs : List Addr) : Prop := ∀ r ∈ rs, h0 r = none ∧ ∃ ss : List S4, h r = some (.lst (ss.map S4.d)) ∧ (ss.length ≤ i ∧ jn ss = ss ∧ (ss.map S4.m).sum ≤ wide) ∧ ∀ s ∈ ss, Sm4 s ∧ s.m ≤ wide
theorem RowsJ.keep {h0 h h1 : MH} {i : Nat} {wide : Int} {rs : List Addr} (R : RowsJ h0 h i wide rs) (k : ∀ r xs, r ∈ rs → h r = some (.lst xs) → h1 r = some (.lst xs)) : RowsJ h0 h1 i wide rs := fun r hr => by
  obtain ⟨a, ss, b, c, e⟩ := R r hr
  exact ⟨a, ss, k r _ hr b, c, e⟩
theorem RowsJ.ne {h0 h : MH} {i : Nat} {wide : Int} {rs : List Addr} {q : Addr} (R : RowsJ h0 h i wide rs) (e : h q = some (.lst (rs.map D.ref))) : ∀ r ∈ rs, r ≠ q := fun r hr => Rows.ne (wide := wide) (i := i) (h0 := h0) (fun r hr => let ⟨a, ss, b, c, e⟩ := R r hr; ⟨a, ss, b, c.1, e⟩) e r hr
theorem RowsJ.mono {h0 h : MH} {i i' : Nat} {wide wide' : Int} {rs : List Addr} (R : RowsJ h0 h i wide rs) (hi : i ≤ i') (hw : wide ≤ wide') : RowsJ h0 h i' wide' rs := fun r hr => by
  obtain ⟨a, ss, b, c, e⟩ := R r hr
  exact ⟨a, ss, b, ⟨by omega, c.2.1, by have := c.2.2; omega⟩, fun s hs => ⟨(e s hs).1, by have := (e s hs).2; omega⟩⟩
/-- one row of them written -/
theorem RowsJ.put {h0 h : MH} {i : Nat} {wide : Int} {rs : List Addr} {r1 : Addr} {ss1 : List S4} (R : RowsJ h0 h i wide rs) (hl : ss1.length ≤ i) (hj : jn ss1 = ss1) (hw : (ss1.map S4.m).sum ≤ wide) (hs : ∀ s ∈ ss1, Sm4 s ∧ s.m ≤ wide) : RowsJ h0 (up h r1 (.lst (ss1.map S4.d))) i wide rs := fun r hr => by
  obtain ⟨a, ss, b, c, e⟩ := R r hr
  by_cases z : r = r1
  · subst z; exact ⟨a, ss1, up_self, ⟨hl, hj, hw⟩, hs⟩
  · exact ⟨a, ss, (up_ne z).trans b, c, e⟩
end LW
set_option Elab.async false
set_option linter.all false
set_option maxRecDepth 100000
set_option maxHeartbeats 1000000
set_option exponentiation.threshold 20000
namespace LW
open PySem L2 DL
/-- a great standing, by its yards -/
structure Grt (ys : List (List Y3)) : Prop where
  l2 : 2 ≤ ys.length
  l6 : ys.length ≤ 6
  good : GoodY ys
  wd : ∀ y ∈ ys, ∀ a ∈ y, Wd a.w ∧ a.n.natAbs ≤ 10 ^ 21
  tot : tot ys ≤ 96
  s : ∀ y ∈ ys, (y.length : Int) ≤ 160000000000000000
section
variable {d : Nat} {h : MH} {Q : D → MH → Prop} {E : DX} {p c : Addr} {n : Nat}
theorem tot_le {b : Nat} : ∀ {ys : List (List Y3)}, (∀ y ∈ ys, (nf y).length ≤ b) → tot ys ≤ ys.length * b
  | [], _ => by simp [LW.tot]
  | y :: ys, H => by
    have := tot_le (b := b) (ys := ys) fun z hz => H z (List.mem_cons_of_mem _ hz)
    have h0 := H y List.mem_cons_self
    have e : LW.tot (y :: ys) = (nf y).length + LW.tot ys := by simp [LW.tot]
    rw [e, List.length_cons, Nat.succ_mul]
    omega
end
end LW
set_option Elab.async false
set_option linter.all false
set_option maxRecDepth 100000
set_option maxHeartbeats 1000000
set_option exponentiation.threshold 20000
namespace LW
open PySem L2 DL
/-- a stretch of a row in one form: its first yard lies there, its yards are no more -/
theorem nf_mem {y : List Y3} {s : S4} (h : s ∈ nf y) : (⟨s.w, s.f, s.y⟩ : Y3) ∈ y ∧ 1 ≤ s.m ∧ s.m ≤ y.length := by
  obtain ⟨e, ps⟩ := ex_nf y
  have m1 := ps s h
  have hsub : ∀ a ∈ ex1 s, a ∈ y := fun a ha => by rw [← e]; exact List.mem_flatMap.mpr ⟨s, h, ha⟩
  refine ⟨hsub _ ?_, m1, ?_⟩
  · refine List.mem_map.mpr ⟨0, List.mem_range.mpr (by omega), ?_⟩
    simp [S4.at]
  · obtain ⟨l1, l2, e2⟩ := List.append_of_mem h
    have : (ex (nf y)).length = y.length := by rw [e]
    rw [e2, ex_app] at this
    have e3 : ex (s :: l2) = ex1 s ++ ex l2 := by simp [ex]
    rw [e3, List.length_append, List.length_append, ex1_len] at this
    omega
/-- what can be shown of standings -/
structure Shw (ys : List (List Y3)) : Prop where
  l6 : ys.length ≤ 6
  wd : ∀ y ∈ ys, ∀ a ∈ y, Wd a.w ∧ a.n.natAbs ≤ 10 ^ 21
  good : GoodY ys
  tot : tot ys ≤ 110
  s : ∀ y ∈ ys, (y.length : Int) ≤ 1000000000000000000
theorem gd_row {h : MH} {s : S4} (w : Wd s.w) (f : s.f.natAbs ≤ 10 ^ 21) (m0 : 1 ≤ s.m) (m : s.m ≤ 1000000000000000000) (y : s.y = 1 ∨ s.y = -1) : Gd h 1 36 s.d := by
  refine gd_tup (m := 4) (w := 8) (fun x hx => ?_) (by simp) (by decide)
  simp at hx
  rcases hx with rfl | rfl | rfl | rfl
  · exact gd_str w.1 (by decide) w.2
  · exact (gd_int (by omega)).mono (by decide) (by decide)
  · exact (gd_int (by omega)).mono (by decide) (by decide)
  · exact (gd_int (by omega)).mono (by decide) (by decide)
theorem gd_stD {h : MH} {ys : List (List Y3)} (S : Shw ys) : Gd h 3 24426 (stD ys) := by
  refine gd_tup (m := 6) (w := 4070) (fun x hx => ?_) (by simp; exact S.l6) (by decide)
  obtain ⟨ss, hss, rfl⟩ := List.mem_map.mp hx
  obtain ⟨y, hy, rfl⟩ := List.mem_map.mp hss
  refine gd_tup (m := 110) (w := 36) (fun x hx => ?_) (by rw [List.length_map]; have := tot_mem hy; have := S.tot; omega) (by decide)
  obtain ⟨s, hs, rfl⟩ := List.mem_map.mp hx
  obtain ⟨a1, a2, a3⟩ := nf_mem hs
  obtain ⟨b1, b2⟩ := S.wd y hy _ a1
  exact gd_row b1 b2 a2 (by have := S.s y hy; omega) (S.good y hy _ a1).2
end LW
set_option Elab.async false
set_option linter.all false
set_option maxRecDepth 100000
set_option maxHeartbeats 1000000
set_option exponentiation.threshold 20000
namespace LW
open PySem L2 DL
/-- standings behind steps can be shown -/
theorem shw_run : ∀ {sts : List Stp} {ys : List (List Y3)} {k : Nat} {g' : List Int}, ys.length ≤ 6 → (∀ y ∈ ys, ∀ a ∈ y, Wd a.w ∧ a.n.natAbs ≤ 10 ^ 21) → GoodY ys → tot ys + sts.length ≤ 110 → (ys.flatten.length : Int) ≤ 1000000000000000000 → (∀ st ∈ sts, st.ne ∧ st.pos) → gby (gau ys) sts k = .inl g' → Shw (runY ys sts)
  | [], ys, k, g', h1, h2, h3, h4, h5, _, _ => by
    show Shw ys
    refine ⟨h1, h2, h3, by simpa using h4, fun y hy => ?_⟩
    obtain ⟨i, hi, e⟩ := List.getElem_of_mem hy
    have := fl_getD (ys := ys) i
    rw [List.getD_eq_getElem?_getD, List.getElem?_eq_getElem hi, e] at this
    have this : y.length ≤ ys.flatten.length := this
    show ((y.length : Nat) : Int) ≤ _
    omega
  | st :: sts, ys, k, g', h1, h2, h3, h4, h5, hn, eg => by
    have os := hn st List.mem_cons_self
    unfold gby at eg
    cases e3 : gst (gau ys) st with
    | none => rw [e3] at eg; cases eg
    | some g3 =>
      rw [e3] at eg
      have t3 := tot_yst os.1 os.2 e3
      rw [List.length_cons] at h4
      show Shw (runY (yst ys st) sts)
      refine shw_run (k := k + 1) (g' := g') (by rw [yst_len]; exact h1) (fun y hy a ha => ?_) h3.yst (by omega) (by rw [fl_yst os.1 os.2 e3]; exact h5) (fun u hu => hn u (List.mem_cons_of_mem _ hu)) (by rw [gau_yst os.1 os.2 e3]; exact eg)
      obtain ⟨y0, m1, a0, m2, m3⟩ := yst_mem hy ha
      have := h2 y0 m1 a0 m2
      rcases m3 with rfl | rfl
      · exact this
      · exact this
end LW
set_option Elab.async false
set_option linter.all false
set_option maxRecDepth 100000
set_option maxHeartbeats 1000000
set_option exponentiation.threshold 20000
namespace LW
open PySem L2 DL
theorem cut_last {α : Type} (l : List α) (x : α) : cut (l ++ [x]) (some (-1)) none = [x] := by
  unfold cut
  rw [HT.sIx_none]
  have e : HT.sIx (l ++ [x]).length 0 (some (-1)) = l.length := by
    unfold HT.sIx
    simp
    omega
  rw [e]
  simp
theorem run_gau : ∀ {sts : List Stp} {ys : List (List Y3)} {k : Nat} {g : List Int}, (∀ st ∈ sts, st.ne ∧ st.pos) → gby (gau ys) sts k = .inl g → gau (runY ys sts) = g
  | [], ys, k, g, _, e => by
    unfold gby at e
    cases e; rfl
  | st :: sts, ys, k, g, hn, e => by
    have os := hn st List.mem_cons_self
    unfold gby at e
    cases e3 : gst (gau ys) st with
    | none => rw [e3] at e; cases e
    | some g3 =>
      rw [e3] at e
      show gau (runY (yst ys st) sts) = g
      refine run_gau (k := k + 1) (fun u hu => hn u (List.mem_cons_of_mem _ hu)) ?_
      rw [gau_yst os.1 os.2 e3]; exact e
theorem run_good : ∀ {sts : List Stp} {ys : List (List Y3)}, GoodY ys → GoodY (runY ys sts)
  | [], _, h => h
  | _ :: sts, _, h => run_good (sts := sts) h.yst
theorem run_tot : ∀ {sts : List Stp} {ys : List (List Y3)} {k : Nat} {g : List Int}, (∀ st ∈ sts, st.ne ∧ st.pos) → gby (gau ys) sts k = .inl g → tot (runY ys sts) ≤ tot ys + sts.length
  | [], ys, k, g, _, e => Nat.le_refl _
  | st :: sts, ys, k, g, hn, e => by
    have os := hn st List.mem_cons_self
    unfold gby at e
    cases e3 : gst (gau ys) st with
    | none => rw [e3] at e; cases e
    | some g3 =>
      rw [e3] at e
      have := run_tot (ys := yst ys st) (sts := sts) (k := k + 1) (g := g) (fun u hu => hn u (List.mem_cons_of_mem _ hu)) (by rw [gau_yst os.1 os.2 e3]; exact e)
      have t3 := tot_yst os.1 os.2 e3
      show tot (runY (yst ys st) sts) ≤ _
      rw [List.length_cons]
      omega
theorem run_fl : ∀ {sts : List Stp} {ys : List (List Y3)} {k : Nat} {g : List Int}, (∀ st ∈ sts, st.ne ∧ st.pos) → gby (gau ys) sts k = .inl g → (runY ys sts).flatten.length = ys.flatten.length
  | [], ys, k, g, _, e => rfl
  | st :: sts, ys, k, g, hn, e => by
    have os := hn st List.mem_cons_self
    unfold gby at e
    cases e3 : gst (gau ys) st with
    | none => rw [e3] at e; cases e
    | some g3 =>
      rw [e3] at e
      show (runY (yst ys st) sts).flatten.length = _
      rw [run_fl (ys := yst ys st) (sts := sts) (k := k + 1) (g := g) (fun u hu => hn u (List.mem_cons_of_mem _ hu)) (by rw [gau_yst os.1 os.2 e3]; exact e)]
      exact fl_yst os.1 os.2 e3
theorem fl_le {b : Nat} : ∀ {ys : List (List Y3)}, (∀ y ∈ ys, y.length ≤ b) → ys.flatten.length ≤ ys.length * b
  | [], _ => by simp
  | y :: ys, H => by
    have := fl_le (b := b) (ys := ys) fun z hz => H z (List.mem_cons_of_mem _ hz)
    have h0 := H y List.mem_cons_self
    rw [List.flatten_cons, List.length_append, List.length_cons, Nat.succ_mul]
    omega
section
variable {d : Nat} {h : MH} {Q : D → MH → Prop} {E : DX} {p c : Addr} {n : Nat}
theorem lsum8_ok {σ : DS} {Φ : Fns} {X : DX} {ok : MH → Prop} {K : List D → MH → Prop} {ss : List S4} (hl : ss.length ≤ 1000) (hσ : 8 < σ.length) (hok : ok h) (q : K ((ss.map S4.m).map D.int) h) :
    lcGo (.nm 8) ok (wpC Φ none) (wpE Φ X (.ix (.var 8) (.cst (.int 2)))) σ K (ss.map S4.d) [] h := by
  refine lc_rule (fun r acc h' => h' = h ∧ ∃ done rest : List S4, ss = done ++ rest ∧ r = rest.map S4.d ∧ acc = (done.map S4.m).map D.int) (fun r acc h' ⟨e, _⟩ => by rw [e]; exact hok) (fun acc h' ⟨e, done, rest, m1, m2, m3⟩ => ?_) (fun dd r acc h' N ⟨e, done, rest, m1, m2, m3⟩ hN => ?_) _ _ _ ⟨rfl, [], ss, rfl, rfl, rfl⟩
  · subst e m3
    cases rest with
    | nil => cases m2
    | cons s rest =>
      rw [List.map_cons] at m2
      cases m2
      have dl : done.length < 1000 := by rw [m1] at hl; simp at hl; omega
      simp [S4.d, hσ, -al_eq, -ixD_ref_int]
      refine ⟨by rw [sizeLine_eq]; omega, ?_⟩
      have := hN (acc' := ((done ++ [s]).map S4.m).map D.int) (h' := h') ⟨rfl, done ++ [s], rest, by rw [m1]; simp, rfl, rfl⟩
      simpa using this
  · subst e m3
    cases rest with
    | cons _ _ => cases m2
    | nil =>
      rw [List.append_nil] at m1
      subst m1
      exact q
theorem Gd.fits {k w : Nat} {x : D} (hw : w ≤ 127300) (hk : k ≤ 60) : Gd h k w x → ∃ t, Den h x t ∧ t.showable = true ∧ Fits t.shown.length ∧ t.depth ≤ 60
  | ⟨_, t, e, o1, o2, o3, o4⟩ => ⟨t, e, o1, fits_le (by
      have := PyData.shown_le_bulk 80 (by decide) t o2
      omega), by omega⟩
theorem bi_repr {x : D} {Q : D → MH → Prop} {t : PyData} (e : Den h x t) (s : t.showable = true) (f : Fits t.shown.length) (dp : t.depth ≤ 60) (q : Q (.str t.shown) h) : bi .repr [x] h Q := ⟨t, e, s, f, dp, q⟩
theorem gd_told {ys : List (List Y3)} (S : Shw ys) : Gd h 4 48854 (.tup [.str "told", stD ys]) := by
  refine gd_tup (m := 2) (w := 24426) (fun x hx => ?_) (by simp) (by decide)
  simp at hx
  rcases hx with rfl | rfl
  · exact (gd_str (w := 8) (by decide) (by decide) (by decide +kernel)).mono (by decide) (by decide)
  · exact gd_stD S
end
end LW
set_option Elab.async false
set_option linter.all false
set_option maxRecDepth 100000
set_option maxHeartbeats 1000000
set_option exponentiation.threshold 20000
namespace LW
open PySem L2 DL
/-! ### the law's body, its parts -/
theorem Gw.den {h h1 : MH} (f : Gw h h1) {x : D} {t : PyData} (e : Den h x t) : Den h1 x t := by
  induction e with
  | non => exact .non
  | bl b => exact .bl b
  | int i => exact .int i
  | str x => exact .str x
  | tup hl hs ih => exact .tup hl fun i d t a b => ih i d t a b
  | lst ha hl hs ih => exact .lst (f _ _ ha) hl fun i d t a b => ih i d t a b
  | dct0 ha => exact .dct0 (f _ _ ha)
theorem gby_split : ∀ {a b : List Stp} {g g' : List Int} {k : Nat}, gby g (a ++ b) k = .inl g' → ∃ hg, gby g a k = .inl hg
  | [], b, g, g', k, e => ⟨g, rfl⟩
  | s :: a, b, g, g', k, e => by
    rw [List.cons_append] at e
    unfold gby at e ⊢
    cases c : gst g s with
    | none => rw [c] at e; cases e
    | some g1 => rw [c] at e; exact gby_split e
theorem gby_no : ∀ {a b : List Stp} {st : Stp} {g hg : List Int} {k : Nat}, gby g a k = .inl hg → gst hg st = none → gby g (a ++ st :: b) k = .inr (k + a.length)
  | [], b, st, g, hg, k, e, f => by
    unfold gby at e
    cases e
    show gby g (st :: b) k = _
    unfold gby
    rw [f]; rfl
  | s :: a, b, st, g, hg, k, e, f => by
    rw [List.cons_append]
    unfold gby at e ⊢
    cases c : gst g s with
    | none => rw [c] at e; cases e
    | some g1 =>
      rw [c] at e
      simp only at e ⊢
      rw [gby_no e f, List.length_cons]
      congr 1
      omega
theorem gby_gau : ∀ {a : List Stp} {g hg : List Int} {k : Nat} {T : Int}, Gau T g → (∀ st ∈ a, st.ne ∧ st.pos) → gby g a k = .inl hg → Gau T hg ∧ hg.length = g.length
  | [], g, hg, k, T, G, _, e => by
    unfold gby at e
    cases e; exact ⟨G, rfl⟩
  | s :: a, g, hg, k, T, G, H, e => by
    unfold gby at e
    cases c : gst g s with
    | none => rw [c] at e; cases e
    | some g1 =>
      rw [c] at e
      have o := H s List.mem_cons_self
      obtain ⟨a1, a2⟩ := gby_gau (G.gst o.1 o.2 c) (fun t ht => H t (List.mem_cons_of_mem _ ht)) e
      exact ⟨a1, a2.trans (gst_len c)⟩
theorem run_wd {B : Nat} : ∀ {sts : List Stp} {ys : List (List Y3)}, (∀ y ∈ ys, ∀ a ∈ y, Wd a.w ∧ a.n.natAbs ≤ B) → ∀ y ∈ runY ys sts, ∀ a ∈ y, Wd a.w ∧ a.n.natAbs ≤ B
  | [], _, h => h
  | st :: sts, ys, h => run_wd (sts := sts) (ys := yst ys st) fun y hy a ha => by
    obtain ⟨y0, h1, a0, h2, h3⟩ := yst_mem hy ha
    rcases h3 with rfl | rfl
    · exact h y0 h1 _ h2
    · exact h y0 h1 a0 h2
section
variable {d : Nat} {h : MH} {Q : D → MH → Prop} {E : DX} {p c : Addr} {n : Nat}
theorem gd_stT {T : Nat} {ys : List (List Y3)} (hT : T ≤ 900) (l6 : ys.length ≤ 6) (wd : ∀ y ∈ ys, ∀ a ∈ y, Wd a.w ∧ a.n.natAbs ≤ 10 ^ 21) (good : GoodY ys) (ht : tot ys ≤ T) (hf : (ys.flatten.length : Int) ≤ 1000000000000000000) : Gd h 3 (6 * (T * 37 + 1)) (stD ys) := by
  refine gd_tup (m := 6) (w := T * 37) (fun x hx => ?_) (by simp; exact l6) (by decide)
  obtain ⟨ss, hss, rfl⟩ := List.mem_map.mp hx
  obtain ⟨y, hy, rfl⟩ := List.mem_map.mp hss
  refine gd_tup (m := T) (w := 36) (fun x hx => ?_) (by rw [List.length_map]; have := tot_mem hy; omega) (by omega)
  obtain ⟨s, hs, rfl⟩ := List.mem_map.mp hx
  obtain ⟨a1, a2, a3⟩ := nf_mem hs
  obtain ⟨b1, b2⟩ := wd y hy _ a1
  have : y.length ≤ ys.flatten.length := by
    obtain ⟨i, hi, e⟩ := List.getElem_of_mem hy
    have := fl_getD (ys := ys) i
    rw [List.getD_eq_getElem?_getD, List.getElem?_eq_getElem hi, e] at this
    exact this
  exact gd_row b1 b2 a2 (by omega) (good y hy _ a1).2
theorem gd_stp {st : Stp} (b : st.bd) (ps : st.pos) : Gd h 1 36 st.d := by
  have hs : ∀ z : Str, z = "wind" ∨ z = "turn" ∨ z = "swap" → Gd h 0 8 (.str z) := fun z hz => by
    rcases hz with rfl | rfl | rfl <;> exact (gd_str (w := 8) (by decide) (by decide) (by decide +kernel))
  cases st with
  | wind a b2 n =>
    obtain ⟨b1, b3, b4⟩ := b
    have ps : 1 ≤ n := ps
    refine gd_tup (m := 4) (w := 8) (fun x hx => ?_) (by simp) (by decide)
    simp at hx
    rcases hx with rfl | rfl | rfl | rfl
    · exact hs _ (.inl rfl)
    · exact (gd_int (by omega)).mono (by decide) (by decide)
    · exact (gd_int (by omega)).mono (by decide) (by decide)
    · exact (gd_int (by omega)).mono (by decide) (by decide)
  | turn a =>
    have b : a ≤ 6 := b
    refine gd_tup (m := 4) (w := 8) (fun x hx => ?_) (by simp) (by decide)
    simp at hx
    rcases hx with rfl | rfl
    · exact hs _ (.inr (.inl rfl))
    · exact (gd_int (by omega)).mono (by decide) (by decide)
  | swap a b2 =>
    obtain ⟨b1, b3⟩ := b
    refine gd_tup (m := 4) (w := 8) (fun x hx => ?_) (by simp) (by decide)
    simp at hx
    rcases hx with rfl | rfl | rfl
    · exact hs _ (.inr (.inr rfl))
    · exact (gd_int (by omega)).mono (by decide) (by decide)
    · exact (gd_int (by omega)).mono (by decide) (by decide)
theorem gd_steps {x : D} {sts : List Stp} (sq : Sq h x (sts.map Stp.d)) (hl : sts.length ≤ 9) (H : ∀ st ∈ sts, st.pos ∧ st.bd) : Gd h 2 333 x := by
  have G : ∀ d ∈ sts.map Stp.d, Gd h 1 36 d := fun d hd => by
    obtain ⟨st, hst, rfl⟩ := List.mem_map.mp hd
    exact gd_stp (H st hst).2 (H st hst).1
  rcases sq with rfl | ⟨a, rfl, e⟩
  · exact gd_tup (m := 9) (w := 36) G (by simpa using hl) (by decide)
  · exact gd_lst (m := 9) (w := 36) e G (by simpa using hl)
end
end LW
set_option Elab.async false
set_option linter.all false
set_option maxRecDepth 100000
set_option maxHeartbeats 1000000
set_option exponentiation.threshold 20000
namespace LW
open PySem L2 DL
section
variable {d : Nat} {h : MH} {Q : D → MH → Prop} {E : DX} {p c : Addr} {n : Nat}
/-- what is due: as steps may be -/
structure Due (ys : List (List Y3)) (sts : List Stp) (due : D) : Prop where
  l : sts.length ≤ 9
  ok : ∀ st ∈ sts, st.ne ∧ st.pos ∧ st.bd
  due : due = (match gby (gau ys) sts 0 with
      | .inl _ => D.tup [.str "told", stD (runY ys sts)]
      | .inr k => .tup [.str "few", .int (k : Nat), .bl true])
theorem gd_due {ys : List (List Y3)} {sts : List Stp} {due : D} (D0 : Due ys sts due) (l6 : ys.length ≤ 6) (wd : ∀ y ∈ ys, ∀ a ∈ y, Wd a.w ∧ a.n.natAbs ≤ 10 ^ 21) (good : GoodY ys) (ht : tot ys ≤ 192) (hf : ys.flatten.length ≤ 1000) : Gd h 4 90000 due := by
  rw [D0.due]
  have H := fun st hst => And.intro (D0.ok st hst).1 (D0.ok st hst).2.1
  have hl := D0.l
  cases e : gby (gau ys) sts 0 with
  | inl g' =>
    refine (gd_tup (k := 3) (m := 2) (w := 44628) (fun x hx => ?_) (by simp) (by decide)).mono (by decide) (by decide)
    simp at hx
    rcases hx with rfl | rfl
    · exact (gd_str (w := 8) (by decide) (by decide) (by decide +kernel)).mono (by decide) (by decide)
    · have rt := run_tot H e
      have rf := run_fl H e
      exact gd_stT (T := 201) (by decide) (by rw [run_len]; exact l6) (run_wd wd) (run_good good) (by omega) (by omega)
  | inr k =>
    refine (gd_tup (k := 0) (m := 3) (w := 8) (fun x hx => ?_) (by simp) (by decide)).mono (by decide) (by decide)
    simp at hx
    rcases hx with rfl | rfl | rfl
    · exact (gd_str (w := 8) (by decide) (by decide) (by decide +kernel))
    · have hk : k ≤ 9 := by
        have : ∀ {a : List Stp} {g : List Int} {j k : Nat}, gby g a j = .inr k → k ≤ j + a.length := fun {a} => by
          induction a with
          | nil => intro g j k e; unfold gby at e; cases e
          | cons s a ih =>
            intro g j k e
            unfold gby at e
            cases c : gst g s with
            | none => rw [c] at e; cases e; omega
            | some g1 => rw [c] at e; have := ih e; rw [List.length_cons]; omega
        have := this e
        omega
      exact (gd_int (by omega)).mono (by decide) (by decide)
    · exact gd_bl.mono (by decide) (by decide)
theorem Sp.gx {h1 : MH} {q : Addr} {ys : List (List Y3)} (s : Sp h q ys) (pn : Pen h p c n) (g : Gx p h h1) : Sp h1 q ys := by
  obtain ⟨rs, a, b, e⟩ := s
  obtain ⟨k, ep⟩ := pn.has
  have ne : ∀ {z : Addr} {l : List D}, h z = some (.lst l) → z ≠ p := fun {z l} e z2 => by rw [z2, ep] at e; cases e
  exact ⟨rs, g.1 _ _ (ne a) a, b, fun i r y e1 e2 => g.1 _ _ (ne (e i r y e1 e2)) (e i r y e1 e2)⟩
theorem gau_sum : ∀ ys : List (List Y3), (gau ys).sum = (ys.flatten.length : Int)
  | [] => rfl
  | y :: ys => by
    have := gau_sum ys
    unfold gau at this ⊢
    rw [List.map_cons, List.sum_cons, this, List.flatten_cons, List.length_append]
    omega
theorem gau_Gau (ys : List (List Y3)) : Gau (ys.flatten.length : Int) (gau ys) := ⟨fun v hv => by
  obtain ⟨y, _, rfl⟩ := List.mem_map.mp hv
  omega, gau_sum ys⟩
theorem lenrows_ok {Φ : Fns} {X : DX} {ok : MH → Prop} {K : List D → MH → Prop} {rs : List Addr} {ys : List (List Y3)} {σ : DS} (hσ : 5 < σ.length) (l : rs.length = ys.length) (l6 : ys.length ≤ 6) (it : ∀ (i : Nat) r y, rs[i]? = some r → ys[i]? = some y → h r = some (.lst (y.map Y3.d))) (hok : ok h)
    (q : K ((gau ys).map .int) h) :
    lcGo (.nm 5) ok (wpC Φ none) (wpE Φ X (.bi .len [.var 5])) σ K (rs.map D.ref) [] h := by
  refine lc_rule (fun r acc h' => h' = h ∧ ∃ k, r = (rs.map D.ref).drop k ∧ acc = ((gau ys).map D.int).take k ∧ k ≤ rs.length) (fun r acc h' ⟨e, _⟩ => e ▸ hok) (fun acc h' ⟨e, k, e1, e2, e3⟩ => ?_) (fun dd r acc h' N ⟨e, k, e1, e2, e3⟩ hN => ?_) _ _ _ ⟨rfl, 0, rfl, by simp, Nat.zero_le _⟩
  · subst e
    have kl : k < rs.length := by
      have := congrArg List.length e1
      simp at this; omega
    have kl2 : k < ys.length := by rw [← l]; exact kl
    rw [List.drop_eq_getElem_cons (by simpa using kl), List.getElem_map] at e1
    cases e1
    have er := it k _ _ (List.getElem?_eq_getElem kl) (List.getElem?_eq_getElem kl2)
    simp [hσ, -al_eq, -ixD_ref_int]
    refine ⟨_, er, by rw [e2, List.length_take, sizeLine_eq]; simp [gau]; omega, hN _ _ ⟨rfl, k + 1, rfl, ?_, kl⟩⟩
    rw [e2, List.take_succ_eq_append_getElem (by simpa [gau] using kl2)]
    simp [gau]
  · subst e
    have kl : rs.length ≤ k := by
      have := congrArg List.length e1
      simp at this; omega
    rw [e2, List.take_of_length_le (by simp [gau]; omega)]
    exact q
end
end LW
set_option Elab.async false
set_option linter.all false
set_option maxRecDepth 100000
set_option maxHeartbeats 1000000
set_option exponentiation.threshold 20000
namespace LW
open PySem L2 DL
section
variable {d : Nat} {h : MH} {Q : D → MH → Prop} {E : DX}
theorem four {α : Type} {ds : List α} (h : ds.length = 4) : ∃ a b c e, ds = [a, b, c, e] := by
  match ds, h with
  | [a, b, c, e], _ => exact ⟨a, b, c, e, rfl⟩
def isSt : D → Bool
  | .tup [a, .int f, .int m, .int y] => isWd a && (isWy (.int y) && (isWh 0 M18 (.int f) && (isWh 1 (M18 + 1) (.int m) && (decide (0 ≤ f + y * (m - 1)) && decide (f + y * (m - 1) ≤ M18)))))
  | _ => false
theorem mul_way {y m : Int} (h : isWy (.int y) = true) : MulOk y m := by
  have : y = 1 ∨ y = -1 := by
    have h' : (1 == y || -1 == y) = true := h
    simp at h'
    omega
  rcases this with rfl | rfl <;> exact .inl (by decide)
theorem isWh_int {lo hi : Int} {x : D} (h : isWh lo hi x = true) : ∃ i, x = .int i ∧ lo ≤ i ∧ i ≤ hi := by
  cases x <;> simp [isWh] at h
  exact ⟨_, rfl, h⟩
theorem isWy_int {x : D} (h : isWy x = true) : ∃ i, x = .int i ∧ (i = 1 ∨ i = -1) := by
  cases x <;> simp [isWy] at h
  exact ⟨_, rfl, by omega⟩
theorem isWd_str {x : D} (h : isWd x = true) : ∃ z, x = .str z := by
  cases x <;> simp [isWd] at h
  exact ⟨_, rfl⟩
theorem isSt_no {a b c e : D} (h : isWd a = false ∨ isWy e = false ∨ isWh 0 M18 b = false ∨ isWh 1 (M18 + 1) c = false) : isSt (.tup [a, b, c, e]) = false := by
  cases b <;> try rfl
  cases c <;> try rfl
  cases e <;> try rfl
  rcases h with h | h | h | h <;> simp [isSt, h]
end
end LW
set_option Elab.async false
set_option linter.all false
set_option maxRecDepth 100000
set_option maxHeartbeats 1000000
set_option exponentiation.threshold 20000
namespace LW
open PySem L2 DL
structure S4.Ok (s : S4) : Prop where
  z : PyData.strOk s.w = true
  m1 : 1 ≤ s.m
  m2 : s.m ≤ M18 + 1
  y : s.y = 1 ∨ s.y = -1
  f1 : 0 ≤ s.f
  f2 : s.f ≤ M18
  l1 : 0 ≤ s.f + s.y * (s.m - 1)
  l2 : s.f + s.y * (s.m - 1) ≤ M18
theorem S4.Ok.mul {s : S4} (o : s.Ok) {k : Int} : DL.MulOk s.y k := by
  rcases o.y with e | e <;> rw [e] <;> exact .inl (by decide)
theorem isSt_S4 {h : MH} {x : D} (w : Wf h x) (e : isSt x = true) : ∃ s : S4, x = s.d ∧ s.Ok := by
  unfold isSt at e
  split at e
  · rename_i a f m y
    simp only [Bool.and_eq_true, decide_eq_true_eq] at e
    obtain ⟨e1, e2, e3, e4, e5, e6⟩ := e
    obtain ⟨z, rfl⟩ := isWd_str e1
    obtain ⟨_, w⟩ := wf_tup.mp w
    have wz : Wf h (.str z) := w _ List.mem_cons_self
    obtain ⟨i, ei, hy⟩ := isWy_int e2
    cases ei
    simp [isWh] at e3 e4
    exact ⟨⟨z, f, m, y⟩, rfl, wz.2, e4.1, e4.2, hy, e3.1, e3.2, e5, e6⟩
  · cases e
theorem all_S4 {h : MH} : ∀ {ds : List D}, (∀ d ∈ ds, Wf h d) → ds.all isSt = true → ∃ ss : List S4, ds = ss.map S4.d ∧ ∀ s ∈ ss, s.Ok
  | [], _, _ => ⟨[], rfl, fun _ z => nomatch z⟩
  | x :: ds, w, e => by
    rw [List.all_cons, Bool.and_eq_true] at e
    obtain ⟨s, rfl, o⟩ := isSt_S4 (w x List.mem_cons_self) e.1
    obtain ⟨ss, rfl, os⟩ := all_S4 (fun d hd => w d (List.mem_cons_of_mem _ hd)) e.2
    exact ⟨s :: ss, rfl, fun t ht => by
      rcases List.mem_cons.mp ht with rfl | ht
      · exact o
      · exact os t ht⟩
end LW
set_option Elab.async false
set_option linter.all false
set_option maxRecDepth 100000
set_option maxHeartbeats 1000000
set_option exponentiation.threshold 20000
namespace LW
open PySem L2 DL
def toS : D → S4
  | .tup [.str w, .int f, .int m, .int y] => ⟨w, f, m, y⟩
  | _ => ⟨"", 0, 0, 0⟩
theorem toS_d (s : S4) : toS s.d = s := rfl
def rowOK : D → Bool
  | .tup ds => ds.all isSt && form (ds.map toS)
  | _ => false
def rowD (ss : List S4) : D := .tup (ss.map S4.d)
structure RowOk (ss : List S4) : Prop where
  len : ss.length ≤ 1000
  ok : ∀ s ∈ ss, s.Ok
  fm : form ss = true
  st : (ss.map S4.d).all isSt = true
theorem rowOK_ss {h : MH} {x : D} (w : Wf h x) (e : rowOK x = true) : ∃ ss, x = rowD ss ∧ RowOk ss := by
  unfold rowOK at e
  split at e
  · rename_i ds
    rw [Bool.and_eq_true] at e
    obtain ⟨hl, w⟩ := wf_tup.mp w
    obtain ⟨ss, rfl, o⟩ := all_S4 w e.1
    have e2 := e.2
    rw [List.map_map, show toS ∘ S4.d = id from rfl, List.map_id] at e2
    exact ⟨ss, rfl, by simpa using hl, o, e2, e.1⟩
  · cases e
theorem Good2.of {ss : List S4} (o : ∀ s ∈ ss, s.Ok) : Good2 ss := fun s hs => ⟨(o s hs).z, (o s hs).y⟩
/-! ### spans -/
structure S3 where
  w : Str
  lo : Int
  hi : Int
def S3.d (s : S3) : D := .tup [.str s.w, .int s.lo, .int s.hi]
def S3.p (s : S3) : PyData := .tuple [.str s.w, .int s.lo, .int s.hi]
def S4.span (s : S4) : S3 := ⟨s.w, if s.last < s.f then s.last else s.f, if s.last > s.f then s.last else s.f⟩
theorem S3.toP (s : S3) : toP s.d = s.p := by simp [S3.d, S3.p, DL.toP, toPs]
theorem S3.imm (s : S3) : imm s.d = true := by simp [S3.d, DL.imm, imms]
theorem imms_S3 : ∀ l : List S3, imms (l.map S3.d) = true
  | [] => rfl
  | s :: l => by rw [List.map_cons, imms, S3.imm, imms_S3 l]; rfl
theorem sort_S3 (l : List S3) (h : MH) (Q : D → MH → Prop) {a : Addr} (e : h a = some (.lst (l.map S3.d))) (q : ∀ p, h p = none → Q (.ref p) (up h p (.lst ((l.mergeSort (PySem.W.dataLe false S3.p)).map S3.d)))) : bi .sorted [.ref a] h Q := by
  refine ⟨_, e, imms_S3 l, ?_, ?_, fun x hx => ?_, fun p hp => ?_⟩
  · rw [List.map_map, show DL.toP ∘ S3.d = S3.p from funext S3.toP]
    exact PySem.W.AllAlike.of fun a b => by simp [S3.p, PySem.W.alike, PySem.W.alikeAll]
  · rw [List.map_map, show DL.toP ∘ S3.d = S3.p from funext S3.toP]
    exact PySem.W.Sortable.tuples fun b => ⟨_, _, rfl⟩
  · obtain ⟨s, _, rfl⟩ := List.mem_map.mp hx
    rw [S3.toP]
    simp [S3.p, PyData.depth, PyData.depthAll]
  · have e2 : (l.map S3.d).mergeSort (PySem.W.dataLe false DL.toP) = (l.mergeSort (PySem.W.dataLe false S3.p)).map S3.d := by
      symm
      refine List.map_mergeSort fun a _ b _ => ?_
      rw [PySem.W.dataLe_eq, PySem.W.dataLe_eq]
      show (!PySem.W.dataLt _ _) = (!PySem.W.dataLt _ _)
      rw [S3.toP, S3.toP]
    rw [e2]
    exact q p hp
theorem part_rows : ∀ sss : List (List S4), (sss.map rowD).flatMap part = sss.flatten.map S4.d
  | [] => rfl
  | a :: l => by rw [List.map_cons, List.flatMap_cons, part_rows l, List.flatten_cons, List.map_append]; rfl
end LW
set_option Elab.async false
set_option linter.all false
set_option maxRecDepth 100000
set_option maxHeartbeats 1000000
set_option exponentiation.threshold 20000
namespace LW
open PySem L2 DL
def ap1 (a b : S3) : Bool := !decide (a.w = b.w) || decide (a.hi < b.lo)
def aps (l : List S3) : Bool := (l.zip (l.drop 1)).all fun p => ap1 p.1 p.2
theorem zip_ds {α : Type} (f : α → D) (l m : List α) : (((l.map f).zip (m.map f)).map fun p => D.tup [p.1, p.2]) = (l.zip m).map fun p => .tup [f p.1, f p.2] := by
  rw [List.zip_map, List.map_map]; rfl
section
variable {d : Nat} {h : MH} {Q : D → MH → Prop} {E : DX}
def total (sss : List (List S4)) : Int := (sss.flatten.map S4.m).sum
def sspans (l : List S4) : List S3 := (l.map S4.span).mergeSort (PySem.W.dataLe false S3.p)
def stand : D → Bool
  | .tup rows => decide (2 ≤ rows.length) && (decide (rows.length ≤ 6) && (rows.all rowOK && (decide ((((rows.flatMap part).map toS).map S4.m).sum ≤ M18) && aps (sspans ((rows.flatMap part).map toS)))))
  | _ => false
theorem map_toS (sss : List (List S4)) : (((sss.map rowD).flatMap part).map toS) = sss.flatten := by
  rw [part_rows, List.map_map, show toS ∘ S4.d = id from rfl, List.map_id]
theorem rows_ss {h : MH} : ∀ {rows : List D}, (∀ r ∈ rows, Wf h r) → rows.all rowOK = true → ∃ sss : List (List S4), rows = sss.map rowD ∧ ∀ ss ∈ sss, RowOk ss
  | [], _, _ => ⟨[], rfl, fun _ z => nomatch z⟩
  | x :: rows, w, e => by
    rw [List.all_cons, Bool.and_eq_true] at e
    obtain ⟨ss, rfl, o⟩ := rowOK_ss (w x List.mem_cons_self) e.1
    obtain ⟨sss, rfl, os⟩ := rows_ss (fun r hr => w r (List.mem_cons_of_mem _ hr)) e.2
    exact ⟨ss :: sss, rfl, fun t ht => by
      rcases List.mem_cons.mp ht with rfl | ht
      · exact o
      · exact os t ht⟩
theorem flat_len : ∀ {sss : List (List S4)}, (∀ ss ∈ sss, RowOk ss) → sss.flatten.length ≤ 1000 * sss.length
  | [], _ => by simp
  | a :: l, o => by
    rw [List.flatten_cons, List.length_append, List.length_cons]
    have h1 := (o a List.mem_cons_self).len
    have h2 := flat_len (sss := l) fun s hs => o s (List.mem_cons_of_mem _ hs)
    omega
theorem sum_rows : ∀ sss : List (List S4), ((sss.map rowD).map fun r => (((part r).map toS).map S4.m).sum).sum = (sss.flatten.map S4.m).sum
  | [] => rfl
  | a :: l => by
    rw [List.map_cons, List.map_cons, List.sum_cons, sum_rows l, List.flatten_cons, List.map_append, List.sum_append]
    congr 1
    show (((a.map S4.d).map toS).map S4.m).sum = (a.map S4.m).sum
    rw [List.map_map (f := S4.d), show toS ∘ S4.d = id from rfl, List.map_id]
end
end LW
set_option Elab.async false
set_option linter.all false
set_option maxRecDepth 100000
set_option maxHeartbeats 1000000
set_option exponentiation.threshold 20000
namespace LW
open PySem L2 DL
theorem eqD_emp {h : MH} {a b : Addr} {xs : List D} {P : Bool → Prop} (ea : h a = some (.lst xs)) (eb : h b = some (.lst [])) (p : P xs.isEmpty) : eqD (.ref a) (.ref b) h P := by
  cases xs with
  | nil => exact eqD_lst (l := []) (m := []) ea eb (fun _ z => nomatch z) (fun _ z => nomatch z) p
  | cons x xs => exact Or.inr ⟨_, _, ea, eb, by simp, p⟩
def keep (c : D → Bool) (x : D) : List D := if c x = true then [] else [x]
theorem keep_len (c : D → Bool) (x : D) : (keep c x).length ≤ 1 := by unfold keep; split <;> simp
theorem keep_all (c : D → Bool) : ∀ l : List D, (l.flatMap (keep c)).isEmpty = l.all c
  | [] => rfl
  | x :: l => by
    rw [List.flatMap_cons, List.all_cons, ← keep_all c l]
    unfold keep
    cases c x <;> simp
section
variable {d : Nat} {h : MH} {Q : D → MH → Prop} {E : DX}
theorem in_way {y : Int} {h : MH} {P : Bool → Prop} (p : P (isWy (.int y))) : inOp (.int y) (.tup [.int 1, .int (-1)]) h P := ⟨rfl, rfl, by simpa [inD, toV, isWy, eqV] using p⟩
theorem isSt_ints {a b c e : D} (h : isSt (.tup [a, b, c, e]) = true) : isWh (-1) (M18 + 1) b = true ∧ isWh (-1) (M18 + 1) c = true ∧ isWh (-1) (M18 + 1) e = true := by
  unfold isSt at h
  split at h
  · rename_i a' f m y e1
    cases e1
    simp only [Bool.and_eq_true, decide_eq_true_eq] at h
    obtain ⟨_, h2, h3, h4, _⟩ := h
    obtain ⟨y', ey, hy⟩ := isWy_int h2
    cases ey
    obtain ⟨f', ef, hf⟩ := isWh_int h3
    cases ef
    obtain ⟨m', em, hm⟩ := isWh_int h4
    cases em
    simp [isWh, M18] at hf hm ⊢
    omega
  · cases h
theorem form_zip : ∀ ss : List S4, form ss = (ss.zip (ss.drop 1)).all fun p => !p.1.goes p.2
  | [] => rfl
  | [a] => rfl
  | a :: b :: r => by
    have h := form_zip (b :: r)
    show (!a.goes b && form (b :: r)) = (!a.goes b && ((b :: r).zip r).all fun p => !p.1.goes p.2)
    rw [h] <;> rfl
theorem goes_eq (a b : S4) : a.goes b = (decide (a.w = b.w) && (decide (a.y = b.y) && decide (b.f = a.f + a.m * a.y))) := by
  unfold S4.goes S4.last
  have e : a.f + a.y * (a.m - 1) + a.y = a.f + a.m * a.y := by
    rw [Int.mul_sub, Int.mul_one, Int.mul_comm a.m a.y]; omega
  rw [e, Bool.eq_iff_iff]
  simp [and_assoc]
end
end LW
set_option Elab.async false
set_option linter.all false
set_option maxRecDepth 100000
set_option maxHeartbeats 1000000
set_option exponentiation.threshold 20000
namespace LW
open PySem L2 DL
/-! ### lines beside spans -/
def S4.line (s : S4) : S3 := ⟨s.w, if s.last < s.f then s.last else s.f, s.m⟩
def phi (a : S3) : S3 := ⟨a.w, a.lo, a.lo + a.hi - 1⟩
theorem phi_line {s : S4} (o : s.Ok) : phi s.line = s.span := by
  have h1 := o.m1
  unfold phi S4.line S4.span S4.last
  rcases o.y with e | e
  · simp only [e, S3.mk.injEq, true_and, Int.one_mul]
    split <;> split <;> omega
  · simp only [e, S3.mk.injEq, true_and]
    split <;> split <;> omega
theorem dataLt_S3 (a b : S3) : PySem.W.dataLt a.p b.p = if a.w = b.w then (if a.lo = b.lo then decide (a.hi < b.hi) else decide (a.lo < b.lo)) else PySem.W.dataLt (.str a.w) (.str b.w) := by
  unfold S3.p
  rw [PySem.W.dataLt_tuple, PySem.W.dataLt_cons (by simp [PySem.W.alike]), PySem.W.dataLt_cons (by simp [PySem.W.alike]), PySem.W.dataLt_cons (by simp [PySem.W.alike])]
  have e : PyProof.Rows.lexLt PyProof.Rows.itemOrd (PySem.W.keyToksAll []) (PySem.W.keyToksAll []) = false := PyProof.Rows.lex_irrefl _
  rw [e, PySem.W.dataLt_int, PySem.W.dataLt_int]
  simp only [PyData.eqv, beq_iff_eq]
  by_cases c3 : a.hi = b.hi
  · simp [c3]
  · simp [c3]
def slines (l : List S4) : List S3 := (l.map S4.line).mergeSort (PySem.W.dataLe false S3.p)
theorem slines_phi {l : List S4} (o : ∀ s ∈ l, s.Ok) : (slines l).map phi = sspans l := by
  unfold slines sspans
  have e : l.map S4.span = (l.map S4.line).map phi := by
    rw [List.map_map]
    exact List.map_congr_left fun s hs => (phi_line (o s hs)).symm
  rw [e]
  refine List.map_mergeSort fun a _ b _ => ?_
  rw [PySem.W.dataLe_eq]
  show (!PySem.W.dataLt _ _) = (!PySem.W.dataLt _ _)
  rw [dataLt_S3, dataLt_S3]
  congr 1
  by_cases c1 : b.w = a.w
  · by_cases c2 : b.lo = a.lo
    · simp [phi, c1, c2]
    · simp [phi, c1, c2]
  · simp [phi, c1]
theorem perm_sum {l m : List Int} (p : l.Perm m) : l.sum = m.sum := by
  induction p with
  | nil => rfl
  | cons x _ ih => simp [ih]
  | swap x y l => simp; omega
  | trans _ _ h1 h2 => exact h1.trans h2
theorem slines_sum (l : List S4) : ((slines l).map S3.hi).sum = (l.map S4.m).sum := by
  have p : ((slines l).map S3.hi).Perm ((l.map S4.line).map S3.hi) := (List.mergeSort_perm _ _).map _
  rw [perm_sum p, List.map_map] <;> rfl
def lap (a b : S3) : Bool := !(decide (a.w = b.w) && decide (b.lo < a.lo + a.hi))
theorem slines_aps {l : List S4} (o : ∀ s ∈ l, s.Ok) : (((slines l).zip ((slines l).drop 1)).all fun p => lap p.1 p.2) = aps (sspans l) := by
  rw [← slines_phi o]
  unfold aps
  rw [← List.map_drop, List.zip_map, List.all_map]
  congr 1
  funext p
  obtain ⟨a, b⟩ := p
  show lap a b = ap1 (phi a) (phi b)
  unfold lap ap1 phi
  by_cases c : a.w = b.w
  · simp only [c, decide_true, Bool.true_and, Bool.not_true, Bool.false_or]
    rw [← decide_not]
    exact decide_eq_decide.mpr (by omega)
  · simp [c]
end LW
set_option Elab.async false
set_option linter.all false
set_option maxRecDepth 100000
set_option maxHeartbeats 1000000
set_option exponentiation.threshold 20000
namespace LW
open PySem L2 DL
section
variable {d : Nat} {h : MH} {Q : D → MH → Prop} {E : DX}
theorem whole_ok {x : D} {lo hi : Int} (k : Kd h x) (q : Q (.bl (isWh lo hi x)) h) : Ph prog (d + 1) 0 [x, .int lo, .int hi] h Q E := by
  refine ph_of at_is_whole rfl ?_
  simp [f_is_whole]
  refine isTys_of k rfl rfl ?_
  cases x <;> simp [tyB, subTy] <;> try exact q
  rename_i i
  by_cases c : lo ≤ i <;> simpa [tyB, subTy, isWh, c] using q
theorem from_ok {x : D} {lo hi : Int} (k : Kd h x) (q : Q (.bl (isWh lo hi x)) h) : Ph prog (d + 1) 33 [x, .int lo, .int hi] h Q E := by
  refine ph_of at__law_is_from rfl ?_
  simp [f__law_is_from]
  refine isTys_of k rfl rfl ?_
  cases x <;> simp [tyB, subTy] <;> try exact q
  rename_i i
  by_cases c : lo ≤ i <;> simpa [tyB, subTy, isWh, c] using q
end
end LW
namespace LW
open PySem L2 DL
section
variable {d : Nat} {h : MH} {Q : D → MH → Prop} {E : DX} {p c : Addr} {n : Nat}
theorem pen_ok {ns : List Int} (q : ∀ p c h', Pen h' p c 0 → Gw h h' → Q (.ref p) h') : Ph prog (d + 1) 26 [.scr (ns.map D.int)] h Q E := by
  refine ph_of at__law_pen rfl ?_
  simp [f__law_pen]
  intro p0 h0 c hc p hp
  have e1 : cut (ns.map D.int) none (some 63) = (ns.take 63).map D.int := by rw [show (63 : Int) = ((63 : Nat) : Int) from rfl, cut_to, List.map_take]
  have nc : p ≠ c := fun z => by rw [z, up_self] at hp; cases hp
  refine q p c _ ⟨ns.take 63, 0, 0, up_self, (up_ne nc.symm).trans (by rw [up_self, e1]), by rw [List.length_take]; omega, Int.le_refl _, Int.le_refl _, Int.le_refl _⟩ (((Gw.up h0).trans (Gw.up hc)).trans (Gw.up hp))
theorem draw_ok {many : Int} (pn : Pen h p c n) (m0 : 0 < many) (mb : many.natAbs < 2 ^ 64) (hn : n < 2 ^ 60) (q : ∀ v h', 0 ≤ v → v < many → Pen h' p c (n + 1) → Gx p h h' → Q (.int v) h') : Ph prog (d + 1) 27 [.ref p, .int many] h Q E := by
  have np : p ≠ c := pn.cp.symm
  have kp : ∃ kvs, h p = some (.dct kvs) := pn.has
  obtain ⟨cs, t, l, e, ec, cl, t0, tn, l0⟩ := pn
  have dv : DivOk many := divOk m0 mb
  have vm : ∀ x : Int, 0 ≤ x % many ∧ x % many < many := fun x => ⟨Int.emod_nonneg _ (by omega), Int.emod_lt_of_pos _ m0⟩
  refine ph_of at__law_draw rfl ?_
  simp only [f__law_draw]
  rw [wpB_cons]
  simp [e]
  by_cases c1 : 0 < l
  · rw [if_pos c1]
    rw [wpB_cons]
    simp [e]
    refine ⟨m0, ?_⟩
    rw [wpB_cons]
    simp [e]
    refine ⟨dv, q _ _ (vm l).1 (vm l).2 ⟨cs, t, l / many, up_self, (up_ne np.symm).trans ec, cl, t0, by omega, Int.ediv_nonneg l0 (by omega)⟩ (Gx.refl.pen kp)⟩
  · rw [if_neg c1]
    rw [wpB_cons]
    simp [e]
    rw [wpB_cons]
    simp [e]
    rw [wpB_cons]
    simp [e]
    refine ⟨mulL (by decide), ?_⟩
    have e2 : up h p (MO.dct (penL c (t + 1) l)) p = some (.dct (penL c (t + 1) l)) := up_self
    have ec2 : up h p (MO.dct (penL c (t + 1) l)) c = some (.lst (cs.map D.int)) := (up_ne np.symm).trans ec
    have g2 : Gx p h (up h p (MO.dct (penL c (t + 1) l))) := Gx.refl.pen kp
    generalize up h p (MO.dct (penL c (t + 1) l)) = h2 at e2 ec2 g2 ⊢
    generalize 31 * t + 11 = cell0
    refine wpB_seq (fun σ h3 => ∃ cell : Int, σ = [some (D.ref p), some (D.int many), none, some (D.int t), some (D.int cell), none, none, none] ∧ h3 p = some (.dct (penL c (t + 1) l)) ∧ h3 c = some (.lst (cs.map D.int)) ∧ Gx p h h3) (fun K hK => ?_) fun σ h3 ⟨cell, es, e3, ec3, g3⟩ => ?_
    · simp [e2]
      refine ⟨fits_le (by decide), fun q1 hq1 => ?_⟩
      have n1 : p ≠ q1 := fun z => by rw [z, hq1] at e2; cases e2
      have n2 : c ≠ q1 := fun z => by rw [z, hq1] at ec2; cases ec2
      have g3 : Gx p h (up h2 q1 (.lst [])) := g2.trans ((Gw.up hq1).gx)
      have e3 : up h2 q1 (.lst []) p = _ := (up_ne n1).trans e2
      have ec3 : up h2 q1 (.lst []) c = _ := (up_ne n2).trans ec2
      refine eqD_lsts ec3 up_self (.inr rfl) ?_
      cases cs with
      | nil =>
        simp
        exact hK _ _ ⟨_, rfl, e3, ec3, g3⟩
      | cons x xs =>
        simp [e3, ec3]
        have hl : (0 : Int) < (xs.length : Int) + 1 := by omega
        have hm := Int.emod_nonneg t (Int.ne_of_gt hl)
        have hm2 := Int.emod_lt_of_pos t hl
        obtain ⟨k, hk⟩ := Int.eq_ofNat_of_zero_le hm
        rw [hk]
        have kl : k < (x :: xs).length := by rw [List.length_cons]; omega
        refine ⟨D.int ((x :: xs)[k]'kl), ?_, hK _ _ ⟨_, rfl, e3, ec3, g3⟩⟩
        show atI (D.int x :: List.map D.int xs) (k : Int) = _
        rw [DL.atI_nat, ← List.map_cons, List.getElem?_map, List.getElem?_eq_getElem kl]; rfl
    · subst es
      refine wpB_seq (fun σ h4 => σ = [some (D.ref p), some (D.int many), none, some (D.int t), some (D.int cell), none, none, none] ∧ h4 = h3) (fun K hK => ?_) fun σ h4 ⟨es, e4⟩ => ?_
      · have k0 := hK _ _ ⟨rfl, rfl⟩
        simp [e3, ec3]
        by_cases c3 : t < (cs.length : Int)
        · rw [if_pos c3]
          by_cases c4 : 1000000000000000000 ≤ if cell < 0 then -cell else cell
          · rw [if_pos c4]
            rw [wpB_cons]
            simp [e3]
            refine ⟨dv, m0, q _ _ (vm _).1 (vm _).2 ⟨cs, t + 1, _, up_self, (up_ne np.symm).trans ec3, cl, by omega, by omega, Int.ediv_nonneg (by omega) (by omega)⟩ (g3.pen ⟨_, e3⟩)⟩
          · rw [if_neg c4]; exact k0
        · rw [if_neg c3]; exact k0
      · subst es e4
        rw [wpB_cons]
        simp
        refine ⟨fits_le (by decide), fun q1 hq1 => ?_⟩
        have n1 : p ≠ q1 := fun z => by rw [z, hq1] at e3; cases e3
        have n2 : c ≠ q1 := fun z => by rw [z, hq1] at ec3; cases ec3
        have g4 : Gx p h (up h4 q1 (.lst primes)) := g3.trans ((Gw.up hq1).gx)
        have e4 : up h4 q1 (.lst primes) p = _ := (up_ne n1).trans e3
        have ec4 : up h4 q1 (.lst primes) c = _ := (up_ne n2).trans ec3
        have e5 : up h4 q1 (.lst primes) q1 = _ := up_self
        show wpB _ _ _ _ (up h4 q1 (.lst primes))
        generalize up h4 q1 (.lst primes) = h5 at g4 e4 ec4 e5 ⊢
        obtain ⟨v1, a1, b1, d1⟩ := primes_at t
        obtain ⟨v2, a2, b2, d2⟩ := primes_at (t + 2)
        rw [wpB_cons]
        simp [e5, a1]
        have tb : t.natAbs < 2 ^ 64 := by omega
        have tr : ∀ x y : Int, 0 < y → y < 2 ^ 31 → (x % y).natAbs < 2 ^ 64 := fun x y hy hz => by
          have := Int.emod_nonneg x (Int.ne_of_gt hy)
          have := Int.emod_lt_of_pos x hy
          omega
        rw [wpB_cons]
        simp
        refine ⟨b1, mulR (by decide), mulL (by decide), mulR tb, b1, ?_⟩
        rw [wpB_cons]
        simp [e5, a2]
        refine ⟨mulL (tr _ _ b1 d1), b2, ?_⟩
        refine ⟨mulL (tr _ _ b2 d2), divOk (by decide) (by decide), m0, q _ _ (vm _).1 (vm _).2 ⟨cs, t + 1, l, e4, ec4, cl, by omega, by omega, l0⟩ g4⟩
end
end LW
namespace LW
open PySem L2 DL
section
variable {d : Nat} {h : MH} {Q : D → MH → Prop} {E : DX} {p c : Addr} {n : Nat}
/-- one of a list -/
theorem pick_ok {a : Addr} {xs : List D} (pn : Pen h p c n) (hn : n < 2 ^ 60) (ea : h a = some (.lst xs)) (x0 : xs ≠ []) (xl : xs.length ≤ 16777216) (q : ∀ v h', v ∈ xs → Pen h' p c (n + 1) → Gx p h h' → Q v h') : Ph prog (d + 2) 28 [.ref p, .ref a] h Q E := by
  refine ph_of at__law_pick rfl ?_
  have l0 : 0 < xs.length := List.length_pos_iff.mpr x0
  have na : a ≠ p := fun z => by obtain ⟨k, e⟩ := pn.has; rw [← z, ea] at e; cases e
  simp [f__law_pick, ea]
  refine draw_ok (d := d) pn (by omega) (by omega) hn fun v h' v0 vm p' g => ?_
  obtain ⟨k, rfl⟩ := Int.eq_ofNat_of_zero_le v0
  have kl : k < xs.length := by omega
  refine ixD_lst (g.1 _ _ na ea) ?_ (q _ _ (List.getElem_mem kl) p' g)
  rw [DL.atI_nat, List.getElem?_eq_getElem kl]
/-- one sign of a text -/
theorem pickS_ok {z : Str} (pn : Pen h p c n) (hn : n < 2 ^ 60) (x0 : 0 < z.length) (xl : z.length ≤ 16777216) (q : ∀ v h', v ∈ z.cps.toList → Pen h' p c (n + 1) → Gx p h h' → Q (.str ⟨#[v]⟩) h') : Ph prog (d + 2) 28 [.ref p, .str z] h Q E := by
  refine ph_of at__law_pick rfl ?_
  simp [f__law_pick]
  refine ⟨fits_le xl, draw_ok (d := d) pn (by omega) (by omega) hn fun v h' v0 vm p' g => ?_⟩
  obtain ⟨k, rfl⟩ := Int.eq_ofNat_of_zero_le v0
  have kl : k < z.cps.toList.length := by
    have : z.length = z.cps.toList.length := by simp [Str.length]
    omega
  refine ⟨fits_le xl, z.cps.toList[k], ?_, q _ _ (List.getElem_mem _) p' g⟩
  rw [DL.atI_nat, List.getElem?_eq_getElem kl]
/-- a number of so many figures -/
theorem great_ok {k : Nat} (pn : Pen h p c n) (hn : n + k < 2 ^ 60) (hk : k ≤ 1000) (q : ∀ (v : Int) h', 0 ≤ v → v < 10 ^ k → Pen h' p c (n + k) → Gx p h h' → Q (.int v) h') : Ph prog (d + 2) 29 [.ref p, .int k] h Q E := by
  refine ph_of at__law_great rfl ?_
  simp only [f__law_great]
  rw [wpB_cons]
  simp
  rw [wpB_cons]
  simp
  refine ⟨by omega, ?_⟩
  refine for_rule (fun r σ h' => ∃ j v x, r.length + j = k ∧ σ = [some (D.ref p), some (D.int k), some (D.int v), x] ∧ 0 ≤ v ∧ v < 10 ^ j ∧ Pen h' p c (n + j) ∧ Gx p h h')
    (fun _ _ _ _ => trivial) (fun σ h' ⟨j, v, x, e1, e2, v0, vj, pn, g⟩ => ?_) (fun dd r σ h' K ⟨j, v, x, e1, e2, v0, vj, pn, g⟩ hK => ?_) _ _ _ ⟨0, 0, none, by simp, rfl, by decide, by simp, pn, .refl⟩
  · simp at e1; subst e1 e2
    simp
    exact q _ _ v0 vj pn g
  · subst e2
    rw [List.length_cons] at e1
    simp
    refine ⟨mulL (by decide), draw_ok (d := d) pn (by decide) (by decide) (by omega) fun w h2 w0 wm pn2 g2 => ?_⟩
    simp
    refine hK _ _ ⟨j + 1, 10 * v + w, _, by omega, rfl, by omega, ?_, pn2, g.trans g2⟩
    have : (10 : Int) ^ (j + 1) = 10 ^ j * 10 := Int.pow_succ _ _
    omega
/-- a number below, low or high ones more often -/
theorem below_ok {b : Int} (pn : Pen h p c n) (hn : n + 1000 < 2 ^ 60) (b0 : 0 < b) (bb : b < 10 ^ 19) (q : ∀ (v : Int) h', 0 ≤ v → v < b → Pen h' p c (n + 30) → Gx p h h' → Q (.int v) h') : Ph prog (d + 3) 32 [.ref p, .int b] h Q E := by
  refine ph_of at__law_below rfl ?_
  simp only [f__law_below]
  rw [wpB_cons]
  simp
  refine draw_ok (d := d + 1) pn (by decide) (by decide) (by omega) fun v h1 v0 vm pn1 g1 => ?_
  rw [wpB_cons]
  simp
  by_cases c1 : v = 0
  · rw [if_pos c1]
    refine draw_ok (d := d + 1) pn1 (by decide) (by decide) (by omega) fun w h2 w0 wm pn2 g2 => ?_
    simp
    refine q _ _ (by split <;> omega) (by split <;> omega) (pn2.mono (by omega)) (g1.trans g2)
  · rw [if_neg c1, wpB_cons]
    simp
    by_cases c2 : v = 1
    · rw [if_pos c2]
      refine draw_ok (d := d + 1) pn1 (by decide) (by decide) (by omega) fun w h2 w0 wm pn2 g2 => ?_
      simp
      refine q _ _ (by split <;> omega) (by split <;> omega) (pn2.mono (by omega)) (g1.trans g2)
    · rw [if_neg c2]
      have lb : (Str.ofString b.repr).length ≤ 19 := by
        obtain ⟨k, rfl⟩ := Int.eq_ofNat_of_zero_le (Int.le_of_lt b0)
        rw [ofString_length]
        show (Nat.repr k).length ≤ 19
        exact (Nat.length_repr_le_iff (by decide)).mpr (by omega)
      have ll : b.natAbs.log2 < 1920 := by
        rw [Nat.log2_lt (by omega)]
        exact Nat.lt_trans (show b.natAbs < 2 ^ 64 by omega) (Nat.pow_lt_pow_right (by decide) (by decide))
      generalize (Str.ofString b.repr).length = k at lb ⊢
      refine ⟨ll, fits_le (by omega), great_ok (d := d) pn1 (by omega) (by omega) fun w h2 w0 wm pn2 g2 => ?_⟩
      simp
      exact ⟨b0, q _ _ (Int.emod_nonneg _ (by omega)) (Int.emod_lt_of_pos _ b0) (pn2.mono (by omega)) (g1.trans g2)⟩
/-- a list's items in another order -/
theorem turned_ok {a : Addr} {xs : List D} (pn : Pen h p c n) (hn : n + 1000 < 2 ^ 60) (ea : h a = some (.lst xs)) (xl : xs.length ≤ 1000) (q : ∀ ys q h', (∀ y ∈ ys, y ∈ xs) → ys.length = xs.length → h q = none → h' q = some (.lst ys) → Pen h' p c (n + xs.length) → Gx p h h' → Q (.ref q) h') : Ph prog (d + 2) 31 [.ref p, .ref a] h Q E := by
  refine ph_of at__law_turned_about rfl ?_
  simp only [f__law_turned_about]
  rw [wpB_cons]
  simp [ea]
  intro b hb
  have g0 : Gw h (up h b (.lst xs)) := Gw.up hb
  have np := pn.nep hb
  have nc := pn.nec hb
  have pn := pn.gw g0
  have eb : up h b (.lst xs) b = _ := up_self
  generalize up h b (.lst xs) = h1 at g0 pn eb ⊢
  refine ⟨by omega, ?_⟩
  refine lc_rule (fun r acc h' => ∃ left, r.length = left.length ∧ acc.length + left.length = xs.length ∧ h' b = some (.lst left) ∧ (∀ y ∈ acc, y ∈ xs) ∧ (∀ y ∈ left, y ∈ xs) ∧ Pen h' p c (n + acc.length) ∧ Gx p h h')
    (fun _ _ _ _ => trivial) (fun acc h' ⟨left, e1, e2, e3, i1, i2, pn, g⟩ => ?_) (fun dd r acc h' N ⟨left, e1, e2, e3, i1, i2, pn, g⟩ hN => ?_) _ _ _ ⟨xs, by simp, by simp, eb, (fun _ z => nomatch z), fun _ z => z, pn.mono (by simp), g0.gx⟩
  · rw [List.length_cons] at e1
    simp [e3]
    refine draw_ok (d := d) pn (by omega) (by omega) (by omega) fun v h2 v0 vm pn2 g2 => ?_
    have e4 := g2.1 _ _ (Ne.symm np) e3
    obtain ⟨k, rfl⟩ := Int.eq_ofNat_of_zero_le v0
    have kl : k < left.length := by omega
    refine ⟨left, k, left[k], e4, ?_, List.getElem?_eq_getElem kl, by omega, by rw [sizeLine_eq]; omega, hN _ _ ⟨left.eraseIdx k, ?_, ?_, up_self, fun y hy => ?_, fun y hy => i2 _ (List.mem_of_mem_eraseIdx hy), (pn2.put np nc).mono ?_, ?_⟩⟩
    · rw [ixN_nat, if_pos kl]
    · rw [List.length_eraseIdx_of_lt kl]; omega
    · rw [List.length_eraseIdx_of_lt kl, List.length_append]; simp; omega
    · rcases List.mem_append.mp hy with hy | hy
      · exact i1 _ hy
      · rw [List.mem_singleton.mp hy]; exact i2 _ (List.getElem_mem kl)
    · rw [List.length_append]; simp; omega
    · exact (g.trans g2).new hb np
  · have e1 : left.length = 0 := e1.symm
    intro q1 hq1
    have n1 := pn.nep hq1
    refine q acc q1 _ i1 (by omega) (g.fresh n1 hq1) up_self ((pn.mono (by omega)).gw (Gw.up hq1)) (g.trans (Gw.up hq1).gx)
end
end LW
namespace LW
open PySem L2 DL
section
variable {d : Nat} {h : MH} {Q : D → MH → Prop} {E : DX} {p c : Addr} {n : Nat}
theorem base_lc {σ : DS} {i : Nat} {m : Nat} {K : List D → MH → Prop} (pn : Pen h p c n) (hn : n + m < 2 ^ 60) (hm : m ≤ 8)
    (hσ : ∀ x, (σ.set i (some x))[0]? = some (some (.ref p)) ∧ (σ.set i (some x))[2]? = some (some (.str letters)))
    (q : ∀ (cs : List Nat) h', cs.length = m → (∀ v ∈ cs, v ∈ letters.cps.toList) → Pen h' p c (n + m) → Gx p h h' → K (cs.map fun v => .str ⟨#[v]⟩) h') :
    lcGo (.nm i) (fun _ => True) (wpC (Ph prog (d + 2)) none) (wpE (Ph prog (d + 2)) (fun _ _ _ => False) (.call 28 [.var 0, .var 2])) σ K ((List.range m).map fun (k : Nat) => D.int k) [] h := by
  refine lc_rule (fun r acc h' => ∃ cs : List Nat, acc = cs.map (fun v => .str ⟨#[v]⟩) ∧ cs.length + r.length = m ∧ (∀ v ∈ cs, v ∈ letters.cps.toList) ∧ Pen h' p c (n + cs.length) ∧ Gx p h h')
    (fun _ _ _ _ => trivial) (fun acc h' ⟨cs, e1, e2, i1, pn, g⟩ => ?_) (fun dd r acc h' N ⟨cs, e1, e2, i1, pn, g⟩ hN => ?_) _ _ _ ⟨[], rfl, by simp, (fun _ z => nomatch z), pn, .refl⟩
  · subst e1
    rw [List.length_cons] at e2
    simp [hσ dd]
    refine pickS_ok (d := d) pn (by omega) (by decide) (by decide) fun v h2 hv pn2 g2 => ⟨by rw [sizeLine_eq]; omega, hN _ _ ⟨cs ++ [v], by simp, by rw [List.length_append]; simp; omega, fun y hy => ?_, pn2.mono (by rw [List.length_append]; simp; omega), g.trans g2⟩⟩
    rcases List.mem_append.mp hy with hy | hy
    · exact i1 _ hy
    · rw [List.mem_singleton.mp hy]; exact hv
  · subst e1
    have e2 : cs.length = m := e2
    exact q cs h' e2 i1 (e2 ▸ pn) g
theorem words_ok (pn : Pen h p c n) (hn : n + 1000 < 2 ^ 60) (q : ∀ (ws : List Str) q h', ws.length = 3 → (∀ z ∈ ws, Wd z) → h q = none → h' q = some (.lst (ws.map .str)) → Pen h' p c (n + 12) → Gx p h h' → Q (.ref q) h') : Ph prog (d + 3) 30 [.ref p, .int 3] h Q E := by
  refine ph_of at__law_words rfl ?_
  simp only [f__law_words]
  rw [wpB_cons]
  simp
  rw [wpB_cons]
  simp
  refine draw_ok (d := d + 1) pn (by decide) (by decide) (by omega) fun v h1 v0 vm pn1 g1 => ?_
  simp
  obtain ⟨b, rfl⟩ := Int.eq_ofNat_of_zero_le v0
  have em : (1 + (b : Int)).toNat = b + 1 := by omega
  rw [em]
  refine ⟨by omega, base_lc (d := d) pn1 (by omega) (by omega) (fun x => ⟨rfl, rfl⟩) fun cs h2 cl cm pn2 g2 => ?_⟩
  intro q1 hq1
  have g3 : Gx p h (up h2 q1 (.lst (cs.map fun v => .str ⟨#[v]⟩))) := (g1.trans g2).trans (Gw.up hq1).gx
  have pn3 : Pen (up h2 q1 (.lst (cs.map fun v => .str ⟨#[v]⟩))) p c (n + 9) := (pn2.gw (Gw.up hq1)).mono (by omega)
  refine ⟨_, cs.map (fun v => (⟨#[v]⟩ : Str)), up_self, ?_, ?_, ?_⟩
  · rw [show (cs.map fun v => D.str ⟨#[v]⟩) = (cs.map fun v => (⟨#[v]⟩ : Str)).map D.str by rw [List.map_map]; rfl]
    exact strs_map _
  · rw [sum_sing]
    rw [show (Str.ofString "").length = 0 by decide, Nat.mul_zero]
    omega
  have ej : Txt.join (Str.ofString "") (cs.map fun v => (⟨#[v]⟩ : Str)) = ⟨cs.toArray⟩ := by
    show Builtin.Str.glued (Str.ofString "") _ = _
    rw [StrLaws.glued_eq_join]; exact join_sing cs
  rw [ej]
  have lm : ∀ v ∈ letters.cps.toList, v < 1114112 := by decide
  have bl : (⟨cs.toArray⟩ : Str).length = cs.length := by simp [Str.length]
  generalize up h2 q1 (.lst (cs.map fun v => .str ⟨#[v]⟩)) = h4 at g3 pn3 ⊢
  clear pn2 g2 pn1 g1
  show wpB _ _ _ _ _
  have b8 : (⟨cs.toArray⟩ : Str).length ≤ 8 ∧ 0 < (⟨cs.toArray⟩ : Str).length := by omega
  have ok0 : ∀ v ∈ (⟨cs.toArray⟩ : Str).cps.toList, v < 1114112 := fun v hv => lm _ (cm _ (by simpa using hv))
  generalize (⟨cs.toArray⟩ : Str) = base at b8 ok0 ⊢
  rw [wpB_cons]
  simp
  refine ⟨fits_le (by omega), draw_ok (d := d + 1) pn3 (by omega) (by omega) (by omega) fun at' h5 a0 am pn5 g5 => ?_⟩
  try simp
  refine draw_ok (d := d + 1) pn5 (by decide) (by decide) (by omega) fun first h6 f0 fm pn6 g6 => ?_
  try simp
  refine ⟨fits_le (by decide), ?_⟩
  rw [wpB_cons]
  simp
  refine ⟨fits_le (by decide), fun q2 hq2 => ?_⟩
  refine pick_ok (d := d) (pn6.gw (Gw.up hq2)) (by omega) up_self (by simp) (by decide) fun stepD h7 hs pn7 g7 => ?_
  have : ∃ step : Int, stepD = .int step ∧ 0 < step ∧ step < 26 := by
    simp at hs
    rcases hs with h | h | h | h | h | h | h | h | h | h | h | h <;> exact ⟨_, h, by decide, by decide⟩
  obtain ⟨step, rfl, s0, sm⟩ := this
  try simp
  have g8 : Gx p h h7 := ((((g3.trans g5).trans g6).trans (Gw.up hq2).gx)).trans g7
  clear g7 hs g5 g6 g3
  obtain ⟨a, rfl⟩ := Int.eq_ofNat_of_zero_le a0
  have ls : letters.cps.toList.length = 26 := by decide
  refine lc_rule (fun r acc h' => h' = h7 ∧ (∀ x ∈ r, ∃ k : Nat, x = .int k) ∧ ∃ ws : List Str, acc = ws.map .str ∧ ws.length + r.length = 3 ∧ ∀ z ∈ ws, Wd z)
    (fun _ _ _ _ => trivial) (fun acc h' ⟨eh, ir, ws, e1, e2, i1⟩ => ?_) (fun dd r acc h' N ⟨eh, ir, ws, e1, e2, i1⟩ hN => ?_) _ _ _ ⟨rfl, ?_, [], rfl, by simp, fun _ z => nomatch z⟩
  · subst eh e1
    obtain ⟨k, rfl⟩ := ir _ List.mem_cons_self
    rw [List.length_cons] at e2
    have m0 := Int.emod_nonneg (first + step * k) (show (26 : Int) ≠ 0 by decide)
    have m1 := Int.emod_lt_of_pos (first + step * k) (show (0 : Int) < 26 by decide)
    obtain ⟨j, hj⟩ := Int.eq_ofNat_of_zero_le m0
    have jl : j < letters.cps.toList.length := by omega
    have gt : letters.cps.toList[j]? = some letters.cps.toList[j] := List.getElem?_eq_getElem jl
    have cv := lm _ (List.getElem_mem jl)
    generalize letters.cps.toList[j] = cv' at gt cv
    have e7 : cut base.cps.toList none (some (a : Int)) = base.cps.toList.take a := cut_to _ _
    have e8 : cut base.cps.toList (some ((a : Int) + 1)) none = base.cps.toList.drop (a + 1) := cut_from _ (a + 1)
    simp [e7, e8]
    refine ⟨fits_le (by omega), mulL (by omega), fits_le (by decide), cv', ?_, ?_⟩
    · rw [hj, DL.atI_nat]; exact gt
    have lb := len_list base
    have l1 : (⟨(base.cps.toList.take a).toArray⟩ : Str).length = a := by simp [Str.length] at lb am ⊢; omega
    have l2 : (⟨(base.cps.toList.drop (a + 1)).toArray⟩ : Str).length = base.length - (a + 1) := by simp [Str.length] at lb am ⊢
    have l3 : (⟨#[cv']⟩ : Str).length = 1 := rfl
    have l4 : ((⟨(base.cps.toList.take a).toArray⟩ : Str) ++ ⟨#[cv']⟩).length = a + 1 := by rw [PySem.Str.length_append, l1, l3]
    have l5 : ((⟨(base.cps.toList.take a).toArray⟩ : Str) ++ ⟨#[cv']⟩ ++ ⟨(base.cps.toList.drop (a + 1)).toArray⟩).length = base.length := by
      rw [PySem.Str.length_append, l4, l2]; omega
    refine ⟨by rw [l1, l3]; exact fits_le (by omega), fits_le (by omega), by rw [l4, l2]; exact fits_le (by omega), by rw [sizeLine_eq]; omega, hN _ _ ⟨rfl, fun x hx => ir x (List.mem_cons_of_mem _ hx), ws ++ [_], by rw [List.map_append]; rfl, by rw [List.length_append]; simp; omega, fun z hz => ?_⟩⟩
    rcases List.mem_append.mp hz with hz | hz
    · exact i1 _ hz
    · rw [List.mem_singleton.mp hz]
      refine ⟨by rw [l5]; omega, ?_⟩
      show Array.all _ _ = true
      rw [Array.all_eq_true_iff_forall_mem]
      intro x hx
      show decide (x < 1114112) = true
      have hx : x ∈ ((base.cps.toList.take a).toArray ++ #[cv']) ++ (base.cps.toList.drop (a + 1)).toArray := hx
      simp at hx
      rcases hx with hx | hx | hx
      · exact decide_eq_true (ok0 _ (by simpa using List.mem_of_mem_take hx))
      · subst hx; exact decide_eq_true cv
      · exact decide_eq_true (ok0 _ (by simpa using List.mem_of_mem_drop hx))
  · intro x hx
    simp at hx
    obtain ⟨k, _, rfl⟩ := hx
    exact ⟨k, rfl⟩
  · subst eh e1
    intro q3 hq3
    exact q ws q3 _ e2 i1 (g8.fresh (pn7.nep hq3) hq3) up_self ((pn7.gw (Gw.up hq3)).mono (by omega)) (g8.trans (Gw.up hq3).gx)
end
end LW
set_option Elab.async false
set_option linter.all false
set_option maxRecDepth 100000
set_option maxHeartbeats 1000000
set_option exponentiation.threshold 20000
namespace LW
open PySem L2 DL
section
variable {d : Nat} {h : MH} {Q : D → MH → Prop} {E : DX}
theorem last_ok {a : D} {f m y : Int} (hm : MulOk y (m - 1)) (q : Q (.int (f + y * (m - 1))) h) : Ph prog (d + 1) 3 [.tup [a, .int f, .int m, .int y]] h Q E := by
  refine ph_of at_last_of rfl ?_
  simp only [f_last_of]
  rw [wpB_cons]
  simp
  exact ⟨hm, q⟩
end
end LW
namespace LW
open PySem L2 DL
section
variable {d : Nat} {h : MH} {Q : D → MH → Prop} {E : DX}
theorem goes_ok {a b : S4} (oa : PyData.strOk a.w = true) (wa : a.y = 1 ∨ a.y = -1) (ob : PyData.strOk b.w = true) (q : Q (.bl (a.goes b)) h) : Ph prog (d + 2) 6 [a.d, b.d] h Q E := by
  refine ph_of at_goes_on rfl ?_
  simp only [f_goes_on]
  rw [wpB_cons]
  simp [S4.d]
  refine ⟨fits_le (by decide), ?_⟩
  refine eqD_tup (by simp [imms, DL.imm]) (by simp [imms, DL.imm]) (by simp [toPs, toP]; exact shaped_tup2 oa) (by simp [toPs, toP]; exact shaped_tup2 ob) ?_
  simp [toP, toPs, PyData.eqv, PyData.eqvAll]
  cases c : (a.w == b.w && a.y == b.y) with
  | false => 
    have e : a.goes b = false := by simp [S4.goes, c]
    rw [e] at q
    simp at c
    by_cases c1 : a.w = b.w
    · simp [c1, c c1, q]
    · simp [c1, q]
  | true =>
    have e : a.goes b = decide (b.f = a.last + a.y) := by simp [S4.goes, c]
    rw [e] at q
    simp at c
    simp [c]
    refine last_ok (d := d) (by rw [← c.2]; exact way_mul wa) ?_
    simpa [S4.last, c] using q
end
end LW
set_option Elab.async false
set_option linter.all false
set_option maxRecDepth 100000
set_option maxHeartbeats 1000000
set_option exponentiation.threshold 20000
namespace LW
open PySem L2 DL
section
variable {d : Nat} {h : MH} {Q : D → MH → Prop} {E : DX}
theorem joined_ok {x : D} {ss : List S4} (src : Src h x ss) (hz : ss.length ≤ 1000) (o : Good2 ss) (q : ∀ h' p, Gw h h' → h p = none → h' p = some (.lst ((jn ss).map S4.d)) → Q (.ref p) h') : Ph prog (d + 3) 7 [x] h Q E := by
  refine ph_of at_joined rfl ?_
  simp only [f_joined]
  rw [wpB_cons]
  simp
  refine ⟨fits_le (by decide), fun p hp => ?_⟩
  rw [wpB_cons]
  simp only [wpS_for, wpI_of]
  refine ⟨x, rfl, src.walk (Gw.up hp) fun ok hok => ?_⟩
  refine for_rule (fun r σ h' => ∃ done rest, ss = done ++ rest ∧ r = rest.map S4.d ∧ h' p = some (.lst ((done.foldl jn1 []).map S4.d)) ∧ Gw h h' ∧ ∃ a b c e f, σ = [some x, some (.ref p), a, b, c, e, f])
    (fun _ _ h' ⟨_, _, _, _, _, g, _⟩ => hok h' g) (fun σ h' ⟨done, rest, e1, e2, e3, g, a, b, c, e, f, e4⟩ => ?_) (fun dd r σ h' K ⟨done, rest, e1, e2, e3, g, a, b, c, e, f, e4⟩ hK => ?_) _ _ _ ⟨[], ss, rfl, rfl, up_same, Gw.up hp, none, none, none, none, none, rfl⟩
  · have : rest = [] := by simpa using e2.symm
    subst this
    rw [List.append_nil] at e1
    subst e1 e4
    simp
    exact q h' p g hp e3
  · cases rest with
    | nil => cases e2
    | cons s rest =>
      rw [List.map_cons] at e2
      cases e2
      subst e4
      have os : PyData.strOk s.w = true ∧ (s.y = 1 ∨ s.y = -1) := o s (by rw [e1]; simp)
      have od : Good2 (done.foldl jn1 []) := by
        have : ∀ (l found : List S4), Good2 found → (∀ t ∈ l, PyData.strOk t.w = true ∧ (t.y = 1 ∨ t.y = -1)) → Good2 (l.foldl jn1 found) := fun l => by
          induction l with
          | nil => intro found f _; exact f
          | cons t l ih => intro found f ht; exact ih _ (jn1_good f (ht t List.mem_cons_self)) fun u hu => ht u (List.mem_cons_of_mem _ hu)
        exact this done [] (fun _ z => nomatch z) fun t ht => o t (by rw [e1]; exact List.mem_append_left _ ht)
      have ll : (done.foldl jn1 []).length ≤ done.length := by
        have := foldl_jn_len done []
        simpa using this
      have dl : done.length < 1000 := by rw [e1] at hz; simp at hz; omega
      generalize hf : done.foldl jn1 [] = found at e3 od ll
      have nxt : (done ++ [s]).foldl jn1 [] = jn1 found s := by rw [List.foldl_append, hf] <;> rfl
      simp
      rw [wpB_cons]
      simp
      refine ⟨fits_le (by decide), fun qq hq => ?_⟩
      have np : p ≠ qq := fun z => by rw [z, hq] at e3; cases e3
      have e3' : up h' qq (.lst []) p = some (.lst (found.map S4.d)) := (up_ne np).trans e3
      have g' : Gw h' (up h' qq (.lst [])) := Gw.up hq
      refine eqD_lst (m := []) e3' up_same (fun t ht => (od t ht).1) (fun _ z => nomatch z) ?_
      have fin : ∀ (h2 : MH) (a b c e : Option D) (t : S4) (fd : List S4), fd ++ [t] = jn1 found s → Gw h h2 → h2 p = some (.lst (fd.map S4.d)) → wpB (Ph prog (d + 2)) [.ex (.met .append (.var 1) [.var 2])] { nx := K, rt := Q, bk := fun σ' h' => wpB (Ph prog (d + 2)) [Sm.ret (Ex.var 1)] { nx := fun x h' => Q D.non h', rt := Q, bk := fun x x_1 => False, ct := fun x x_1 => False, ex := fun c fs x h' => E c fs h' } σ' h', ct := K, ex := fun c fs x h' => E c fs h' } [some x, some (.ref p), some t.d, a, b, c, e] h2 := fun h2 a b c e t fd et g2 e5 => by
        simp [e5]
        refine ⟨by
          have := jn1_len found s
          rw [← et] at this
          simp at this
          rw [sizeLine_eq]; omega, ?_⟩
        refine hK _ _ ⟨done ++ [s], rest, by rw [e1]; simp, rfl, ?_, g2.up2 hp, _, _, _, _, _, rfl⟩
        rw [nxt, ← et, up_same]
        simp
      cases hl : found.getLast? with
      | none =>
        have : found = [] := List.getLast?_eq_none_iff.mp hl
        subst this
        simp
        have z := fin _ b c e f s [] (by simp [jn1]) (g.trans g') e3'
        simpa using z
      | some l =>
        have hne : found ≠ [] := fun z => by rw [z] at hl; cases hl
        have ol := od l (List.mem_of_getLast? hl)
        have hlast : found[found.length - 1]? = some l := by rw [← List.getLast?_eq_getElem?]; exact hl
        simp [hne, e3', List.getElem?_map, hlast]
        refine goes_ok (d := d) ol.1 ol.2 os.1 ?_
        have ej := jn1_last (s := s) hl
        cases gs : l.goes s with
        | false =>
          simp
          rw [gs] at ej
          have z := fin _ b c e f s found (by rw [ej]; rfl) (g.trans g') e3'
          simpa using z
        | true =>
          rw [gs] at ej
          simp
          rw [wpB_cons]
          simp [e3', List.getElem?_map, hlast]
          simp [S4.d]
          refine ⟨fits_le (by decide), by rw [sizeLine_eq]; omega, hK _ _ ⟨done ++ [s], rest, by rw [e1]; simp, rfl, ?_, ((g.trans g').up2 hp).up2 hp, _, _, _, _, _, rfl⟩⟩
          rw [nxt, ej]
          simp [S4.d, List.map_dropLast]
theorem yards_ok {x : D} {ss : List S4} (src : Src h x ss) (hz : ss.length ≤ 1000) (q : ∀ h', Gw h h' → Q (.int (ss.map S4.m).sum) h') : Ph prog (d + 1) 8 [x] h Q E := by
  refine ph_of at_yards rfl ?_
  simp only [f_yards]
  rw [wpB_cons]
  simp
  refine src.walk .refl fun ok hok => ?_
  refine lc_map (fun d => match d with
    | .tup [_, _, m, _] => [m]
    | _ => []) _ (hok _ .refl) (by rw [List.length_map, sizeLine_eq]; omega) (fun d hd acc N ha hN => ?_) (fun d hd => ?_) ?_
  · obtain ⟨s, _, rfl⟩ := List.mem_map.mp hd
    simp [S4.d]
    exact ⟨ha, hN⟩
  · obtain ⟨s, _, rfl⟩ := List.mem_map.mp hd
    simp [S4.d]
  · intro p hp
    refine ⟨_, by rw [flat_one (fun s => D.int s.m) _ _ _ fun _ _ => rfl, show (fun s : S4 => D.int s.m) = D.int ∘ S4.m from rfl, ← List.map_map]; exact ints_map _, ?_⟩
    exact q _ (Gw.up hp)
theorem turned_st {s : S4} (o : s.y = 1 ∨ s.y = -1) (q : Q (flip1 s).d h) : Ph prog (d + 2) 9 [s.d] h Q E := by
  refine ph_of at_turned_stretch rfl ?_
  simp only [f_turned_stretch]
  rw [wpB_cons]
  simp [S4.d]
  refine last_ok (d := d) (by exact way_mul o) ?_
  exact ⟨fits_le (by decide), q⟩
theorem turned_row {x : D} {ss : List S4} (src : Src h x ss) (hz : ss.length ≤ 1000) (o : Good2 ss) (q : ∀ h' p, Gw h h' → h p = none → h' p = some (.lst ((jn (ss.reverse.map flip1)).map S4.d)) → Q (.ref p) h') : Ph prog (d + 4) 10 [x] h Q E := by
  refine ph_of at_turned rfl ?_
  simp only [f_turned]
  rw [wpB_cons]
  simp [-al_eq]
  refine src.rev .refl fun ok hok => ?_
  refine lc_rule (fun r acc h' => h' = h ∧ ∃ done rest : List S4, ss.reverse = done ++ rest ∧ r = rest.map S4.d ∧ acc = (done.map flip1).map S4.d) (fun r acc h' ⟨e, _⟩ => e ▸ hok _ .refl) (fun acc h' ⟨e, done, rest, e1, e2, e3⟩ => ?_) (fun dd r acc h' N ⟨e, done, rest, e1, e2, e3⟩ hN => ?_) _ _ _ ⟨rfl, [], ss.reverse, rfl, by rw [List.map_reverse], rfl⟩
  · subst e e3
    cases rest with
    | nil => cases e2
    | cons s rest =>
      rw [List.map_cons] at e2
      cases e2
      have os := o s (List.mem_reverse.mp (by rw [e1]; simp))
      have dl : done.length < 1000 := by
        have := congrArg List.length e1
        simp at this; omega
      simp
      refine turned_st (d := d + 1) os.2 ⟨by rw [sizeLine_eq]; omega, ?_⟩
      have := hN _ h' ⟨rfl, done ++ [s], rest, by rw [e1, List.append_assoc]; rfl, rfl, rfl⟩
      simpa using this
  · subst e e3
    cases rest with
    | cons _ _ => cases e2
    | nil =>
      rw [List.append_nil] at e1
      subst e1
      refine al_rule fun p h1 hp g1 e1 => ?_
      exact joined_ok (d := d) (.inr ⟨_, rfl, e1⟩) (by simpa using hz) (good_flip o) fun h2 p2 g2 hp2 e2 => q h2 p2 (g1.trans g2) (by
        cases z : h' p2 with
        | none => rfl
        | some o => rw [g1 _ _ z] at hp2; cases hp2) e2
theorem parted_ok {x : D} {ss : List S4} {n : Int} (src : Src h x ss) (hz : ss.length ≤ 900) (o : Good2 ss) (n0 : 0 ≤ n) (n1 : n ≤ (ss.map S4.m).sum)
    (q : ∀ h' p1 p2, Gw h h' → h p1 = none → h p2 = none → p1 ≠ p2 → h' p1 = some (.lst ((jn (prt ss n).1).map S4.d)) → h' p2 = some (.lst ((jn (prt ss n).2).map S4.d)) → Q (.tup [.ref p1, .ref p2]) h') : Ph prog (d + 4) 11 [x, .int n] h Q E := by
  refine ph_of at_parted rfl ?_
  simp only [f_parted]
  rw [wpB_cons]
  simp [-al_eq, -ixD_ref_int]
  refine yards_ok (d := d + 2) src (by omega) fun h1 g1 => ?_
  try simp [-al_eq, -ixD_ref_int]
  refine whole_ok (d := d + 2) (show Kd h1 (.int n) from trivial) ?_
  have ew : isWh 0 (ss.map S4.m).sum (.int n) = true := by simp [isWh]; omega
  rw [ew]
  simp [-al_eq, -ixD_ref_int]
  rw [wpB_cons]
  simp [-al_eq, -ixD_ref_int]
  refine ⟨fits_le (by decide), al_rule fun pt h2 hpt g2 et => ⟨fits_le (by decide), al_rule fun pr h3 hpr g3 er => ⟨fits_le (by decide), ?_⟩⟩⟩
  have et := g3 _ _ et
  have ne : pt ≠ pr := fun z => by
    have z1 := g3 _ _ (show h2 pt = some (.lst []) from ‹_›)
    rw [z] at et
    have : h2 pr = some (.lst []) := by rw [← z]; exact ‹h2 pt = some (MO.lst [])›
    rw [hpr] at this; cases this
  have fr : ∀ {q}, h1 q = none → h q = none := fun {q} e => by
    cases z : h q with
    | none => rfl
    | some o => rw [g1 _ _ z] at e; cases e
  have fr2 : ∀ {q}, h2 q = none → h q = none := fun {q} e => by
    cases z : h q with
    | none => rfl
    | some o => rw [g2 _ _ (g1 _ _ z)] at e; cases e
  have hpt0 := fr hpt
  have hpr0 := fr2 hpr
  have g03 := (g1.trans g2).trans g3
  rw [wpB_cons]
  simp only [wpS_for, wpI_of]
  refine ⟨x, rfl, src.walk g03 fun ok hok => ?_⟩
  refine for_rule (fun r σ h' => ∃ (done rest tt rr : List S4) (l : Int) (a b c e f : Option D), ss = done ++ rest ∧ r = rest.map S4.d ∧ prt ss n = (tt ++ (prt rest l).1, rr ++ (prt rest l).2) ∧ 0 ≤ l ∧ Good2 tt ∧ Good2 rr ∧ tt.length ≤ done.length ∧ rr.length ≤ done.length ∧
      h' pt = some (.lst (tt.map S4.d)) ∧ h' pr = some (.lst (rr.map S4.d)) ∧ Gw h h' ∧ σ = [some x, some (.int n), some (.ref pt), some (.ref pr), some (.int l), a, b, c, e, f])
    (fun _ _ h' ⟨_, _, _, _, _, _, _, _, _, _, _, _, _, _, _, _, _, _, _, _, g, _⟩ => hok h' g) (fun σ h' ⟨done, rest, tt, rr, l, a, b, c, e, f, e1, e2, e3, l0, gt, gr, lt, lr, ht, hr, g, es⟩ => ?_) (fun dd r σ h' K ⟨done, rest, tt, rr, l, a, b, c, e, f, e1, e2, e3, l0, gt, gr, lt, lr, ht, hr, g, es⟩ hK => ?_) _ _ _
    ⟨[], ss, [], [], n, _, _, _, _, _, rfl, rfl, rfl, n0, (fun _ z => nomatch z), (fun _ z => nomatch z), Nat.le_refl _, Nat.le_refl _, et, er, g03, rfl⟩
  · subst es
    cases rest with
    | cons _ _ => cases e2
    | nil =>
      rw [List.append_nil] at e1
      subst e1
      have e4 : prt ss n = (tt, rr) := by rw [e3]; simp [prt]
      have e5 : (prt ss n).1 = tt := by rw [e4]
      have e6 : (prt ss n).2 = rr := by rw [e4]
      show wpB _ [_] _ _ _
      simp [-al_eq, -ixD_ref_int]
      refine joined_ok (d := d) (.inr ⟨_, rfl, ht⟩) (by omega) gt fun h5 p5 g5 hp5 e5' => ?_
      try simp [-al_eq, -ixD_ref_int]
      refine joined_ok (d := d) (.inr ⟨_, rfl, g5 _ _ hr⟩) (by omega) gr fun h6 p6 g6 hp6 e6' => ⟨fits_le (by decide), ?_⟩
      have fr5 : ∀ {q}, h' q = none → h q = none := fun {q} e => by
        cases z : h q with
        | none => rfl
        | some o => rw [g _ _ z] at e; cases e
      have fr6 : ∀ {q}, h5 q = none → h q = none := fun {q} e => by
        cases z : h q with
        | none => rfl
        | some o => rw [g5 _ _ (g _ _ z)] at e; cases e
      exact q h6 p5 p6 ((g.trans g5).trans g6) (fr5 hp5) (fr6 hp6) (fun z => by rw [z, hp6] at e5'; cases e5') (by rw [e5]; exact g6 _ _ e5') (by rw [e6]; exact e6')
  · subst es
    cases rest with
    | nil => cases e2
    | cons s rest =>
      rw [List.map_cons] at e2
      cases e2
      have os := o s (by rw [e1]; simp)
      have dl : done.length < 900 := by rw [e1] at hz; simp at hz; omega
      simp [S4.d, -al_eq, -ixD_ref_int]
      rw [wpB_cons]
      simp [-al_eq, -ixD_ref_int]
      rw [min_prt]
      have ep : prt (s :: rest) l = ((if 0 < (if l < s.m then l else s.m) then [⟨s.w, s.f, (if l < s.m then l else s.m), s.y⟩] else []) ++ (prt rest (l - (if l < s.m then l else s.m))).1, (if (if l < s.m then l else s.m) < s.m then [⟨s.w, s.f + s.y * (if l < s.m then l else s.m), s.m - (if l < s.m then l else s.m), s.y⟩] else []) ++ (prt rest (l - (if l < s.m then l else s.m))).2) := rfl
      have pl : 0 ≤ l - (if l < s.m then l else s.m) := by split <;> omega
      generalize (if l < s.m then l else s.m) = p at ep pl ⊢
      rw [ep] at e3
      have e3 : prt ss n = ((tt ++ (if 0 < p then [(⟨s.w, s.f, p, s.y⟩ : S4)] else [])) ++ (prt rest (l - p)).1, (rr ++ (if p < s.m then [(⟨s.w, s.f + s.y * p, s.m - p, s.y⟩ : S4)] else [])) ++ (prt rest (l - p)).2) := by
        rw [e3, List.append_assoc, List.append_assoc]
      refine wpB_seq (fun σ h2 => σ = [some x, some (.int n), some (.ref pt), some (.ref pr), some (.int l), some (.str s.w), some (.int s.f), some (.int s.m), some (.int s.y), some (.int p)] ∧
        h2 pt = some (.lst ((tt ++ (if 0 < p then [(⟨s.w, s.f, p, s.y⟩ : S4)] else [])).map S4.d)) ∧ h2 pr = some (.lst (rr.map S4.d)) ∧ Gw h h2) (fun K hK => ?_) fun σ h2 ⟨es, ht2, hr2, g2⟩ => ?_
      · simp [-al_eq, -ixD_ref_int]
        by_cases c1 : 0 < p
        · rw [if_pos c1]
          refine ⟨⟨_, ht⟩, fits_le (by decide), _, ht, by rw [List.length_map, sizeLine_eq]; omega, ?_⟩
          refine hK _ _ ⟨rfl, ?_, (up_ne ne.symm).trans hr, g.up2 hpt0⟩
          rw [up_same, if_pos c1]
          simp [S4.d]
        · rw [if_neg c1]
          exact hK _ _ ⟨rfl, by rw [if_neg c1, List.append_nil]; exact ht, hr, g⟩
      · subst es
        have gt2 : Good2 (tt ++ (if 0 < p then [(⟨s.w, s.f, p, s.y⟩ : S4)] else [])) := fun t ht => by
          rcases List.mem_append.mp ht with ht | ht
          · exact gt t ht
          · split at ht
            · rw [List.mem_singleton.mp ht]; exact os
            · cases ht
        have lt2 : (tt ++ (if 0 < p then [(⟨s.w, s.f, p, s.y⟩ : S4)] else [])).length ≤ done.length + 1 := by
          rw [List.length_append]; split <;> simp <;> omega
        generalize tt ++ (if 0 < p then [(⟨s.w, s.f, p, s.y⟩ : S4)] else []) = tt2 at e3 ht2 gt2 lt2
        refine wpB_seq (fun σ h3 => σ = [some x, some (.int n), some (.ref pt), some (.ref pr), some (.int l), some (.str s.w), some (.int s.f), some (.int s.m), some (.int s.y), some (.int p)] ∧
          h3 pt = some (.lst (tt2.map S4.d)) ∧ h3 pr = some (.lst ((rr ++ (if p < s.m then [(⟨s.w, s.f + s.y * p, s.m - p, s.y⟩ : S4)] else [])).map S4.d)) ∧ Gw h h3) (fun K hK => ?_) fun σ h3 ⟨es, ht3, hr3, g3⟩ => ?_
        · simp [-al_eq, -ixD_ref_int]
          by_cases c1 : p < s.m
          · rw [if_pos c1]
            refine ⟨⟨_, hr2⟩, way_mul os.2, fits_le (by decide), _, hr2, by rw [List.length_map, sizeLine_eq]; omega, ?_⟩
            refine hK _ _ ⟨rfl, (up_ne ne).trans ht2, ?_, g2.up2 hpr0⟩
            rw [up_same, if_pos c1]
            simp [S4.d]
          · rw [if_neg c1]
            exact hK _ _ ⟨rfl, ht2, by rw [if_neg c1, List.append_nil]; exact hr2, g2⟩
        · subst es
          have gr2 : Good2 (rr ++ (if p < s.m then [(⟨s.w, s.f + s.y * p, s.m - p, s.y⟩ : S4)] else [])) := fun t ht => by
            rcases List.mem_append.mp ht with ht | ht
            · exact gr t ht
            · split at ht
              · rw [List.mem_singleton.mp ht]; exact os
              · cases ht
          have lr2 : (rr ++ (if p < s.m then [(⟨s.w, s.f + s.y * p, s.m - p, s.y⟩ : S4)] else [])).length ≤ done.length + 1 := by
            rw [List.length_append]; split <;> simp <;> omega
          rw [wpB_cons]
          simp [-al_eq, -ixD_ref_int]
          exact hK _ _ ⟨done ++ [s], rest, _, _, l - p, _, _, _, _, _, by rw [e1]; simp, rfl, e3, pl, gt2, gr2, by simpa using lt2, by simpa using lr2, ht3, hr3, g3, rfl⟩
end
end LW
set_option Elab.async false
set_option linter.all false
set_option maxRecDepth 100000
set_option maxHeartbeats 1000000
set_option exponentiation.threshold 20000
namespace LW
open PySem L2 DL
section
variable {d : Nat} {h : MH} {Q : D → MH → Prop} {E : DX}
theorem stepped_ok {g : List Int} {st : Stp} (hl : g.length ≤ 10) (hn : st.ne) (q : ∀ h', Gw h h' → Q (gD (gst g st)) h') : Ph prog (d + 1) 12 [.tup (g.map .int), st.d] h Q E := by
  refine ph_of at_stepped rfl ?_
  simp only [f_stepped]
  cases st with
  | wind a b n =>
    rw [wpB_cons]
    simp [Stp.d, setAll, -al_eq, -ixD_ref_int]
    intro q2 hq2
    have g2 : Gw h (up h q2 (.lst [.int a, .int b, .int n])) := Gw.up hq2
    have e2 : up h q2 (.lst [.int a, .int b, .int n]) q2 = some (.lst [.int a, .int b, .int n]) := up_self
    generalize up h q2 (.lst [.int a, .int b, .int n]) = h2 at g2 e2 ⊢
    rw [wpB_cons]
    simp [-al_eq, -ixD_ref_int]
    refine ⟨_, e2, al_rule fun q3 h3 hq3 g3 e3 => ?_⟩
    have e2 := g3 _ _ e2
    have g3 := g2.trans g3
    rw [show (2 : Int) = ((2 : Nat) : Int) from rfl, cut_to] at e3
    have e3 : h3 q3 = some (.lst [.int a, .int b]) := e3
    refine wpB_seq (fun σ h4 => σ = [some (.tup (g.map .int)), some (.tup [.str "wind", .int a, .int b, .int n]), some (.str "wind"), some (.ref q2), some (.ref q3), none] ∧ h4 = h3 ∧ a < g.length ∧ b < g.length ∧ n ≤ g.getD a 0) (fun K hK => ?_) fun σ h4 ⟨es, e4, la, lb, nl⟩ => ?_
    · have bad : ¬ (a < g.length ∧ b < g.length ∧ n ≤ g.getD a 0) → Q .non h3 := fun z => by
        have := q h3 g3
        simp only [gst, if_neg z] at this
        exact this
      simp [-al_eq, -ixD_ref_int]
      refine max_two e3 ?_
      simp [-al_eq, -ixD_ref_int]
      by_cases c1 : (g.length : Int) ≤ if a < b then (b : Int) else a
      · rw [if_pos c1]
        exact bad fun z => by
          split at c1 <;> omega
      · rw [if_neg c1]
        have la : a < g.length := by split at c1 <;> omega
        have lb : b < g.length := by split at c1 <;> omega
        refine ixD_at (j := 2) e2 rfl (ixD_at (j := 0) e2 rfl ?_)
        refine ⟨_, getA la, ?_⟩
        show cop .Gt (.int n) (.int (g.getD a 0)) h3 _
        rw [cop_gt]
        by_cases c2 : g.getD a 0 < n
        · rw [if_pos (by simpa using c2)]
          exact bad fun z => by omega
        · rw [if_neg (by simpa using c2)]
          exact hK _ _ ⟨rfl, rfl, la, lb, by omega⟩
    · subst es e4
      rw [wpB_cons]
      simp [-al_eq, -ixD_ref_int]
      refine al_rule fun q5 h5 hq5 g5 e5 => ?_
      have e2' := e2
      have e2 := g5 _ _ e2
      have fq5 : h q5 = none := by
        cases z : h q5 with
        | none => rfl
        | some o => rw [g3 _ _ z] at hq5; cases hq5
      have g5 := g3.trans g5
      rw [wpB_cons]
      simp [-al_eq, -ixD_ref_int]
      rw [wpB_cons]
      simp [-al_eq, -ixD_ref_int]
      refine ixD_at (j := 0) e2 rfl (ixL_lst e5 (getI la) (ixD_at (j := 2) e2 rfl ?_))
      refine aug_sub (setD_lst e5 (by simpa using la) ?_)
      have n2 : q2 ≠ q5 := fun z => by rw [← z] at hq5; rw [e2'] at hq5; cases hq5
      rw [setI]
      have e5' : up h5 q5 (.lst ((g.set a (g.getD a 0 - n)).map D.int)) q5 = _ := up_same
      have e2'' : up h5 q5 (.lst ((g.set a (g.getD a 0 - n)).map D.int)) q2 = _ := (up_ne n2).trans e2
      have g5' : Gw h (up h5 q5 (.lst ((g.set a (g.getD a 0 - n)).map D.int))) := g5.up2 fq5
      generalize up h5 q5 (.lst ((g.set a (g.getD a 0 - n)).map D.int)) = h6 at e5' e2'' g5' ⊢
      have hn : a ≠ b := hn
      have eb : (g.set a (g.getD a 0 - n)).getD b 0 = g.getD b 0 := by
        rw [List.getD_eq_getElem?_getD, List.getElem?_set_ne hn, ← List.getD_eq_getElem?_getD]
      refine ixD_at (j := 1) e2'' rfl (ixL_lst e5' (getI (by simpa using lb)) (ixD_at (j := 2) e2'' rfl ?_))
      refine aug_add (setD_lst e5' (by simpa using lb) ?_)
      rw [setI, eb]
      have e7 : up h6 q5 (.lst (((g.set a (g.getD a 0 - n)).set b (g.getD b 0 + n)).map D.int)) q5 = _ := up_same
      have g7 : Gw h (up h6 q5 (.lst (((g.set a (g.getD a 0 - n)).set b (g.getD b 0 + n)).map D.int))) := g5'.up2 fq5
      generalize up h6 q5 (.lst (((g.set a (g.getD a 0 - n)).set b (g.getD b 0 + n)).map D.int)) = h7 at e7 g7 ⊢
      have qq := q h7 g7
      simp only [gst, if_pos (And.intro la (And.intro lb nl))] at qq
      rw [wpB_cons]
      simp [-al_eq, -ixD_ref_int]
      exact ⟨_, e7, qq⟩
  | turn a =>
    rw [wpB_cons]
    simp [Stp.d, setAll, -al_eq, -ixD_ref_int]
    intro q2 hq2
    have g2 : Gw h (up h q2 (.lst [.int a])) := Gw.up hq2
    have e2 : up h q2 (.lst [.int a]) q2 = some (.lst [.int a]) := up_self
    generalize up h q2 (.lst [.int a]) = h2 at g2 e2 ⊢
    rw [wpB_cons]
    simp [-al_eq, -ixD_ref_int]
    refine ⟨_, e2, al_rule fun q3 h3 hq3 g3 e3 => ?_⟩
    have g3 := g2.trans g3
    have e3 : h3 q3 = some (.lst [.int a]) := e3
    rw [wpB_cons]
    simp [-al_eq, -ixD_ref_int]
    refine max_one e3 ?_
    simp [-al_eq, -ixD_ref_int]
    have qq := q h3 g3
    by_cases c1 : (g.length : Int) ≤ (a : Int)
    · rw [if_pos (by omega)]
      simp only [gst, if_neg (show ¬ a < g.length by omega)] at qq
      exact qq
    · rw [if_neg (by omega)]
      have la : a < g.length := by omega
      rw [if_neg s_wt.symm]
      rw [wpB_cons]
      simp [-al_eq, -ixD_ref_int]
      refine al_rule fun q5 h5 hq5 g5 e5 => ?_
      have qq := q h5 (g3.trans g5)
      simp only [gst, if_pos la] at qq
      rw [wpB_cons]
      simp [-al_eq, -ixD_ref_int]
      rw [if_neg s_wt.symm]
      rw [wpB_cons]
      simp [-al_eq, -ixD_ref_int]
      rw [if_neg s_ts]
      exact ⟨_, e5, qq⟩
  | swap a b =>
    rw [wpB_cons]
    simp [Stp.d, setAll, -al_eq, -ixD_ref_int]
    intro q2 hq2
    have g2 : Gw h (up h q2 (.lst [.int a, .int b])) := Gw.up hq2
    have e2 : up h q2 (.lst [.int a, .int b]) q2 = some (.lst [.int a, .int b]) := up_self
    generalize up h q2 (.lst [.int a, .int b]) = h2 at g2 e2 ⊢
    rw [wpB_cons]
    simp [-al_eq, -ixD_ref_int]
    refine ⟨_, e2, al_rule fun q3 h3 hq3 g3 e3 => ?_⟩
    have e2 := g3 _ _ e2
    have g3 := g2.trans g3
    have e3 : h3 q3 = some (.lst [.int a, .int b]) := e3
    rw [wpB_cons]
    simp [-al_eq, -ixD_ref_int]
    refine max_two e3 ?_
    simp [-al_eq, -ixD_ref_int]
    have qq := q h3 g3
    by_cases c1 : (g.length : Int) ≤ if a < b then (b : Int) else a
    · rw [if_pos c1]
      simp only [gst, if_neg (show ¬ (a < g.length ∧ b < g.length) by split at c1 <;> omega)] at qq
      exact qq
    · rw [if_neg c1]
      have la : a < g.length := by split at c1 <;> omega
      have lb : b < g.length := by split at c1 <;> omega
      rw [if_neg s_ws.symm]
      rw [wpB_cons]
      simp [-al_eq, -ixD_ref_int]
      refine al_rule fun q5 h5 hq5 g5 e5 => ?_
      have e2' := e2
      have e2 := g5 _ _ e2
      have fq5 : h q5 = none := by
        cases z : h q5 with
        | none => rfl
        | some o => rw [g3 _ _ z] at hq5; cases hq5
      have g5 := g3.trans g5
      have n2 : q2 ≠ q5 := fun z => by rw [← z] at hq5; rw [e2'] at hq5; cases hq5
      rw [wpB_cons]
      simp [-al_eq, -ixD_ref_int]
      rw [if_neg s_ws.symm]
      rw [wpB_cons]
      simp [-al_eq, -ixD_ref_int]
      refine ixD_at (j := 1) e2 rfl (ixD_at e5 (getI lb) (ixD_at (j := 0) e2 rfl (ixD_at e5 (getI la) ?_)))
      refine ⟨fits_le (by decide), ?_⟩
      refine ixD_at (j := 0) e2 rfl (setD_lst e5 (by simpa using la) ?_)
      rw [setI]
      have e5' : up h5 q5 (.lst ((g.set a (g.getD b 0)).map D.int)) q5 = _ := up_same
      have e2'' : up h5 q5 (.lst ((g.set a (g.getD b 0)).map D.int)) q2 = _ := (up_ne n2).trans e2
      have g5' : Gw h (up h5 q5 (.lst ((g.set a (g.getD b 0)).map D.int))) := g5.up2 fq5
      generalize up h5 q5 (.lst ((g.set a (g.getD b 0)).map D.int)) = h6 at e5' e2'' g5' ⊢
      refine ixD_at (j := 1) e2'' rfl (setD_lst e5' (by simpa using lb) ?_)
      rw [setI]
      have e7 : up h6 q5 (.lst (((g.set a (g.getD b 0)).set b (g.getD a 0)).map D.int)) q5 = _ := up_same
      have g7 : Gw h (up h6 q5 (.lst (((g.set a (g.getD b 0)).set b (g.getD a 0)).map D.int))) := g5'.up2 fq5
      generalize up h6 q5 (.lst (((g.set a (g.getD b 0)).set b (g.getD a 0)).map D.int)) = h7 at e7 g7 ⊢
      have qq := q h7 g7
      simp only [gst, if_pos (And.intro la lb)] at qq
      exact ⟨_, e7, qq⟩
end
end LW
set_option Elab.async false
set_option linter.all false
set_option maxRecDepth 100000
set_option maxHeartbeats 1000000
set_option exponentiation.threshold 20000
namespace LW
open PySem L2 DL
section
variable {d : Nat} {h : MH} {Q : D → MH → Prop} {E : DX}
theorem srows_ok {x : D} {ys : List (List Y3)} {st : Stp} {g' : List Int} (R : Rows2 h x (ys.map nf)) (good : GoodY ys) (ht : tot ys ≤ 400) (hn : st.ne) (hp : st.pos) (e : gst (gau ys) st = some g')
    (q : ∀ h' p, Gw h h' → Rows2 h' (.ref p) ((yst ys st).map nf) → Q (.ref p) h') : Ph prog (d + 5) 20 [x, st.d] h Q E := by
  obtain ⟨ds, sq, it⟩ := R
  have gd : ∀ i, Good2 (nf (ys.getD i [])) := fun i => good_nf fun a ha => by
    obtain ⟨y, h1, h2⟩ := mem_getD ha
    exact good y h1 a h2
  have hl : ∀ i, (nf (ys.getD i [])).length ≤ 400 := fun i => Nat.le_trans (tot_getD i) ht
  refine ph_of at_stepped_rows rfl ?_
  simp only [f_stepped_rows]
  rw [wpB_cons]
  cases st with
  | wind a b n =>
    simp only [gst] at e
    split at e
    rotate_left
    · cases e
    rename_i c
    obtain ⟨c1, c2, c3⟩ := c
    rw [gau_len] at c1 c2
    rw [gau_getD c1] at c3
    cases e
    have hp : 1 ≤ n := hp
    have hn : a ≠ b := hn
    simp [Stp.d, -al_eq, -ixD_ref_int]
    refine sq.list (al_rule fun p h1 hp1 g1 e1 => ?_)
    have it1 := it.gw g1
    refine ⟨fits_le (by decide), ?_⟩
    rw [wpB_cons]
    simp [-al_eq, -ixD_ref_int]
    rw [if_neg s_wt]
    rw [wpB_cons]
    simp [-al_eq, -ixD_ref_int]
    rw [if_neg s_ws]
    obtain ⟨da, ea, sa⟩ := it1.get (a := a) (by simpa using c1)
    rw [nfs_getD c1] at sa
    refine ixD_at e1 ea ?_
    refine parted_ok (d := d) sa (by have := hl a; omega) (gd a) (by omega) (by rw [sum_ex (ex_nf _).2, (ex_nf _).1]; exact c3) fun h2 p1 p2 g2 f1 f2 n12 e21 e22 => ?_
    rw [nf_take (by omega)] at e21
    rw [nf_drop (by omega)] at e22
    have np : ∀ {r o}, h1 p = some o → h1 r = none → p ≠ r := fun {r o} a b z => by rw [z, b] at a; cases a
    have n1 := np e1 f1
    have n2 := np e1 f2
    have e1' := g2 _ _ e1
    simp [-al_eq, -ixD_ref_int]
    have la : a < ds.length := by rw [it.1]; simpa using c1
    refine setD_lst e1' la ?_
    have e3 : up h2 p (.lst (ds.set a (.ref p2))) p = some (.lst (ds.set a (.ref p2))) := up_same
    have g3 : Gw h (up h2 p (.lst (ds.set a (.ref p2)))) := (g1.trans g2).up2 hp1
    have e31 := (up_ne (h := h2) (o := .lst (ds.set a (.ref p2))) n1.symm).trans e21
    have e32 := (up_ne (h := h2) (o := .lst (ds.set a (.ref p2))) n2.symm).trans e22
    have it3 : Its (up h2 p (.lst (ds.set a (.ref p2)))) (ds.set a (.ref p2)) ((ys.map nf).set a (nf ((ys.getD a []).drop n.toNat))) := (it.gw g3).set (.inr ⟨p2, rfl, e32⟩)
    generalize up h2 p (.lst (ds.set a (.ref p2))) = h3 at e3 g3 e31 e32 it3 ⊢
    have okT : ∀ x ∈ (ys.getD a []).take n.toNat, okY x := fun x hx => by
      obtain ⟨y, h1, h2⟩ := mem_getD (List.mem_of_mem_take hx)
      exact good y h1 x h2
    have lt1 := nf_len_take_drop (y := ys.getD a []) (n := n) (by omega)
    have lt2 := hl a
    have lt3 := hl b
    refine turned_row (d := d) (.inr ⟨_, rfl, e31⟩) (by omega) (good_nf okT) fun h4 p3 g4 f4 e4 => ?_
    rw [nf_flip] at e4
    obtain ⟨db, eb, sb⟩ := it3.get (a := b) (by simpa using c2)
    have sb : Src h3 db (nf (ys.getD b [])) := by rwa [getD_set_ne hn, nfs_getD c2] at sb
    refine ixD_at (g4 _ _ e3) eb ((sb.gw g4).list (al_rule fun p4 h5 hp4 g5 e5 => ?_))
    have lt4 := nf_len_flip ((ys.getD a []).take n.toNat)
    refine ⟨_, _, g5 _ _ e4, e5, fits_le (by rw [List.length_map, List.length_map]; omega), al_rule fun p5 h6 hp5 g6 e6 => ?_⟩
    rw [← List.map_append] at e6
    have okF : Good2 (nf (((ys.getD a []).take n.toNat).reverse.map flp) ++ nf (ys.getD b [])) := good_app (good_nf fun x hx => by
      obtain ⟨y, hy, rfl⟩ := List.mem_map.mp hx
      exact okY_flp (okT y (List.mem_reverse.mp hy))) (gd b)
    refine joined_ok (d := d + 1) (.inr ⟨_, rfl, e6⟩) (by rw [List.length_append]; omega) okF fun h7 p6 g7 f7 e7 => ?_
    rw [nf_app] at e7
    have g37 := (g4.trans g5).trans (g6.trans g7)
    have e3' := g37 _ _ e3
    have n6 : p ≠ p6 := fun z => by
      have := (g4.trans (g5.trans g6)) _ _ e3
      rw [z, f7] at this; cases this
    have lb : b < (ds.set a (.ref p2)).length := by rw [List.length_set, it.1]; simpa using c2
    refine setD_lst e3' lb (q _ _ ((g3.trans g37).up2 hp1) ⟨_, .inr ⟨p, rfl, up_same⟩, ?_⟩)
    have e8 := (up_ne (h := h7) (o := .lst ((ds.set a (.ref p2)).set b (.ref p6))) n6.symm).trans e7
    have g8 : Gw h (up h7 p (.lst ((ds.set a (.ref p2)).set b (.ref p6)))) := (g3.trans g37).up2 hp1
    have it8 : Its (up h7 p (.lst ((ds.set a (.ref p2)).set b (.ref p6)))) (ds.set a (.ref p2)) ((ys.map nf).set a (nf ((ys.getD a []).drop n.toNat))) := (it.gw g8).set (.inr ⟨p2, rfl, (up_ne n2.symm).trans (g37 _ _ e32)⟩)
    have it9 := it8.set (a := b) (v := .ref p6) (.inr ⟨p6, rfl, e8⟩)
    simp only [yst, List.map_set]
    exact it9
  | turn a =>
    simp only [gst] at e
    split at e
    rotate_left
    · cases e
    rename_i c
    rw [gau_len] at c
    simp [Stp.d, -al_eq, -ixD_ref_int]
    refine sq.list (al_rule fun p h1 hp1 g1 e1 => ?_)
    have it1 := it.gw g1
    refine ⟨fits_le (by decide), ?_⟩
    rw [wpB_cons]
    simp [-al_eq, -ixD_ref_int]
    obtain ⟨da, ea, sa⟩ := it1.get (a := a) (by simpa using c)
    rw [nfs_getD c] at sa
    have lt2 := hl a
    refine ixD_at e1 ea (turned_row (d := d) sa (by omega) (gd a) fun h2 p2 g2 f2 e2 => ?_)
    rw [nf_flip] at e2
    have np : p ≠ p2 := fun z => by rw [z, f2] at e1; cases e1
    refine setD_lst (g2 _ _ e1) (by rw [it.1]; simpa using c) ?_
    have g3 : Gw h (up h2 p (.lst (ds.set a (.ref p2)))) := (g1.trans g2).up2 hp1
    refine q _ _ g3 ⟨_, .inr ⟨p, rfl, up_same⟩, ?_⟩
    have it3 := (it.gw g3).set (a := a) (v := .ref p2) (.inr ⟨p2, rfl, (up_ne np.symm).trans e2⟩)
    simp only [yst, List.map_set]
    exact it3
  | swap a b =>
    simp only [gst] at e
    split at e
    rotate_left
    · cases e
    rename_i c
    obtain ⟨c1, c2⟩ := c
    rw [gau_len] at c1 c2
    simp [Stp.d, -al_eq, -ixD_ref_int]
    refine sq.list (al_rule fun p h1 hp1 g1 e1 => ?_)
    have it1 := it.gw g1
    refine ⟨fits_le (by decide), ?_⟩
    rw [wpB_cons]
    simp [-al_eq, -ixD_ref_int]
    rw [if_neg s_ts.symm]
    obtain ⟨da, ea, sa⟩ := it1.get (a := a) (by simpa using c1)
    obtain ⟨db, eb, sb⟩ := it1.get (a := b) (by simpa using c2)
    rw [nfs_getD c1] at sa
    rw [nfs_getD c2] at sb
    refine ixD_at e1 eb (ixD_at e1 ea ⟨fits_le (by decide), setD_lst e1 (by rw [it.1]; simpa using c1) ?_⟩)
    refine setD_lst up_same (by rw [List.length_set, it.1]; simpa using c2) ?_
    have g4 : Gw h (up (up h1 p (.lst (ds.set a db))) p (.lst ((ds.set a db).set b da))) := (g1.up2 hp1).up2 hp1
    have n : ∀ {r o}, h r = some o → r ≠ p := fun {r o} e z => by rw [z, hp1] at e; cases e
    refine q _ _ g4 ⟨_, .inr ⟨p, rfl, up_same⟩, ?_⟩
    obtain ⟨da0, ea0, sa0⟩ := it.get (a := a) (by simpa using c1)
    obtain ⟨db0, eb0, sb0⟩ := it.get (a := b) (by simpa using c2)
    rw [ea] at ea0
    rw [eb] at eb0
    cases ea0
    cases eb0
    rw [nfs_getD c1] at sa0
    rw [nfs_getD c2] at sb0
    have it3 := ((it.gw g4).set (a := a) (sb0.gw g4)).set (a := b) (sa0.gw g4)
    simp only [yst, List.map_set]
    exact it3
end
end LW
set_option Elab.async false
set_option linter.all false
set_option maxRecDepth 100000
set_option maxHeartbeats 1000000
set_option exponentiation.threshold 20000
namespace LW
open PySem L2 DL
section
variable {d : Nat} {h : MH} {Q : D → MH → Prop} {E : DX}
theorem gauge_by_ok {x : D} {g : List Int} {sts : List Stp} (sq : Sq h x (sts.map Stp.d)) (hl : g.length ≤ 10) (hn : ∀ st ∈ sts, st.ne)
    (q : ∀ g' h', gby g sts 0 = .inl g' → Gw h h' → Q (.tup (g'.map .int)) h') (qe : ∀ k h', gby g sts 0 = .inr k → Gw h h' → E 2 [("at", .int (k : Nat))] h') : Ph prog (d + 2) 13 [x, .tup (g.map .int)] h Q E := by
  refine ph_of at_gauge_by rfl ?_
  simp only [f_gauge_by]
  rw [wpB_cons]
  simp [-al_eq, -ixD_ref_int]
  rw [wpB_cons]
  simp only [wpS_for, wpI_enm]
  refine ⟨x, rfl, sq.enm .refl fun ok hok => ?_⟩
  refine for_rule (fun r σ h' => ∃ (done rest : List Stp) (g1 : List Int) (a b : Option D), sts = done ++ rest ∧ r = ((rest.map Stp.d).zipIdx done.length).map (fun p => D.tup [.int (p.2 : Nat), p.1]) ∧ gby g sts 0 = gby g1 rest done.length ∧ g1.length = g.length ∧ Gw h h' ∧ σ = [some x, some (.tup (g.map .int)), some (.tup (g1.map .int)), a, b])
    (fun _ _ h' ⟨_, _, _, _, _, _, _, _, _, gw, _⟩ => hok h' gw) (fun σ h' ⟨done, rest, g1, a, b, e1, e2, e3, e4, gw, es⟩ => ?_) (fun dd r σ h' K ⟨done, rest, g1, a, b, e1, e2, e3, e4, gw, es⟩ hK => ?_) _ _ _ ⟨[], sts, g, _, _, rfl, rfl, rfl, rfl, .refl, rfl⟩
  · subst es
    cases rest with
    | cons _ _ => rw [List.map_cons, List.zipIdx_cons] at e2; cases e2
    | nil =>
      show wpB _ [_] _ _ _
      simp [-al_eq, -ixD_ref_int]
      exact q g1 h' (by rw [e3]; rfl) gw
  · subst es
    cases rest with
    | nil => cases e2
    | cons st rest =>
      rw [List.map_cons, List.zipIdx_cons, List.map_cons] at e2
      cases e2
      simp [setAll, -al_eq, -ixD_ref_int]
      rw [wpB_cons]
      simp [-al_eq, -ixD_ref_int]
      refine stepped_ok (d := d) (by omega) (hn st (by rw [e1]; simp)) fun h2 g2 => ?_
      try simp [-al_eq, -ixD_ref_int]
      cases eg : gst g1 st with
      | none =>
        have e5 : gby g sts 0 = .inr done.length := by rw [e3]; simp only [gby, eg]
        simp [gD, -al_eq, -ixD_ref_int]
        refine is_nn ?_
        rw [if_pos rfl]
        exact qe _ _ e5 (gw.trans g2)
      | some g' =>
        have e5 : gby g sts 0 = gby g' rest (done.length + 1) := by rw [e3]; simp only [gby, eg]
        simp [gD, -al_eq, -ixD_ref_int]
        refine is_tn ?_
        rw [if_neg (by simp)]
        exact hK _ _ ⟨done ++ [st], rest, g', _, _, by rw [e1]; simp, by simp, by rw [e5]; simp, by rw [gst_len eg]; exact e4, gw.trans g2, rfl⟩
theorem gauge_of_ok {ys : List (List Y3)} (hl : ys.length ≤ 10) (ht : tot ys ≤ 900) (q : ∀ h', Gw h h' → Q (.tup ((gau ys).map .int)) h') : Ph prog (d + 2) 19 [stD ys] h Q E := by
  refine ph_of at_gauge_of rfl ?_
  simp only [f_gauge_of]
  rw [wpB_cons]
  simp [stD, -al_eq, -ixD_ref_int]
  refine lc_rule (fun r acc h' => ∃ done rest : List (List Y3), ys = done ++ rest ∧ r = (rest.map nf).map rowT ∧ acc = (gau done).map D.int ∧ Gw h h') (fun _ _ _ _ => trivial) (fun acc h' ⟨done, rest, e1, e2, e3, g⟩ => ?_) (fun dd r acc h' N ⟨done, rest, e1, e2, e3, g⟩ hN => ?_) _ _ _ ⟨[], ys, rfl, by simp, rfl, .refl⟩
  · subst e3
    cases rest with
    | nil => cases e2
    | cons y rest =>
      rw [List.map_cons, List.map_cons] at e2
      cases e2
      have dl : done.length < 10 := by rw [e1] at hl; simp at hl; omega
      have hy := tot_mem (ys := ys) (y := y) (by rw [e1]; simp)
      simp [-al_eq, -ixD_ref_int]
      refine yards_ok (d := d) (ss := nf y) (.inl rfl) (by omega) fun h2 g2 => ⟨by rw [gau_len, sizeLine_eq]; omega, ?_⟩
      rw [sum_ex (ex_nf y).2, (ex_nf y).1]
      refine hN _ _ ⟨done ++ [y], rest, by rw [e1]; simp, by simp, by simp [gau], g.trans g2⟩
  · subst e3
    cases rest with
    | cons _ _ => cases e2
    | nil =>
      rw [List.append_nil] at e1
      subst e1
      exact al_rule fun p h2 hp g2 e => ⟨_, e, q h2 (g.trans g2)⟩
theorem wound_ok {x : D} {ys : List (List Y3)} {sts : List Stp} (sq : Sq h x (sts.map Stp.d)) (hl : ys.length ≤ 10) (good : GoodY ys) (ht : tot ys + sts.length ≤ 400) (hn : ∀ st ∈ sts, st.ne ∧ st.pos)
    (q : ∀ g' h', gby (gau ys) sts 0 = .inl g' → Gw h h' → Q (stD (runY ys sts)) h') (qe : ∀ k h', gby (gau ys) sts 0 = .inr k → Gw h h' → E 2 [("at", .int (k : Nat))] h') : Ph prog (d + 6) 21 [stD ys, x] h Q E := by
  refine ph_of at_wound rfl ?_
  simp only [f_wound]
  rw [wpB_cons]
  simp [-al_eq, -ixD_ref_int]
  refine gauge_of_ok (d := d + 3) hl (by omega) fun h1 g1 => ?_
  try simp [-al_eq, -ixD_ref_int]
  refine gauge_by_ok (d := d + 3) (sq.gw g1) (by rw [gau_len]; exact hl) (fun st hst => (hn st hst).1) (fun g' h2 eg g2 => ?_) (fun k h2 eg g2 => qe k h2 eg (g1.trans g2))
  try simp [-al_eq, -ixD_ref_int]
  have g12 := g1.trans g2
  rw [wpB_cons]
  simp [-al_eq, -ixD_ref_int]
  rw [wpB_cons]
  simp only [wpS_for, wpI_of]
  refine ⟨x, rfl, sq.walk g12 fun ok hok => ?_⟩
  refine for_rule (fun r σ h' => ∃ (done rest : List Stp) (xr : D) (a b : Option D), sts = done ++ rest ∧ r = rest.map Stp.d ∧ Rows2 h' xr ((runY ys done).map nf) ∧ GoodY (runY ys done) ∧ tot (runY ys done) ≤ tot ys + done.length ∧ (∃ g1, gby (gau (runY ys done)) rest done.length = .inl g1) ∧ Gw h h' ∧ σ = [some (stD ys), some x, some xr, a, b])
    (fun _ _ h' ⟨_, _, _, _, _, _, _, _, _, _, _, gw, _⟩ => hok h' gw) (fun σ h' ⟨done, rest, xr, a, b, e1, e2, R, gd, tt, eg, gw, es⟩ => ?_) (fun dd r σ h' K ⟨done, rest, xr, a, b, e1, e2, R, gd, tt, eg, gw, es⟩ hK => ?_) _ _ _
    ⟨[], sts, stD ys, _, _, rfl, rfl, ⟨(ys.map nf).map rowT, .inl rfl, by simp [runY], fun i d ss a b => ?_⟩, good, Nat.le_refl _, ⟨g', eg⟩, g12, rfl⟩
  · subst es
    cases rest with
    | cons _ _ => cases e2
    | nil =>
      rw [List.append_nil] at e1
      subst e1
      show wpB _ [_] _ _ _
      simp [-al_eq, -ixD_ref_int]
      obtain ⟨ds, sq2, it⟩ := R
      have rl := run_len ys sts
      have dsl : ds.length = ys.length := by rw [it.1, List.length_map, rl]
      refine sq2.walk .refl fun ok2 hok2 => ?_
      refine lc_rule (fun r acc h2 => ∃ k, r = ds.drop k ∧ acc = (((runY ys sts).map nf).take k).map rowT ∧ k ≤ ds.length ∧ h2 = h') (fun r acc h2 ⟨_, _, _, _, e⟩ => e ▸ hok2 _ .refl) (fun acc h2 ⟨k, k1, k2, k3, k4⟩ => ?_) (fun dd r acc h2 N ⟨k, k1, k2, k3, k4⟩ hN => ?_) _ _ _ ⟨0, rfl, rfl, Nat.zero_le _, rfl⟩
      · subst k2 k4
        have kl : k < ds.length := by
          have := congrArg List.length k1
          simp at this; omega
        rw [List.drop_eq_getElem_cons kl] at k1
        cases k1
        have kl2 : k < ((runY ys sts).map nf).length := by rw [← it.1]; exact kl
        have sd := it.2 k _ _ (List.getElem?_eq_getElem kl) (List.getElem?_eq_getElem kl2)
        simp [-al_eq, -ixD_ref_int]
        refine sd.tuple ⟨by rw [sizeLine_eq]; omega, ?_⟩
        refine hN _ _ ⟨k + 1, rfl, ?_, kl, rfl⟩
        rw [List.take_succ_eq_append_getElem kl2, List.map_append]; simp [List.map_take]
      · subst k2 k4
        have kl : ds.length ≤ k := by
          have := congrArg List.length k1
          simp at this; omega
        rw [List.take_of_length_le (by rw [← it.1]; exact kl)]
        exact al_rule fun p h3 hp g3 e => ⟨_, e, q g' h3 ‹_› (gw.trans g3)⟩
  · subst es
    cases rest with
    | nil => cases e2
    | cons st rest =>
      rw [List.map_cons] at e2
      cases e2
      obtain ⟨gg, eg⟩ := eg
      have os := hn st (by rw [e1]; simp)
      have dl : done.length < sts.length := by rw [e1]; simp
      simp [-al_eq, -ixD_ref_int]
      cases e3 : gst (gau (runY ys done)) st with
      | none => simp only [gby, e3] at eg; cases eg
      | some g3 =>
        simp only [gby, e3] at eg
        refine srows_ok (d := d) R gd (by omega) os.1 os.2 e3 fun h3 p g3' R3 => ?_
        have t3 := tot_yst os.1 os.2 e3
        refine hK _ _ ⟨done ++ [st], rest, .ref p, _, _, by rw [e1]; simp, rfl, by rw [run_snoc]; exact R3, by rw [run_snoc]; exact gd.yst, by rw [run_snoc]; simp; omega, ⟨gg, ?_⟩, gw.trans g3', rfl⟩
        rw [run_snoc, gau_yst os.1 os.2 e3]
        simpa using eg
  · have b : ((ys.map nf))[i]? = some ss := b
    rw [List.getElem?_map, b] at a
    cases a
    exact .inl rfl
end
end LW
set_option Elab.async false
set_option linter.all false
set_option maxRecDepth 100000
set_option maxHeartbeats 1000000
set_option exponentiation.threshold 20000
namespace LW
open PySem L2 DL
section
variable {d : Nat} {h : MH} {Q : D → MH → Prop} {E : DX}
theorem lsplit_ok {x : D} {ss : List S4} {n : Int} (src : Src h x ss) (hz : ss.length ≤ 900) (o : Good2 ss) (n0 : 0 ≤ n)
    (q : ∀ h' p1 p2, Gw h h' → h p1 = none → h p2 = none → p1 ≠ p2 → h' p1 = some (.lst ((prt ss n).1.map S4.d)) → h' p2 = some (.lst ((prt ss n).2.map S4.d)) → Q (.tup [.ref p1, .ref p2]) h') : Ph prog (d + 1) 39 [x, .int n] h Q E := by
  refine ph_of at__law_split rfl ?_
  simp only [f__law_split]
  rw [wpB_cons]
  simp [-al_eq, -ixD_ref_int]
  refine ⟨fits_le (by decide), al_rule fun pt h2 hpt g2 et => ⟨fits_le (by decide), al_rule fun pr h3 hpr g3 er => ⟨fits_le (by decide), ?_⟩⟩⟩
  have ne : pt ≠ pr := fun z => by rw [z, hpr] at et; cases et
  have et := g3 _ _ et
  have hpr0 : h pr = none := fresh_gw g2 hpr
  have g03 := g2.trans g3
  rw [wpB_cons]
  simp only [wpS_for, wpI_of]
  refine ⟨x, rfl, src.walk g03 fun ok hok => ?_⟩
  refine for_rule (fun r σ h' => ∃ (done rest tt rr : List S4) (l : Int) (a b c e f : Option D), ss = done ++ rest ∧ r = rest.map S4.d ∧ prt ss n = (tt ++ (prt rest l).1, rr ++ (prt rest l).2) ∧ 0 ≤ l ∧ tt.length ≤ done.length ∧ rr.length ≤ done.length ∧
      h' pt = some (.lst (tt.map S4.d)) ∧ h' pr = some (.lst (rr.map S4.d)) ∧ Gw h h' ∧ σ = [some x, some (.int l), some (.ref pt), some (.ref pr), a, b, c, e, f])
    (fun _ _ h' ⟨_, _, _, _, _, _, _, _, _, _, _, _, _, _, _, _, _, _, g, _⟩ => hok h' g) (fun σ h' ⟨done, rest, tt, rr, l, a, b, c, e, f, e1, e2, e3, l0, lt, lr, ht, hr, g, es⟩ => ?_) (fun dd r σ h' K ⟨done, rest, tt, rr, l, a, b, c, e, f, e1, e2, e3, l0, lt, lr, ht, hr, g, es⟩ hK => ?_) _ _ _
    ⟨[], ss, [], [], n, _, _, _, _, _, rfl, rfl, rfl, n0, Nat.le_refl _, Nat.le_refl _, et, er, g03, rfl⟩
  · subst es
    cases rest with
    | cons _ _ => cases e2
    | nil =>
      rw [List.append_nil] at e1
      subst e1
      have e4 : prt ss n = (tt, rr) := by rw [e3]; simp [prt]
      have e5 : (prt ss n).1 = tt := by rw [e4]
      have e6 : (prt ss n).2 = rr := by rw [e4]
      show wpB _ [_] _ _ _
      simp [-al_eq, -ixD_ref_int]
      exact ⟨fits_le (by decide), q h' pt pr g hpt hpr0 ne (by rw [e5]; exact ht) (by rw [e6]; exact hr)⟩
  · subst es
    cases rest with
    | nil => cases e2
    | cons s rest =>
      rw [List.map_cons] at e2
      cases e2
      have os := o s (by rw [e1]; simp)
      have dl : done.length < 900 := by rw [e1] at hz; simp at hz; omega
      simp [S4.d, -al_eq, -ixD_ref_int]
      rw [wpB_cons]
      simp [-al_eq, -ixD_ref_int]
      rw [min_prt]
      have ep : prt (s :: rest) l = ((if 0 < (if l < s.m then l else s.m) then [⟨s.w, s.f, (if l < s.m then l else s.m), s.y⟩] else []) ++ (prt rest (l - (if l < s.m then l else s.m))).1, (if (if l < s.m then l else s.m) < s.m then [⟨s.w, s.f + s.y * (if l < s.m then l else s.m), s.m - (if l < s.m then l else s.m), s.y⟩] else []) ++ (prt rest (l - (if l < s.m then l else s.m))).2) := rfl
      have pl : 0 ≤ l - (if l < s.m then l else s.m) := by split <;> omega
      generalize (if l < s.m then l else s.m) = p at ep pl ⊢
      rw [ep] at e3
      have e3 : prt ss n = ((tt ++ (if 0 < p then [(⟨s.w, s.f, p, s.y⟩ : S4)] else [])) ++ (prt rest (l - p)).1, (rr ++ (if p < s.m then [(⟨s.w, s.f + s.y * p, s.m - p, s.y⟩ : S4)] else [])) ++ (prt rest (l - p)).2) := by
        rw [e3, List.append_assoc, List.append_assoc]
      rw [wpB_cons]
      simp [-al_eq, -ixD_ref_int]
      refine wpB_seq (fun σ h2 => σ = [some x, some (.int (l - p)), some (.ref pt), some (.ref pr), some (.str s.w), some (.int s.f), some (.int s.m), some (.int s.y), some (.int p)] ∧
        h2 pt = some (.lst ((tt ++ (if 0 < p then [(⟨s.w, s.f, p, s.y⟩ : S4)] else [])).map S4.d)) ∧ h2 pr = some (.lst (rr.map S4.d)) ∧ Gw h h2) (fun K hK => ?_) fun σ h2 ⟨es, ht2, hr2, g2⟩ => ?_
      · simp [-al_eq, -ixD_ref_int]
        by_cases c1 : 0 < p
        · rw [if_pos c1]
          refine ⟨⟨_, ht⟩, fits_le (by decide), _, ht, by rw [List.length_map, sizeLine_eq]; omega, ?_⟩
          refine hK _ _ ⟨rfl, ?_, (up_ne ne.symm).trans hr, g.up2 hpt⟩
          rw [up_same, if_pos c1]
          simp [S4.d]
        · rw [if_neg c1]
          exact hK _ _ ⟨rfl, by rw [if_neg c1, List.append_nil]; exact ht, hr, g⟩
      · subst es
        have lt2 : (tt ++ (if 0 < p then [(⟨s.w, s.f, p, s.y⟩ : S4)] else [])).length ≤ done.length + 1 := by
          rw [List.length_append]; split <;> simp <;> omega
        generalize tt ++ (if 0 < p then [(⟨s.w, s.f, p, s.y⟩ : S4)] else []) = tt2 at e3 ht2 lt2
        have lr2 : (rr ++ (if p < s.m then [(⟨s.w, s.f + s.y * p, s.m - p, s.y⟩ : S4)] else [])).length ≤ done.length + 1 := by
          rw [List.length_append]; split <;> simp <;> omega
        have fin : ∀ h3, h3 pt = some (.lst (tt2.map S4.d)) → h3 pr = some (.lst ((rr ++ (if p < s.m then [(⟨s.w, s.f + s.y * p, s.m - p, s.y⟩ : S4)] else [])).map S4.d)) → Gw h h3 → K [some x, some (.int (l - p)), some (.ref pt), some (.ref pr), some (.str s.w), some (.int s.f), some (.int s.m), some (.int s.y), some (.int p)] h3 := fun h3 ht3 hr3 g3 =>
          hK _ _ ⟨done ++ [s], rest, _, _, l - p, _, _, _, _, _, by rw [e1]; simp, rfl, e3, pl, by simpa using lt2, by simpa using lr2, ht3, hr3, g3, rfl⟩
        simp [-al_eq, -ixD_ref_int]
        by_cases c1 : p < s.m
        · rw [if_pos c1]
          refine ⟨⟨_, hr2⟩, way_mul os.2, fits_le (by decide), _, hr2, by rw [List.length_map, sizeLine_eq]; omega, ?_⟩
          refine fin _ ((up_ne ne).trans ht2) ?_ (g2.up2 hpr0)
          rw [up_same, if_pos c1]
          simp [S4.d]
        · rw [if_neg c1]
          exact fin _ ht2 (by rw [if_neg c1, List.append_nil]; exact hr2) g2
theorem flipped_ok {r : Addr} {ss : List S4} (er : h r = some (.lst (ss.map S4.d))) (hz : ss.length ≤ 900) (o : Good2 ss)
    (q : ∀ h' p, Gw h h' → h p = none → h' p = some (.lst ((ss.reverse.map flip1).map S4.d)) → Q (.ref p) h') : Ph prog (d + 1) 40 [.ref r] h Q E := by
  refine ph_of at__law_flipped rfl ?_
  simp only [f__law_flipped]
  rw [wpB_cons]
  simp [-al_eq, -ixD_ref_int]
  refine ⟨_, er, al_rule fun q1 h1 hq1 g1 e1 => ⟨_, e1, ?_⟩⟩
  refine lc_rule (fun r acc h' => h' = h1 ∧ ∃ done rest : List S4, ss.reverse = done ++ rest ∧ r = rest.map S4.d ∧ acc = (done.map flip1).map S4.d) (fun r acc h' ⟨e, _⟩ => by rw [e]; exact e1) (fun acc h' ⟨e, done, rest, m1, m2, m3⟩ => ?_) (fun dd r acc h' N ⟨e, done, rest, m1, m2, m3⟩ hN => ?_) _ _ _ ⟨rfl, [], ss.reverse, rfl, by rw [List.map_reverse], rfl⟩
  · subst e m3
    cases rest with
    | nil => cases m2
    | cons s rest =>
      rw [List.map_cons] at m2
      cases m2
      have os := o s (List.mem_reverse.mp (by rw [m1]; simp))
      have dl : done.length < 900 := by
        have := congrArg List.length m1
        simp at this; omega
      simp [S4.d, -al_eq, -ixD_ref_int]
      refine ⟨way_mul os.2, fits_le (by decide), by rw [sizeLine_eq]; omega, ?_⟩
      have := hN (acc' := ((done ++ [s]).map flip1).map S4.d) (h' := h') ⟨rfl, done ++ [s], rest, by rw [m1]; simp, rfl, rfl⟩
      simpa [S4.d, flip1, S4.last] using this
  · subst e m3
    cases rest with
    | cons _ _ => cases m2
    | nil =>
      rw [List.append_nil] at m1
      subst m1
      exact al_rule fun p h2 hp g2 e2 => q h2 p (g1.trans g2) (fresh_gw g1 hp) e2
end
end LW
set_option Elab.async false
set_option linter.all false
set_option maxRecDepth 100000
set_option maxHeartbeats 1000000
set_option exponentiation.threshold 20000
namespace LW
open PySem L2 DL
section
variable {d : Nat} {h : MH} {Q : D → MH → Prop} {E : DX}
/-- a tuple turned about -/
theorem flippedT_ok {ss : List S4} (hz : ss.length ≤ 900) (o : Good2 ss)
    (q : ∀ h' p, Gw h h' → h p = none → h' p = some (.lst ((ss.reverse.map flip1).map S4.d)) → Q (.ref p) h') : Ph prog (d + 1) 40 [.tup (ss.map S4.d)] h Q E := by
  refine ph_of at__law_flipped rfl ?_
  simp only [f__law_flipped]
  rw [wpB_cons]
  simp [-al_eq, -ixD_ref_int]
  rw [← List.map_reverse]
  refine lc_rule (fun r acc h' => h' = h ∧ ∃ done rest : List S4, ss.reverse = done ++ rest ∧ r = rest.map S4.d ∧ acc = (done.map flip1).map S4.d) (fun r acc h' ⟨e, _⟩ => trivial) (fun acc h' ⟨e, done, rest, m1, m2, m3⟩ => ?_) (fun dd r acc h' N ⟨e, done, rest, m1, m2, m3⟩ hN => ?_) _ _ _ ⟨rfl, [], ss.reverse, rfl, rfl, rfl⟩
  · subst e m3
    cases rest with
    | nil => cases m2
    | cons s rest =>
      rw [List.map_cons] at m2
      cases m2
      have os := o s (List.mem_reverse.mp (by rw [m1]; simp))
      have dl : done.length < 900 := by
        have := congrArg List.length m1
        simp at this; omega
      simp [S4.d, -al_eq, -ixD_ref_int]
      refine ⟨way_mul os.2, fits_le (by decide), by rw [sizeLine_eq]; omega, ?_⟩
      have := hN (acc' := ((done ++ [s]).map flip1).map S4.d) (h' := h') ⟨rfl, done ++ [s], rest, by rw [m1]; simp, rfl, rfl⟩
      simpa [S4.d, flip1, S4.last] using this
  · subst e m3
    cases rest with
    | cons _ _ => cases m2
    | nil =>
      rw [List.append_nil] at m1
      subst m1
      exact al_rule fun p h2 hp g2 e2 => q h2 p g2 hp e2
end
end LW
set_option Elab.async false
set_option linter.all false
set_option maxRecDepth 100000
set_option maxHeartbeats 1000000
set_option exponentiation.threshold 20000
namespace LW
open PySem L2 DL
section
variable {d : Nat} {h : MH} {Q : D → MH → Prop} {E : DX}
theorem onerow_ok {x : D} {ss : List S4} (src : Src h x ss) (hl : ss.length ≤ 1000) (o : Good2 ss) (q : ∀ h', Gw h h' → Q (rowT (jn ss)) h') : Ph prog (d + 1) 41 [x] h Q E := by
  refine ph_of at__law_one_row rfl ?_
  simp only [f__law_one_row]
  rw [wpB_cons]
  simp [-al_eq]
  refine ⟨fits_le (by decide), al_rule fun q1 h1 hq1 g1 e1 => ?_⟩
  rw [wpB_cons]
  simp only [wpS_for, wpI_of]
  refine ⟨x, rfl, src.walk g1 fun ok hok => ?_⟩
  refine for_rule (fun R σ h' => ∃ (done rest : List S4) (x2 x3 x4 x5 : Option D), ss = done ++ rest ∧ R = rest.map S4.d ∧ σ = [some x, some (.ref q1), x2, x3, x4, x5] ∧ h' q1 = some (.lst ((jn done).map S4.d)) ∧ Gw h h')
    (fun _ _ h' ⟨_, _, _, _, _, _, _, _, _, _, g⟩ => hok h' g) (fun σ h' ⟨done, rest, x2, x3, x4, x5, e1, e2, es, eq, g⟩ => ?_) (fun dd R σ h' K ⟨done, rest, x2, x3, x4, x5, e1, e2, es, eq, g⟩ hK => ?_) _ _ _ ⟨[], ss, _, _, _, _, rfl, rfl, rfl, e1, g1⟩
  · have : rest = [] := by simpa using e2.symm
    subst this es
    rw [List.append_nil] at e1
    subst e1
    show wpB _ [_] _ _ _
    simp [-al_eq, -ixD_ref_int]
    exact ⟨_, eq, q h' g⟩
  · cases rest with
    | nil => cases e2
    | cons s rest =>
    rw [List.map_cons] at e2
    cases e2
    subst es
    have y1 := (o s (by rw [e1]; simp)).2
    have dl : done.length < 1000 := by rw [e1] at hl; simp at hl; omega
    have nl := jn_len done
    have nx : jn (done ++ [s]) = jn1 (jn done) s := by simp [jn]
    have fin : ∀ (fd : List S4) (z2 z3 z4 z5 : Option D) h2, jn (done ++ [s]) = fd → h2 q1 = some (.lst (fd.map S4.d)) → Gw h h2 → K [some x, some (.ref q1), z2, z3, z4, z5] h2 := fun fd z2 z3 z4 z5 h2 en e g2 =>
      hK _ _ ⟨done ++ [s], rest, _, _, _, _, by rw [e1, List.append_assoc]; rfl, rfl, rfl, by rw [en]; exact e, g2⟩
    obtain ⟨w, f, m, yy⟩ := s
    simp only at y1
    have app : ∀ h2, Gw h h2 → h2 q1 = some (.lst ((jn done).map S4.d)) → jn (done ++ [⟨w, f, m, yy⟩]) = jn done ++ [⟨w, f, m, yy⟩] → (∃ xs, h2 q1 = some (.lst xs)) ∧ Fits 4 ∧ ∃ xs, h2 q1 = some (.lst xs) ∧ xs.length < sizeLine ∧ K [some x, some (.ref q1), some (.str w), some (.int f), some (.int m), some (.int yy)] (up h2 q1 (.lst (xs ++ [.tup [.str w, .int f, .int m, .int yy]]))) := fun h2 g2 e en => by
      refine ⟨⟨_, e⟩, fits_le (by decide), _, e, by rw [List.length_map, sizeLine_eq]; omega, ?_⟩
      rw [show (jn done).map S4.d ++ [.tup [.str w, .int f, .int m, .int yy]] = (jn done ++ [(⟨w, f, m, yy⟩ : S4)]).map S4.d by simp [S4.d]]
      exact fin _ _ _ _ _ _ en up_self (g2.up2 hq1)
    simp [S4.d, -al_eq, -ixD_ref_int]
    refine ⟨fits_le (by decide), al_rule fun q2 h2 hq2 g2 e2 => ?_⟩
    have eq2 := g2 _ _ eq
    refine eqD_lsts eq2 e2 (.inr rfl) ?_
    rcases snoc_cases (jn done) with z | ⟨ini, l, z⟩
    · rw [z]
      rw [z] at nx
      simp
      exact app h2 (g.trans g2) eq2 (by rw [nx, z]; rfl)
    · have nx2 := nx
      have eq3 := eq2
      rw [z] at eq2 nx nl
      rw [z]
      rw [jn1_con] at nx
      simp [-al_eq, -ixD_ref_int]
      have el : h2 q1 = some (.lst (ini.map S4.d ++ [l.d])) := by rw [eq2]; simp
      have no : ¬ (l.w = w ∧ l.y = yy ∧ f = l.f + l.y * l.m) → (∃ xs, h2 q1 = some (.lst xs)) ∧ Fits 4 ∧ ∃ xs, h2 q1 = some (.lst xs) ∧ xs.length < sizeLine ∧ K [some x, some (.ref q1), some (.str w), some (.int f), some (.int m), some (.int yy)] (up h2 q1 (.lst (xs ++ [.tup [.str w, .int f, .int m, .int yy]]))) := fun hh => by
        have hh : ¬ l.goes ⟨w, f, m, yy⟩ = true := fun z => hh (goes_iff.mp z)
        rw [if_neg hh] at nx
        exact app h2 (g.trans g2) eq3 (by rw [nx, z])
      refine ixD_last el ?_
      simp [S4.d, -al_eq, -ixD_ref_int]
      by_cases c1 : l.w = w
      · rw [if_pos c1]
        refine ixD_last el ?_
        simp [S4.d, -al_eq, -ixD_ref_int]
        by_cases c2 : l.y = yy
        · rw [if_pos c2]
          refine ixD_last el ?_
          simp [S4.d, -al_eq, -ixD_ref_int]
          refine ixD_last el ?_
          simp [S4.d, -al_eq, -ixD_ref_int]
          refine ⟨mulR (by rcases y1 with rfl | rfl <;> decide), ?_⟩
          by_cases c3 : f = l.f + l.m * yy
          · rw [if_pos c3]
            refine ixD_last el ?_
            simp [S4.d, -al_eq, -ixD_ref_int]
            refine ixD_last el ?_
            simp [S4.d, -al_eq, -ixD_ref_int]
            refine ⟨fits_le (by decide), .inl ⟨_, -1, ini.length, rfl, el, ?_, ?_⟩⟩
            · rw [List.length_append, List.length_map]; exact ixN_neg1
            · have e9 : (ini.map S4.d ++ [l.d]).set ini.length (.tup [.str w, .int l.f, .int (l.m + m), .int yy]) = (ini ++ [(⟨l.w, l.f, l.m + m, l.y⟩ : S4)]).map S4.d := by
                rw [List.set_append_right _ _ (by simp)]
                simp [S4.d, c1, c2]
              rw [e9]
              have gg : l.goes ⟨w, f, m, yy⟩ = true := goes_iff.mpr ⟨c1, c2, by show f = l.f + l.y * l.m; rw [c3, c2, Int.mul_comm]⟩
              rw [if_pos gg] at nx
              exact fin _ _ _ _ _ _ nx up_self ((g.trans g2).up2 hq1)
          · rw [if_neg c3]
            exact no fun z => c3 (by rw [z.2.2, c2, Int.mul_comm])
        · rw [if_neg c2]; exact no fun z => c2 z.2.1
      · rw [if_neg c1]; exact no fun z => c1 z.1
end
end LW
set_option Elab.async false
set_option linter.all false
set_option maxRecDepth 100000
set_option maxHeartbeats 1000000
set_option exponentiation.threshold 20000
namespace LW
open PySem L2 DL
section
variable {d : Nat} {h : MH} {Q : D → MH → Prop} {E : DX}
theorem lstep_ok {a b : Nat} {n : Int} (ha : a ≤ 5) (hb : b ≤ 5) (ab : a ≠ b) (n1 : 1 ≤ n) (n2 : n ≤ 1000000000000000000) (q : ∀ h', Gw h h' → Q (.bl true) h') : Ph prog (d + 2) 35 [(Stp.wind a b n).d] h Q E := by
  refine ph_of at__law_is_step rfl ?_
  simp only [f__law_is_step]
  rw [wpB_cons]
  simp [Stp.d, -al_eq, -ixD_ref_int]
  rw [if_pos (by decide)]
  have hs : PyData.strOk "wind" = true := by decide +kernel
  have hw : inD (.str "wind") [.str "wind", .str "turn", .str "swap", .str "do"] = true := by decide +kernel
  refine ⟨fits_le (by decide), eqD_tup (by simp [imms, imm]) rfl (by simp [SeqAt.shaped, toPs, toP, PyData.canLay0, PyData.canLayAll0, PyData.depth, PyData.depthAll, hs]) (by rfl) ?_⟩
  rw [show PyData.eqvAll (toPs [.str "wind", .int (a : Int), .int (b : Int), .int n]) (toPs []) = false from rfl, if_neg (by simp)]
  refine ⟨fits_le (by decide), ⟨rfl, rfl, ?_⟩⟩
  simp only [hw, if_true]
  rw [wpB_cons]
  simp [-al_eq, -ixD_ref_int]
  refine al_rule fun q1 h1 hq1 g1 e1 => .inr ⟨_, .inr "wind", .int 4, rfl, e1, by simp [getK], ?_⟩
  simp [-al_eq, -ixD_ref_int]
  have wd : ("wind" : Str) ≠ "do" := by decide +kernel
  rw [wpB_cons]
  simp [-al_eq, -ixD_ref_int]
  rw [if_neg wd]
  rw [wpB_cons]
  simp [-al_eq, -ixD_ref_int]
  rw [if_neg s_wt]
  rw [show cut [D.str "wind", .int (a : Int), .int (b : Int), .int n] (some 1) (some 3) = [.int (a : Int), .int (b : Int)] from rfl]
  rw [wpB_cons]
  simp [-al_eq, -ixD_ref_int]
  have fr : ∀ (k : Nat), k ≤ 5 → isWh 0 5 (.int (k : Int)) = true := fun k hk => by simp [isWh]; omega
  refine lc_rule (fun r acc h' => h' = h1 ∧ acc = [] ∧ ∀ v ∈ r, ∃ k : Nat, v = .int (k : Int) ∧ k ≤ 5) (fun _ _ _ _ => trivial) (fun acc h' ⟨e, ea, _⟩ => ?_) (fun dd r acc h' N ⟨e, ea, hv⟩ hN => ?_) _ _ _ ⟨rfl, rfl, fun v hv => by
    simp at hv
    rcases hv with rfl | rfl
    · exact ⟨a, rfl, ha⟩
    · exact ⟨b, rfl, hb⟩⟩
  · subst e ea
    obtain ⟨k, rfl, hk⟩ := hv dd (by simp)
    simp [-al_eq, -ixD_ref_int]
    refine from_ok (d := d) (show Kd h' (.int (k : Int)) from trivial) ?_
    rw [fr k hk]
    simp
    exact hN _ _ ⟨rfl, rfl, fun v hv' => hv v (List.mem_cons_of_mem _ hv')⟩
  · subst e ea
    refine al_rule fun q2 h2 hq2 g2 e2 => ⟨fits_le (by decide), al_rule fun q3 h3 hq3 g3 e3 => ?_⟩
    refine eqD_lsts (g3 _ _ e2) e3 (.inr rfl) ?_
    simp only [List.length_nil, decide_true, if_true]
    rw [wpB_cons]
    simp [-al_eq, -ixD_ref_int]
    rw [if_neg s_wt, if_neg (by omega)]
    refine from_ok (d := d) (show Kd h3 (.int n) from trivial) ?_
    rw [show isWh 1 1000000000000000000 (.int n) = true by simp [isWh]; omega]
    exact q h3 ((g1.trans g2).trans g3)
end
end LW
set_option Elab.async false
set_option linter.all false
set_option maxRecDepth 100000
set_option maxHeartbeats 1000000
set_option exponentiation.threshold 20000
namespace LW
open PySem L2 DL
section
variable {d : Nat} {h : MH} {Q : D → MH → Prop} {E : DX}
theorem swound_ok {q0 : Addr} {ys : List (List Y3)} {a b : Nat} {n : Int} (eq : h q0 = some (.lst [(Stp.wind a b n).d])) (hl : ys.length ≤ 6) (good : GoodY ys) (ht : tot ys ≤ 400) (ha : a < ys.length) (hb : b < ys.length) (ab : a ≠ b) (n1 : 1 ≤ n) (n2 : n ≤ 1000000000000000000) (n3 : n ≤ (ys.getD a []).length)
    (q : ∀ h', Gw h h' → Q (stD (yst ys (.wind a b n))) h') : Ph prog (d + 3) 42 [stD ys, .ref q0] h Q E := by
  have gd : ∀ i, Good2 (nf (ys.getD i [])) := fun i => good_nf fun x hx => by
    obtain ⟨y, h1, h2⟩ := mem_getD hx
    exact good y h1 x h2
  have hl2 : ∀ i, (nf (ys.getD i [])).length ≤ 400 := fun i => Nat.le_trans (tot_getD i) ht
  refine ph_of at__law_stretches_wound rfl ?_
  simp only [f__law_stretches_wound]
  rw [wpB_cons]
  simp [stD, -al_eq, -ixD_ref_int]
  refine lc_rule (fun r acc h' => ∃ k, r = ((ys.map nf).map rowT).drop k ∧ k ≤ ys.length ∧ Its h' acc ((ys.map nf).take k) ∧ (∀ d ∈ acc, ∃ r, d = D.ref r) ∧ Gw h h') (fun _ _ _ _ => trivial) (fun acc hc ⟨k, k1, k2, it, rf, g⟩ => ?_) (fun dd r acc h' N ⟨k, k1, k2, it, rf, g⟩ hN => ?_) _ _ _ ⟨0, by simp, Nat.zero_le _, its_nil, (fun _ z => nomatch z), .refl⟩
  · have kl : k < ys.length := by
      have := congrArg List.length k1
      simp at this; omega
    rw [List.drop_eq_getElem_cons (by simpa using kl)] at k1
    rw [List.getElem_map, List.getElem_map] at k1
    cases k1
    simp [rowT, -al_eq, -ixD_ref_int]
    refine al_rule fun q1 h2 hq1 g2 e2 => ⟨by have := it.1; rw [List.length_take] at this; rw [sizeLine_eq]; omega, ?_⟩
    refine hN _ _ ⟨k + 1, rfl, kl, ?_, fun d hd => by
      rcases List.mem_append.mp hd with hd | hd
      · exact rf d hd
      · exact ⟨q1, List.mem_singleton.mp hd⟩, g.trans g2⟩
    rw [List.take_succ_eq_append_getElem (by simpa using kl), List.getElem_map]
    exact (it.gw g2).snoc (.inr ⟨q1, rfl, e2⟩)
  · have kl : ys.length ≤ k := by
      have := congrArg List.length k1
      simp at this; omega
    rw [List.take_of_length_le (by simpa using kl)] at it
    refine al_rule fun p h1 hp g1 e1 => ?_
    have G1 := g.trans g1
    have fp := fresh_gw g hp
    have np : q0 ≠ p := fun z => by rw [z, fp] at eq; cases eq
    rw [wpB_cons]
    simp only [wpS_for, wpI_of]
    refine ⟨.ref q0, rfl, _, G1 _ _ eq, ?_⟩
    refine for_rule (fun r σ h' => Gw hc h' ∧ ∃ (ds : List D) (x3 x5 x6 x7 x8 x9 x10 x4 : Option D), σ = [some (.tup (ys.map (rowT ∘ nf))), some (.ref q0), some (.ref p), x3, x4, x5, x6, x7, x8, x9, x10] ∧ h' p = some (.lst ds) ∧ ((r = [(Stp.wind a b n).d] ∧ ds = acc) ∨ (r = [] ∧ Its h' ds (((ys.map nf).set a (prt (nf (ys.getD a [])) n).2).set b ((prt (nf (ys.getD a [])) n).1.reverse.map flip1 ++ nf (ys.getD b []))))))
      (fun _ _ h' ⟨g', _⟩ => g' _ _ (g _ _ eq)) (fun σ h' ⟨g', ds, x3, x5, x6, x7, x8, x9, x10, x4, es, ed, c⟩ => ?_) (fun dd r σ h' K ⟨g', ds, x3, x5, x6, x7, x8, x9, x10, x4, es, ed, c⟩ hK => ?_) _ _ _
      ⟨g1, _, _, _, _, _, _, _, _, _, rfl, e1, .inl ⟨rfl, rfl⟩⟩
    · subst es
      rcases c with ⟨c, _⟩ | ⟨_, it2⟩
      · cases c
      show wpB _ [_] _ _ _
      simp [-al_eq, -ixD_ref_int]
      refine ⟨_, ed, ?_⟩
      obtain ⟨q1', q2', q3', q4', q5'⟩ := prt_ok (ex_nf (ys.getD a [])).2 (show 0 ≤ n by omega)
      have gp := good_prt (n := n) (gd a)
      have lnA := hl2 a
      have lnB := hl2 b
      have ok1 : ∀ ss ∈ ((ys.map nf).set a (prt (nf (ys.getD a [])) n).2).set b ((prt (nf (ys.getD a [])) n).1.reverse.map flip1 ++ nf (ys.getD b [])), ss.length ≤ 1000 ∧ Good2 ss := fun ss hss => by
        rcases List.mem_or_eq_of_mem_set hss with hss | rfl
        · rcases List.mem_or_eq_of_mem_set hss with hss | rfl
          · obtain ⟨y, hy, rfl⟩ := List.mem_map.mp hss
            exact ⟨by have := tot_mem hy; omega, good_nf (good y hy)⟩
          · exact ⟨by split at q5' <;> omega, gp.2⟩
        · exact ⟨by rw [List.length_append, List.length_map, List.length_reverse]; split at q5' <;> omega, good_app (good_flip gp.1) (gd b)⟩
      have jw := jn_wind (ys := ys) (a := a) (b := b) (n := n) ha hb (by omega)
      generalize ((ys.map nf).set a (prt (nf (ys.getD a [])) n).2).set b ((prt (nf (ys.getD a [])) n).1.reverse.map flip1 ++ nf (ys.getD b [])) = SSS at it2 ok1 jw
      refine lc_rule (fun r acc2 h2 => ∃ k, r = ds.drop k ∧ acc2 = ((SSS.map jn).take k).map rowT ∧ k ≤ ds.length ∧ Gw h' h2) (fun _ _ h2 ⟨_, _, _, _, g2⟩ => g2 _ _ ed) (fun acc2 h2 ⟨k, k1, k2, k3, g2⟩ => ?_) (fun dd r acc2 h2 N ⟨k, k1, k2, k3, g2⟩ hN => ?_) _ _ _ ⟨0, rfl, rfl, Nat.zero_le _, .refl⟩
      · subst k2
        have kl : k < ds.length := by
          have := congrArg List.length k1
          simp at this; omega
        rw [List.drop_eq_getElem_cons kl] at k1
        cases k1
        have kl2 : k < SSS.length := by rw [← it2.1]; exact kl
        have sd := it2.2 k _ _ (List.getElem?_eq_getElem kl) (List.getElem?_eq_getElem kl2)
        obtain ⟨o1, o2⟩ := ok1 _ (List.getElem_mem kl2)
        have yl : SSS.length ≤ 6 := by
          have := congrArg List.length jw
          simp [yst_len] at this; omega
        simp [-al_eq, -ixD_ref_int]
        refine onerow_ok (d := d + 1) (sd.gw g2) o1 o2 fun h3 g3 => ⟨by rw [sizeLine_eq]; omega, ?_⟩
        have := hN (acc' := ((SSS.map jn).take (k + 1)).map rowT) (h' := h3) ⟨k + 1, rfl, rfl, kl, g2.trans g3⟩
        rw [List.take_succ_eq_append_getElem (by simpa using kl2), List.map_append] at this
        simpa using this
      · subst k2
        have kl : ds.length ≤ k := by
          have := congrArg List.length k1
          simp at this; omega
        rw [List.take_of_length_le (by rw [List.length_map, ← it2.1]; exact kl), jw]
        exact al_rule fun p5 h3 hp5 g3 e5 => ⟨_, e5, q h3 (((g.trans g').trans g2).trans g3)⟩
    · subst es
      rcases c with ⟨c, ce⟩ | ⟨c, _⟩
      rotate_left
      · cases c
      cases c
      subst ce
      simp only [bindT_nm, List.set]
      rw [wpB_cons]
      simp [-al_eq, -ixD_ref_int]
      refine lstep_ok (d := d) (by omega) (by omega) ab n1 n2 fun h2 g2 => ?_
      simp [Stp.d, -al_eq, -ixD_ref_int]
      rw [show cut [D.str "wind", .int (a : Int), .int (b : Int), .int n] (some 1) (some 3) = [.int (a : Int), .int (b : Int)] from rfl]
      refine max_twoT ⟨_, g2 _ _ ed, ?_⟩
      have dsl : ds.length = ys.length := by rw [it.1]; simp
      have it3 := it.gw (g'.trans g2)
      have ed3 := g2 _ _ ed
      rw [cop_ge, if_neg (by simp; split <;> omega)]
      rw [wpB_cons]
      simp [setAll, -al_eq, -ixD_ref_int]
      rw [wpB_cons]
      simp [-al_eq, -ixD_ref_int]
      obtain ⟨da, ea, sa⟩ := it3.get (a := a) (by simpa using ha)
      rw [nfs_getD ha] at sa
      refine ixD_at ed3 ea (sa.walk .refl fun ok hok => ?_)
      refine lsum_ok (by have := hl2 a; omega) (by simp) (hok _ .refl) (al_rule fun q4 h4 hq4 g4 e4 => ⟨_, _, e4, ints_map _, ?_⟩)
      rw [sum_ex (ex_nf _).2, (ex_nf _).1]
      simp [-al_eq, -ixD_ref_int]
      rw [if_neg (by rw [← List.getD_eq_getElem?_getD]; omega)]
      have ed4 := g4 _ _ ed3
      rw [wpB_cons]
      simp [-al_eq, -ixD_ref_int]
      refine ixD_at ed4 ea (lsplit_ok (d := d + 1) (sa.gw g4) (by have := hl2 a; omega) (gd a) (by omega) fun h5 p1 p2 g5 f1 f2 n12 e51 e52 => ?_)
      have ed5 := g5 _ _ ed4
      have pp1 : p ≠ p1 := fun z => by rw [z, f1] at ed4; cases ed4
      have pp2 : p ≠ p2 := fun z => by rw [z, f2] at ed4; cases ed4
      simp [-al_eq, -ixD_ref_int]
      refine setD_lst ed5 (by rw [dsl]; exact ha) ?_
      have e6 : up h5 p (.lst (ds.set a (.ref p2))) p = some (.lst (ds.set a (.ref p2))) := up_same
      have g6 : Gw hc (up h5 p (.lst (ds.set a (.ref p2)))) := ((((g'.trans g2).trans g4)).trans g5).up2 hp
      have e61 := (up_ne (h := h5) (o := .lst (ds.set a (.ref p2))) pp1.symm).trans e51
      have e62 := (up_ne (h := h5) (o := .lst (ds.set a (.ref p2))) pp2.symm).trans e52
      have it6 := (it.gw g6).set (a := a) (v := .ref p2) (.inr ⟨p2, rfl, e62⟩)
      generalize up h5 p (.lst (ds.set a (.ref p2))) = h6 at e6 g6 e61 e62 it6 ⊢
      obtain ⟨q1', q2', q3', q4', q5'⟩ := prt_ok (ex_nf (ys.getD a [])).2 (show 0 ≤ n by omega)
      have lnA := hl2 a
      have lnB := hl2 b
      have gp := good_prt (n := n) (gd a)
      refine flipped_ok (d := d + 1) e61 (by split at q5' <;> omega) gp.1 fun h7 p3 g7 f3 e7 => ?_
      obtain ⟨db, eb, sb⟩ := it6.get (a := b) (by simpa using hb)
      rw [getD_set_ne ab, nfs_getD hb] at sb
      refine ixD_at (g7 _ _ e6) eb ?_
      have dbm : db ∈ ds := by
        rw [List.getElem?_set_ne ab] at eb
        exact List.mem_of_getElem? eb
      obtain ⟨rb, rfl⟩ := rf db dbm
      have hb7 : h7 rb = some (.lst ((nf (ys.getD b [])).map S4.d)) := by
        rcases sb with sb | ⟨r', sb, sb2⟩
        · cases sb
        · cases sb; exact g7 _ _ sb2
      have pl1 : ((prt (nf (ys.getD a [])) n).1.reverse.map flip1).length ≤ 401 := by
        rw [List.length_map, List.length_reverse]; split at q5' <;> omega
      refine ⟨_, _, e7, hb7, fits_le (by have := pl1; simp only [List.length_map, List.length_reverse] at this ⊢; omega), al_rule fun p4 h8 hp4 g8 e8 => ?_⟩
      rw [← List.map_append] at e8
      have e68 := g8 _ _ (g7 _ _ e6)
      have pp4 : p ≠ p4 := fun z => by
        have := g7 _ _ e6
        rw [z, hp4] at this; cases this
      refine setD_lst e68 (by rw [List.length_set, dsl]; exact hb) ?_
      have g9 : Gw hc (up h8 p (.lst ((ds.set a (.ref p2)).set b (.ref p4)))) := by
        have : Gw hc h6 := by assumption
        exact ((this.trans g7).trans g8).up2 hp
      have e94 := (up_ne (h := h8) (o := .lst ((ds.set a (.ref p2)).set b (.ref p4))) pp4.symm).trans e8
      have e92 := (up_ne (h := h8) (o := .lst ((ds.set a (.ref p2)).set b (.ref p4))) pp2.symm).trans (g8 _ _ (g7 _ _ e62))
      have it9 := ((it.gw g9).set (a := a) (v := .ref p2) (.inr ⟨p2, rfl, e92⟩)).set (a := b) (v := .ref p4) (.inr ⟨p4, rfl, e94⟩)
      exact hK _ _ ⟨g9, _, _, _, _, _, _, _, _, _, rfl, up_same, .inr ⟨rfl, it9⟩⟩
end
end LW
set_option Elab.async false
set_option linter.all false
set_option maxRecDepth 100000
set_option maxHeartbeats 1000000
set_option exponentiation.threshold 20000
namespace LW
open PySem L2 DL
section
variable {d : Nat} {h : MH} {Q : D → MH → Prop} {E : DX}
theorem swoundL_ok {q0 : Addr} {ys : List (List Y3)} {sts : List Stp} {g' : List Int} (eq : h q0 = some (.lst (sts.map Stp.d))) (hl : ys.length ≤ 6) (good : GoodY ys) (ht : tot ys + sts.length ≤ 800) (hn : ∀ st ∈ sts, Wnd st) (eg : gby (gau ys) sts 0 = .inl g')
    (q : ∀ h', Gw h h' → Q (stD (runY ys sts)) h') : Ph prog (d + 3) 42 [stD ys, .ref q0] h Q E := by
  refine ph_of at__law_stretches_wound rfl ?_
  simp only [f__law_stretches_wound]
  rw [wpB_cons]
  simp [stD, -al_eq, -ixD_ref_int]
  refine lc_rule (fun r acc h' => ∃ k, r = ((ys.map nf).map rowT).drop k ∧ k ≤ ys.length ∧ Its h' acc ((ys.map nf).take k) ∧ (∀ d ∈ acc, ∃ r, d = D.ref r) ∧ Gw h h') (fun _ _ _ _ => trivial) (fun acc hc ⟨k, k1, k2, it, rf, g⟩ => ?_) (fun dd r acc h' N ⟨k, k1, k2, it, rf, g⟩ hN => ?_) _ _ _ ⟨0, by simp, Nat.zero_le _, its_nil, (fun _ z => nomatch z), .refl⟩
  · have kl : k < ys.length := by
      have := congrArg List.length k1
      simp at this; omega
    rw [List.drop_eq_getElem_cons (by simpa using kl)] at k1
    rw [List.getElem_map, List.getElem_map] at k1
    cases k1
    simp [rowT, -al_eq, -ixD_ref_int]
    refine al_rule fun q1 h2 hq1 g2 e2 => ⟨by have := it.1; rw [List.length_take] at this; rw [sizeLine_eq]; omega, ?_⟩
    refine hN _ _ ⟨k + 1, rfl, kl, ?_, fun d hd => by
      rcases List.mem_append.mp hd with hd | hd
      · exact rf d hd
      · exact ⟨q1, List.mem_singleton.mp hd⟩, g.trans g2⟩
    rw [List.take_succ_eq_append_getElem (by simpa using kl), List.getElem_map]
    exact (it.gw g2).snoc (.inr ⟨q1, rfl, e2⟩)
  · have kl : ys.length ≤ k := by
      have := congrArg List.length k1
      simp at this; omega
    rw [List.take_of_length_le (by simpa using kl)] at it
    have R0 : Rwy (ys.map nf) ys (tot ys) := by
      refine ⟨?_, fun ss hs => ?_, fun ss hs => ?_, ?_⟩
      · rw [List.map_map]
        exact (List.map_congr_left fun y _ => (ex_nf y).1).trans (List.map_id ys)
      · obtain ⟨y, _, rfl⟩ := List.mem_map.mp hs
        exact (ex_nf y).2
      · obtain ⟨y, hy, rfl⟩ := List.mem_map.mp hs
        exact good_nf (good y hy)
      · rw [List.length_flatten, List.map_map]
        exact Nat.le_refl _
    refine al_rule fun p h1 hp g1 e1 => ?_
    have G1 := g.trans g1
    have fp := fresh_gw g hp
    have np : q0 ≠ p := fun z => by rw [z, fp] at eq; cases eq
    have rf0 : ∀ d ∈ acc, ∃ r, d = D.ref r ∧ r ≠ p := fun d hd => by
      obtain ⟨r, rfl⟩ := rf d hd
      obtain ⟨i, hi, e⟩ := List.getElem_of_mem hd
      refine ⟨r, rfl, fun z => ?_⟩
      rcases it.2 i (.ref r) ((ys.map nf)[i]'(by rw [← it.1]; exact hi)) (by rw [List.getElem?_eq_getElem hi, e]) (List.getElem?_eq_getElem _) with y | ⟨r', y, y2⟩
      · cases y
      · cases y; rw [z, hp] at y2; cases y2
    rw [wpB_cons]
    simp only [wpS_for, wpI_of]
    refine ⟨.ref q0, rfl, _, G1 _ _ eq, ?_⟩
    refine for_rule (fun r σ h' => Gw h h' ∧ ∃ (done rest : List Stp) (ds : List D) (sss : List (List S4)) (x3 x5 x6 x7 x8 x9 x10 x4 : Option D), sts = done ++ rest ∧ r = rest.map Stp.d ∧ σ = [some (.tup (ys.map (rowT ∘ nf))), some (.ref q0), some (.ref p), x3, x4, x5, x6, x7, x8, x9, x10] ∧ h' p = some (.lst ds) ∧ Its h' ds sss ∧ (∀ d ∈ ds, ∃ r, d = D.ref r ∧ r ≠ p) ∧ Rwy sss (runY ys done) (tot ys + done.length) ∧ ∃ g2, gby (gau (runY ys done)) rest 0 = .inl g2)
      (fun _ _ h' ⟨g', _⟩ => g' _ _ eq) (fun σ h' ⟨g', done, rest, ds, sss, x3, x5, x6, x7, x8, x9, x10, x4, es1, es2, es, ed, it2, rf, R, gg⟩ => ?_) (fun dd r σ h' K ⟨g', done, rest, ds, sss, x3, x5, x6, x7, x8, x9, x10, x4, es1, es2, es, ed, it2, rf, R, gg⟩ hK => ?_) _ _ _
      ⟨G1, [], sts, acc, _, _, _, _, _, _, _, _, _, rfl, rfl, rfl, e1, it.gw g1, rf0, R0, _, eg⟩
    · subst es
      have : rest = [] := by simpa using es2.symm
      subst this
      rw [List.append_nil] at es1
      subst es1
      show wpB _ [_] _ _ _
      simp [-al_eq, -ixD_ref_int]
      refine ⟨_, ed, ?_⟩
      have Rl := R.l
      have rl := run_len ys sts
      have sl := R.len
      refine lc_rule (fun r acc2 h2 => ∃ k, r = ds.drop k ∧ acc2 = ((sss.map jn).take k).map rowT ∧ k ≤ ds.length ∧ Gw h' h2) (fun _ _ h2 ⟨_, _, _, _, g2⟩ => g2 _ _ ed) (fun acc2 h2 ⟨k, k1, k2, k3, g2⟩ => ?_) (fun dd r acc2 h2 N ⟨k, k1, k2, k3, g2⟩ hN => ?_) _ _ _ ⟨0, rfl, rfl, Nat.zero_le _, .refl⟩
      · subst k2
        have kl : k < ds.length := by
          have := congrArg List.length k1
          simp at this; omega
        rw [List.drop_eq_getElem_cons kl] at k1
        cases k1
        have kl2 : k < sss.length := by rw [← it2.1]; exact kl
        have sd := it2.2 k _ _ (List.getElem?_eq_getElem kl) (List.getElem?_eq_getElem kl2)
        have o1 : (sss[k]).length ≤ 1000 := by
          have := fl_getS (sss := sss) k
          rw [List.getD_eq_getElem?_getD, List.getElem?_eq_getElem kl2] at this
          have this : (sss[k]).length ≤ sss.flatten.length := this
          omega
        have o2 := R.gd _ (List.getElem_mem kl2)
        simp [-al_eq, -ixD_ref_int]
        refine onerow_ok (d := d + 1) (sd.gw g2) o1 o2 fun h3 g3 => ⟨by rw [sizeLine_eq]; omega, ?_⟩
        have := hN (acc' := ((sss.map jn).take (k + 1)).map rowT) (h' := h3) ⟨k + 1, rfl, rfl, kl, g2.trans g3⟩
        rw [List.take_succ_eq_append_getElem (by simpa using kl2), List.map_append] at this
        simpa using this
      · subst k2
        have kl : ds.length ≤ k := by
          have := congrArg List.length k1
          simp at this; omega
        rw [List.take_of_length_le (by rw [List.length_map, ← it2.1]; exact kl)]
        have jw : sss.map jn = (runY ys sts).map nf := by
          rw [← R.e, List.map_map]
          exact List.map_congr_left fun ss hs => jn_ex (R.ps ss hs)
        rw [jw]
        exact al_rule fun p5 h3 hp5 g3 e5 => ⟨_, e5, q h3 ((g'.trans g2).trans g3)⟩
    · subst es
      cases rest with
      | nil => cases es2
      | cons st rest =>
      rw [List.map_cons] at es2
      cases es2
      obtain ⟨a, b, n, rfl, ab, n1, n2⟩ := hn st (by rw [es1]; simp)
      have rl := run_len ys done
      have rs := run_snoc ys done (.wind a b n)
      obtain ⟨g2', gg⟩ := gg
      unfold gby at gg
      cases e3 : gst (gau (runY ys done)) (.wind a b n) with
      | none => rw [e3] at gg; cases gg
      | some g3 =>
      rw [e3] at gg
      have e30 := gau_yst (ys := runY ys done) (st := .wind a b n) ab n1 e3
      simp only [gst] at e3
      split at e3
      rotate_left
      · cases e3
      rename_i c
      obtain ⟨ha, hb, n3⟩ := c
      rw [gau_len] at ha hb
      rw [gau_getD ha] at n3
      generalize eYY : runY ys done = Y at rl rs R gg e30 ha hb n3
      simp only [bindT_nm, List.set]
      rw [wpB_cons]
      simp [-al_eq, -ixD_ref_int]
      refine lstep_ok (d := d) (by omega) (by omega) ab n1 n2 fun h2 g2 => ?_
      simp [Stp.d, -al_eq, -ixD_ref_int]
      rw [show cut [D.str "wind", .int (a : Int), .int (b : Int), .int n] (some 1) (some 3) = [.int (a : Int), .int (b : Int)] from rfl]
      refine max_twoT ⟨_, g2 _ _ ed, ?_⟩
      have sl := R.len
      have dsl : ds.length = Y.length := by rw [it2.1, sl]
      have it3 := it2.gw g2
      have ed3 := g2 _ _ ed
      rw [cop_ge, if_neg (by simp; split <;> omega)]
      rw [wpB_cons]
      simp [setAll, -al_eq, -ixD_ref_int]
      rw [wpB_cons]
      simp [-al_eq, -ixD_ref_int]
      obtain ⟨da, ea, sa⟩ := it3.get (a := a) (by omega)
      have Rl := R.l
      have dl : done.length + 1 ≤ sts.length := by rw [es1]; simp
      have lnA := fl_getS (sss := sss) a
      have lnB := fl_getS (sss := sss) b
      refine ixD_at ed3 ea (sa.walk .refl fun ok hok => ?_)
      refine lsumX_ok (by omega) (by simp) (hok _ .refl) (al_rule fun q4 h4 hq4 g4 e4 => ⟨_, _, e4, ints_map _, ?_⟩)
      rw [sum_ex (R.psD a), R.at]
      simp [-al_eq, -ixD_ref_int]
      rw [if_neg (by rw [← List.getD_eq_getElem?_getD]; omega)]
      have ed4 := g4 _ _ ed3
      rw [wpB_cons]
      simp [-al_eq, -ixD_ref_int]
      refine ixD_at ed4 ea (lsplit_ok (d := d + 1) (sa.gw g4) (by omega) (R.gdD a) (by omega) fun h5 p1 p2 g5 f1 f2 n12 e51 e52 => ?_)
      have ed5 := g5 _ _ ed4
      have pp1 : p ≠ p1 := fun z => by rw [z, f1] at ed4; cases ed4
      have pp2 : p ≠ p2 := fun z => by rw [z, f2] at ed4; cases ed4
      simp [-al_eq, -ixD_ref_int]
      refine setD_lst ed5 (by rw [dsl]; exact ha) ?_
      have e6 : up h5 p (.lst (ds.set a (.ref p2))) p = some (.lst (ds.set a (.ref p2))) := up_same
      have g6 : Gw h (up h5 p (.lst (ds.set a (.ref p2)))) := (((g'.trans g2).trans g4).trans g5).up2 fp
      have e61 := (up_ne (h := h5) (o := .lst (ds.set a (.ref p2))) pp1.symm).trans e51
      have e62 := (up_ne (h := h5) (o := .lst (ds.set a (.ref p2))) pp2.symm).trans e52
      have keep6 : ∀ (z : Addr) l, z ≠ p → h' z = some (.lst l) → up h5 p (.lst (ds.set a (.ref p2))) z = some (.lst l) := fun z l nz e => (up_ne nz).trans (g5 _ _ (g4 _ _ (g2 _ _ e)))
      have it6 := (it2.keep rf keep6).set (a := a) (v := .ref p2) (.inr ⟨p2, rfl, e62⟩)
      have rf6 : ∀ d ∈ ds.set a (.ref p2), ∃ r, d = D.ref r ∧ r ≠ p := fun d hd => by
        rcases List.mem_or_eq_of_mem_set hd with hd | rfl
        · exact rf d hd
        · exact ⟨p2, rfl, pp2.symm⟩
      generalize up h5 p (.lst (ds.set a (.ref p2))) = h6 at e6 g6 e61 e62 it6 ⊢
      have gp := good_prt (n := n) (R.gdD a)
      obtain ⟨_, _, _, _, q5'⟩ := prt_ok (R.psD a) (show 0 ≤ n by omega)
      rw [if_pos (by omega)] at q5'
      refine flipped_ok (d := d + 1) e61 (by omega) gp.1 fun h7 p3 g7 f3 e7 => ?_
      obtain ⟨db, eb, sb⟩ := it6.get (a := b) (by rw [List.length_set]; omega)
      rw [getD_set_ne ab] at sb
      refine ixD_at (g7 _ _ e6) eb ?_
      obtain ⟨rb, rfl, nrb⟩ := rf6 db (List.mem_of_getElem? eb)
      have hb7 : h7 rb = some (.lst ((sss.getD b []).map S4.d)) := by
        rcases sb with sb | ⟨r', sb, sb2⟩
        · cases sb
        · cases sb; exact g7 _ _ sb2
      have pl1 : ((prt (sss.getD a []) n).1.reverse.map flip1).length ≤ 801 := by
        rw [List.length_map, List.length_reverse]; omega
      refine ⟨_, _, e7, hb7, fits_le (by simp only [List.length_map, List.length_reverse] at pl1 ⊢; omega), al_rule fun p4 h8 hp4 g8 e8 => ?_⟩
      rw [← List.map_append] at e8
      have e68 := g8 _ _ (g7 _ _ e6)
      have pp4 : p ≠ p4 := fun z => by
        have := g7 _ _ e6
        rw [z, hp4] at this; cases this
      refine setD_lst e68 (by rw [List.length_set, dsl]; exact hb) ?_
      have g9 : Gw h (up h8 p (.lst ((ds.set a (.ref p2)).set b (.ref p4)))) := ((g6.trans g7).trans g8).up2 fp
      have e94 := (up_ne (h := h8) (o := .lst ((ds.set a (.ref p2)).set b (.ref p4))) pp4.symm).trans e8
      have keep9 : ∀ (z : Addr) l, z ≠ p → h6 z = some (.lst l) → up h8 p (.lst ((ds.set a (.ref p2)).set b (.ref p4))) z = some (.lst l) := fun z l nz e => (up_ne nz).trans (g8 _ _ (g7 _ _ e))
      have it9 := (it6.keep rf6 keep9).set (a := b) (v := .ref p4) (.inr ⟨p4, rfl, e94⟩)
      have rf9 : ∀ d ∈ (ds.set a (.ref p2)).set b (.ref p4), ∃ r, d = D.ref r ∧ r ≠ p := fun d hd => by
        rcases List.mem_or_eq_of_mem_set hd with hd | rfl
        · exact rf6 d hd
        · exact ⟨p4, rfl, pp4.symm⟩
      have R9 := R.wind ha hb ab n1
      refine hK _ _ ⟨g9, done ++ [.wind a b n], rest, _, _, _, _, _, _, _, _, _, _, by rw [es1]; simp, rfl, rfl, up_same, it9, rf9, ?_, g2', ?_⟩
      · rw [rs, List.length_append, List.length_singleton]; exact R9
      · rw [rs, e30]
        exact gby_shift gg
end
end LW
set_option Elab.async false
set_option linter.all false
set_option maxRecDepth 100000
set_option maxHeartbeats 1000000
set_option exponentiation.threshold 20000
namespace LW
open PySem L2 DL
section
variable {d : Nat} {h : MH} {Q : D → MH → Prop} {E : DX} {p c : Addr} {n : Nat}
theorem gstretches_ok {a : Addr} {ws : List Str} (pn : Pen h p c n) (hn : n + 1000 < 2 ^ 60) (ea : h a = some (.lst (ws.map .str))) (w3 : ws.length = 3) (wd : ∀ z ∈ ws, Wd z)
    (q : ∀ ts q h', h q = none → h' q = some (.lst ts) → ts.length ≤ 16 → (∀ x ∈ ts, T3 x) → Pen h' p c (n + 400) → Gx p h h' → Q (.ref q) h') : Ph prog (d + 4) 37 [.ref p, .ref a] h Q E := by
  refine ph_of at__law_great_stretches rfl ?_
  simp only [f__law_great_stretches]
  rw [wpB_cons]
  simp [-al_eq]
  refine ⟨fits_le (by decide), al_rule fun q1 h1 hq1 g1 e1 => al_rule fun q2 h2 hq2 g2 e2 => ⟨fits_le (by decide), al_rule fun q3 h3 hq3 g3 e3 => ?_⟩⟩
  have g := g1.trans (g2.trans g3)
  refine pick_ok (d := d + 1) (pn.gw g) (by omega) e3 (by simp) (by simp) fun mD h4 hm pn4 g4 => ?_
  have : ∃ most : Nat, mD = .int most ∧ 1 ≤ most ∧ most ≤ 17 := by
    simp at hm
    rcases hm with rfl | rfl
    · exact ⟨8, rfl, by decide, by decide⟩
    · exact ⟨17, rfl, by decide, by decide⟩
  obtain ⟨most, rfl, mo1, mo2⟩ := this
  have nap : a ≠ p := fun z => by obtain ⟨k, e⟩ := pn.has; rw [← z, ea] at e; cases e
  have npq1 : q1 ≠ p := (pn.nep hq1).symm
  have npq2 : q2 ≠ p := ((pn.gw g1).nep hq2).symm
  have ncq2 : c ≠ q2 := (pn.gw g1).nec hq2
  have ncq1 : c ≠ q1 := pn.nec hq1
  have fq2 : h q2 = none := Gw.fresh g1 hq2
  have e1 := g4.1 _ _ npq1 (g3 _ _ (g2 _ _ e1))
  have e2 := g4.1 _ _ npq2 (g3 _ _ e2)
  have G4 : Gx p h h4 := g.gx.trans g4
  try simp [-al_eq]
  refine ⟨fits_le (by decide), ?_⟩
  rw [wpB_cons]
  simp [-al_eq]
  refine draw_ok (d := d + 2) pn4 (by omega) (by omega) (by omega) fun v h5 v0 vm pn5 g5 => ?_
  obtain ⟨tot, rfl⟩ := Int.eq_ofNat_of_zero_le v0
  try simp [-al_eq]
  refine ⟨by omega, ?_⟩
  refine for_rule (fun r σ h' => ∃ (j : Nat) (kvs : List (Key × D)) (ts : List D) (x5 x6 x7 x8 : Option D), r.length + j = tot ∧ σ = [some (.ref p), some (.ref a), some (.ref q1), some (.ref q2), some (.int most), x5, x6, x7, x8] ∧
        h' q1 = some (.lst ts) ∧ ts.length ≤ j ∧ (∀ x ∈ ts, T3 x) ∧ h' q2 = some (.dct kvs) ∧ kvs.length ≤ j ∧ Bd kvs (10000000000000010 * j + 10) ∧ Pen h' p c (n + 2 + 20 * j) ∧ Gx p h h')
      (fun _ _ _ _ => trivial) (fun σ h' ⟨j, kvs, ts, x5, x6, x7, x8, l1, es, eq1, tl, tb, eq2, kl, kb, pn, g⟩ => ?_) (fun dd r σ h' K ⟨j, kvs, ts, x5, x6, x7, x8, l1, es, eq1, tl, tb, eq2, kl, kb, pn, g⟩ hK => ?_) _ _ _ ⟨0, [], [], none, none, none, none, by simp, rfl, g5.1 _ _ npq1 e1, by simp, (fun _ z => nomatch z), g5.1 _ _ npq2 e2, by simp, (fun _ z => nomatch z), pn5.mono (by omega), G4.trans g5⟩
  · subst es
    have l1 : 0 + j = tot := l1
    simp
    exact q ts q1 h' hq1 eq1 (by omega) tb (pn.mono (by omega)) g
  · subst es
    rw [List.length_cons] at l1
    simp only [bindT_nm, List.set]
    rw [wpB_cons]
    simp [-al_eq]
    refine pick_ok (d := d + 1) pn (by omega) (g.1 _ _ nap ea) (fun z => by simp at z; subst z; cases w3) (by simp; omega) fun wD h6 hw pn6 g6 => ?_
    obtain ⟨word, hwd, rfl⟩ := List.mem_map.mp hw
    try simp [-al_eq]
    refine ⟨fits_le (by decide), al_rule fun q4 h7 hq4 g7 e4 => ?_⟩
    refine pick_ok (d := d + 1) (pn6.gw g7) (by omega) e4 (by simp) (by simp) fun fD h8 hf pn8 g8 => ?_
    have : ∃ fi : Nat, fD = .int fi ∧ fi ≤ 16 := by
      simp at hf
      rcases hf with rfl | rfl | rfl | rfl | rfl
      · exact ⟨16, rfl, by decide⟩
      · exact ⟨12, rfl, by decide⟩
      · exact ⟨2, rfl, by decide⟩
      · exact ⟨1, rfl, by decide⟩
      · exact ⟨0, rfl, by decide⟩
    obtain ⟨fi, rfl, fl⟩ := this
    refine great_ok (d := d + 1) pn8 (by omega) (by omega) fun m h9 m0 mm pn9 g9 => ?_
    have mb : m < 10 ^ 16 := by
      have : (10 : Int) ^ fi ≤ 10 ^ 16 := by exact_mod_cast Nat.pow_le_pow_right (by decide) fl
      omega
    have pn9 := pn9.mono (m := n + 2 + 20 * j + 18) (by omega)
    have G9 : Gx p h' h9 := ((g6.trans g7.gx).trans g8).trans g9
    clear g6 g7 g8 g9 hf
    try simp [-al_eq]
    refine ⟨fits_le (by decide), ?_⟩
    rw [wpB_cons]
    simp [-al_eq]
    refine ⟨⟨_, G9.1 _ _ npq2 eq2⟩, draw_ok (d := d + 2) pn9 (by decide) (by decide) (by omega) fun f0 h10 f0a f0b pn10 g10 => ?_⟩
    have G10 := G9.trans g10
    obtain ⟨f, ef, fa, fb⟩ := getK_bd (k := .inr word) kb f0a (show f0 ≤ 10000000000000010 * (j : Int) + 10 by omega)
    refine ⟨kvs, .inr word, rfl, G10.1 _ _ npq2 eq2, ?_⟩
    rw [ef]
    clear G9 g10
    refine draw_ok (d := d + 2) pn10 (by decide) (by decide) (by omega) fun e h11 e0 em pn11 g11 => ?_
    have G11 := G10.trans g11
    clear G10 g11
    have eq2' := G11.1 _ _ npq2 eq2
    simp only [bop_add_int]
    rw [wpB_cons]
    simp [-al_eq]
    refine ⟨kvs, eq2', by rw [sizeLine_eq]; omega, ?_⟩
    obtain ⟨kb2, kl2⟩ := putK_bd (B' := 10000000000000010 * ((j + 1 : Nat) : Int) + 10) (k := .inr word) (v := f + e + (1 + m)) kb (by omega) (by omega) (by omega)
    generalize DL.putK kvs (.inr word) (.int (f + e + (1 + m))) = kvs2 at kb2 kl2 ⊢
    have n12 : q1 ≠ q2 := fun z => by rw [z, eq2] at eq1; cases eq1
    have G12 : Gx p h (up h11 q2 (.dct kvs2)) := (g.trans G11).new fq2 npq2.symm
    have pn12 : Pen (up h11 q2 (.dct kvs2)) p c _ := pn11.put npq2.symm ncq2
    have q12 : up h11 q2 (.dct kvs2) q1 = some (.lst ts) := (up_ne n12).trans (G11.1 _ _ npq1 eq1)
    have q22 : up h11 q2 (.dct kvs2) q2 = some (.dct kvs2) := up_self
    generalize up h11 q2 (.dct kvs2) = h12 at G12 pn12 q12 q22 ⊢
    have np := pn12.mono (m := n + 2 + 20 * (j + 1)) (by omega)
    refine ⟨⟨_, q12⟩, fits_le (by decide), _, q12, by rw [sizeLine_eq]; omega, hK _ _ ⟨j + 1, kvs2, ts ++ [_], _, _, _, _, by omega, rfl, up_self, by simp; omega, fun x hx => ?_, (up_ne n12.symm).trans q22, by omega, kb2, np.put npq1.symm ncq1, G12.new hq1 npq1.symm⟩⟩
    rcases List.mem_append.mp hx with hx | hx
    · exact tb _ hx
    · rw [List.mem_singleton.mp hx]
      exact ⟨word, _, _, rfl, wd _ hwd, by omega, by omega, by omega, by omega⟩
end
end LW
set_option Elab.async false
set_option linter.all false
set_option maxRecDepth 100000
set_option maxHeartbeats 1000000
set_option exponentiation.threshold 20000
namespace LW
open PySem L2 DL
section
variable {d : Nat} {h : MH} {Q : D → MH → Prop} {E : DX} {p c : Addr} {n : Nat}
theorem dealt_ok {a : Addr} {ts : List D} {k : Nat} (pn : Pen h p c n) (hn : n + 1100 < 2 ^ 60) (ea : h a = some (.lst ts)) (tl : ts.length ≤ 16) (tb : ∀ x ∈ ts, T3 x) (k2 : 2 ≤ k) (k6 : k ≤ 6)
    (q : ∀ (sss : List (List S4)) h', sss.length = k → (∀ ss ∈ sss, ss.length ≤ 16 ∧ jn ss = ss ∧ (ss.map S4.m).sum ≤ 160000000000000000 ∧ ∀ s ∈ ss, Sm4 s ∧ s.m ≤ 10 ^ 18) → Pen h' p c (n + 100) → Gx p h h' → Q (.tup (sss.map fun ss => .tup (ss.map S4.d))) h') : Ph prog (d + 3) 36 [.ref p, .ref a, .int k] h Q E := by
  refine ph_of at__law_dealt rfl ?_
  simp only [f__law_dealt]
  rw [wpB_cons]
  simp [-al_eq, -ixD_ref_int]
  refine ⟨by omega, empties (by omega) fun rs h1 hl g1 R1 => al_rule fun q1 h2 hq1 g2 e1 => ?_⟩
  have pn0 := pn
  have npq1 : q1 ≠ p := ((pn.gw g1).nep hq1).symm
  have nap : a ≠ p := fun z => by obtain ⟨k, e⟩ := pn.has; rw [← z, ea] at e; cases e
  have g12 := g1.trans g2
  rw [wpB_cons]
  simp [-al_eq, -ixD_ref_int]
  refine turned_ok (d := d) (pn.gw g12) (by omega) (g12 _ _ ea) (by omega) fun ys q2 h3 ym yl fq2 e2 pn3 g3 => ?_
  simp [-al_eq, -ixD_ref_int]
  have G3 : Gx p h h3 := g12.gx.trans g3
  have fq2' : h q2 = none := Gw.fresh g12 fq2
  have npq2 : q2 ≠ p := (pn.nep fq2').symm
  have n12 : q1 ≠ q2 := fun z => by
    have := g3.1 _ _ npq1 e1
    rw [z] at e1
    rw [e1] at fq2; cases fq2
  refine ⟨ys, e2, ?_⟩
  refine for_rule (fun r σ h' => ∃ (j : Nat) (x4 x5 x6 x7 x8 x9 x10 : Option D), r.length + j = ys.length ∧ (∀ x ∈ r, T3 x) ∧ σ = [some (.ref p), some (.ref a), some (.int k), some (.ref q1), x4, x5, x6, x7, x8, x9, x10] ∧
        h' q1 = some (.lst (rs.map D.ref)) ∧ h' q2 = some (.lst ys) ∧ RowsJ h h' j (10000000000000000 * j) rs ∧ (∀ r ∈ rs, r ≠ q2) ∧ Pen h' p c (n + 20 + 2 * j) ∧ Gx p h h')
      (fun r σ h' ⟨j, x4, x5, x6, x7, x8, x9, x10, l1, rb, es, eq1, eq2, R, nq2, pn, g⟩ => eq2) (fun σ h' ⟨j, x4, x5, x6, x7, x8, x9, x10, l1, rb, es, eq1, eq2, R, nq2, pn, g⟩ => ?_) (fun dd r σ h' K ⟨j, x4, x5, x6, x7, x8, x9, x10, l1, rb, es, eq1, eq2, R, nq2, pn, g⟩ hK => ?_) _ _ _ ⟨0, none, none, none, none, none, none, none, by simp, fun x hx => tb _ (ym x hx), rfl, g3.1 _ _ npq1 e1, e2, ?_, ?_, pn3.mono (by omega), G3⟩
  · subst es
    have l1 : 0 + j = ys.length := l1
    simp [-al_eq, -ixD_ref_int]
    refine ⟨_, eq1, ?_⟩
    refine lc_rule (fun r acc h2 => h2 = h' ∧ ∃ (done rest : List Addr) (sss : List (List S4)), rs = done ++ rest ∧ r = rest.map D.ref ∧ acc = sss.map (fun ss => .tup (ss.map S4.d)) ∧ sss.length = done.length ∧ ∀ ss ∈ sss, ss.length ≤ 16 ∧ jn ss = ss ∧ (ss.map S4.m).sum ≤ 160000000000000000 ∧ ∀ s ∈ ss, Sm4 s ∧ s.m ≤ 10 ^ 18)
      (fun r acc h2 ⟨e, _⟩ => e ▸ eq1) (fun acc h2 ⟨e, done, rest, sss, e1, e2, e3, e4, e5⟩ => ?_) (fun dd r acc h2 N ⟨e, done, rest, sss, e1, e2, e3, e4, e5⟩ hN => ?_) _ _ _ ⟨rfl, [], rs, [], rfl, rfl, rfl, rfl, fun _ z => nomatch z⟩
    · subst e e3
      cases rest with
      | nil => cases e2
      | cons r1 rest =>
        rw [List.map_cons] at e2
        cases e2
        obtain ⟨a0, ss, b0, c0, d0⟩ := R r1 (by rw [e1]; simp)
        have dl : done.length < k := by rw [e1] at hl; simp at hl; omega
        simp
        refine ⟨_, b0, by rw [sizeLine_eq]; omega, hN _ _ ⟨rfl, done ++ [r1], rest, sss ++ [ss], by rw [e1, List.append_assoc]; rfl, rfl, by simp, by simp; omega, fun x hx => ?_⟩⟩
        rcases List.mem_append.mp hx with hx | hx
        · exact e5 x hx
        · rw [List.mem_singleton.mp hx]
          exact ⟨by omega, c0.2.1, by have := c0.2.2; omega, fun s hs => ⟨(d0 s hs).1, by have := (d0 s hs).2; omega⟩⟩
    · subst e e3
      have : rest = [] := by simpa using e2.symm
      subst this
      rw [List.append_nil] at e1
      subst e1
      refine al_rule fun q3 h4 hq3 g4 e6 => ?_
      simp
      exact ⟨_, e6, q sss h4 (by omega) e5 ((pn.gw g4).mono (by omega)) (g.trans g4.gx)⟩
  · subst es
    obtain ⟨w, low, many, rfl, wd, l0, lb, m1, mb⟩ := rb _ List.mem_cons_self
    rw [List.length_cons] at l1
    simp [-al_eq, -ixD_ref_int]
    rw [wpB_cons]
    simp [-al_eq, -ixD_ref_int]
    refine ⟨fits_le (by decide), al_rule fun q3 h4 hq3 g4 e4 => ?_⟩
    refine pick_ok (d := d) (pn.gw g4) (by omega) e4 (by simp) (by simp) fun yD h5 hy pn5 g5 => ?_
    have : ∃ y : Int, yD = .int y ∧ (y = 1 ∨ y = -1) := by
      simp at hy
      rcases hy with rfl | rfl
      · exact ⟨1, rfl, .inl rfl⟩
      · exact ⟨-1, rfl, .inr rfl⟩
    obtain ⟨y, rfl, y1⟩ := this
    try simp [-al_eq, -ixD_ref_int]
    have G5 : Gx p h' h5 := g4.gx.trans g5
    clear g4 g5 hy
    rw [wpB_cons]
    simp [-al_eq, -ixD_ref_int]
    refine draw_ok (d := d + 1) pn5 (by omega) (by omega) (by omega) fun v h6 v0 vm pn6 g6 => ?_
    obtain ⟨j2, rfl⟩ := Int.eq_ofNat_of_zero_le v0
    have jl : j2 < rs.length := by omega
    have G6 := G5.trans g6
    clear G5 g6
    have q16 := G6.1 _ _ npq1 eq1
    have q26 := G6.1 _ _ npq2 eq2
    have R6 : RowsJ h h6 j (10000000000000000 * j) rs := R.keep fun r xs hr e => G6.1 _ _ (pn0.nep (R r hr).1).symm e
    refine ixD_lst (x := .ref rs[j2]) q16 (by rw [DL.atI_nat, List.getElem?_map, List.getElem?_eq_getElem jl]; rfl) ?_
    have hr := List.getElem_mem jl
    generalize rs[j2] = r1 at hr ⊢
    obtain ⟨a0, ss, b0, c0, d0⟩ := R6 r1 hr
    have nq1 : r1 ≠ q1 := R6.ne q16 _ hr
    have nr2 : r1 ≠ q2 := nq2 _ hr
    have G06 := g.trans G6
    -- the row as it will be
    have fin : ∀ (ss2 : List S4) (h7 : MH) (x8 x10 : Option D), Gw h6 h7 → ss2.length ≤ j + 1 → jn ss2 = ss2 → (ss2.map S4.m).sum ≤ 10000000000000000 * ((j + 1 : Nat) : Int) → (∀ s ∈ ss2, Sm4 s ∧ s.m ≤ 10000000000000000 * ((j + 1 : Nat) : Int)) → K [some (.ref p), some (.ref a), some (.int k), some (.ref q1), x4, some (.str w), some (.int low), some (.int many), x8, some (.ref r1), x10] (up h7 r1 (.lst (ss2.map S4.d))) := fun ss2 h7 x8 x10 g7 hl2 hj2 hw2 hs2 => by
      have R7 : RowsJ h h7 (j + 1) (10000000000000000 * ((j + 1 : Nat) : Int)) rs := (R6.keep fun r xs hr e => g7 _ _ e).mono (by omega) (by omega)
      exact hK _ _ ⟨j + 1, _, _, _, _, _, _, _, by omega, fun x hx => rb _ (List.mem_cons_of_mem _ hx), rfl, (up_ne nq1.symm).trans (g7 _ _ q16), (up_ne nr2.symm).trans (g7 _ _ q26), R7.put hl2 hj2 hw2 hs2, nq2, ((pn6.gw g7).put (pn0.nep a0) (pn0.nec a0)).mono (by omega), (G06.trans g7.gx).new a0 (pn0.nep a0)⟩
    refine wpB_seq (fun σ h7 => h7 = h6 ∧ ∃ first : Int, 0 ≤ first ∧ first ≤ 10 ^ 19 ∧ σ = [some (.ref p), some (.ref a), some (.int k), some (.ref q1), x4, some (.str w), some (.int low), some (.int many), some (.int y), some (.ref r1), some (.int first)]) (fun K2 hK2 => ?_) fun σ h7 ⟨eh, first, fi0, fi1, es⟩ => ?_
    · rcases y1 with rfl | rfl
      · simp
        exact hK2 _ _ ⟨rfl, low, l0, by omega, rfl⟩
      · simp
        exact hK2 _ _ ⟨rfl, low + many - 1, by omega, by omega, rfl⟩
    · subst es eh
      simp [-al_eq, -ixD_ref_int]
      refine ⟨fits_le (by decide), al_rule fun q4 h8 hq4 g8 e8 => ?_⟩
      have b8 := g8 _ _ b0
      refine eqD_lsts b8 e8 (.inr rfl) ?_
      have app : jn (ss ++ [(⟨w, first, many, y⟩ : S4)]) = ss ++ [(⟨w, first, many, y⟩ : S4)] → (∃ xs, h8 r1 = some (.lst xs)) ∧ Fits 4 ∧ ∃ xs, h8 r1 = some (.lst xs) ∧ xs.length < sizeLine ∧ K [some (.ref p), some (.ref a), some (.int k), some (.ref q1), x4, some (.str w), some (.int low), some (.int many), some (.int y), some (.ref r1), some (.int first)] (up h8 r1 (.lst (xs ++ [.tup [.str w, .int first, .int many, .int y]]))) := fun hj => by
        refine ⟨⟨_, b8⟩, fits_le (by decide), _, b8, by rw [List.length_map, sizeLine_eq]; omega, ?_⟩
        rw [show ss.map S4.d ++ [.tup [.str w, .int first, .int many, .int y]] = (ss ++ [(⟨w, first, many, y⟩ : S4)]).map S4.d by simp [S4.d]]
        refine fin _ h8 _ _ g8 (by rw [List.length_append]; simp; omega) hj (by have := c0.2.2; simp at this ⊢; omega) fun s hs => ?_
        rcases List.mem_append.mp hs with hs | hs
        · exact ⟨(d0 s hs).1, by have := (d0 s hs).2; omega⟩
        · rw [List.mem_singleton.mp hs]
          exact ⟨⟨wd, fi0, by simp; omega, m1, by simp; omega, y1⟩, by simp; omega⟩
      have ps : Pos ss := fun s hs => (d0 s hs).1.m1
      have kp := jn_keep (s := ⟨w, first, many, y⟩) c0.2.1 ps m1
      rcases snoc_cases ss with rfl | ⟨ini, l, rfl⟩
      · exact app rfl
      · rw [jn1_con] at kp
        have no : ¬ (l.w = w ∧ l.y = y ∧ first = l.f + l.y * l.m) → jn (ini ++ [l] ++ [(⟨w, first, many, y⟩ : S4)]) = ini ++ [l] ++ [(⟨w, first, many, y⟩ : S4)] := fun hh => by
          have hh : ¬ l.goes ⟨w, first, many, y⟩ = true := fun z => hh (goes_iff.mp z)
          rw [if_neg hh] at kp
          exact kp
        obtain ⟨lm, lw⟩ := d0 l (by simp)
        have el : h8 r1 = some (.lst (ini.map S4.d ++ [l.d])) := by rw [b8]; simp
        rw [if_neg (by simp)]
        refine ixD_last el ?_
        simp [S4.d, -al_eq, -ixD_ref_int]
        by_cases c1 : l.w = w
        · rw [if_pos c1]
          refine ixD_last el ?_
          simp [S4.d, -al_eq, -ixD_ref_int]
          by_cases c2 : l.y = y
          · rw [if_pos c2]
            refine ixD_last el ?_
            simp [S4.d, -al_eq, -ixD_ref_int]
            refine ixD_last el ?_
            simp [S4.d, -al_eq, -ixD_ref_int]
            refine ⟨mulY y1, ?_⟩
            by_cases c3 : first = l.f + l.m * y
            · rw [if_pos c3]
              refine ixD_last el ?_
              simp [S4.d, -al_eq, -ixD_ref_int]
              refine ixD_last el ?_
              simp [S4.d, -al_eq, -ixD_ref_int]
              refine ⟨fits_le (by decide), .inl ⟨_, -1, ini.length, rfl, el, ?_, ?_⟩⟩
              · rw [List.length_append, List.length_map]; exact ixN_neg1
              · have e9 : (ini.map S4.d ++ [l.d]).set ini.length (.tup [.str w, .int l.f, .int (l.m + many), .int y]) = (ini ++ [(⟨w, l.f, l.m + many, y⟩ : S4)]).map S4.d := by
                  rw [List.set_append_right _ _ (by simp)]
                  simp [S4.d]
                rw [e9]
                have gg : l.goes ⟨w, first, many, y⟩ = true := goes_iff.mpr ⟨c1, c2, by show first = l.f + l.y * l.m; rw [c3, c2, Int.mul_comm]⟩
                rw [if_pos gg, c1, c2] at kp
                refine fin _ h8 _ _ g8 (by have := c0.1; simp at this ⊢; omega) kp (by have := c0.2.2; simp at this ⊢; omega) fun s hs => ?_
                rcases List.mem_append.mp hs with hs | hs
                · have := d0 s (List.mem_append_left _ hs)
                  exact ⟨this.1, by have := this.2; omega⟩
                · rw [List.mem_singleton.mp hs]
                  have o1 := lm.m1
                  exact ⟨⟨wd, lm.f0, lm.f1, by simp; omega, by simp; omega, y1⟩, by simp; omega⟩
            · rw [if_neg c3]; simpa using app (no fun z => c3 (by rw [z.2.2, c2, Int.mul_comm]))
          · rw [if_neg c2]; simpa using app (no fun z => c2 z.2.1)
        · rw [if_neg c1]; simpa using app (no fun z => c1 z.1)
  · intro r hr
    obtain ⟨a0, ss, b0, c0, d0⟩ := R1 r hr
    have : ss = [] := List.length_eq_zero_iff.mp (by omega)
    subst this
    exact ⟨a0, [], g3.1 _ _ (pn.nep a0).symm (g2 _ _ b0), ⟨Nat.zero_le _, rfl, by simp⟩, fun _ z => nomatch z⟩
  · intro r hr z
    obtain ⟨a0, ss, b0, c0, d0⟩ := R1 r hr
    have := g2 _ _ b0
    rw [z, fq2] at this; cases this
end
end LW
set_option Elab.async false
set_option linter.all false
set_option maxRecDepth 100000
set_option maxHeartbeats 1000000
set_option exponentiation.threshold 20000
namespace LW
open PySem L2 DL
section
variable {d : Nat} {h : MH} {Q : D → MH → Prop} {E : DX}
theorem word_ok {x : D} (w : Wf h x) (q : ∀ h', Gw h h' → Q (.bl (isWd x)) h') : Ph prog (d + 1) 1 [x] h Q E := by
  refine ph_of at_is_word rfl ?_
  simp [f_is_word]
  refine isTys_of w.kd rfl rfl ?_
  cases x <;> simp [tyB, subTy] <;> try exact q h .refl
  rename_i z
  refine ⟨w.1, ?_⟩
  by_cases c : 0 < z.length
  · by_cases c2 : z.length ≤ 8
    · simp [c, c2, show (z.length : Int) ≤ 8 by omega, show (0 : Int) < z.length by omega]
      refine lc_map (fun d => match d with
        | .str w => [.bl (subStr w letters)]
        | _ => []) _ trivial (by simp; exact w.1) (fun d hd acc N ha hN => ?_) (fun d hd => ?_) ?_
      · obtain ⟨c, _, rfl⟩ := List.mem_map.mp hd
        simp
        exact ⟨ha, hN⟩
      · obtain ⟨c, _, rfl⟩ := List.mem_map.mp hd
        simp
      · intro p hp
        refine ⟨_, by rw [flat_one (fun c => D.bl (subStr ⟨#[c]⟩ letters)) _ _ _ fun _ _ => rfl, ← Function.comp_def D.bl, ← List.map_map]; exact bls_map _, ?_⟩
        have key : ((z.cps.toList.map fun c => subStr ⟨#[c]⟩ letters).all id) = isWd (.str z) := by simp [isWd, c, c2, List.all_map]
        rw [key]
        exact q _ (Gw.up hp)
    · simp [c, c2, show ¬ (z.length : Int) ≤ 8 by omega, show (0 : Int) < z.length by omega]
      have := q h .refl
      simpa [isWd, c, c2] using this
  · have := q h .refl
    simp [c, show ¬ (0 : Int) < z.length by omega]
    simpa [isWd, c] using this
theorem way_ok {x : D} (k : Kd h x) (q : Q (.bl (isWy x)) h) : Ph prog (d + 2) 2 [x] h Q E := by
  refine ph_of at_is_way rfl ?_
  simp [f_is_way]
  refine whole_ok k ?_
  cases x <;> simp [isWh] <;> try exact q
  rename_i i
  by_cases c : -1000000000000000000 ≤ i
  · by_cases c2 : i ≤ 1000000000000000000
    · simp [c, c2]
      refine ⟨fits_le (by decide), rfl, rfl, ?_⟩
      simpa [inD, toV, isWy, eqV] using q
    · simp [c, c2]
      have : isWy (.int i) = false := by simp [isWy]; omega
      rw [this] at q; exact q
  · simp [c]
    have : isWy (.int i) = false := by simp [isWy]; omega
    rw [this] at q; exact q
theorem stretch_ok {x : D} (w : Wf h x) (q : ∀ h', Gw h h' → Q (.bl (isSt x)) h') : Ph prog (d + 3) 4 [x] h Q E := by
  refine ph_of at_is_stretch rfl ?_
  simp only [f_is_stretch]
  rw [wpB_cons]
  simp
  refine isTys_of w.kd rfl rfl ?_
  cases x <;> simp [tyB, subTy] <;> try exact q h .refl
  rename_i ds
  by_cases hl : ds.length = 4
  · obtain ⟨a, b, c, e, rfl⟩ := four hl
    obtain ⟨_, w⟩ := wf_tup.mp w
    have wa := w a (by simp)
    have wb := w b (by simp)
    have wc := w c (by simp)
    have we := w e (by simp)
    simp
    refine word_ok (d := d + 1) wa fun h1 g1 => ?_
    cases ca : isWd a with
    | false => simp; rw [← isSt_no (b := b) (c := c) (e := e) (.inl ca)]; exact q h1 g1
    | true =>
      simp
      refine way_ok (d := d) (we.gw g1).kd ?_
      cases ce : isWy e with
      | false => simp; rw [← isSt_no (a := a) (b := b) (c := c) (.inr (.inl ce))]; exact q h1 g1
      | true =>
        simp
        rw [wpB_cons]
        simp
        refine whole_ok (d := d + 1) (wb.gw g1).kd ?_
        cases cb : isWh 0 1000000000000000000 b with
        | false => simp; rw [← isSt_no (a := a) (c := c) (e := e) (.inr (.inr (.inl cb)))]; exact q h1 g1
        | true =>
          simp
          refine whole_ok (d := d + 1) (wc.gw g1).kd ?_
          cases cc : isWh 1 1000000000000000001 c with
          | false => simp; rw [← isSt_no (a := a) (b := b) (e := e) (.inr (.inr (.inr cc)))]; exact q h1 g1
          | true =>
            simp
            obtain ⟨f, rfl, _⟩ := isWh_int cb
            obtain ⟨m, rfl, _⟩ := isWh_int cc
            obtain ⟨y, rfl, _⟩ := isWy_int ce
            refine last_ok (d := d + 1) (mul_way ce) ?_
            have e1 : isSt (.tup [a, .int f, .int m, .int y]) = (decide (0 ≤ f + y * (m - 1)) && decide (f + y * (m - 1) ≤ M18)) := by
              have cc' : isWh 1 (M18 + 1) (.int m) = true := cc
              have cb' : isWh 0 M18 (.int f) = true := cb
              simp [isSt, ca, ce, cb', cc']
            have qq := q h1 g1
            rw [e1] at qq
            by_cases c1 : 0 ≤ f + y * (m - 1) <;> simpa [c1] using qq
  · simp [hl, show ¬ (ds.length : Int) = 4 by omega]
    have : isSt (.tup ds) = false := by
      unfold isSt
      split
      · rename_i e; cases e; exact absurd rfl hl
      · rfl
    rw [← this]; exact q h .refl
end
end LW
set_option Elab.async false
set_option linter.all false
set_option maxRecDepth 100000
set_option maxHeartbeats 1000000
set_option exponentiation.threshold 20000
namespace LW
open PySem L2 DL
section
variable {d : Nat} {h : MH} {Q : D → MH → Prop} {E : DX}
theorem row_ok {ds : List D} (w : Wf h (.tup ds)) (q : ∀ h', Gw h h' → Q (.bl (ds.all isSt)) h') : Ph prog (d + 4) 5 [.tup ds] h Q E := by
  refine ph_of at_is_row rfl ?_
  simp [f_is_row, subTy]
  obtain ⟨hl, w⟩ := wf_tup.mp w
  refine lc_mapG (fun x => [.bl (isSt x)]) ds [] (fun _ _ => trivial) (by rw [sizeLine_eq]; simp; omega) (fun x hx acc h1 N ha g hN => ?_) (fun _ _ => by simp) fun h1 g => ?_
  · simp
    refine stretch_ok (d := d) ((w x hx).gw g) fun h2 g2 => ?_
    exact ⟨ha, hN _ g2⟩
  · intro p hp
    refine ⟨_, bls_flat isSt ds, ?_⟩
    rw [List.all_map]
    exact q _ (g.trans (Gw.up hp))
end
section
variable {d : Nat} {h : MH} {Q : D → MH → Prop} {E : DX}
theorem spans_ok {sss : List (List S4)} (hl : sss.flatten.length ≤ 100000) (o : ∀ ss ∈ sss, ∀ s ∈ ss, s.y = 1 ∨ s.y = -1) (q : ∀ h' p, Gw h h' → h' p = some (.lst (((sss.flatten.map S4.span).mergeSort (PySem.W.dataLe false S3.p)).map S3.d)) → Q (.ref p) h') :
    Ph prog (d + 2) 14 [.tup (sss.map rowD)] h Q E := by
  refine ph_of at_spans rfl ?_
  simp only [f_spans]
  rw [wpB_cons]
  simp
  refine ⟨fits_le (by decide), fun p hp => ?_⟩
  rw [wpB_cons]
  simp
  have ef := part_rows sss
  refine lc2_map part (sss.map rowD) [] _ (fun _ => trivial) (by rw [List.nil_append, ef, List.length_map, sizeLine_eq]; omega) (fun x hx acc h1 N ha hN => ?_) ?_
  · obtain ⟨ss, _, rfl⟩ := List.mem_map.mp hx
    simp [rowD]
    refine lc_mapA (fun x => [x]) (ss.map S4.d) acc trivial ?_ (fun x hx acc N ha hN => ?_) ?_
    · simpa [rowD, part] using ha
    · simp at ha ⊢
      exact ⟨by omega, hN⟩
    · simpa [rowD, part] using hN
  · rw [List.nil_append, ef]
    intro p2 hp2
    have np : p2 ≠ p := fun z => by rw [z, up_self] at hp2; cases hp2
    have g0 : Gw h (up (up h p (.lst [])) p2 (.lst (sss.flatten.map S4.d))) := (Gw.up hp).trans (Gw.up hp2)
    refine for_rule (fun r σ h' => ∃ done rest, sss.flatten = done ++ rest ∧ r = rest.map S4.d ∧ h' p = some (.lst ((done.map S4.span).map S3.d)) ∧ h' p2 = some (.lst (sss.flatten.map S4.d)) ∧ Gw h h' ∧ ∃ a b c e f g k, σ = [some (.tup (sss.map rowD)), some (.ref p), a, b, c, e, f, g, k])
      (fun _ _ _ ⟨_, _, _, _, _, e, _⟩ => e) (fun σ h' ⟨done, rest, e1, e2, e3, e4, g, a, b, c, e, f, g1, k, e5⟩ => ?_) (fun dd r σ h' K ⟨done, rest, e1, e2, e3, e4, g, a, b, c, e, f, g1, k, e5⟩ hK => ?_) _ _ _ ⟨[], sss.flatten, rfl, rfl, (up_ne (Ne.symm np)).trans up_same, up_same, g0, _, _, _, _, _, _, _, rfl⟩
    · have : rest = [] := by simpa using e2.symm
      subst this
      rw [List.append_nil] at e1
      subst e5
      simp
      rw [← e1] at e3
      exact sort_S3 _ h' Q e3 fun p3 hp3 => q _ p3 (g.trans (Gw.up hp3)) up_same
    · cases rest with
      | nil => cases e2
      | cons s rest =>
        rw [List.map_cons] at e2
        cases e2
        subst e5
        have hw : s.y = 1 ∨ s.y = -1 := by
          have : s ∈ sss.flatten := by rw [e1]; simp
          obtain ⟨ss, h1, h2⟩ := List.mem_flatten.mp this
          exact o ss h1 s h2
        have dl : done.length < 100000 := by rw [e1] at hl; simp at hl; omega
        simp [S4.d]
        rw [wpB_cons]
        simp
        refine ⟨fits_le (by decide), last_ok (d := d) (way_mul hw) ?_⟩
        simp [e3]
        refine ⟨fits_le (by decide), by rw [sizeLine_eq]; omega, hK _ _ ⟨done ++ [s], rest, by rw [e1]; simp, rfl, ?_, (up_ne np).trans e4, g.up2 hp, _, _, _, _, _, _, _, rfl⟩⟩
        simp [S4.span, S3.d, S4.last]
        by_cases c : s.f + s.y * (s.m - 1) < s.f <;> simp [c]
end
end LW
set_option Elab.async false
set_option linter.all false
set_option maxRecDepth 100000
set_option maxHeartbeats 1000000
set_option exponentiation.threshold 20000
namespace LW
open PySem L2 DL
section
variable {d : Nat} {h : MH} {Q : D → MH → Prop} {E : DX}
theorem apart_ok {a : Addr} {l : List S3} (ea : h a = some (.lst (l.map S3.d))) (hl : l.length ≤ 100000) (q : ∀ h', Gw h h' → Q (.bl (aps l)) h') : Ph prog (d + 1) 15 [.ref a] h Q E := by
  refine ph_of at_are_apart rfl ?_
  simp [f_are_apart, ea]
  intro p hp
  have np : a ≠ p := fun z => by rw [z, hp] at ea; cases ea
  refine ⟨_, (up_ne np).trans ea, ?_⟩
  rw [show (1 : Int) = ((1 : Nat) : Int) from rfl, cut_from, ← List.map_drop, zip_ds]
  refine lc_map (fun x => match x with
    | .tup [.tup [.str w, _, .int hi], .tup [.str w', .int lo', _]] => [.bl (!decide (w = w') || decide (hi < lo'))]
    | _ => []) _ ⟨(up_ne np).trans ea, by simp⟩ (by rw [List.length_map, List.length_zip, sizeLine_eq]; omega) (fun x hx acc N ha hN => ?_) (fun x hx => ?_) ?_
  · obtain ⟨⟨x, y⟩, _, rfl⟩ := List.mem_map.mp hx
    simp [S3.d] at hN ⊢
    by_cases c : x.w = y.w <;> simp [c] at hN ⊢ <;> exact ⟨ha, hN⟩
  · obtain ⟨⟨x, y⟩, _, rfl⟩ := List.mem_map.mp hx
    simp [S3.d]
  · intro p2 hp2
    refine ⟨_, by rw [flat_one (fun p => D.bl (ap1 p.1 p.2)) _ _ _ fun _ _ => rfl, show (fun p : S3 × S3 => D.bl (ap1 p.1 p.2)) = D.bl ∘ fun p => ap1 p.1 p.2 from rfl, ← List.map_map]; exact bls_map _, ?_⟩
    rw [List.all_map]
    exact q _ ((Gw.up hp).trans (Gw.up hp2))
/-- one row looked at -/
theorem rowtest {x : D} (w : Wf h x) {R : D → MH → Prop} {F : DX} (q : ∀ h', Gw h h' → R (.bl (rowOK x)) h') :
    isTys x h [.tuple] fun k => tru (.bl k) h fun k => if k = true then Ph prog (d + 4) 5 [x] h (fun y h1 => tru y h1 fun k => if k = true then bi .list [x] h1 fun a h2 => Ph prog (d + 4) 7 [x] h2 (fun b h3 => eqD a b h3 fun k => R (.bl k) h3) F else R y h1) F else R (.bl k) h := by
  refine isTys_of w.kd rfl rfl ?_
  cases x <;> simp [tyB, subTy] <;> try exact q h .refl
  rename_i ds
  refine row_ok (d := d) w fun h1 g1 => ?_
  cases c : ds.all isSt with
  | false =>
    have : rowOK (.tup ds) = false := by simp [rowOK, c]
    simp
    rw [← this]; exact q h1 g1
  | true =>
    simp
    obtain ⟨hl, w⟩ := wf_tup.mp w
    obtain ⟨ss, rfl, o⟩ := all_S4 w c
    intro p hp
    have g2 : Gw h1 (up h1 p (.lst (ss.map S4.d))) := Gw.up hp
    refine joined_ok (d := d + 1) (.inl rfl) (by simpa using hl) (Good2.of o) fun h3 p3 g3 n3 e3 => ?_
    have ep : h3 p = some (.lst (ss.map S4.d)) := g3 _ _ up_same
    refine eqD_lst ep e3 (fun s hs => (o s hs).z) ?_ ?_
    · have : Good2 (jn ss) := by
        have : ∀ (l found : List S4), Good2 found → (∀ t ∈ l, PyData.strOk t.w = true ∧ (t.y = 1 ∨ t.y = -1)) → Good2 (l.foldl jn1 found) := fun l => by
          induction l with
          | nil => intro found f _; exact f
          | cons t l ih => intro found f ht; exact ih _ (jn1_good f (ht t List.mem_cons_self)) fun u hu => ht u (List.mem_cons_of_mem _ hu)
        exact this ss [] (fun _ z => nomatch z) fun t ht => ⟨(o t ht).z, (o t ht).y⟩
      exact fun s hs => (this s hs).1
    · rw [jn_eq]
      have : rowOK (.tup (ss.map S4.d)) = form ss := by
        have e : (ss.map S4.d).map toS = ss := by rw [List.map_map, show toS ∘ S4.d = id from rfl, List.map_id]
        simp only [rowOK, c, e, Bool.true_and]
      rw [← this]
      exact q h3 ((g1.trans g2).trans g3)
theorem standing_ok {x : D} (w : Wf h x) (q : ∀ h', Gw h h' → Q (.bl (stand x)) h') : Ph prog (d + 5) 16 [x] h Q E := by
  refine ph_of at_is_standing rfl ?_
  simp only [f_is_standing]
  rw [wpB_cons]
  simp
  refine isTys_of w.kd rfl rfl ?_
  cases x <;> simp [tyB, subTy] <;> try exact q h .refl
  rename_i rows
  have no : stand (.tup rows) = (decide (2 ≤ rows.length) && (decide (rows.length ≤ 6) && (rows.all rowOK && (decide ((((rows.flatMap part).map toS).map S4.m).sum ≤ M18) && aps (sspans ((rows.flatMap part).map toS)))))) := rfl
  have q0 := q h .refl
  rw [no] at q0
  by_cases c1 : 2 ≤ rows.length
  · by_cases c2 : rows.length ≤ 6
    · simp [show (2 : Int) ≤ (rows.length : Int) by omega, show (rows.length : Int) ≤ 6 by omega]
      rw [wpB_cons]
      simp
      obtain ⟨_, wr⟩ := wf_tup.mp w
      refine lc_mapG (fun r => [.bl (rowOK r)]) rows [] (fun _ _ => trivial) (by rw [sizeLine_eq]; simp; omega) (fun r hr acc h1 N ha g hN => ?_) (fun _ _ => by simp) fun h1 g1 => ?_
      · simp
        exact rowtest (d := d) (R := fun v h2 => acc.length < sizeLine ∧ N (acc ++ [v]) h2) ((wr r hr).gw g) fun h2 g2 => ⟨ha, hN h2 g2⟩
      · intro p hp
        refine ⟨_, bls_flat rowOK rows, ?_⟩
        have g2 : Gw h (up h1 p (.lst ([] ++ rows.flatMap fun r => [.bl (rowOK r)]))) := g1.trans (Gw.up hp)
        generalize up h1 p (.lst ([] ++ rows.flatMap fun r => [.bl (rowOK r)])) = h2 at g2 ⊢
        cases c3 : rows.all rowOK with
        | false =>
          have hm : false ∈ rows.map rowOK := by
            obtain ⟨r, hr, e⟩ := List.all_eq_false.mp c3
            exact List.mem_map.mpr ⟨r, hr, by simpa using e⟩
          rw [if_pos hm]
          have := q h2 g2
          rw [no, c3] at this
          simpa using this
        | true =>
          have hm : false ∉ rows.map rowOK := fun z => by
            obtain ⟨r, hr, e⟩ := List.mem_map.mp z
            have := List.all_eq_true.mp c3 r hr
            rw [e] at this; cases this
          rw [if_neg hm]
          obtain ⟨sss, rfl, os⟩ := rows_ss wr c3
          have fl := flat_len os
          have fl2 : sss.flatten.length ≤ 6000 := by simp at c2; omega
          refine lc_mapG (fun r => [.int (((part r).map toS).map S4.m).sum]) (sss.map rowD) [] (fun _ _ => trivial) (by rw [sizeLine_eq]; simp at c2 ⊢; omega) (fun r hr acc h3 N ha g hN => ?_) (fun _ _ => by simp) fun h3 g3 => ?_
          · obtain ⟨ss, hs, rfl⟩ := List.mem_map.mp hr
            simp
            refine yards_ok (d := d + 3) (.inl rfl) (os ss hs).len fun h4 g4 => ⟨ha, ?_⟩
            have := hN h4 g4
            have e : (part (rowD ss)).map toS = ss := by show (ss.map S4.d).map toS = ss; rw [List.map_map, show toS ∘ S4.d = id from rfl, List.map_id]
            rw [e] at this
            exact this
          · intro p2 hp2
            refine ⟨_, ints_flat (fun r => (((part r).map toS).map S4.m).sum) (sss.map rowD), ?_⟩
            rw [sum_rows sss]
            have g4 : Gw h2 (up h3 p2 (.lst ([] ++ (sss.map rowD).flatMap fun r => [.int (((part r).map toS).map S4.m).sum]))) := g3.trans (Gw.up hp2)
            generalize up h3 p2 (.lst ([] ++ (sss.map rowD).flatMap fun r => [.int (((part r).map toS).map S4.m).sum])) = h4 at g4 ⊢
            rw [c3, map_toS] at no
            generalize (sss.flatten.map S4.m).sum = T at no ⊢
            simp only [List.length_map] at c1 c2 no
            rw [decide_eq_true c1, decide_eq_true c2] at no
            by_cases c4 : T ≤ 1000000000000000000
            · rw [if_pos c4]
              refine spans_ok (d := d + 2) (by omega) (fun ss hs s h => ((os ss hs).ok s h).y) fun h5 p5 g5 e5 => ?_
              refine apart_ok (d := d + 3) e5 (by rw [List.length_mergeSort, List.length_map]; omega) fun h6 g6 => ?_
              have := q h6 (((g2.trans g4).trans g5).trans g6)
              rw [no, show decide (T ≤ M18) = true from decide_eq_true c4] at this
              exact this
            · rw [if_neg c4, decide_eq_false c4]
              have := q h4 (g2.trans g4)
              rw [no, show decide (T ≤ M18) = false from decide_eq_false c4] at this
              exact this
    · simp [c2] at q0
      simp [show (2 : Int) ≤ (rows.length : Int) by omega, show ¬ (rows.length : Int) ≤ 6 by omega]
      exact q0
  · simp [c1] at q0
    simp [show ¬ (2 : Int) ≤ (rows.length : Int) by omega]
    exact q0
end
end LW
set_option Elab.async false
set_option linter.all false
set_option maxRecDepth 100000
set_option maxHeartbeats 1000000
namespace LW
open PySem L2 DL
/-! ### spans and yards, plainly -/
def wLt (a b : Str) : Prop := a.cps.toList < b.cps.toList
instance (a b : Str) : Decidable (wLt a b) := inferInstanceAs (Decidable (a.cps.toList < b.cps.toList))
theorem str_ext {a b : Str} (h : a.cps.toList = b.cps.toList) : a = b := by
  cases a; cases b
  simp only at h
  congr 1
  exact Array.toList_inj.mp h
theorem wLt_irrefl (a : Str) : ¬ wLt a a := List.lt_irrefl _
theorem wLt_trans {a b c : Str} (h : wLt a b) (g : wLt b c) : wLt a c := List.lt_trans h g
theorem wLt_tri (a b : Str) : wLt a b ∨ a = b ∨ wLt b a := by
  by_cases h : a.cps.toList < b.cps.toList
  · exact .inl h
  · by_cases g : b.cps.toList < a.cps.toList
    · exact .inr (.inr g)
    · exact .inr (.inl (str_ext (List.le_antisymm (List.not_lt.mp g) (List.not_lt.mp h))))
theorem dataLt_w (a b : Str) : PySem.W.dataLt (.str a) (.str b) = decide (wLt a b) := PySem.W.dataLt_str a b
/-- yards in order -/
def yLt (a b : Y3) : Prop := wLt a.w b.w ∨ (a.w = b.w ∧ a.n < b.n)
theorem yLt_irrefl (a : Y3) : ¬ yLt a a := fun h => by
  rcases h with h | h
  · exact wLt_irrefl _ h
  · omega
theorem yLt_trans {a b c : Y3} (h : yLt a b) (g : yLt b c) : yLt a c := by
  rcases h with h | ⟨h1, h2⟩ <;> rcases g with g | ⟨g1, g2⟩
  · exact .inl (wLt_trans h g)
  · exact .inl (g1 ▸ h)
  · exact .inl (h1 ▸ g)
  · exact .inr ⟨h1.trans g1, by omega⟩
def upY (a : Y3) : Y3 := ⟨a.w, a.n, 1⟩
def up4 (a : S3) : S4 := ⟨a.w, a.lo, a.hi - a.lo + 1, 1⟩
/-- two rising lists of the same yards are one -/
theorem rising_eq : ∀ {l m : List Y3}, l.Pairwise yLt → m.Pairwise yLt → (∀ a, a ∈ l ↔ a ∈ m) → l = m
  | [], [], _, _, _ => rfl
  | [], b :: m, _, _, h => absurd ((h b).mpr List.mem_cons_self) (by simp)
  | a :: l, [], _, _, h => absurd ((h a).mp List.mem_cons_self) (by simp)
  | a :: l, b :: m, hl, hm, h => by
    rw [List.pairwise_cons] at hl hm
    have e : a = b := by
      rcases List.mem_cons.mp ((h a).mp List.mem_cons_self) with e | e
      · exact e
      · rcases List.mem_cons.mp ((h b).mpr List.mem_cons_self) with e2 | e2
        · exact e2.symm
        · exact absurd (yLt_trans (hl.1 b e2) (hm.1 a e)) (yLt_irrefl a)
    subst e
    rw [rising_eq hl.2 hm.2 fun c => ?_]
    constructor
    · intro hc
      rcases List.mem_cons.mp ((h c).mp (List.mem_cons_of_mem _ hc)) with e | e
      · subst e; exact absurd (hl.1 c hc) (yLt_irrefl c)
      · exact e
    · intro hc
      rcases List.mem_cons.mp ((h c).mpr (List.mem_cons_of_mem _ hc)) with e | e
      · subst e; exact absurd (hm.1 c hc) (yLt_irrefl c)
      · exact e
/-- a span's order -/
def s3Le (a b : S3) : Bool := PySem.W.dataLe false S3.p a b
theorem s3Le_iff {a b : S3} : s3Le a b = true ↔ wLt a.w b.w ∨ (a.w = b.w ∧ (a.lo < b.lo ∨ (a.lo = b.lo ∧ a.hi ≤ b.hi))) := by
  unfold s3Le
  rw [PySem.W.dataLe_eq]
  show (!PySem.W.dataLt b.p a.p) = true ↔ _
  rw [dataLt_S3, dataLt_w]
  by_cases c : b.w = a.w
  · rw [if_pos c]
    have n1 : ¬ wLt a.w b.w := by rw [c]; exact wLt_irrefl _
    by_cases c2 : b.lo = a.lo
    · rw [if_pos c2]
      simp [c, c2, wLt_irrefl]
    · rw [if_neg c2]
      simp [c, wLt_irrefl]
      omega
  · rw [if_neg c]
    rcases wLt_tri a.w b.w with h | h | h
    · simp only [h, true_or, iff_true]
      have : ¬ wLt b.w a.w := fun g => wLt_irrefl _ (wLt_trans h g)
      simp [this]
    · exact absurd h.symm c
    · have : ¬ wLt a.w b.w := fun g => wLt_irrefl _ (wLt_trans h g)
      have c' : ¬ a.w = b.w := fun z => c z.symm
      simp [this, c', h]
theorem s3Le_trans (a b c : S3) (h : s3Le a b = true) (g : s3Le b c = true) : s3Le a c = true := by
  rw [s3Le_iff] at *
  rcases h with h | ⟨h1, h2⟩ <;> rcases g with g | ⟨g1, g2⟩
  · exact .inl (wLt_trans h g)
  · exact .inl (g1 ▸ h)
  · exact .inl (h1 ▸ g)
  · exact .inr ⟨h1.trans g1, by omega⟩
theorem s3Le_total (a b : S3) : (s3Le a b || s3Le b a) = true := by
  rw [Bool.or_eq_true, s3Le_iff, s3Le_iff]
  rcases wLt_tri a.w b.w with h | h | h
  · exact .inl (.inl h)
  · by_cases c : a.lo < b.lo ∨ (a.lo = b.lo ∧ a.hi ≤ b.hi)
    · exact .inl (.inr ⟨h, c⟩)
    · exact .inr (.inr ⟨h.symm, by omega⟩)
  · exact .inr (.inl h)
theorem sspans_pw (l : List S4) : (sspans l).Pairwise fun a b => s3Le a b = true := List.pairwise_mergeSort s3Le_trans s3Le_total _
theorem sspans_perm (l : List S4) : (sspans l).Perm (l.map S4.span) := List.mergeSort_perm _ _
/-- all spans' yards, rising -/
def exS (l : List S3) : List Y3 := ex (l.map up4)
theorem exS_cons (a : S3) (l : List S3) : exS (a :: l) = ex1 (up4 a) ++ exS l := rfl
theorem mem_ex1 {s : S4} (y1 : s.y = 1) {a : Y3} : a ∈ ex1 s ↔ a.w = s.w ∧ a.y = 1 ∧ s.f ≤ a.n ∧ a.n < s.f + s.m := by
  unfold ex1 S4.at
  rw [List.mem_map]
  constructor
  · rintro ⟨k, hk, rfl⟩
    have := List.mem_range.mp hk
    refine ⟨rfl, y1, ?_, ?_⟩
    · show s.f ≤ s.f + s.y * k; rw [y1]; omega
    · show s.f + s.y * k < _; rw [y1]; omega
  · rintro ⟨h1, h2, h3, h4⟩
    refine ⟨(a.n - s.f).toNat, List.mem_range.mpr (by omega), ?_⟩
    cases a
    simp only at h1 h2 h3 h4 ⊢
    simp only [Y3.mk.injEq, y1]
    exact ⟨h1.symm, by omega, h2.symm⟩
/-- a stretch's yards, either way -/
theorem mem_ex1u {s : S4} (y1 : s.y = 1 ∨ s.y = -1) (m1 : 1 ≤ s.m) {a : Y3} : a ∈ (ex1 s).map upY ↔ a ∈ ex1 (up4 s.span) := by
  rw [mem_ex1 rfl, List.mem_map]
  have e1 : (up4 s.span).w = s.w := rfl
  have e2 : (up4 s.span).f = s.span.lo := rfl
  have e3 : (up4 s.span).m = s.span.hi - s.span.lo + 1 := rfl
  rw [e1, e2, e3]
  unfold S4.span S4.last
  constructor
  · rintro ⟨b, hb, rfl⟩
    obtain ⟨k, hk, rfl⟩ := List.mem_map.mp hb
    have := List.mem_range.mp hk
    refine ⟨rfl, rfl, ?_, ?_⟩
    · show _ ≤ s.f + s.y * k
      rcases y1 with e | e <;> rw [e] <;> simp only <;> split <;> omega
    · show s.f + s.y * k < _
      rcases y1 with e | e <;> rw [e] <;> simp only <;> split <;> split <;> omega
  · rintro ⟨h1, h2, h3, h4⟩
    simp only at h3 h4
    rcases y1 with e | e
    · refine ⟨⟨s.w, a.n, s.y⟩, List.mem_map.mpr ⟨(a.n - s.f).toNat, List.mem_range.mpr ?_, ?_⟩, ?_⟩
      · rw [e] at h3 h4; split at h3 <;> split at h4 <;> omega
      · show (⟨s.w, s.f + s.y * _, s.y⟩ : Y3) = _
        rw [Y3.mk.injEq]; refine ⟨rfl, ?_, rfl⟩
        rw [e] at h3 h4 ⊢; split at h3 <;> split at h4 <;> omega
      · cases a; simp only at h1 h2; subst h1 h2; rfl
    · refine ⟨⟨s.w, a.n, s.y⟩, List.mem_map.mpr ⟨(s.f - a.n).toNat, List.mem_range.mpr ?_, ?_⟩, ?_⟩
      · rw [e] at h3 h4; split at h3 <;> split at h4 <;> omega
      · show (⟨s.w, s.f + s.y * _, s.y⟩ : Y3) = _
        rw [Y3.mk.injEq]; refine ⟨rfl, ?_, rfl⟩
        rw [e] at h3 h4 ⊢; split at h3 <;> split at h4 <;> omega
      · cases a; simp only at h1 h2; subst h1 h2; rfl
theorem mem_exS {l : List S3} {a : Y3} : a ∈ exS l ↔ ∃ s ∈ l, a ∈ ex1 (up4 s) := by
  unfold exS ex
  rw [List.mem_flatMap]
  constructor
  · rintro ⟨s, hs, h⟩
    obtain ⟨t, ht, rfl⟩ := List.mem_map.mp hs
    exact ⟨t, ht, h⟩
  · rintro ⟨s, hs, h⟩
    exact ⟨_, List.mem_map.mpr ⟨s, hs, rfl⟩, h⟩
/-- whose yards the spans tell -/
theorem mem_sspans {l : List S4} (o : ∀ s ∈ l, (s.y = 1 ∨ s.y = -1) ∧ 1 ≤ s.m) {a : Y3} : a ∈ exS (sspans l) ↔ a ∈ (ex l).map upY := by
  rw [mem_exS]
  constructor
  · rintro ⟨t, ht, h⟩
    obtain ⟨s, hs, rfl⟩ := List.mem_map.mp ((sspans_perm l).mem_iff.mp ht)
    obtain ⟨b, hb, rfl⟩ := List.mem_map.mp ((mem_ex1u (o s hs).1 (o s hs).2).mpr h)
    exact List.mem_map.mpr ⟨b, List.mem_flatMap.mpr ⟨s, hs, hb⟩, rfl⟩
  · intro h
    obtain ⟨b, hb, rfl⟩ := List.mem_map.mp h
    obtain ⟨s, hs, h2⟩ := List.mem_flatMap.mp hb
    exact ⟨s.span, (sspans_perm l).mem_iff.mpr (List.mem_map.mpr ⟨s, hs, rfl⟩), (mem_ex1u (o s hs).1 (o s hs).2).mp (List.mem_map.mpr ⟨b, h2, rfl⟩)⟩
theorem ex1_pw {s : S4} (y1 : s.y = 1) : (ex1 s).Pairwise yLt := by
  unfold ex1
  rw [List.pairwise_map]
  refine (List.pairwise_lt_range).imp fun {i j} hij => ?_
  refine .inr ⟨rfl, ?_⟩
  show s.f + s.y * i < s.f + s.y * j
  rw [y1]; omega
/-- apart, one to the next -/
def apl : List S3 → Prop
  | a :: b :: r => (a.w = b.w → a.hi < b.lo) ∧ apl (b :: r)
  | _ => True
theorem aps_apl : ∀ {l : List S3}, aps l = true ↔ apl l
  | [] => by simp [aps, apl]
  | [a] => by simp [aps, apl]
  | a :: b :: r => by
    have ih := aps_apl (l := b :: r)
    unfold aps at ih ⊢
    simp only [List.drop_succ_cons, List.drop_zero, List.zip_cons_cons, List.all_cons, Bool.and_eq_true] at ih ⊢
    unfold apl
    have : ap1 a b = true ↔ (a.w = b.w → a.hi < b.lo) := by
      unfold ap1
      simp
      constructor
      · rintro (h | h) e
        · exact absurd e h
        · exact h
      · intro h
        by_cases e : a.w = b.w
        · exact .inr (h e)
        · exact .inl e
    rw [this]
    constructor
    · rintro ⟨h1, h2⟩
      exact ⟨h1, ih.mp (by simpa using h2)⟩
    · rintro ⟨h1, h2⟩
      exact ⟨h1, by simpa using ih.mpr h2⟩
def goodS (l : List S3) : Prop := ∀ s ∈ l, s.lo ≤ s.hi
/-- spans in order and apart: their yards rise -/
theorem exS_pw : ∀ {l : List S3}, l.Pairwise (fun a b => s3Le a b = true) → apl l → goodS l → (exS l).Pairwise yLt
  | [], _, _, _ => List.Pairwise.nil
  | [a], _, _, _ => by
    rw [exS_cons]
    show (ex1 (up4 a) ++ []).Pairwise yLt
    rw [List.append_nil]
    exact ex1_pw rfl
  | a :: b :: r, hp, ha, hg => by
    rw [exS_cons]
    have hp' := List.pairwise_cons.mp hp
    have ih := exS_pw (l := b :: r) hp'.2 ha.2 fun s hs => hg s (List.mem_cons_of_mem _ hs)
    rw [List.pairwise_append]
    refine ⟨ex1_pw rfl, ih, fun x hx y hy => ?_⟩
    obtain ⟨x1, x2, x3, x4⟩ := (mem_ex1 rfl).mp hx
    obtain ⟨s, hs, hy⟩ := mem_exS.mp hy
    obtain ⟨y1, y2, y3, y4⟩ := (mem_ex1 rfl).mp hy
    have x1 : x.w = a.w := x1
    have y1 : y.w = s.w := y1
    have x4 : x.n < a.lo + (a.hi - a.lo + 1) := x4
    have y3 : s.lo ≤ y.n := y3
    have hab := s3Le_iff.mp (hp'.1 b List.mem_cons_self)
    have hbs : s = b ∨ s3Le b s = true := by
      rcases List.mem_cons.mp hs with e | e
      · exact .inl e
      · exact .inr ((List.pairwise_cons.mp hp'.2).1 s e)
    unfold yLt
    rw [x1, y1]
    have hb := hg b (by simp)
    rcases hbs with rfl | hbs
    · rcases hab with h | ⟨h1, h2⟩
      · exact .inl h
      · have := ha.1 h1
        exact .inr ⟨h1, by omega⟩
    · rcases s3Le_iff.mp hbs with g | ⟨g1, g2⟩
      · rcases hab with h | ⟨h1, h2⟩
        · exact .inl (wLt_trans h g)
        · exact .inl (h1 ▸ g)
      · rcases hab with h | ⟨h1, h2⟩
        · exact .inl (g1 ▸ h)
        · have := ha.1 h1
          exact .inr ⟨h1.trans g1, by omega⟩
/-- of yards of which none is twice, the spans are apart -/
theorem apl_of : ∀ {l : List S3}, l.Pairwise (fun a b => s3Le a b = true) → goodS l → (exS l).Nodup → apl l
  | [], _, _, _ => trivial
  | [a], _, _, _ => trivial
  | a :: b :: r, hp, hg, nd => by
    have hp' := List.pairwise_cons.mp hp
    rw [exS_cons, List.nodup_append] at nd
    refine ⟨fun e => ?_, apl_of hp'.2 (fun s hs => hg s (List.mem_cons_of_mem _ hs)) nd.2.1⟩
    have hab := s3Le_iff.mp (hp'.1 b List.mem_cons_self)
    have h2 : a.lo ≤ b.lo := by
      rcases hab with h | ⟨_, h⟩
      · rw [e] at h; exact absurd h (wLt_irrefl _)
      · omega
    refine Int.not_le.mp fun hle => ?_
    have hb := hg b (by simp)
    refine nd.2.2 ⟨b.w, b.lo, 1⟩ ((mem_ex1 rfl).mpr ⟨e.symm, rfl, h2, ?_⟩) ⟨b.w, b.lo, 1⟩ ?_ rfl
    · show b.lo < a.lo + (a.hi - a.lo + 1); omega
    · rw [exS_cons]
      refine List.mem_append_left _ ((mem_ex1 rfl).mpr ⟨rfl, rfl, Int.le_refl _, ?_⟩)
      show b.lo < b.lo + (b.hi - b.lo + 1); omega
end LW
set_option Elab.async false
set_option linter.all false
set_option maxRecDepth 100000
set_option maxHeartbeats 1000000
namespace LW
open PySem L2 DL
/-! ### standings, by their yards -/
structure YdOk (a : Y3) : Prop where
  w : isWd (.str a.w) = true
  z : PyData.strOk a.w = true
  y : a.y = 1 ∨ a.y = -1
  n0 : 0 ≤ a.n
  n1 : a.n ≤ M18
structure St (ys : List (List Y3)) : Prop where
  l2 : 2 ≤ ys.length
  l6 : ys.length ≤ 6
  ok : ∀ y ∈ ys, ∀ a ∈ y, YdOk a
  tot : tot ys ≤ 800
  sum : (ys.flatten.length : Int) ≤ M18
  nd : (ys.flatten.map upY).Nodup
theorem YdOk.flp {a : Y3} (o : YdOk a) : YdOk (flp a) := ⟨o.w, o.z, by have := o.y; show -a.y = 1 ∨ -a.y = -1; omega, o.n0, o.n1⟩
theorem St.good {ys : List (List Y3)} (S : St ys) : GoodY ys := fun y hy a ha => ⟨(S.ok y hy a ha).z, (S.ok y hy a ha).y⟩
theorem perm_flat {α β : Type} {f g : α → List β} : ∀ {l : List α}, (∀ a ∈ l, (f a).Perm (g a)) → (l.flatMap f).Perm (l.flatMap g)
  | [], _ => .nil
  | a :: l, h => by
    rw [List.flatMap_cons, List.flatMap_cons]
    exact (h a List.mem_cons_self).append (perm_flat fun b hb => h b (List.mem_cons_of_mem _ hb))
theorem nodup_ne {α β : Type} {f : α → β} {l : List α} (h : l.Nodup) (hf : ∀ a ∈ l, ∀ b ∈ l, f a = f b → a = b) : (l.map f).Nodup := by
  induction l with
  | nil => simp
  | cons a l ih =>
    rw [List.nodup_cons] at h
    rw [List.map_cons, List.nodup_cons]
    refine ⟨fun z => ?_, ih h.2 fun x hx y hy => hf x (List.mem_cons_of_mem _ hx) y (List.mem_cons_of_mem _ hy)⟩
    obtain ⟨b, hb, e⟩ := List.mem_map.mp z
    have := hf b (List.mem_cons_of_mem _ hb) a List.mem_cons_self e
    exact h.1 (this ▸ hb)
theorem ex1u_nodup {s : S4} (y1 : s.y = 1 ∨ s.y = -1) : ((ex1 s).map upY).Nodup := by
  unfold ex1
  rw [List.map_map]
  refine nodup_ne List.nodup_range fun i _ j _ e => ?_
  have : s.f + s.y * i = s.f + s.y * j := congrArg Y3.n e
  rcases y1 with h | h <;> rw [h] at this <;> omega
theorem ex1u_perm {s : S4} (y1 : s.y = 1 ∨ s.y = -1) (m1 : 1 ≤ s.m) : ((ex1 s).map upY).Perm (ex1 (up4 s.span)) := by
  have nd2 : (ex1 (up4 s.span)).Nodup := (ex1_pw rfl).imp fun {a b} (h : yLt a b) (z : a = b) => yLt_irrefl b (by rw [z] at h; exact h)
  exact (List.perm_ext_iff_of_nodup (ex1u_nodup y1) nd2).mpr fun a => mem_ex1u y1 m1
theorem exS_perm {l : List S4} (o : ∀ s ∈ l, (s.y = 1 ∨ s.y = -1) ∧ 1 ≤ s.m) : (exS (sspans l)).Perm ((ex l).map upY) := by
  have e1 : exS (sspans l) = (sspans l).flatMap fun s => ex1 (up4 s) := by
    unfold exS ex
    rw [List.flatMap_map]
  have e2 : (ex l).map upY = l.flatMap fun s => (ex1 s).map upY := by
    unfold ex
    rw [List.map_flatMap]
  rw [e1, e2]
  refine ((sspans_perm l).flatMap_right _).trans ?_
  rw [List.flatMap_map]
  exact (perm_flat fun s hs => ex1u_perm (o s hs).1 (o s hs).2).symm
theorem goodS_sspans {l : List S4} : goodS (sspans l) := fun t ht => by
  obtain ⟨s, hs, rfl⟩ := List.mem_map.mp ((sspans_perm l).mem_iff.mp ht)
  unfold S4.span
  simp only
  split <;> split <;> omega
/-- a standing's stretches -/
def stch (ys : List (List Y3)) : List S4 := (ys.map nf).flatten
theorem ex_flat : ∀ l : List (List S4), ex l.flatten = (l.map ex).flatten
  | [] => rfl
  | a :: l => by rw [List.flatten_cons, ex_app, ex_flat l]; rfl
theorem ex_stch (ys : List (List Y3)) : ex (stch ys) = ys.flatten := by
  unfold stch
  rw [ex_flat, List.map_map]
  congr 1
  refine (List.map_congr_left fun y _ => ?_).trans (List.map_id ys)
  exact (ex_nf y).1
theorem stch_mem {ys : List (List Y3)} {s : S4} (h : s ∈ stch ys) : ∃ y ∈ ys, s ∈ nf y := by
  obtain ⟨ss, h1, h2⟩ := List.mem_flatten.mp h
  obtain ⟨y, hy, rfl⟩ := List.mem_map.mp h1
  exact ⟨y, hy, h2⟩
theorem St.stch_ok {ys : List (List Y3)} (S : St ys) : ∀ s ∈ stch ys, (s.y = 1 ∨ s.y = -1) ∧ 1 ≤ s.m := fun s hs => by
  obtain ⟨y, hy, h⟩ := stch_mem hs
  obtain ⟨a1, a2, _⟩ := nf_mem h
  exact ⟨(S.ok y hy _ a1).y, a2⟩
theorem St.pos {ys : List (List Y3)} (S : St ys) : Pos (stch ys) := fun s hs => (S.stch_ok s hs).2
def spn (ys : List (List Y3)) : List S3 := sspans (stch ys)
theorem St.perm {ys : List (List Y3)} (S : St ys) : (exS (spn ys)).Perm (ys.flatten.map upY) := by
  have := exS_perm S.stch_ok
  rw [ex_stch] at this
  exact this
theorem St.apl {ys : List (List Y3)} (S : St ys) : apl (spn ys) := apl_of (sspans_pw _) goodS_sspans (S.perm.nodup_iff.mpr S.nd)
theorem St.rising {ys : List (List Y3)} (S : St ys) : (exS (spn ys)).Pairwise yLt := exS_pw (sspans_pw _) S.apl goodS_sspans
/-- all of a stretch's yards lie within -/
theorem nf_last {y : List Y3} {s : S4} (h : s ∈ nf y) : (⟨s.w, s.last, s.y⟩ : Y3) ∈ y := by
  obtain ⟨e, ps⟩ := ex_nf y
  have m1 := ps s h
  have : (⟨s.w, s.last, s.y⟩ : Y3) ∈ ex1 s := by
    refine List.mem_map.mpr ⟨s.m.toNat - 1, List.mem_range.mpr (by omega), ?_⟩
    show (⟨s.w, s.f + s.y * ((s.m.toNat - 1 : Nat) : Int), s.y⟩ : Y3) = _
    rw [show ((s.m.toNat - 1 : Nat) : Int) = s.m - 1 by omega]
    rfl
  rw [← e]
  exact List.mem_flatMap.mpr ⟨s, h, this⟩
theorem St.isSt {ys : List (List Y3)} (S : St ys) {y : List Y3} (hy : y ∈ ys) {s : S4} (h : s ∈ nf y) : isSt s.d = true := by
  obtain ⟨a1, a2, a3⟩ := nf_mem h
  have o1 := S.ok y hy _ a1
  have o2 := S.ok y hy _ (nf_last h)
  have yl : (y.length : Int) ≤ M18 := by
    have := S.sum
    have : y.length ≤ ys.flatten.length := by
      obtain ⟨l1, l2, e⟩ := List.append_of_mem hy
      rw [e, List.flatten_append, List.flatten_cons, List.length_append, List.length_append]
      omega
    omega
  have b1 := o2.n0
  have b2 := o2.n1
  simp only [S4.last] at b1 b2
  have w1 : isWd (.str s.w) = true := o1.w
  have c1 := o1.n0
  have c2 := o1.n1
  have y1 : isWy (.int s.y) = true := by
    rcases o1.y with e | e
    · have e : s.y = 1 := e
      rw [e]; rfl
    · have e : s.y = -1 := e
      rw [e]; rfl
  unfold S4.d LW.isSt
  simp only [w1, y1, isWh, Bool.true_and, Bool.and_eq_true, decide_eq_true_eq]
  simp only at c1 c2
  refine ⟨⟨c1, c2⟩, ⟨a2, by omega⟩, b1, b2⟩
theorem form_nf (y : List Y3) : form (nf y) = true := by
  rw [← jn_eq, jn_nf]
  exact decide_eq_true rfl
theorem rowsD_stD (ys : List (List Y3)) : stD ys = .tup ((ys.map nf).map rowD) := rfl
/-- a standing is one -/
theorem St.stand {ys : List (List Y3)} (S : St ys) : stand (stD ys) = true := by
  rw [rowsD_stD]
  show (decide (2 ≤ ((ys.map nf).map rowD).length) && (decide (((ys.map nf).map rowD).length ≤ 6) && (((ys.map nf).map rowD).all rowOK && (decide ((((((ys.map nf).map rowD).flatMap part).map toS).map S4.m).sum ≤ M18) && aps (sspans ((((ys.map nf).map rowD).flatMap part).map toS)))))) = true
  rw [map_toS]
  have e1 : ((ys.map nf).map rowD).length = ys.length := by simp
  have e2 : ((ys.map nf).map rowD).all rowOK = true := by
    rw [List.all_eq_true]
    intro x hx
    obtain ⟨ss, hss, rfl⟩ := List.mem_map.mp hx
    obtain ⟨y, hy, rfl⟩ := List.mem_map.mp hss
    unfold rowD rowOK
    rw [Bool.and_eq_true]
    refine ⟨?_, ?_⟩
    · rw [List.all_eq_true]
      intro z hz
      obtain ⟨s, hs, rfl⟩ := List.mem_map.mp hz
      exact S.isSt hy hs
    · rw [List.map_map, show toS ∘ S4.d = id from rfl, List.map_id]
      exact form_nf y
  have e3 : ((ys.map nf).flatten.map S4.m).sum = (ys.flatten.length : Int) := by
    have := sum_ex S.pos
    rw [ex_stch] at this
    exact this
  have e4 : aps (sspans (ys.map nf).flatten) = true := aps_apl.mpr S.apl
  rw [e1, e2, e3, e4]
  have := S.l2
  have := S.l6
  have := S.sum
  simp only [Bool.and_self, Bool.and_true, Bool.true_and, Bool.and_eq_true, decide_eq_true_eq]
  exact ⟨‹_›, ‹_›, ‹_›⟩
/-! ### spans merged -/
def mg1 (found : List S3) (s : S3) : List S3 := match found.getLast? with
  | some l => if l.w = s.w ∧ l.hi + 1 = s.lo then found.dropLast ++ [⟨s.w, l.lo, s.hi⟩] else found ++ [s]
  | none => [s]
def mg (ss : List S3) : List S3 := ss.foldl mg1 []
theorem mg1_up (found : List S3) (s : S3) : (mg1 found s).map up4 = jn1 (found.map up4) (up4 s) := by
  unfold mg1 jn1
  rw [List.getLast?_map]
  cases e : found.getLast? with
  | none => rfl
  | some l =>
    simp only [Option.map_some]
    have : (up4 l).goes (up4 s) = true ↔ l.w = s.w ∧ l.hi + 1 = s.lo := by
      rw [goes_iff]
      show l.w = s.w ∧ (1 : Int) = 1 ∧ s.lo = l.lo + 1 * (l.hi - l.lo + 1) ↔ _
      constructor
      · rintro ⟨h1, _, h2⟩; exact ⟨h1, by omega⟩
      · rintro ⟨h1, h2⟩; exact ⟨h1, rfl, by omega⟩
    by_cases c : l.w = s.w ∧ l.hi + 1 = s.lo
    · rw [if_pos c, if_pos (this.mpr c), List.map_append, List.map_dropLast]
      congr 1
      show [(⟨s.w, l.lo, s.hi - l.lo + 1, 1⟩ : S4)] = [⟨l.w, l.lo, l.hi - l.lo + 1 + (s.hi - s.lo + 1), 1⟩]
      obtain ⟨c1, c2⟩ := c
      rw [c1, ← c2]
      congr 2
      omega
    · rw [if_neg c, if_neg (fun z => c (this.mp z)), List.map_append]
      rfl
theorem mg_up' : ∀ (ss found : List S3), (ss.foldl mg1 found).map up4 = (ss.map up4).foldl jn1 (found.map up4)
  | [], _ => rfl
  | s :: ss, found => by
    rw [List.foldl_cons, List.map_cons, List.foldl_cons, mg_up' ss, mg1_up]
theorem mg_up (ss : List S3) : (mg ss).map up4 = jn (ss.map up4) := mg_up' ss []
theorem up4_inj {a b : S3} (h : up4 a = up4 b) : a = b := by
  unfold up4 at h
  cases a; cases b
  simp at h ⊢
  obtain ⟨h1, h2, h3⟩ := h
  exact ⟨h1, h2, by omega⟩
theorem pos_up4 {ss : List S3} (g : goodS ss) : Pos (ss.map up4) := fun s hs => by
  obtain ⟨t, ht, rfl⟩ := List.mem_map.mp hs
  have := g t ht
  show 1 ≤ t.hi - t.lo + 1
  omega
/-- merged spans are the same just where the yards are -/
theorem mg_iff {ys zs : List (List Y3)} (S : St ys) (T : St zs) : mg (spn ys) = mg (spn zs) ↔ ∀ a, a ∈ ys.flatten.map upY ↔ a ∈ zs.flatten.map upY := by
  have g1 : goodS (spn ys) := goodS_sspans
  have g2 : goodS (spn zs) := goodS_sspans
  constructor
  · intro h a
    have : jn ((spn ys).map up4) = jn ((spn zs).map up4) := by rw [← mg_up, ← mg_up, h]
    have e := congrArg ex this
    rw [(ex_jn (pos_up4 g1)).1, (ex_jn (pos_up4 g2)).1] at e
    have e : exS (spn ys) = exS (spn zs) := e
    rw [← S.perm.mem_iff, ← T.perm.mem_iff, e]
  · intro h
    have e : exS (spn ys) = exS (spn zs) := rising_eq S.rising T.rising fun a => by rw [S.perm.mem_iff, T.perm.mem_iff]; exact h a
    have : jn ((spn ys).map up4) = jn ((spn zs).map up4) := by
      rw [jn_ex (pos_up4 g1), jn_ex (pos_up4 g2)]
      exact congrArg nf e
    rw [← mg_up, ← mg_up] at this
    exact (List.map_inj_right fun _ _ => up4_inj).mp this
end LW
set_option Elab.async false
set_option linter.all false
set_option maxRecDepth 100000
set_option maxHeartbeats 1000000
namespace LW
open PySem L2 DL
/-! ### lists of spans, standings: == -/
theorem toPs_S3 : ∀ l : List S3, toPs (l.map S3.d) = l.map S3.p
  | [] => rfl
  | s :: l => by rw [List.map_cons, toPs, S3.toP, toPs_S3 l]; rfl
theorem canLay_S3 : ∀ {l : List S3}, (∀ s ∈ l, PyData.strOk s.w = true) → PyData.canLayAll0 (l.map S3.p) = true ∧ PyData.depthAll (l.map S3.p) ≤ 1
  | [], _ => ⟨rfl, Nat.zero_le _⟩
  | s :: l, f => by
    have hz := f s List.mem_cons_self
    have h1 : s.p.canLay0 = true ∧ s.p.depth = 1 := by
      simp [S3.p, PyData.canLay0, PyData.canLayAll0, PyData.depth, PyData.depthAll, hz]
    obtain ⟨h3, h4⟩ := canLay_S3 (l := l) fun t ht => f t (List.mem_cons_of_mem _ ht)
    rw [List.map_cons, PyData.canLayAll0, PyData.depthAll, h1.1, h1.2, h3]
    exact ⟨rfl, by omega⟩
theorem shaped_lst3 {l : List S3} (f : ∀ s ∈ l, PyData.strOk s.w = true) : SeqAt.shaped (.list (l.map S3.p)) = true := by
  obtain ⟨h1, h2⟩ := canLay_S3 f
  simp [SeqAt.shaped, PyData.canLay0, PyData.depth, h1]
  omega
theorem s3_eq {a b : S3} : a = b ↔ a.w = b.w ∧ a.lo = b.lo ∧ a.hi = b.hi := by
  cases a; cases b
  simp
instance : DecidableEq S3 := fun a b => decidable_of_iff _ s3_eq.symm
theorem eqvAll_S3 : ∀ a b : List S3, PyData.eqvAll (a.map S3.p) (b.map S3.p) = decide (a = b)
  | [], [] => by simp [PyData.eqvAll]
  | [], _ :: _ => by simp [PyData.eqvAll]
  | _ :: _, [] => by simp [PyData.eqvAll]
  | x :: a, y :: b => by
    rw [List.map_cons, List.map_cons, PyData.eqvAll, eqvAll_S3 a b]
    have e : PyData.eqv x.p y.p = decide (x = y) := by
      rw [Bool.eq_iff_iff, decide_eq_true_iff, s3_eq]
      cases x; cases y
      simp [S3.p, PyData.eqv, PyData.eqvAll]
    rw [e, ← Bool.decide_and]
    exact decide_eq_decide.mpr (by rw [List.cons.injEq])
theorem den_lst3 {h : MH} {a : Addr} {l : List S3} (e : h a = some (.lst (l.map S3.d))) : Den h (.ref a) (.list (l.map S3.p)) := by
  refine .lst e (by simp) fun i d t hd ht => ?_
  rw [List.getElem?_map] at hd ht
  cases q : l[i]? with
  | none => rw [q] at hd; cases hd
  | some s =>
    rw [q] at hd ht
    cases hd; cases ht
    have := imm_den (h := h) s.imm
    rw [s.toP] at this
    exact this
theorem eqD_lst3 {h : MH} {a b : Addr} {l m : List S3} {P : Bool → Prop} (ea : h a = some (.lst (l.map S3.d))) (eb : h b = some (.lst (m.map S3.d))) (fl : ∀ s ∈ l, PyData.strOk s.w = true) (fm : ∀ s ∈ m, PyData.strOk s.w = true) (p : P (decide (l = m))) : eqD (.ref a) (.ref b) h P := by
  refine Or.inl ?_
  refine ⟨_, _, den_lst3 ea, den_lst3 eb, shaped_lst3 fl, shaped_lst3 fm, ?_⟩
  rw [PyData.eqv, eqvAll_S3]
  exact p
/-- whose words merged spans tell -/
theorem mg1_w {P : Str → Prop} {found : List S3} {s : S3} (hf : ∀ t ∈ found, P t.w) (hs : P s.w) : ∀ t ∈ mg1 found s, P t.w := fun t ht => by
  unfold mg1 at ht
  split at ht
  · split at ht
    · rcases List.mem_append.mp ht with ht | ht
      · exact hf t ((List.dropLast_sublist _).subset ht)
      · rw [List.mem_singleton.mp ht]; exact hs
    · rcases List.mem_append.mp ht with ht | ht
      · exact hf t ht
      · rw [List.mem_singleton.mp ht]; exact hs
  · rw [List.mem_singleton.mp ht]; exact hs
theorem mg_w {P : Str → Prop} : ∀ {ss found : List S3}, (∀ t ∈ found, P t.w) → (∀ t ∈ ss, P t.w) → ∀ t ∈ ss.foldl mg1 found, P t.w
  | [], _, hf, _ => hf
  | s :: ss, found, hf, hs => mg_w (ss := ss) (mg1_w hf (hs s List.mem_cons_self)) fun t ht => hs t (List.mem_cons_of_mem _ ht)
theorem sspans_w {P : Str → Prop} {l : List S4} (h : ∀ s ∈ l, P s.w) : ∀ t ∈ sspans l, P t.w := fun t ht => by
  obtain ⟨s, hs, rfl⟩ := List.mem_map.mp ((sspans_perm l).mem_iff.mp ht)
  exact h s hs
/-! standings -/
theorem toPs_rows : ∀ l : List (List S4), toPs (l.map rowT) = l.map fun ss => PyData.tuple (ss.map S4.p)
  | [] => rfl
  | s :: l => by
    rw [List.map_cons, toPs, toPs_rows l]
    show DL.toP (.tup (s.map S4.d)) :: _ = _
    rw [DL.toP, toPs_S4]; rfl
theorem imms_rows : ∀ l : List (List S4), imms (l.map rowT) = true
  | [] => rfl
  | s :: l => by
    rw [List.map_cons, imms, imms_rows l]
    show (DL.imm (.tup (s.map S4.d)) && true) = true
    rw [DL.imm, imms_S4]; rfl
theorem canLay_rows : ∀ {l : List (List S4)}, (∀ ss ∈ l, ∀ s ∈ ss, PyData.strOk s.w = true) → PyData.canLayAll0 (l.map fun ss => PyData.tuple (ss.map S4.p)) = true ∧ PyData.depthAll (l.map fun ss => PyData.tuple (ss.map S4.p)) ≤ 2
  | [], _ => ⟨rfl, Nat.zero_le _⟩
  | s :: l, f => by
    obtain ⟨h1, h2⟩ := canLay_S4 (f s List.mem_cons_self)
    obtain ⟨h3, h4⟩ := canLay_rows (l := l) fun t ht => f t (List.mem_cons_of_mem _ ht)
    rw [List.map_cons, PyData.canLayAll0, PyData.depthAll, h3]
    refine ⟨?_, ?_⟩
    · simp only [PyData.canLay0, h1, Bool.and_true]
    · have : (PyData.tuple (s.map S4.p)).depth = PyData.depthAll (s.map S4.p) + 1 := by simp [PyData.depth]
      omega
theorem eqvAll_rows : ∀ a b : List (List S4), PyData.eqvAll (a.map fun ss => PyData.tuple (ss.map S4.p)) (b.map fun ss => PyData.tuple (ss.map S4.p)) = decide (a = b)
  | [], [] => by simp [PyData.eqvAll]
  | [], _ :: _ => by simp [PyData.eqvAll]
  | _ :: _, [] => by simp [PyData.eqvAll]
  | x :: a, y :: b => by
    rw [List.map_cons, List.map_cons, PyData.eqvAll, eqvAll_rows a b, PyData.eqv, eqvAll_S4, ← Bool.decide_and]
    exact decide_eq_decide.mpr (by rw [List.cons.injEq])
theorem nf_inj {a b : List Y3} (h : nf a = nf b) : a = b := by rw [← (ex_nf a).1, h, (ex_nf b).1]
theorem nf_strOk {y : List Y3} (h : ∀ a ∈ y, PyData.strOk a.w = true) : ∀ s ∈ nf y, PyData.strOk s.w = true := fun s hs => h _ (nf_mem hs).1
theorem eqD_rowT {h : MH} {y z : List Y3} {P : Bool → Prop} (fy : ∀ a ∈ y, PyData.strOk a.w = true) (fz : ∀ a ∈ z, PyData.strOk a.w = true) (p : P (decide (y = z))) : eqD (rowT (nf y)) (rowT (nf z)) h P := by
  have sh : ∀ {l : List S4}, (∀ s ∈ l, PyData.strOk s.w = true) → SeqAt.shaped (.tuple (toPs (l.map S4.d))) = true := fun {l} f => by
    rw [toPs_S4]
    obtain ⟨h1, h2⟩ := canLay_S4 f
    simp [SeqAt.shaped, PyData.canLay0, PyData.depth, h1]
    omega
  refine eqD_tup (imms_S4 _) (imms_S4 _) (sh (nf_strOk fy)) (sh (nf_strOk fz)) ?_
  rw [toPs_S4, toPs_S4, eqvAll_S4]
  have : decide (nf y = nf z) = decide (y = z) := decide_eq_decide.mpr ⟨nf_inj, fun e => by rw [e]⟩
  rw [this]; exact p
theorem eqD_st {h : MH} {ys zs : List (List Y3)} {P : Bool → Prop} (gy : GoodY ys) (gz : GoodY zs) (p : P (decide (ys = zs))) : eqD (stD ys) (stD zs) h P := by
  have ok : ∀ {ys : List (List Y3)}, GoodY ys → ∀ ss ∈ ys.map nf, ∀ s ∈ ss, PyData.strOk s.w = true := fun {ys} g ss hs s hm => by
    obtain ⟨y, hy, rfl⟩ := List.mem_map.mp hs
    exact nf_strOk (fun a ha => (g y hy a ha).1) s hm
  have sh : ∀ {l : List (List S4)}, (∀ ss ∈ l, ∀ s ∈ ss, PyData.strOk s.w = true) → SeqAt.shaped (.tuple (toPs (l.map rowT))) = true := fun {l} f => by
    rw [toPs_rows]
    obtain ⟨h1, h2⟩ := canLay_rows f
    simp [SeqAt.shaped, PyData.canLay0, PyData.depth, h1]
    omega
  refine eqD_tup (imms_rows _) (imms_rows _) (sh (ok gy)) (sh (ok gz)) ?_
  rw [toPs_rows, toPs_rows, eqvAll_rows]
  have : decide (ys.map nf = zs.map nf) = decide (ys = zs) := decide_eq_decide.mpr ⟨fun e => (List.map_inj_right fun _ _ => nf_inj).mp e, fun e => by rw [e]⟩
  rw [this]; exact p
end LW
set_option Elab.async false
set_option linter.all false
set_option maxRecDepth 100000
set_option maxHeartbeats 1000000
namespace LW
open PySem L2 DL
/-! ### stretches as (word, least, many) -/
/-- a word of letters -/
def Wl (z : Str) : Prop := isWd (.str z) = true ∧ PyData.strOk z = true
theorem Wl.wd {z : Str} (w : Wl z) : Wd z := ⟨by
  have := w.1
  simp only [isWd, Bool.and_eq_true, decide_eq_true_eq] at this
  exact this.2.1, w.2⟩
def up3 (t : S3) : S4 := ⟨t.w, t.lo, t.hi, 1⟩
structure T3k (t : S3) : Prop where
  w : Wl t.w
  lo : 0 ≤ t.lo
  m1 : 1 ≤ t.hi
  m2 : t.hi ≤ 10 ^ 16
  top : t.lo + t.hi ≤ 200000000000000000
def exT (ts : List S3) : List Y3 := ex (ts.map up3)
theorem exT_app (a b : List S3) : exT (a ++ b) = exT a ++ exT b := by unfold exT; rw [List.map_append, ex_app]
theorem exT_one (t : S3) : exT [t] = ex1 (up3 t) := by unfold exT; rw [List.map_cons, List.map_nil, ex_sing]
theorem mem_exT {ts : List S3} {a : Y3} : a ∈ exT ts ↔ ∃ t ∈ ts, a ∈ ex1 (up3 t) := by
  unfold exT ex
  rw [List.mem_flatMap]
  constructor
  · rintro ⟨s, hs, h⟩
    obtain ⟨t, ht, rfl⟩ := List.mem_map.mp hs
    exact ⟨t, ht, h⟩
  · rintro ⟨s, hs, h⟩
    exact ⟨_, List.mem_map.mpr ⟨s, hs, rfl⟩, h⟩
theorem mem_up3 {t : S3} {a : Y3} : a ∈ ex1 (up3 t) ↔ a.w = t.w ∧ a.y = 1 ∧ t.lo ≤ a.n ∧ a.n < t.lo + t.hi := mem_ex1 rfl
theorem nd_up3 (t : S3) : (ex1 (up3 t)).Nodup := (ex1_pw rfl).imp fun {a b} (h : yLt a b) (z : a = b) => yLt_irrefl b (by rw [z] at h; exact h)
theorem exT_nodup {ts : List S3} {t : S3} (nd : (exT ts).Nodup) (h : ∀ s ∈ ts, s.w = t.w → s.lo + s.hi ≤ t.lo ∨ t.lo + t.hi ≤ s.lo) : (exT (ts ++ [t])).Nodup := by
  rw [exT_app, exT_one, List.nodup_append]
  refine ⟨nd, nd_up3 t, fun a ha b hb e => ?_⟩
  subst e
  obtain ⟨s, hs, ha⟩ := mem_exT.mp ha
  obtain ⟨a1, _, a3, a4⟩ := mem_up3.mp ha
  obtain ⟨b1, _, b3, b4⟩ := mem_up3.mp hb
  have := h s hs (a1.symm.trans b1)
  omega
/-- a stretch laid one way or the other -/
def lay (t : S3) (y : Int) : S4 := ⟨t.w, if y = 1 then t.lo else t.lo + t.hi - 1, t.hi, y⟩
theorem lay_ex {t : S3} {y : Int} (y1 : y = 1 ∨ y = -1) (m1 : 1 ≤ t.hi) : ((ex1 (lay t y)).map upY).Perm (ex1 (up3 t)) := by
  refine (List.perm_ext_iff_of_nodup (ex1u_nodup y1) (nd_up3 t)).mpr fun a => ?_
  rw [mem_ex1u (s := lay t y) y1 m1, mem_up3]
  have : up4 (lay t y).span = up3 t := by
    have e1 : (lay t y).span.lo = t.lo := by
      show (if (lay t y).last < (lay t y).f then (lay t y).last else (lay t y).f) = t.lo
      rcases y1 with rfl | rfl
      · show (if t.lo + 1 * (t.hi - 1) < t.lo then t.lo + 1 * (t.hi - 1) else t.lo) = t.lo
        split <;> omega
      · show (if t.lo + t.hi - 1 + -1 * (t.hi - 1) < t.lo + t.hi - 1 then t.lo + t.hi - 1 + -1 * (t.hi - 1) else t.lo + t.hi - 1) = t.lo
        split <;> omega
    have e2 : (lay t y).span.hi = t.lo + t.hi - 1 := by
      show (if (lay t y).last > (lay t y).f then (lay t y).last else (lay t y).f) = t.lo + t.hi - 1
      rcases y1 with rfl | rfl
      · show (if t.lo + 1 * (t.hi - 1) > t.lo then t.lo + 1 * (t.hi - 1) else t.lo) = t.lo + t.hi - 1
        split <;> omega
      · show (if t.lo + t.hi - 1 + -1 * (t.hi - 1) > t.lo + t.hi - 1 then t.lo + t.hi - 1 + -1 * (t.hi - 1) else t.lo + t.hi - 1) = t.lo + t.hi - 1
        split <;> omega
    unfold up4 up3
    rw [e1, e2]
    show (⟨t.w, t.lo, t.lo + t.hi - 1 - t.lo + 1, 1⟩ : S4) = _
    congr 1
    omega
  rw [this, mem_up3]
/-- a stretch cut in two -/
theorem exT_cut {t : S3} {n : Int} (n0 : 0 ≤ n) (nm : n ≤ t.hi) : exT [⟨t.w, t.lo, n⟩, ⟨t.w, t.lo + n, t.hi - n⟩] = exT [t] := by
  rw [exT_one]
  have e : exT [⟨t.w, t.lo, n⟩, ⟨t.w, t.lo + n, t.hi - n⟩] = ex1 ⟨t.w, t.lo, n, 1⟩ ++ ex1 ⟨t.w, t.lo + n, t.hi - n, 1⟩ := by
    unfold exT up3
    simp [ex]
  rw [e]
  have := ex1_two (w := t.w) (f := t.lo) (y := 1) (m := n) (n := t.hi - n) n0 (by omega)
  rw [Int.one_mul, show n + (t.hi - n) = t.hi by omega] at this
  rw [← this]; rfl
end LW
set_option Elab.async false
set_option linter.all false
set_option maxRecDepth 100000
set_option maxHeartbeats 1000000
set_option exponentiation.threshold 20000
namespace LW
open PySem L2 DL
section
variable {d : Nat} {h : MH} {Q : D → MH → Prop} {E : DX} {p c : Addr} {n : Nat}
theorem wordsK_ok {m : Nat} (hm : m ≤ 26) (pn : Pen h p c n) (hn : n + 1000 < 2 ^ 60) (q : ∀ (ws : List Str) q h', ws.length = m → (∀ z ∈ ws, Wl z) → h q = none → h' q = some (.lst (ws.map .str)) → Pen h' p c (n + 12) → Gx p h h' → Q (.ref q) h') : Ph prog (d + 3) 30 [.ref p, .int m] h Q E := by
  refine ph_of at__law_words rfl ?_
  simp only [f__law_words]
  rw [wpB_cons]
  simp
  rw [wpB_cons]
  simp
  refine draw_ok (d := d + 1) pn (by decide) (by decide) (by omega) fun v h1 v0 vm pn1 g1 => ?_
  simp
  obtain ⟨b, rfl⟩ := Int.eq_ofNat_of_zero_le v0
  have em : (1 + (b : Int)).toNat = b + 1 := by omega
  rw [em]
  refine ⟨by omega, base_lc (d := d) pn1 (by omega) (by omega) (fun x => ⟨rfl, rfl⟩) fun cs h2 cl cm pn2 g2 => ?_⟩
  intro q1 hq1
  have g3 : Gx p h (up h2 q1 (.lst (cs.map fun v => .str ⟨#[v]⟩))) := (g1.trans g2).trans (Gw.up hq1).gx
  have pn3 : Pen (up h2 q1 (.lst (cs.map fun v => .str ⟨#[v]⟩))) p c (n + 9) := (pn2.gw (Gw.up hq1)).mono (by omega)
  refine ⟨_, cs.map (fun v => (⟨#[v]⟩ : Str)), up_self, ?_, ?_, ?_⟩
  · rw [show (cs.map fun v => D.str ⟨#[v]⟩) = (cs.map fun v => (⟨#[v]⟩ : Str)).map D.str by rw [List.map_map]; rfl]
    exact strs_map _
  · rw [sum_sing]
    rw [show (Str.ofString "").length = 0 by decide, Nat.mul_zero]
    omega
  have ej : Txt.join (Str.ofString "") (cs.map fun v => (⟨#[v]⟩ : Str)) = ⟨cs.toArray⟩ := by
    show Builtin.Str.glued (Str.ofString "") _ = _
    rw [StrLaws.glued_eq_join]; exact join_sing cs
  rw [ej]
  have lm : ∀ v ∈ letters.cps.toList, v < 1114112 := by decide
  have ll : ∀ v ∈ letters.cps.toList, subStr ⟨#[v]⟩ letters = true := by decide +kernel
  have bl : (⟨cs.toArray⟩ : Str).length = cs.length := by simp [Str.length]
  generalize up h2 q1 (.lst (cs.map fun v => .str ⟨#[v]⟩)) = h4 at g3 pn3 ⊢
  clear pn2 g2 pn1 g1
  show wpB _ _ _ _ _
  have b8 : (⟨cs.toArray⟩ : Str).length ≤ 8 ∧ 0 < (⟨cs.toArray⟩ : Str).length := by omega
  have ok0 : ∀ v ∈ (⟨cs.toArray⟩ : Str).cps.toList, v < 1114112 ∧ subStr ⟨#[v]⟩ letters = true := fun v hv => ⟨lm _ (cm _ (by simpa using hv)), ll _ (cm _ (by simpa using hv))⟩
  generalize (⟨cs.toArray⟩ : Str) = base at b8 ok0 ⊢
  rw [wpB_cons]
  simp
  refine ⟨fits_le (by omega), draw_ok (d := d + 1) pn3 (by omega) (by omega) (by omega) fun at' h5 a0 am pn5 g5 => ?_⟩
  try simp
  refine draw_ok (d := d + 1) pn5 (by decide) (by decide) (by omega) fun first h6 f0 fm pn6 g6 => ?_
  try simp
  refine ⟨fits_le (by decide), ?_⟩
  rw [wpB_cons]
  simp
  refine ⟨fits_le (by decide), fun q2 hq2 => ?_⟩
  refine pick_ok (d := d) (pn6.gw (Gw.up hq2)) (by omega) up_self (by simp) (by decide) fun stepD h7 hs pn7 g7 => ?_
  have : ∃ step : Int, stepD = .int step ∧ 0 < step ∧ step < 26 := by
    simp at hs
    rcases hs with h | h | h | h | h | h | h | h | h | h | h | h <;> exact ⟨_, h, by decide, by decide⟩
  obtain ⟨step, rfl, s0, sm⟩ := this
  try simp
  have g8 : Gx p h h7 := ((((g3.trans g5).trans g6).trans (Gw.up hq2).gx)).trans g7
  clear g7 hs g5 g6 g3
  obtain ⟨a, rfl⟩ := Int.eq_ofNat_of_zero_le a0
  have ls : letters.cps.toList.length = 26 := by decide
  refine ⟨by omega, ?_⟩
  refine lc_rule (fun r acc h' => h' = h7 ∧ (∀ x ∈ r, ∃ k : Nat, x = .int k) ∧ ∃ ws : List Str, acc = ws.map .str ∧ ws.length + r.length = m ∧ ∀ z ∈ ws, Wl z)
    (fun _ _ _ _ => trivial) (fun acc h' ⟨eh, ir, ws, e1, e2, i1⟩ => ?_) (fun dd r acc h' N ⟨eh, ir, ws, e1, e2, i1⟩ hN => ?_) _ _ _ ⟨rfl, ?_, [], rfl, by simp, fun _ z => nomatch z⟩
  · subst eh e1
    obtain ⟨k, rfl⟩ := ir _ List.mem_cons_self
    rw [List.length_cons] at e2
    have m0 := Int.emod_nonneg (first + step * k) (show (26 : Int) ≠ 0 by decide)
    have m1 := Int.emod_lt_of_pos (first + step * k) (show (0 : Int) < 26 by decide)
    obtain ⟨j, hj⟩ := Int.eq_ofNat_of_zero_le m0
    have jl : j < letters.cps.toList.length := by omega
    have gt : letters.cps.toList[j]? = some letters.cps.toList[j] := List.getElem?_eq_getElem jl
    have cv := And.intro (lm _ (List.getElem_mem jl)) (ll _ (List.getElem_mem jl))
    generalize letters.cps.toList[j] = cv' at gt cv
    have e7 : cut base.cps.toList none (some (a : Int)) = base.cps.toList.take a := cut_to _ _
    have e8 : cut base.cps.toList (some ((a : Int) + 1)) none = base.cps.toList.drop (a + 1) := cut_from _ (a + 1)
    simp [e7, e8]
    refine ⟨fits_le (by omega), mulL (by omega), fits_le (by decide), cv', ?_, ?_⟩
    · rw [hj, DL.atI_nat]; exact gt
    have lb := len_list base
    have l1 : (⟨(base.cps.toList.take a).toArray⟩ : Str).length = a := by simp [Str.length] at lb am ⊢; omega
    have l2 : (⟨(base.cps.toList.drop (a + 1)).toArray⟩ : Str).length = base.length - (a + 1) := by simp [Str.length] at lb am ⊢
    have l3 : (⟨#[cv']⟩ : Str).length = 1 := rfl
    have l4 : ((⟨(base.cps.toList.take a).toArray⟩ : Str) ++ ⟨#[cv']⟩).length = a + 1 := by rw [PySem.Str.length_append, l1, l3]
    have l5 : ((⟨(base.cps.toList.take a).toArray⟩ : Str) ++ ⟨#[cv']⟩ ++ ⟨(base.cps.toList.drop (a + 1)).toArray⟩).length = base.length := by
      rw [PySem.Str.length_append, l4, l2]; omega
    refine ⟨by rw [l1, l3]; exact fits_le (by omega), fits_le (by omega), by rw [l4, l2]; exact fits_le (by omega), by rw [sizeLine_eq]; omega, hN _ _ ⟨rfl, fun x hx => ir x (List.mem_cons_of_mem _ hx), ws ++ [_], by rw [List.map_append]; rfl, by rw [List.length_append]; simp; omega, fun z hz => ?_⟩⟩
    rcases List.mem_append.mp hz with hz | hz
    · exact i1 _ hz
    · rw [List.mem_singleton.mp hz]
      have ch : ∀ x ∈ ((base.cps.toList.take a).toArray ++ #[cv']) ++ (base.cps.toList.drop (a + 1)).toArray, x < 1114112 ∧ subStr ⟨#[x]⟩ letters = true := fun x hx => by
        simp at hx
        rcases hx with hx | hx | hx
        · exact ok0 _ (by simpa using List.mem_of_mem_take hx)
        · subst hx; exact cv
        · exact ok0 _ (by simpa using List.mem_of_mem_drop hx)
      refine ⟨?_, ?_⟩
      · simp only [isWd, Bool.and_eq_true, decide_eq_true_eq]
        refine ⟨by rw [l5]; omega, by rw [l5]; omega, ?_⟩
        rw [List.all_eq_true]
        intro x hx
        have hx : x ∈ (((base.cps.toList.take a).toArray ++ #[cv']) ++ (base.cps.toList.drop (a + 1)).toArray).toList := hx
        exact (ch x (Array.mem_toList_iff.mp hx)).2
      · show Array.all _ _ = true
        rw [Array.all_eq_true_iff_forall_mem]
        intro x hx
        show decide (x < 1114112) = true
        exact decide_eq_true (ch x hx).1
  · intro x hx
    simp at hx
    obtain ⟨k, _, rfl⟩ := hx
    exact ⟨k, rfl⟩
  · subst eh e1
    intro q3 hq3
    exact q ws q3 _ e2 i1 (g8.fresh (pn7.nep hq3) hq3) up_self ((pn7.gw (Gw.up hq3)).mono (by omega)) (g8.trans (Gw.up hq3).gx)
theorem turnedP_ok {a : Addr} {xs : List D} (pn : Pen h p c n) (hn : n + 1000 < 2 ^ 60) (ea : h a = some (.lst xs)) (xl : xs.length ≤ 1000) (q : ∀ ys q h', ys.Perm xs → h q = none → h' q = some (.lst ys) → Pen h' p c (n + xs.length) → Gx p h h' → Q (.ref q) h') : Ph prog (d + 2) 31 [.ref p, .ref a] h Q E := by
  refine ph_of at__law_turned_about rfl ?_
  simp only [f__law_turned_about]
  rw [wpB_cons]
  simp [ea]
  intro b hb
  have g0 : Gw h (up h b (.lst xs)) := Gw.up hb
  have np := pn.nep hb
  have nc := pn.nec hb
  have pn := pn.gw g0
  have eb : up h b (.lst xs) b = _ := up_self
  generalize up h b (.lst xs) = h1 at g0 pn eb ⊢
  refine ⟨by omega, ?_⟩
  refine lc_rule (fun r acc h' => ∃ left, r.length = left.length ∧ acc.length + left.length = xs.length ∧ h' b = some (.lst left) ∧ (acc ++ left).Perm xs ∧ Pen h' p c (n + acc.length) ∧ Gx p h h')
    (fun _ _ _ _ => trivial) (fun acc h' ⟨left, e1, e2, e3, i1, pn, g⟩ => ?_) (fun dd r acc h' N ⟨left, e1, e2, e3, i1, pn, g⟩ hN => ?_) _ _ _ ⟨xs, by simp, by simp, eb, by simp, pn.mono (by simp), g0.gx⟩
  · rw [List.length_cons] at e1
    simp [e3]
    refine draw_ok (d := d) pn (by omega) (by omega) (by omega) fun v h2 v0 vm pn2 g2 => ?_
    have e4 := g2.1 _ _ (Ne.symm np) e3
    obtain ⟨k, rfl⟩ := Int.eq_ofNat_of_zero_le v0
    have kl : k < left.length := by omega
    refine ⟨left, k, left[k], e4, ?_, List.getElem?_eq_getElem kl, by omega, by rw [sizeLine_eq]; omega, hN _ _ ⟨left.eraseIdx k, ?_, ?_, up_self, ?_, (pn2.put np nc).mono ?_, ?_⟩⟩
    · rw [ixN_nat, if_pos kl]
    · rw [List.length_eraseIdx_of_lt kl]; omega
    · rw [List.length_eraseIdx_of_lt kl, List.length_append]; simp; omega
    · have : (left[k] :: left.eraseIdx k).Perm left := by
        have e5 : left = left.take k ++ left[k] :: left.drop (k + 1) := by
          rw [← List.drop_eq_getElem_cons kl, List.take_append_drop]
        have e6 : left.eraseIdx k = left.take k ++ left.drop (k + 1) := List.eraseIdx_eq_take_drop_succ left k
        rw [e6]
        have := (List.perm_middle (a := left[k]) (l₁ := left.take k) (l₂ := left.drop (k + 1))).symm
        rw [← e5] at this
        exact this
      rw [List.append_assoc]
      exact ((List.Perm.append_left acc this)).trans i1
    · rw [List.length_append]; simp; omega
    · exact (g.trans g2).new hb np
  · have e1 : left.length = 0 := e1.symm
    intro q1 hq1
    have n1 := pn.nep hq1
    refine q acc q1 _ (by rw [List.length_eq_zero_iff.mp e1, List.append_nil] at i1; exact i1) (g.fresh n1 hq1) up_self ((pn.mono (by omega)).gw (Gw.up hq1)) (g.trans (Gw.up hq1).gx)
end
end LW
set_option Elab.async false
set_option linter.all false
set_option maxRecDepth 100000
set_option maxHeartbeats 1000000
set_option exponentiation.threshold 20000
namespace LW
open PySem L2 DL
theorem getK_map (k k2 : Key) (v : D) : ∀ kvs : List (Key × D), ((kvs.map fun kv => if kv.1 = k then (kv.1, v) else kv).find? fun kv => decide (kv.1 = k2)).map (·.2) = if k2 = k then (if (kvs.any fun kv => decide (kv.1 = k)) = true then some v else none) else (kvs.find? fun kv => decide (kv.1 = k2)).map (·.2)
  | [] => by simp
  | (a, b) :: kvs => by
    have ih := getK_map k k2 v kvs
    rw [List.map_cons, List.find?_cons, List.find?_cons, List.any_cons]
    by_cases c : a = k
    · subst c
      by_cases c2 : k2 = a
      · subst c2; simp
      · have : ¬ a = k2 := fun z => c2 z.symm
        simp only [if_true, this, decide_false]
        rw [if_neg c2] at ih ⊢
        exact ih
    · simp only [if_neg c]
      by_cases c2 : k2 = k
      · subst c2
        simp only [c, decide_false, Bool.false_or]
        rw [if_pos rfl] at ih
        simp only [if_true]
        exact ih
      · rw [if_neg c2] at ih ⊢
        by_cases c3 : a = k2
        · subst c3; simp
        · simp only [c3, decide_false]
          exact ih
theorem getK_putK {kvs : List (Key × D)} {k k2 : Key} {v : D} : getK (DL.putK kvs k v) k2 = if k2 = k then some v else getK kvs k2 := by
  unfold getK DL.putK
  by_cases c : (kvs.any fun kv => decide (kv.1 = k)) = true
  · rw [if_pos c, getK_map]
    by_cases c2 : k2 = k
    · rw [if_pos c2, if_pos c2, if_pos c]
    · rw [if_neg c2, if_neg c2]
  · rw [if_neg c, List.find?_append]
    by_cases c2 : k2 = k
    · subst c2
      have : (kvs.find? fun kv => decide (kv.1 = k2)) = none := by
        rw [List.find?_eq_none]
        intro x hx z
        exact c (List.any_eq_true.mpr ⟨x, hx, z⟩)
      rw [this, if_pos rfl]
      simp
    · rw [if_neg c2]
      have : ¬ k = k2 := fun z => c2 z.symm
      cases kvs.find? fun kv => decide (kv.1 = k2) <;> simp [this]
section
variable {d : Nat} {h : MH} {Q : D → MH → Prop} {E : DX} {p c : Addr} {n : Nat}
theorem gstretchesS_ok {a : Addr} {ws : List Str} (pn : Pen h p c n) (hn : n + 1000 < 2 ^ 60) (ea : h a = some (.lst (ws.map .str))) (w0 : ws ≠ []) (w9 : ws.length ≤ 1000) (wd : ∀ z ∈ ws, Wl z)
    (q : ∀ (ts : List S3) q h', h q = none → h' q = some (.lst (ts.map S3.d)) → ts.length ≤ 16 → (∀ x ∈ ts, T3k x ∧ x.lo + x.hi ≤ 170000000000000000) → (exT ts).Nodup → Pen h' p c (n + 400) → Gx p h h' → Q (.ref q) h') : Ph prog (d + 4) 37 [.ref p, .ref a] h Q E := by
  refine ph_of at__law_great_stretches rfl ?_
  simp only [f__law_great_stretches]
  rw [wpB_cons]
  simp [-al_eq]
  refine ⟨fits_le (by decide), al_rule fun q1 h1 hq1 g1 e1 => al_rule fun q2 h2 hq2 g2 e2 => ⟨fits_le (by decide), al_rule fun q3 h3 hq3 g3 e3 => ?_⟩⟩
  have g := g1.trans (g2.trans g3)
  refine pick_ok (d := d + 1) (pn.gw g) (by omega) e3 (by simp) (by simp) fun mD h4 hm pn4 g4 => ?_
  have : ∃ most : Nat, mD = .int most ∧ 1 ≤ most ∧ most ≤ 17 := by
    simp at hm
    rcases hm with rfl | rfl
    · exact ⟨8, rfl, by decide, by decide⟩
    · exact ⟨17, rfl, by decide, by decide⟩
  obtain ⟨most, rfl, mo1, mo2⟩ := this
  have nap : a ≠ p := fun z => by obtain ⟨k, e⟩ := pn.has; rw [← z, ea] at e; cases e
  have npq1 : q1 ≠ p := (pn.nep hq1).symm
  have npq2 : q2 ≠ p := ((pn.gw g1).nep hq2).symm
  have ncq2 : c ≠ q2 := (pn.gw g1).nec hq2
  have ncq1 : c ≠ q1 := pn.nec hq1
  have fq2 : h q2 = none := Gw.fresh g1 hq2
  have e1 := g4.1 _ _ npq1 (g3 _ _ (g2 _ _ e1))
  have e2 := g4.1 _ _ npq2 (g3 _ _ e2)
  have G4 : Gx p h h4 := g.gx.trans g4
  try simp [-al_eq]
  refine ⟨fits_le (by decide), ?_⟩
  rw [wpB_cons]
  simp [-al_eq]
  refine draw_ok (d := d + 2) pn4 (by omega) (by omega) (by omega) fun v h5 v0 vm pn5 g5 => ?_
  obtain ⟨tot, rfl⟩ := Int.eq_ofNat_of_zero_le v0
  try simp [-al_eq]
  refine ⟨by omega, ?_⟩
  refine for_rule (fun r σ h' => ∃ (j : Nat) (kvs : List (Key × D)) (ts : List S3) (x5 x6 x7 x8 : Option D), r.length + j = tot ∧ σ = [some (.ref p), some (.ref a), some (.ref q1), some (.ref q2), some (.int most), x5, x6, x7, x8] ∧
        h' q1 = some (.lst (ts.map S3.d)) ∧ ts.length ≤ j ∧ (∀ x ∈ ts, T3k x ∧ x.lo + x.hi ≤ 170000000000000000) ∧ ((exT ts).Nodup ∧ ∀ x ∈ ts, ∃ v : Int, getK kvs (.inr x.w) = some (.int v) ∧ x.lo + x.hi ≤ v) ∧ h' q2 = some (.dct kvs) ∧ kvs.length ≤ j ∧ Bd kvs (10000000000000010 * j + 10) ∧ Pen h' p c (n + 2 + 20 * j) ∧ Gx p h h')
      (fun _ _ _ _ => trivial) (fun σ h' ⟨j, kvs, ts, x5, x6, x7, x8, l1, es, eq1, tl, tb, nd, eq2, kl, kb, pn, g⟩ => ?_) (fun dd r σ h' K ⟨j, kvs, ts, x5, x6, x7, x8, l1, es, eq1, tl, tb, nd, eq2, kl, kb, pn, g⟩ hK => ?_) _ _ _ ⟨0, [], [], none, none, none, none, by simp, rfl, g5.1 _ _ npq1 e1, by simp, (fun _ z => nomatch z), ⟨List.nodup_nil, fun _ z => nomatch z⟩, g5.1 _ _ npq2 e2, by simp, (fun _ z => nomatch z), pn5.mono (by omega), G4.trans g5⟩
  · subst es
    have l1 : 0 + j = tot := l1
    simp
    exact q ts q1 h' hq1 eq1 (by omega) tb nd.1 (pn.mono (by omega)) g
  · subst es
    rw [List.length_cons] at l1
    simp only [bindT_nm, List.set]
    rw [wpB_cons]
    simp [-al_eq]
    refine pick_ok (d := d + 1) pn (by omega) (g.1 _ _ nap ea) (by simpa using w0) (by simp; omega) fun wD h6 hw pn6 g6 => ?_
    obtain ⟨word, hwd, rfl⟩ := List.mem_map.mp hw
    try simp [-al_eq]
    refine ⟨fits_le (by decide), al_rule fun q4 h7 hq4 g7 e4 => ?_⟩
    refine pick_ok (d := d + 1) (pn6.gw g7) (by omega) e4 (by simp) (by simp) fun fD h8 hf pn8 g8 => ?_
    have : ∃ fi : Nat, fD = .int fi ∧ fi ≤ 16 := by
      simp at hf
      rcases hf with rfl | rfl | rfl | rfl | rfl
      · exact ⟨16, rfl, by decide⟩
      · exact ⟨12, rfl, by decide⟩
      · exact ⟨2, rfl, by decide⟩
      · exact ⟨1, rfl, by decide⟩
      · exact ⟨0, rfl, by decide⟩
    obtain ⟨fi, rfl, fl⟩ := this
    refine great_ok (d := d + 1) pn8 (by omega) (by omega) fun m h9 m0 mm pn9 g9 => ?_
    have mb : m < 10 ^ 16 := by
      have : (10 : Int) ^ fi ≤ 10 ^ 16 := by exact_mod_cast Nat.pow_le_pow_right (by decide) fl
      omega
    have pn9 := pn9.mono (m := n + 2 + 20 * j + 18) (by omega)
    have G9 : Gx p h' h9 := ((g6.trans g7.gx).trans g8).trans g9
    clear g6 g7 g8 g9 hf
    try simp [-al_eq]
    refine ⟨fits_le (by decide), ?_⟩
    rw [wpB_cons]
    simp [-al_eq]
    refine ⟨⟨_, G9.1 _ _ npq2 eq2⟩, draw_ok (d := d + 2) pn9 (by decide) (by decide) (by omega) fun f0 h10 f0a f0b pn10 g10 => ?_⟩
    have G10 := G9.trans g10
    obtain ⟨f, ef, fa, fb⟩ := getK_bd (k := .inr word) kb f0a (show f0 ≤ 10000000000000010 * (j : Int) + 10 by omega)
    refine ⟨kvs, .inr word, rfl, G10.1 _ _ npq2 eq2, ?_⟩
    have egk := ef
    rw [ef]
    clear G9 g10
    refine draw_ok (d := d + 2) pn10 (by decide) (by decide) (by omega) fun e h11 e0 em pn11 g11 => ?_
    have G11 := G10.trans g11
    clear G10 g11
    have eq2' := G11.1 _ _ npq2 eq2
    simp only [bop_add_int]
    rw [wpB_cons]
    simp [-al_eq]
    refine ⟨kvs, eq2', by rw [sizeLine_eq]; omega, ?_⟩
    obtain ⟨kb2, kl2⟩ := putK_bd (B' := 10000000000000010 * ((j + 1 : Nat) : Int) + 10) (k := .inr word) (v := f + e + (1 + m)) kb (by omega) (by omega) (by omega)
    have gput : ∀ w : Str, getK (DL.putK kvs (.inr word) (.int (f + e + (1 + m)))) (.inr w) = if w = word then some (.int (f + e + (1 + m))) else getK kvs (.inr w) := fun w => by
      rw [getK_putK]
      by_cases c : w = word
      · rw [if_pos c, if_pos (by rw [c])]
      · rw [if_neg c, if_neg (fun z => c (by simpa using z))]
    generalize DL.putK kvs (.inr word) (.int (f + e + (1 + m))) = kvs2 at kb2 kl2 gput ⊢
    have n12 : q1 ≠ q2 := fun z => by rw [z, eq2] at eq1; cases eq1
    have G12 : Gx p h (up h11 q2 (.dct kvs2)) := (g.trans G11).new fq2 npq2.symm
    have pn12 : Pen (up h11 q2 (.dct kvs2)) p c _ := pn11.put npq2.symm ncq2
    have q12 : up h11 q2 (.dct kvs2) q1 = some (.lst (ts.map S3.d)) := (up_ne n12).trans (G11.1 _ _ npq1 eq1)
    have q22 : up h11 q2 (.dct kvs2) q2 = some (.dct kvs2) := up_self
    generalize up h11 q2 (.dct kvs2) = h12 at G12 pn12 q12 q22 ⊢
    have np := pn12.mono (m := n + 2 + 20 * (j + 1)) (by omega)
    have nd1 : ∀ x ∈ ts, x.w = word → x.lo + x.hi ≤ f := fun x hx ew => by
      obtain ⟨v, h1, h2⟩ := nd.2 x hx
      rw [ew] at h1
      rw [h1] at egk
      have : (D.int v) = .int f := egk
      cases this; exact h2
    refine ⟨⟨_, q12⟩, fits_le (by decide), _, q12, by rw [sizeLine_eq, List.length_map]; omega, hK _ _ ⟨j + 1, kvs2, ts ++ [⟨word, f + e, 1 + m⟩], _, _, _, _, by omega, rfl, by rw [up_self, List.map_append]; rfl, by simp; omega, fun x hx => ?_, ⟨exT_nodup nd.1 fun s hs ew => .inl (by have := nd1 s hs ew; show s.lo + s.hi ≤ f + e; omega), fun x hx => ?_⟩, (up_ne n12.symm).trans q22, by omega, kb2, np.put npq1.symm ncq1, G12.new hq1 npq1.symm⟩⟩
    · rcases List.mem_append.mp hx with hx | hx
      · exact tb _ hx
      · rw [List.mem_singleton.mp hx]
        exact ⟨⟨wd _ hwd, by show 0 ≤ f + e; omega, by show 1 ≤ 1 + m; omega, by show 1 + m ≤ 10 ^ 16; omega, by show f + e + (1 + m) ≤ _; omega⟩, by show f + e + (1 + m) ≤ _; omega⟩
    · rw [gput]
      rcases List.mem_append.mp hx with hx | hx
      · by_cases c : x.w = word
        · rw [if_pos c]
          exact ⟨_, rfl, by have := nd1 x hx c; omega⟩
        · rw [if_neg c]
          exact nd.2 x hx
      · rw [List.mem_singleton.mp hx, if_pos rfl]
        exact ⟨_, rfl, Int.le_refl _⟩
end
end LW
set_option Elab.async false
set_option linter.all false
set_option maxRecDepth 100000
set_option maxHeartbeats 1000000
namespace LW
open PySem L2 DL
/-! ### rows in the heap, each at its place -/
structure Rr (h0 h : MH) (rs : List Addr) (sss : List (List S4)) : Prop where
  l : rs.length = sss.length
  nd : ∀ (i j : Nat) (r : Addr), rs[i]? = some r → rs[j]? = some r → i = j
  f : ∀ r ∈ rs, h0 r = none
  i : ∀ (i : Nat) r ss, rs[i]? = some r → sss[i]? = some ss → h r = some (.lst (ss.map S4.d))
section
variable {h0 h h1 : MH} {rs : List Addr} {sss : List (List S4)}
theorem Rr.keep (s : Rr h0 h rs sss) (k : ∀ r xs, r ∈ rs → h r = some (.lst xs) → h1 r = some (.lst xs)) : Rr h0 h1 rs sss := ⟨s.l, s.nd, s.f, fun i r ss a b => k r _ (List.mem_of_getElem? a) (s.i i r ss a b)⟩
theorem Rr.nil : Rr h0 h [] [] := ⟨rfl, (fun i j r a => by simp at a), (fun _ z => nomatch z), (fun i r ss a => by simp at a)⟩
theorem Rr.snoc {q : Addr} {ss : List S4} (s : Rr h0 h rs sss) (g0 : Gw h0 h) (fq : h q = none) (g : Gw h h1) (e : h1 q = some (.lst (ss.map S4.d))) : Rr h0 h1 (rs ++ [q]) (sss ++ [ss]) := by
  have has : ∀ r ∈ rs, ∃ o, h r = some o := fun r hr => by
    obtain ⟨i, hi, e⟩ := List.getElem_of_mem hr
    exact ⟨_, s.i i r (sss[i]'(by rw [← s.l]; exact hi)) (by rw [List.getElem?_eq_getElem hi, e]) (List.getElem?_eq_getElem _)⟩
  have nq : q ∉ rs := fun z => by obtain ⟨o, e⟩ := has q z; rw [fq] at e; cases e
  refine ⟨by simp [s.l], fun i j r a b => ?_, fun r hr => ?_, fun i r y' a b => ?_⟩
  · rw [List.getElem?_append] at a b
    split at a
    · split at b
      · exact s.nd i j r a b
      · have : r = q := by
          have := List.mem_of_getElem? b
          simpa using this
        exact absurd (this ▸ List.mem_of_getElem? a) nq
    · have ra : r = q := by
        have := List.mem_of_getElem? a
        simpa using this
      split at b
      · exact absurd (ra ▸ List.mem_of_getElem? b) nq
      · have h1 := (List.getElem?_eq_some_iff.mp a).1
        have h2 := (List.getElem?_eq_some_iff.mp b).1
        simp at h1 h2
        omega
  · rcases List.mem_append.mp hr with hr | hr
    · exact s.f r hr
    · rw [List.mem_singleton.mp hr]; exact fresh_gw g0 fq
  · rw [List.getElem?_append] at a b
    split at a
    · rename_i c
      rw [if_pos (by rw [← s.l]; exact c)] at b
      exact g _ _ (s.i i r y' a b)
    · rename_i c
      rw [if_neg (by rw [← s.l]; exact c)] at b
      have h1 := (List.getElem?_eq_some_iff.mp a).1
      simp at h1
      have ei2 : i - sss.length = 0 := by rw [← s.l]; omega
      have ei3 : i - rs.length = 0 := by omega
      rw [ei2] at b
      rw [ei3] at a
      cases a; cases b
      exact e
/-- a row is written -/
theorem Rr.put (s : Rr h0 h rs sss) {a : Nat} {r : Addr} (hr : rs[a]? = some r) (ss' : List S4) : Rr h0 (up h r (.lst (ss'.map S4.d))) rs (sss.set a ss') := by
  refine ⟨by rw [List.length_set]; exact s.l, s.nd, s.f, fun i r2 y a1 a2 => ?_⟩
  rw [List.getElem?_set] at a2
  split at a2
  · rename_i c
    subst c
    rw [hr] at a1
    cases a1
    split at a2
    · cases a2; exact up_same
    · cases a2
  · rename_i c
    have : r2 ≠ r := fun z => by
      subst z
      exact c (s.nd _ _ _ hr a1)
    exact (up_ne this).trans (s.i i r2 y a1 a2)
/-- rows are apart from the list of them -/
theorem Rr.ne (s : Rr h0 h rs sss) {q : Addr} (e : h q = some (.lst (rs.map D.ref))) : ∀ r ∈ rs, r ≠ q := fun r hr z => by
  obtain ⟨i, hi, ei⟩ := List.getElem_of_mem hr
  have := s.i i r (sss[i]'(by rw [← s.l]; exact hi)) (by rw [List.getElem?_eq_getElem hi, ei]) (List.getElem?_eq_getElem _)
  rw [z, e] at this
  cases rs with
  | nil => cases hr
  | cons x rs =>
    cases hss : sss[i]'(by rw [← s.l]; exact hi) with
    | nil => rw [hss] at this; cases this
    | cons t u =>
      rw [hss] at this
      have := congrArg (fun o => match o with | some (MO.lst (y :: _)) => some y | _ => none) this
      simp [S4.d] at this
end
/-- all yards, one row longer -/
theorem perm_set {e : List Y3} : ∀ {sss : List (List S4)} {i : Nat} {ss2 : List S4}, i < sss.length → ex ss2 = ex (sss.getD i []) ++ e → (ex (sss.set i ss2).flatten).Perm (ex sss.flatten ++ e)
  | [], _, _, h, _ => absurd h (by simp)
  | s :: sss, 0, ss2, _, e1 => by
    rw [List.set_cons_zero, List.flatten_cons, List.flatten_cons, ex_app, ex_app, e1]
    show ((ex s ++ e) ++ ex sss.flatten).Perm _
    rw [List.append_assoc, List.append_assoc]
    exact List.Perm.append_left _ List.perm_append_comm
  | s :: sss, i + 1, ss2, h, e1 => by
    rw [List.set_cons_succ, List.flatten_cons, List.flatten_cons, ex_app, ex_app, List.append_assoc]
    exact List.Perm.append_left _ (perm_set (sss := sss) (i := i) (by simpa using h) e1)
/-- rows in one form, whose yards are those of stretches -/
structure Rws (sss : List (List S4)) (ts : List S3) : Prop where
  jn : ∀ ss ∈ sss, LW.jn ss = ss
  ps : ∀ ss ∈ sss, Pos ss
  gd : ∀ ss ∈ sss, Good2 ss
  l : sss.flatten.length ≤ ts.length
  perm : ((ex sss.flatten).map upY).Perm (exT ts)
theorem Rws.add {sss : List (List S4)} {ts : List S3} {t : S3} {y : Int} {i : Nat} (R : Rws sss ts) (hi : i < sss.length) (y1 : y = 1 ∨ y = -1) (m1 : 1 ≤ t.hi) (z : PyData.strOk t.w = true) : Rws (sss.set i (jn1 (sss.getD i []) (lay t y))) (ts ++ [t]) := by
  have hm : sss.getD i [] ∈ sss := by
    rw [List.getD_eq_getElem?_getD, List.getElem?_eq_getElem hi]; exact List.getElem_mem hi
  obtain ⟨e1, p1⟩ := ex_jn1 (R.ps _ hm) (s := lay t y) m1
  refine ⟨fun ss hs => ?_, fun ss hs => ?_, fun ss hs => ?_, ?_, ?_⟩
  · rcases List.mem_or_eq_of_mem_set hs with hs | rfl
    · exact R.jn ss hs
    · exact jn_keep (R.jn _ hm) (R.ps _ hm) m1
  · rcases List.mem_or_eq_of_mem_set hs with hs | rfl
    · exact R.ps ss hs
    · exact p1
  · rcases List.mem_or_eq_of_mem_set hs with hs | rfl
    · exact R.gd ss hs
    · exact jn1_good (R.gd _ hm) ⟨z, y1⟩
  · have := fl_setS (ys := sss) (jn1 (sss.getD i []) (lay t y)) hi
    have l1 := jn1_len (sss.getD i []) (lay t y)
    have := R.l
    rw [List.length_append, List.length_singleton]
    omega
  · rw [exT_app, exT_one]
    refine ((perm_set hi e1).map upY).trans ?_
    rw [List.map_append]
    exact R.perm.append (lay_ex y1 m1)
theorem Rws.nil (k : Nat) : Rws (List.replicate k []) [] := by
  have e : (List.replicate k ([] : List S4)).flatten = [] := by
    induction k with
    | zero => rfl
    | succ k ih => rw [List.replicate_succ, List.flatten_cons, ih]; rfl
  refine ⟨fun ss hs => ?_, fun ss hs => ?_, fun ss hs => ?_, by rw [e]; exact Nat.le_refl _, by rw [e]; exact .nil⟩
  · rw [(List.mem_replicate.mp hs).2]; rfl
  · rw [(List.mem_replicate.mp hs).2]; exact fun _ z => nomatch z
  · rw [(List.mem_replicate.mp hs).2]; exact fun _ z => nomatch z
/-- all that lies there, by its yards -/
structure Dlt (ys : List (List Y3)) (ts : List S3) : Prop where
  ok : ∀ y ∈ ys, ∀ a ∈ y, YdOk a
  tot : tot ys ≤ ts.length
  perm : (ys.flatten.map upY).Perm (exT ts)
theorem Rws.dlt {sss : List (List S4)} {ts : List S3} (R : Rws sss ts) (T : ∀ t ∈ ts, T3k t) : Dlt (sss.map ex) ts ∧ (.tup (sss.map rowT) : D) = stD (sss.map ex) := by
  have e1 : (sss.map ex).flatten = ex sss.flatten := (ex_flat sss).symm
  have e2 : (sss.map ex).map nf = sss := by
    rw [List.map_map]
    refine (List.map_congr_left fun ss hs => ?_).trans (List.map_id sss)
    exact nf_of (R.jn ss hs) (R.ps ss hs)
  have pm : ((sss.map ex).flatten.map upY).Perm (exT ts) := by rw [e1]; exact R.perm
  refine ⟨⟨fun y hy a ha => ?_, ?_, pm⟩, ?_⟩
  · have m1 : upY a ∈ exT ts := pm.mem_iff.mp (List.mem_map.mpr ⟨a, List.mem_flatten.mpr ⟨y, hy, ha⟩, rfl⟩)
    obtain ⟨t, ht, h⟩ := mem_exT.mp m1
    obtain ⟨b1, b2, b3, b4⟩ := mem_up3.mp h
    have o := T t ht
    obtain ⟨ss, hs, rfl⟩ := List.mem_map.mp hy
    obtain ⟨s, hsm, hk⟩ := List.mem_flatMap.mp ha
    obtain ⟨k, _, rfl⟩ := List.mem_map.mp hk
    have b1 : s.w = t.w := b1
    have b3 : t.lo ≤ s.f + s.y * k := b3
    have b4 : s.f + s.y * k < t.lo + t.hi := b4
    have o1 := o.lo
    have o2 := o.top
    exact ⟨by show isWd (.str s.w) = true; rw [b1]; exact o.w.1, by show PyData.strOk s.w = true; rw [b1]; exact o.w.2, (R.gd ss hs s hsm).2, by show 0 ≤ s.f + s.y * k; omega, by show s.f + s.y * k ≤ 1000000000000000000; omega⟩
  · have : LW.tot (sss.map ex) = sss.flatten.length := by
      unfold LW.tot
      rw [List.length_flatten, List.map_map]
      congr 1
      refine List.map_congr_left fun ss hs => ?_
      show (nf (ex ss)).length = ss.length
      rw [nf_of (R.jn ss hs) (R.ps ss hs)]
    rw [this]; exact R.l
  · show _ = D.tup (((sss.map ex).map nf).map rowT)
    rw [e2]
end LW
set_option Elab.async false
set_option linter.all false
set_option maxRecDepth 100000
set_option maxHeartbeats 1000000
set_option exponentiation.threshold 20000
namespace LW
open PySem L2 DL
def toS3 : D → S3
  | .tup [.str w, .int f, .int m] => ⟨w, f, m⟩
  | _ => ⟨"", 0, 0⟩
section
variable {d : Nat} {h : MH} {Q : D → MH → Prop} {E : DX} {p c : Addr} {n : Nat}
theorem emptiesS {Φ : Fns} {σ : DS} {i k : Nat} {K : List D → MH → Prop} {h : MH} (hk : k ≤ 1000) (q : ∀ rs h', rs.length = k → Gw h h' → Rr h h' rs (List.replicate k []) → K (rs.map D.ref) h') :
    lcGo (.nm i) (fun _ => True) (wpC Φ none) (wpE Φ (fun _ _ _ => False) (.lst [])) σ K ((List.range k).map fun (j : Nat) => D.int j) [] h := by
  refine lc_rule (fun r acc h' => ∃ rs : List Addr, acc = rs.map D.ref ∧ rs.length + r.length = k ∧ Gw h h' ∧ Rr h h' rs (List.replicate rs.length []))
    (fun _ _ _ _ => trivial) (fun acc h' ⟨rs, e1, e2, g, R⟩ => ?_) (fun dd r acc h' N ⟨rs, e1, e2, g, R⟩ hN => ?_) _ _ _ ⟨[], rfl, by simp, .refl, .nil⟩
  · subst e1
    rw [List.length_cons] at e2
    simp [-al_eq]
    refine ⟨fits_le (by decide), al_rule fun q1 h1 hq1 g1 e1 => ⟨by rw [sizeLine_eq]; omega, hN _ _ ⟨rs ++ [q1], by simp, by rw [List.length_append]; simp; omega, g.trans g1, ?_⟩⟩⟩
    have := R.snoc (ss := []) g hq1 g1 e1
    rw [List.length_append, List.length_singleton, List.replicate_succ']
    exact this
  · subst e1
    rw [List.length_nil, Nat.add_zero] at e2
    rw [e2] at R
    exact q rs h' e2 g R
theorem dealtS_ok {a : Addr} {ts : List S3} {k : Nat} (pn : Pen h p c n) (hn : n + 1100 < 2 ^ 60) (ea : h a = some (.lst (ts.map S3.d))) (tl : ts.length ≤ 64) (tb : ∀ x ∈ ts, T3k x) (k2 : 1 ≤ k) (k6 : k ≤ 6)
    (q : ∀ (ys : List (List Y3)) h', ys.length = k → Dlt ys ts → Pen h' p c (n + 200) → Gx p h h' → Q (stD ys) h') : Ph prog (d + 3) 36 [.ref p, .ref a, .int k] h Q E := by
  refine ph_of at__law_dealt rfl ?_
  simp only [f__law_dealt]
  rw [wpB_cons]
  simp [-al_eq, -ixD_ref_int]
  refine ⟨by omega, emptiesS (by omega) fun rs h1 hl g1 R1 => al_rule fun q1 h2 hq1 g2 e1 => ?_⟩
  have pn0 := pn
  have npq1 : q1 ≠ p := ((pn.gw g1).nep hq1).symm
  have nap : a ≠ p := fun z => by obtain ⟨k, e⟩ := pn.has; rw [← z, ea] at e; cases e
  have g12 := g1.trans g2
  rw [wpB_cons]
  simp [-al_eq, -ixD_ref_int]
  refine turnedP_ok (d := d) (pn.gw g12) (by omega) (g12 _ _ ea) (by rw [List.length_map]; omega) fun ys q2 h3 yp fq2 e2 pn3 g3 => ?_
  rw [List.length_map] at pn3
  obtain ⟨us, rfl, uperm⟩ : ∃ us : List S3, ys = us.map S3.d ∧ us.Perm ts := by
    have : ∀ {xs : List D}, (xs).Perm (ts.map S3.d) → ∃ us : List S3, xs = us.map S3.d := fun {xs} pm => by
      have : ∀ x ∈ xs, ∃ u : S3, x = u.d := fun x hx => by
        obtain ⟨u, _, rfl⟩ := List.mem_map.mp (pm.mem_iff.mp hx)
        exact ⟨u, rfl⟩
      clear pm
      induction xs with
      | nil => exact ⟨[], rfl⟩
      | cons x xs ih =>
        obtain ⟨u, rfl⟩ := this x List.mem_cons_self
        obtain ⟨us, rfl⟩ := ih fun z hz => this z (List.mem_cons_of_mem _ hz)
        exact ⟨u :: us, rfl⟩
    obtain ⟨us, rfl⟩ := this yp
    refine ⟨us, rfl, ?_⟩
    have := yp.map toS3
    rw [List.map_map, List.map_map, show toS3 ∘ S3.d = id from rfl, List.map_id, List.map_id] at this
    exact this
  have ul : us.length = ts.length := uperm.length_eq
  have tb' : ∀ x ∈ us, T3k x := fun x hx => tb x (uperm.mem_iff.mp hx)
  simp [-al_eq, -ixD_ref_int]
  have G3 : Gx p h h3 := g12.gx.trans g3
  have fq2' : h q2 = none := Gw.fresh g12 fq2
  have npq2 : q2 ≠ p := (pn.nep fq2').symm
  have n12 : q1 ≠ q2 := fun z => by rw [z, fq2] at e1; cases e1
  have nq2 : ∀ r ∈ rs, r ≠ q2 := fun r hr z => by
    obtain ⟨i, hi, ei⟩ := List.getElem_of_mem hr
    have := R1.i i r ((List.replicate k [])[i]'(by rw [List.length_replicate, ← hl]; exact hi)) (by rw [List.getElem?_eq_getElem hi, ei]) (List.getElem?_eq_getElem _)
    have := g2 _ _ this
    rw [z, fq2] at this; cases this
  refine ⟨_, e2, ?_⟩
  refine for_rule (fun r σ h' => ∃ (done rest : List S3) (sss : List (List S4)) (x4 x5 x6 x7 x8 x9 x10 : Option D), us = done ++ rest ∧ r = rest.map S3.d ∧ σ = [some (.ref p), some (.ref a), some (.int k), some (.ref q1), x4, x5, x6, x7, x8, x9, x10] ∧
        h' q1 = some (.lst (rs.map D.ref)) ∧ h' q2 = some (.lst (us.map S3.d)) ∧ Rr h h' rs sss ∧ Rws sss done ∧ Pen h' p c (n + 64 + 2 * done.length) ∧ Gx p h h')
      (fun r σ h' ⟨done, rest, sss, x4, x5, x6, x7, x8, x9, x10, u1, u2, es, eq1, eq2, R, W, pn, g⟩ => eq2) (fun σ h' ⟨done, rest, sss, x4, x5, x6, x7, x8, x9, x10, u1, u2, es, eq1, eq2, R, W, pn, g⟩ => ?_) (fun dd r σ h' K ⟨done, rest, sss, x4, x5, x6, x7, x8, x9, x10, u1, u2, es, eq1, eq2, R, W, pn, g⟩ hK => ?_) _ _ _ ⟨[], us, List.replicate k [], none, none, none, none, none, none, none, rfl, rfl, rfl, g3.1 _ _ npq1 e1, e2, ?_, Rws.nil k, pn3.mono (by omega), G3⟩
  · subst es
    have : rest = [] := by simpa using u2.symm
    subst this
    rw [List.append_nil] at u1
    subst u1
    simp [-al_eq, -ixD_ref_int]
    refine ⟨_, eq1, ?_⟩
    have Wl2 := W.l
    have sl := R.l
    have D1 := W.dlt tb'
    refine lc_rule (fun r acc h2 => h2 = h' ∧ ∃ i, r = (rs.map D.ref).drop i ∧ acc = (sss.map rowT).take i ∧ i ≤ rs.length)
      (fun r acc h2 ⟨e, _⟩ => e ▸ eq1) (fun acc h2 ⟨e, i, e2, e3, e4⟩ => ?_) (fun dd r acc h2 N ⟨e, i, e2, e3, e4⟩ hN => ?_) _ _ _ ⟨rfl, 0, rfl, by simp, Nat.zero_le _⟩
    · subst e
      have kl : i < rs.length := by
        have := congrArg List.length e2
        simp at this; omega
      have kl2 : i < sss.length := by rw [← sl]; exact kl
      rw [List.drop_eq_getElem_cons (by simpa using kl), List.getElem_map] at e2
      cases e2
      have er := R.i i _ _ (List.getElem?_eq_getElem kl) (List.getElem?_eq_getElem kl2)
      simp
      refine ⟨_, er, by rw [e3, List.length_take, sizeLine_eq]; simp; omega, hN _ _ ⟨rfl, i + 1, rfl, ?_, kl⟩⟩
      rw [e3, List.take_succ_eq_append_getElem (by simpa using kl2)]
      simp [rowT]
    · subst e
      have kl : rs.length ≤ i := by
        have := congrArg List.length e2
        simp at this; omega
      rw [e3, List.take_of_length_le (by simp; omega)]
      refine al_rule fun q3 h4 hq3 g4 e6 => ?_
      simp
      refine ⟨_, e6, ?_⟩
      rw [D1.2]
      exact q _ h4 (by rw [List.length_map]; omega) ⟨D1.1.ok, by have := D1.1.tot; omega, D1.1.perm.trans (by unfold exT; exact (uperm.map up3).flatMap_right _)⟩ ((pn.gw g4).mono (by omega)) (g.trans g4.gx)
  · subst es
    cases rest with
    | nil => cases u2
    | cons t rest =>
    rw [List.map_cons] at u2
    cases u2
    have ot := tb' t (by rw [u1]; simp)
    have dl : done.length + 1 ≤ us.length := by rw [u1]; simp
    have ot1 := ot.m1
    have ot2 := ot.m2
    have ot3 := ot.lo
    have ot4 := ot.top
    have Wl2 := W.l
    simp [S3.d, -al_eq, -ixD_ref_int]
    rw [wpB_cons]
    simp [-al_eq, -ixD_ref_int]
    refine ⟨fits_le (by decide), al_rule fun q3 h4 hq3 g4 e4 => ?_⟩
    refine pick_ok (d := d) (pn.gw g4) (by omega) e4 (by simp) (by simp) fun yD h5 hy pn5 g5 => ?_
    have : ∃ y : Int, yD = .int y ∧ (y = 1 ∨ y = -1) := by
      simp at hy
      rcases hy with rfl | rfl
      · exact ⟨1, rfl, .inl rfl⟩
      · exact ⟨-1, rfl, .inr rfl⟩
    obtain ⟨y, rfl, y1⟩ := this
    try simp [-al_eq, -ixD_ref_int]
    have G5 : Gx p h' h5 := g4.gx.trans g5
    clear g4 g5 hy
    rw [wpB_cons]
    simp [-al_eq, -ixD_ref_int]
    refine draw_ok (d := d + 1) pn5 (by omega) (by omega) (by omega) fun v h6 v0 vm pn6 g6 => ?_
    obtain ⟨j2, rfl⟩ := Int.eq_ofNat_of_zero_le v0
    have jl : j2 < rs.length := by omega
    have G6 := G5.trans g6
    clear G5 g6
    have q16 := G6.1 _ _ npq1 eq1
    have q26 := G6.1 _ _ npq2 eq2
    have R6 : Rr h h6 rs sss := R.keep fun r xs hr e => G6.1 _ _ (pn0.nep (R.f r hr)).symm e
    have jl2 : j2 < sss.length := by rw [← R6.l]; exact jl
    refine ixD_lst (x := .ref rs[j2]) q16 (by rw [DL.atI_nat, List.getElem?_map, List.getElem?_eq_getElem jl]; rfl) ?_
    have hr := List.getElem_mem jl
    have hj : rs[j2]? = some rs[j2] := List.getElem?_eq_getElem jl
    generalize rs[j2] = r1 at hr hj ⊢
    have a0 := R6.f r1 hr
    have b0 : h6 r1 = some (.lst ((sss.getD j2 []).map S4.d)) := R6.i j2 r1 _ hj (by rw [List.getD_eq_getElem?_getD, List.getElem?_eq_getElem jl2]; rfl)
    have W2 := W.add (t := t) (y := y) jl2 y1 ot.m1 ot.w.2
    have ss16 := fl_getS (sss := sss) j2
    generalize hss : sss.getD j2 [] = ss at b0 W2 ss16
    have nq1 : r1 ≠ q1 := R6.ne q16 _ hr
    have nr2 : r1 ≠ q2 := nq2 _ hr
    have G06 := g.trans G6
    -- the row as it will be
    have fin : ∀ (ss2 : List S4) (h7 : MH) (x8 x10 : Option D), Gw h6 h7 → ss2 = jn1 ss (lay t y) → K [some (.ref p), some (.ref a), some (.int k), some (.ref q1), x4, some (.str t.w), some (.int t.lo), some (.int t.hi), x8, some (.ref r1), x10] (up h7 r1 (.lst (ss2.map S4.d))) := fun ss2 h7 x8 x10 g7 e2 => by
      subst e2
      have R7 : Rr h h7 rs sss := R6.keep fun r xs hr e => g7 _ _ e
      exact hK _ _ ⟨done ++ [t], rest, _, _, _, _, _, _, _, _, by rw [u1]; simp, rfl, rfl, (up_ne nq1.symm).trans (g7 _ _ q16), (up_ne nr2.symm).trans (g7 _ _ q26), R7.put hj _, W2, ((pn6.gw g7).put (pn0.nep a0) (pn0.nec a0)).mono (by rw [List.length_append, List.length_singleton]; omega), (G06.trans g7.gx).new a0 (pn0.nep a0)⟩
    refine wpB_seq (fun σ h7 => h7 = h6 ∧ σ = [some (.ref p), some (.ref a), some (.int k), some (.ref q1), x4, some (.str t.w), some (.int t.lo), some (.int t.hi), some (.int y), some (.ref r1), some (.int (lay t y).f)]) (fun K2 hK2 => ?_) fun σ h7 ⟨eh, es⟩ => ?_
    · rcases y1 with rfl | rfl
      · simp
        exact hK2 _ _ ⟨rfl, rfl⟩
      · simp
        exact hK2 _ _ ⟨rfl, rfl⟩
    · subst es eh
      have elay : lay t y = ⟨t.w, (lay t y).f, t.hi, y⟩ := rfl
      generalize (lay t y).f = first at elay ⊢
      rw [elay] at fin
      generalize t.w = w at fin ⊢
      generalize t.hi = many at fin ⊢
      simp [-al_eq, -ixD_ref_int]
      refine ⟨fits_le (by decide), al_rule fun q4 h8 hq4 g8 e8 => ?_⟩
      have b8 := g8 _ _ b0
      refine eqD_lsts b8 e8 (.inr rfl) ?_
      have app : jn1 ss (⟨w, first, many, y⟩ : S4) = ss ++ [(⟨w, first, many, y⟩ : S4)] → (∃ xs, h8 r1 = some (.lst xs)) ∧ Fits 4 ∧ ∃ xs, h8 r1 = some (.lst xs) ∧ xs.length < sizeLine ∧ K [some (.ref p), some (.ref a), some (.int k), some (.ref q1), x4, some (.str w), some (.int t.lo), some (.int many), some (.int y), some (.ref r1), some (.int first)] (up h8 r1 (.lst (xs ++ [.tup [.str w, .int first, .int many, .int y]]))) := fun hj => by
        refine ⟨⟨_, b8⟩, fits_le (by decide), _, b8, by rw [List.length_map, sizeLine_eq]; omega, ?_⟩
        rw [show ss.map S4.d ++ [.tup [.str w, .int first, .int many, .int y]] = (ss ++ [(⟨w, first, many, y⟩ : S4)]).map S4.d by simp [S4.d]]
        exact fin _ h8 _ _ g8 hj.symm
      rcases snoc_cases ss with rfl | ⟨ini, l, rfl⟩
      · exact app rfl
      · have no : ¬ (l.w = w ∧ l.y = y ∧ first = l.f + l.y * l.m) → jn1 (ini ++ [l]) (⟨w, first, many, y⟩ : S4) = ini ++ [l] ++ [(⟨w, first, many, y⟩ : S4)] := fun hh => by
          rw [jn1_con, if_neg (fun z => hh (goes_iff.mp z))]
        have el : h8 r1 = some (.lst (ini.map S4.d ++ [l.d])) := by rw [b8]; simp
        rw [if_neg (by simp)]
        refine ixD_last el ?_
        simp [S4.d, -al_eq, -ixD_ref_int]
        by_cases c1 : l.w = w
        · rw [if_pos c1]
          refine ixD_last el ?_
          simp [S4.d, -al_eq, -ixD_ref_int]
          by_cases c2 : l.y = y
          · rw [if_pos c2]
            refine ixD_last el ?_
            simp [S4.d, -al_eq, -ixD_ref_int]
            refine ixD_last el ?_
            simp [S4.d, -al_eq, -ixD_ref_int]
            refine ⟨mulY y1, ?_⟩
            by_cases c3 : first = l.f + l.m * y
            · rw [if_pos c3]
              refine ixD_last el ?_
              simp [S4.d, -al_eq, -ixD_ref_int]
              refine ixD_last el ?_
              simp [S4.d, -al_eq, -ixD_ref_int]
              refine ⟨fits_le (by decide), .inl ⟨_, -1, ini.length, rfl, el, ?_, ?_⟩⟩
              · rw [List.length_append, List.length_map]; exact ixN_neg1
              · have e9 : (ini.map S4.d ++ [l.d]).set ini.length (.tup [.str w, .int l.f, .int (l.m + many), .int y]) = (ini ++ [(⟨w, l.f, l.m + many, y⟩ : S4)]).map S4.d := by
                  rw [List.set_append_right _ _ (by simp)]
                  simp [S4.d]
                rw [e9]
                have gg : l.goes ⟨w, first, many, y⟩ = true := goes_iff.mpr ⟨c1, c2, by show first = l.f + l.y * l.m; rw [c3, c2, Int.mul_comm]⟩
                refine fin _ h8 _ _ g8 ?_
                rw [jn1_con, if_pos gg, c1, c2]
            · rw [if_neg c3]; simpa using app (no fun z => c3 (by rw [z.2.2, c2, Int.mul_comm]))
          · rw [if_neg c2]; simpa using app (no fun z => c2 z.2.1)
        · rw [if_neg c1]; simpa using app (no fun z => c1 z.1)
  · exact R1.keep fun r xs hr e => g3.1 _ _ (pn.nep (R1.f r hr)).symm (g2 _ _ e)
end
end LW
set_option Elab.async false
set_option linter.all false
set_option maxRecDepth 100000
set_option maxHeartbeats 1000000
set_option exponentiation.threshold 20000
namespace LW
open PySem L2 DL
theorem mg1_len (found : List S3) (s : S3) : (mg1 found s).length ≤ found.length + 1 := by
  unfold mg1
  split
  · split
    · rw [List.length_append, List.length_dropLast]; simp
    · simp
  · simp
theorem mg_len : ∀ (ss found : List S3), (ss.foldl mg1 found).length ≤ found.length + ss.length
  | [], _ => Nat.le_refl _
  | s :: ss, found => by
    have h1 := mg1_len found s
    have h2 := mg_len ss (mg1 found s)
    rw [List.foldl_cons, List.length_cons]; omega
section
variable {d : Nat} {h : MH} {Q : D → MH → Prop} {E : DX} {p c : Addr} {n : Nat}
theorem merged_ok {r : Addr} {ss : List S3} (er : h r = some (.lst (ss.map S3.d))) (hl : ss.length ≤ 100000) (q : ∀ h' p, Gw h h' → h p = none → h' p = some (.lst ((mg ss).map S3.d)) → Q (.ref p) h') : Ph prog (d + 1) 17 [.ref r] h Q E := by
  refine ph_of at_merged rfl ?_
  simp only [f_merged]
  rw [wpB_cons]
  simp [-al_eq]
  refine ⟨fits_le (by decide), al_rule fun q1 h1 hq1 g1 e1 => ?_⟩
  rw [wpB_cons]
  simp [-al_eq, -ixD_ref_int]
  refine ⟨_, g1 _ _ er, ?_⟩
  refine for_rule (fun R σ h' => ∃ (done rest : List S3) (x2 x3 x4 : Option D), ss = done ++ rest ∧ R = rest.map S3.d ∧ σ = [some (.ref r), some (.ref q1), x2, x3, x4] ∧ h' q1 = some (.lst ((mg done).map S3.d)) ∧ Gw h h')
    (fun _ _ _ ⟨done, rest, x2, x3, x4, e1, e2, es, eq, g⟩ => g _ _ er) (fun σ h' ⟨done, rest, x2, x3, x4, e1, e2, es, eq, g⟩ => ?_) (fun dd R σ h' K ⟨done, rest, x2, x3, x4, e1, e2, es, eq, g⟩ hK => ?_) _ _ _ ⟨[], ss, none, none, none, rfl, rfl, rfl, e1, g1⟩
  · have : rest = [] := by simpa using e2.symm
    subst this es
    rw [List.append_nil] at e1
    subst e1
    simp
    exact q h' q1 g hq1 eq
  · cases rest with
    | nil => cases e2
    | cons s rest =>
    rw [List.map_cons] at e2
    cases e2
    subst es
    have dl : done.length < 100000 := by rw [e1] at hl; simp at hl; omega
    have ml := mg_len done []
    rw [List.length_nil, Nat.zero_add] at ml
    have ml : (mg done).length ≤ done.length := ml
    have nx : mg (done ++ [s]) = mg1 (mg done) s := by simp [mg]
    have fin : ∀ (low : Int) (fd : List S3) (h2 : MH) (x2 : Option D), Gw h h2 → fd.length ≤ done.length → h2 q1 = some (.lst (fd.map S3.d)) → fd ++ [⟨s.w, low, s.hi⟩] = mg1 (mg done) s →
        wpB (Ph prog d) [.ex (.met .append (.var 1) [.tup [.var 2, .var 3, .var 4]])] { nx := K, rt := Q, bk := fun _ _ => False, ct := K, ex := fun c fs _ h' => E c fs h' } [some (.ref r), some (.ref q1), some (.str s.w), some (.int low), some (.int s.hi)] h2 → True := fun _ _ _ _ _ _ _ _ _ => trivial
    clear fin
    simp [S3.d, -al_eq, -ixD_ref_int]
    refine wpB_seq (fun σ h2 => ∃ (low : Int) (fd : List S3), σ = [some (.ref r), some (.ref q1), some (.str s.w), some (.int low), some (.int s.hi)] ∧ fd.length ≤ done.length ∧ h2 q1 = some (.lst (fd.map S3.d)) ∧ fd ++ [⟨s.w, low, s.hi⟩] = mg1 (mg done) s ∧ Gw h h2) (fun K2 hK2 => ?_) fun σ h2 ⟨low, fd, es, fl, eq2, en, g2⟩ => ?_
    · simp [-al_eq, -ixD_ref_int]
      refine ⟨fits_le (by decide), al_rule fun q2 h2 hq2 g2 e2 => ?_⟩
      have eq2 := g2 _ _ eq
      refine eqD_lsts eq2 e2 (.inr rfl) ?_
      have G2 := g.trans g2
      rcases snoc_cases (mg done) with z | ⟨ini, l, z⟩
      · rw [z] at eq2 hK2
        rw [z]
        simp [-al_eq, -ixD_ref_int]
        exact hK2 _ _ ⟨s.lo, [], rfl, Nat.zero_le _, eq2, rfl, G2⟩
      · rw [z] at eq2 hK2 ml
        rw [z]
        have m1 : mg1 (ini ++ [l]) s = if l.w = s.w ∧ l.hi + 1 = s.lo then ini ++ [⟨s.w, l.lo, s.hi⟩] else ini ++ [l] ++ [s] := by
          unfold mg1
          rw [List.getLast?_concat]
          simp
        rw [m1] at hK2
        have no := hK2
        rw [List.map_append] at eq2
        have eq3 : h2 q1 = some (.lst (ini.map S3.d ++ [S3.d l])) := eq2
        simp only [List.length_map, List.length_append, List.length_singleton, List.length_nil]
        rw [show decide (ini.length + 1 = 0) = false from decide_eq_false (by omega)]
        simp [-al_eq, -ixD_ref_int]
        refine ixD_last eq3 ?_
        simp [S3.d, -al_eq, -ixD_ref_int]
        by_cases c1 : l.w = s.w
        · rw [if_pos c1]
          refine ixD_last eq3 ?_
          simp [S3.d, -al_eq, -ixD_ref_int]
          by_cases c2 : l.hi + 1 = s.lo
          · rw [if_pos c2]
            rw [if_pos ⟨c1, c2⟩] at hK2
            refine ⟨⟨_, eq3⟩, _, eq3, S3.d l, by simp, ?_⟩
            simp [S3.d, -al_eq, -ixD_ref_int]
            refine hK2 _ _ ⟨l.lo, ini, rfl, by simp at ml; omega, ?_, rfl, G2.up2 hq1⟩
            rw [up_self]
          · rw [if_neg c2]
            rw [if_neg (fun z => c2 z.2)] at hK2
            exact hK2 _ _ ⟨s.lo, ini ++ [l], rfl, ml, by rw [List.map_append]; exact eq3, rfl, G2⟩
        · rw [if_neg c1]
          rw [if_neg (fun z => c1 z.1)] at hK2
          exact hK2 _ _ ⟨s.lo, ini ++ [l], rfl, ml, by rw [List.map_append]; exact eq3, rfl, G2⟩
    · subst es
      simp [-al_eq, -ixD_ref_int]
      refine ⟨⟨_, eq2⟩, fits_le (by decide), _, eq2, by rw [sizeLine_eq, List.length_map]; omega, hK _ _ ⟨done ++ [s], rest, _, _, _, by rw [e1]; simp, rfl, rfl, ?_, g2.up2 hq1⟩⟩
      rw [up_self, nx, ← en, List.map_append]
      rfl
end
end LW
set_option Elab.async false
set_option linter.all false
set_option maxRecDepth 100000
set_option maxHeartbeats 1000000
set_option exponentiation.threshold 20000
namespace LW
open PySem L2 DL
/-- the stretches of a thing that is a standing -/
def ssOf : D → List S4
  | .tup rows => ((rows.flatMap part).map toS)
  | _ => []
def lenD : D → Nat
  | .tup rows => rows.length
  | _ => 0
/-- two things that fit -/
def fits2 (x y : D) : Prop := lenD x = lenD y ∧ mg (sspans (ssOf x)) = mg (sspans (ssOf y))
theorem stand_rows {h : MH} {x : D} (w : Wf h x) (e : stand x = true) : ∃ sss : List (List S4), x = .tup (sss.map rowD) ∧ (∀ ss ∈ sss, RowOk ss) ∧ sss.length ≤ 6 ∧ sss.flatten.length ≤ 6000 ∧ ssOf x = sss.flatten := by
  cases x <;> try (cases e; done)
  rename_i rows
  have e : (decide (2 ≤ rows.length) && (decide (rows.length ≤ 6) && (rows.all rowOK && (decide ((((rows.flatMap part).map toS).map S4.m).sum ≤ M18) && aps (sspans ((rows.flatMap part).map toS)))))) = true := e
  simp only [Bool.and_eq_true, decide_eq_true_eq] at e
  obtain ⟨sss, rfl, os⟩ := rows_ss (wf_tup.mp w).2 e.2.2.1
  have fl := flat_len os
  have l6 := e.2.1
  rw [List.length_map] at l6
  exact ⟨sss, rfl, os, l6, by omega, by show (((sss.map rowD).flatMap part).map toS) = _; rw [map_toS]⟩
section
variable {d : Nat} {h : MH} {Q : D → MH → Prop} {E : DX} {p c : Addr} {n : Nat}
theorem needfit_ok {x y : D} (wx : Wf h x) (wy : Wf h y) (q : stand x = true → stand y = true → fits2 x y → ∀ h', Gw h h' → Q .non h')
    (q1 : stand x = false → ∀ h', Gw h h' → E 0 [("part", .str "one")] h') (q2 : stand x = true → stand y = false → ∀ h', Gw h h' → E 0 [("part", .str "other")] h')
    (q3 : stand x = true → stand y = true → ¬ fits2 x y → ∀ h', Gw h h' → E 0 [("part", .str "yards")] h') : Ph prog (d + 6) 18 [x, y] h Q E := by
  refine ph_of at_need_fit rfl ?_
  simp only [f_need_fit]
  rw [wpB_cons]
  simp [-al_eq, -ixD_ref_int]
  refine standing_ok (d := d) wx fun h1 g1 => ?_
  simp only [tru_bl]
  cases e1 : stand x with
  | false =>
    simp
    exact q1 e1 _ g1
  | true =>
    simp [-al_eq, -ixD_ref_int]
    rw [wpB_cons]
    simp [-al_eq, -ixD_ref_int]
    refine standing_ok (d := d) (wy.gw g1) fun h2 g2 => ?_
    simp only [tru_bl]
    cases e2 : stand y with
    | false =>
      simp
      exact q2 e1 e2 _ (g1.trans g2)
    | true =>
      have G2 := g1.trans g2
      obtain ⟨sx, rfl, ox, lx, fx, vx⟩ := stand_rows wx e1
      obtain ⟨sy, rfl, oy, ly, fy, vy⟩ := stand_rows wy e2
      have q := q e1 e2
      have q3 := q3 e1 e2
      unfold fits2 at q q3
      rw [vx, vy] at q q3
      simp [-al_eq, -ixD_ref_int]
      have lD : ∀ l : List (List S4), lenD (.tup (l.map rowD)) = l.length := fun l => by simp [lenD]
      rw [lD, lD] at q q3
      by_cases cl : sx.length = sy.length
      · rw [if_pos (by omega)]
        have wd : ∀ {l : List (List S4)}, (∀ ss ∈ l, RowOk ss) → ∀ ss ∈ l, ∀ s ∈ ss, s.y = 1 ∨ s.y = -1 := fun {l} o ss hs s hm => ((o ss hs).ok s hm).y
        have wz : ∀ {l : List (List S4)}, (∀ ss ∈ l, RowOk ss) → ∀ s ∈ l.flatten, PyData.strOk s.w = true := fun {l} o s hm => by
          obtain ⟨ss, hs, hm⟩ := List.mem_flatten.mp hm
          exact ((o ss hs).ok s hm).z
        have wm : ∀ {l : List (List S4)}, (∀ ss ∈ l, RowOk ss) → ∀ s ∈ mg (sspans l.flatten), PyData.strOk s.w = true := fun {l} o =>
          mg_w (P := fun z => PyData.strOk z = true) (fun _ z => nomatch z) (sspans_w (P := fun z => PyData.strOk z = true) (wz o))
        refine spans_ok (d := d + 3) (by omega) (wd ox) fun h3 p3 g3 e3 => ?_
        have e3 : h3 p3 = some (.lst ((sspans sx.flatten).map S3.d)) := e3
        refine merged_ok (d := d + 4) e3 (by rw [(sspans_perm _).length_eq, List.length_map]; omega) fun h4 p4 g4 _ e4 => ?_
        refine spans_ok (d := d + 3) (by omega) (wd oy) fun h5 p5 g5 e5 => ?_
        have e5 : h5 p5 = some (.lst ((sspans sy.flatten).map S3.d)) := e5
        refine merged_ok (d := d + 4) e5 (by rw [(sspans_perm _).length_eq, List.length_map]; omega) fun h6 p6 g6 _ e6 => ?_
        refine eqD_lst3 (g6 _ _ (g5 _ _ e4)) e6 (wm ox) (wm oy) ?_
        have G6 := G2.trans (g3.trans (g4.trans (g5.trans g6)))
        by_cases cm : mg (sspans sx.flatten) = mg (sspans sy.flatten)
        · rw [decide_eq_true cm]
          simp
          exact q ⟨cl, cm⟩ _ G6
        · rw [decide_eq_false cm]
          simp
          exact q3 (fun z => cm z.2) _ G6
      · rw [if_neg (by omega)]
        exact q3 (fun z => cl z.1) _ G2
end
end LW
set_option Elab.async false
set_option linter.all false
set_option maxRecDepth 100000
set_option maxHeartbeats 1000000
namespace LW
open PySem L2 DL
/-! ### two spools, slid -/
def rv (l : List Y3) : List Y3 := l.reverse.map flp
theorem flp_flp (a : Y3) : flp (flp a) = a := by cases a; simp [flp]
theorem rv_rv (l : List Y3) : rv (rv l) = l := by
  unfold rv
  rw [← List.map_reverse, List.reverse_reverse, List.map_map]
  refine (List.map_congr_left fun a _ => flp_flp a).trans (List.map_id l)
theorem rv_inj {a b : List Y3} (h : rv a = rv b) : a = b := by rw [← rv_rv a, h, rv_rv]
theorem rv_app (a b : List Y3) : rv (a ++ b) = rv b ++ rv a := by unfold rv; simp
theorem rv_len (a : List Y3) : (rv a).length = a.length := by unfold rv; simp
theorem two_eq {α : Type} {l : List α} (h : l.length = 2) : ∃ a b, l = [a, b] := by
  match l, h with
  | [a, b], _ => exact ⟨a, b, rfl⟩
def acr (ys : List (List Y3)) : List Y3 := (ys.getD 0 []).reverse.map flp ++ ys.getD 1 []
theorem acr_two (a b : List Y3) : acr [a, b] = rv a ++ b := rfl
/-- the winding that slides the one to the other -/
def slw (ys zs : List (List Y3)) : List Stp :=
  if (ys.getD 0 []).length = (zs.getD 0 []).length then []
  else if (zs.getD 0 []).length < (ys.getD 0 []).length then [.wind 0 1 ((ys.getD 0 []).length - (zs.getD 0 []).length : Int)]
  else [.wind 1 0 ((zs.getD 0 []).length - (ys.getD 0 []).length : Int)]
theorem yst01 (a b : List Y3) (n : Nat) : yst [a, b] (.wind 0 1 n) = [a.drop n, rv (a.take n) ++ b] := rfl
theorem yst10 (a b : List Y3) (n : Nat) : yst [a, b] (.wind 1 0 n) = [rv (b.take n) ++ a, b.drop n] := rfl
theorem acr01 (a b : List Y3) (n : Nat) : acr (yst [a, b] (.wind 0 1 n)) = acr [a, b] := by
  rw [yst01, acr_two, acr_two, ← List.append_assoc, ← rv_app, List.take_append_drop]
theorem acr10 (a b : List Y3) (n : Nat) : acr (yst [a, b] (.wind 1 0 n)) = acr [a, b] := by
  rw [yst10, acr_two, acr_two, rv_app, rv_rv, List.append_assoc, List.take_append_drop]
theorem slw_ok {ys zs : List (List Y3)} (l : ys.length = 2) (m : zs.length = 2) (e : acr ys = acr zs) (hs : (ys.flatten.length : Int) ≤ 1000000000000000000) :
    runY ys (slw ys zs) = zs ∧ (∃ g', gby (gau ys) (slw ys zs) 0 = .inl g') ∧ (∀ st ∈ slw ys zs, Wnd st) ∧ (slw ys zs).length = if ys = zs then 0 else 1 := by
  obtain ⟨a, b, rfl⟩ := two_eq l
  obtain ⟨x, y, rfl⟩ := two_eq m
  rw [acr_two, acr_two] at e
  have el := congrArg List.length e
  simp only [List.length_append, rv_len] at el
  simp at hs
  unfold slw
  simp only [List.getD_cons_zero]
  by_cases c1 : a.length = x.length
  · rw [if_pos c1]
    obtain ⟨h1, h2⟩ := List.append_inj e (by rw [rv_len, rv_len]; exact c1)
    have h1 := rv_inj h1
    subst h1 h2
    exact ⟨rfl, ⟨_, rfl⟩, (fun _ z => nomatch z), by simp⟩
  · rw [if_neg c1]
    have ne : [a, b] ≠ [x, y] := fun z => c1 (by cases z; rfl)
    rw [if_neg ne]
    by_cases c2 : x.length < a.length
    · rw [if_pos c2]
      obtain ⟨n, hn⟩ : ∃ n : Nat, (a.length : Int) - x.length = n := ⟨a.length - x.length, by omega⟩
      rw [hn]
      refine ⟨?_, ?_, fun st hst => ?_, rfl⟩
      · show yst [a, b] (.wind 0 1 n) = _
        rw [yst01]
        have e2 : rv (a.drop n) ++ (rv (a.take n) ++ b) = rv x ++ y := by
          rw [← List.append_assoc, ← rv_app, List.take_append_drop]; exact e
        obtain ⟨h1, h2⟩ := List.append_inj e2 (by rw [rv_len, rv_len, List.length_drop]; omega)
        rw [rv_inj h1, h2]
      · unfold gby
        have : gst (gau [a, b]) (.wind 0 1 n) = some [(a.length : Int) - n, (b.length : Int) + n] := by
          simp only [gst]
          rw [if_pos ⟨by simp [gau], by simp [gau], by show (n : Int) ≤ (a.length : Int); omega⟩]
          rfl
        rw [this]
        exact ⟨_, rfl⟩
      · rw [List.mem_singleton.mp hst]
        exact ⟨0, 1, n, rfl, by decide, by omega, by omega⟩
    · rw [if_neg c2]
      obtain ⟨n, hn⟩ : ∃ n : Nat, (x.length : Int) - a.length = n := ⟨x.length - a.length, by omega⟩
      rw [hn]
      refine ⟨?_, ?_, fun st hst => ?_, rfl⟩
      · show yst [a, b] (.wind 1 0 n) = _
        rw [yst10]
        have e2 : (rv a ++ b.take n) ++ b.drop n = rv x ++ y := by
          rw [List.append_assoc, List.take_append_drop]; exact e
        obtain ⟨h1, h2⟩ := List.append_inj e2 (by rw [List.length_append, rv_len, rv_len, List.length_take]; omega)
        have h1 : rv (rv (b.take n) ++ a) = rv x := by rw [rv_app, rv_rv]; exact h1
        rw [rv_inj h1, h2]
      · unfold gby
        have : gst (gau [a, b]) (.wind 1 0 n) = some [(a.length : Int) + n, (b.length : Int) - n] := by
          simp only [gst]
          rw [if_pos ⟨by simp [gau], by simp [gau], by show (n : Int) ≤ (b.length : Int); omega⟩]
          rfl
        rw [this]
        exact ⟨_, rfl⟩
      · rw [List.mem_singleton.mp hst]
        exact ⟨1, 0, n, rfl, by decide, by omega, by omega⟩
end LW
set_option Elab.async false
set_option linter.all false
set_option maxRecDepth 100000
set_option maxHeartbeats 1000000
set_option exponentiation.threshold 20000
namespace LW
open PySem L2 DL
theorem isWd_len {z : Str} (e : isWd (.str z) = true) : z.length ≤ 8 ∧ 0 < z.length := by
  simp only [isWd, Bool.and_eq_true, decide_eq_true_eq] at e
  exact ⟨e.2.1, e.1⟩
theorem St.wf {h : MH} {ys : List (List Y3)} (S : St ys) : Wf h (stD ys) := by
  refine wf_tup.mpr ⟨by have := S.l6; simp; omega, fun x hx => ?_⟩
  obtain ⟨ss, hss, rfl⟩ := List.mem_map.mp hx
  obtain ⟨y, hy, rfl⟩ := List.mem_map.mp hss
  refine wf_tup.mpr ⟨by have := S.tot; have := tot_mem hy; simp; omega, fun x hx => ?_⟩
  obtain ⟨s, hs, rfl⟩ := List.mem_map.mp hx
  have o := S.ok y hy _ (nf_mem hs).1
  refine wf_tup.mpr ⟨by simp, fun x hx => ?_⟩
  simp at hx
  rcases hx with rfl | rfl | rfl | rfl
  · exact ⟨fits_le (by have := (isWd_len o.w).1; simp only at this; omega), o.z⟩
  all_goals trivial
theorem St.ssOf {ys : List (List Y3)} : ssOf (stD ys) = stch ys := by
  rw [rowsD_stD]
  show ((((ys.map nf).map rowD).flatMap part).map toS) = _
  rw [map_toS]; rfl
theorem lenD_st (ys : List (List Y3)) : lenD (stD ys) = ys.length := by rw [rowsD_stD]; simp [lenD]
/-- the same yards -/
def same (ys zs : List (List Y3)) : Prop := ∀ a, a ∈ ys.flatten.map upY ↔ a ∈ zs.flatten.map upY
theorem fits2_iff {ys zs : List (List Y3)} (S : St ys) (T : St zs) : fits2 (stD ys) (stD zs) ↔ ys.length = zs.length ∧ same ys zs := by
  unfold fits2
  rw [lenD_st, lenD_st, St.ssOf, St.ssOf]
  exact ⟨fun h => ⟨h.1, (mg_iff S T).mp h.2⟩, fun h => ⟨h.1, (mg_iff S T).mpr h.2⟩⟩
section
variable {d : Nat} {h : MH} {Q : D → MH → Prop} {E : DX} {p c : Addr} {n : Nat}
theorem get2 {ys : List (List Y3)} {i : Nat} (hi : i < ys.length) : (ys.map (rowT ∘ nf))[i]? = some (rowT (nf (ys.getD i []))) := by
  rw [List.getElem?_map, List.getElem?_eq_getElem hi, List.getD_eq_getElem?_getD, List.getElem?_eq_getElem hi]; rfl
theorem stD_eq (ys : List (List Y3)) : stD ys = .tup (ys.map (rowT ∘ nf)) := by simp [stD]
theorem okY_getD {ys : List (List Y3)} (g : GoodY ys) (i : Nat) : ∀ a ∈ ys.getD i [], okY a := fun a ha => by
  obtain ⟨y, hy, h⟩ := mem_getD ha
  exact g y hy a h
theorem across_ok {ys : List (List Y3)} (l2 : ys.length = 2) (good : GoodY ys) (ht : tot ys ≤ 400) (q : ∀ h' p, Gw h h' → h p = none → h' p = some (.lst ((nf (acr ys)).map S4.d)) → Q (.ref p) h') : Ph prog (d + 5) 22 [stD ys] h Q E := by
  refine ph_of at_across rfl ?_
  simp only [f_across]
  rw [wpB_cons, stD_eq]
  simp [-al_eq, -ixD_ref_int]
  have y0 := get2 (ys := ys) (i := 0) (by omega)
  have y1 := get2 (ys := ys) (i := 1) (by omega)
  have t0 := tot_getD (ys := ys) 0
  have t1 := tot_getD (ys := ys) 1
  simp only [List.getElem?_map] at y0 y1
  refine ⟨_, ⟨_, (show ys[0]? = some (ys.getD 0 []) by rw [List.getD_eq_getElem?_getD, List.getElem?_eq_getElem (by omega)]; rfl), rfl⟩, ?_⟩
  refine turned_row (d := d) (.inl rfl) (by omega) (good_nf (okY_getD good 0)) fun h1 p1 g1 f1 e1 => ?_
  refine ⟨_, ⟨_, (show ys[1]? = some (ys.getD 1 []) by rw [List.getD_eq_getElem?_getD, List.getElem?_eq_getElem (by omega)]; rfl), rfl⟩, ?_⟩
  simp [rowT, -al_eq, -ixD_ref_int]
  refine al_rule fun q2 h2 hq2 g2 e2 => ?_
  rw [nf_flip] at e1
  have l1 := nf_len_flip (ys.getD 0 [])
  refine ⟨_, _, g2 _ _ e1, e2, fits_le (by simp at t0 t1 l1 ⊢; omega), al_rule fun q3 h3 hq3 g3 e3 => ?_⟩
  have e3 : h3 q3 = some (.lst ((nf ((ys.getD 0 []).reverse.map flp) ++ nf (ys.getD 1 [])).map S4.d)) := by
    rw [e3, List.map_append, List.getD_eq_getElem?_getD, List.getD_eq_getElem?_getD]
  have gd0 : Good2 (nf ((ys.getD 0 []).reverse.map flp)) := good_nf fun a ha => by
    obtain ⟨b, hb, rfl⟩ := List.mem_map.mp ha
    exact okY_flp (okY_getD good 0 b (List.mem_reverse.mp hb))
  refine joined_ok (d := d + 1) (.inr ⟨q3, rfl, e3⟩) (by rw [List.length_append]; omega) (good_app gd0 (good_nf (okY_getD good 1))) fun h4 p4 g4 f4 e4 => ?_
  rw [nf_app] at e4
  have G := g1.trans (g2.trans g3)
  exact q h4 p4 (G.trans g4) (fresh_gw G f4) e4
theorem acr_good {ys : List (List Y3)} (good : GoodY ys) : ∀ a ∈ acr ys, PyData.strOk a.w = true := fun a ha => by
  rcases List.mem_append.mp ha with ha | ha
  · obtain ⟨b, hb, rfl⟩ := List.mem_map.mp ha
    exact (okY_getD good 0 b (List.mem_reverse.mp hb)).1
  · exact (okY_getD good 1 a ha).1
theorem slid_ok {ys zs : List (List Y3)} (l2 : ys.length = 2) (m2 : zs.length = 2) (good : GoodY ys) (goodz : GoodY zs) (ht : tot ys ≤ 400) (hz : tot zs ≤ 400)
    (q1 : acr ys ≠ acr zs → ∀ h', Gw h h' → Q .non h') (q2 : acr ys = acr zs → ∀ h' p, Gw h h' → h p = none → h' p = some (.lst ((slw ys zs).map Stp.d)) → Q (.ref p) h') : Ph prog (d + 6) 23 [stD ys, stD zs] h Q E := by
  refine ph_of at_slid rfl ?_
  simp only [f_slid]
  rw [wpB_cons]
  simp [-al_eq, -ixD_ref_int]
  refine across_ok (d := d) l2 good ht fun h1 p1 g1 f1 e1 => ?_
  refine across_ok (d := d) m2 goodz hz fun h2 p2 g2 f2 e2 => ?_
  refine eqD_lst (g2 _ _ e1) e2 (nf_strOk (acr_good good)) (nf_strOk (acr_good goodz)) ?_
  have G2 := g1.trans g2
  by_cases c : acr ys = acr zs
  · rw [decide_eq_true (congrArg nf c)]
    have q2 := q2 c
    simp [-al_eq, -ixD_ref_int]
    rw [wpB_cons, stD_eq, stD_eq]
    simp [-al_eq, -ixD_ref_int]
    have t0 := tot_getD (ys := ys) 0
    have t1 := tot_getD (ys := zs) 0
    refine ⟨_, ⟨_, (show ys[0]? = some (ys.getD 0 []) by rw [List.getD_eq_getElem?_getD, List.getElem?_eq_getElem (by omega)]; rfl), rfl⟩, ?_⟩
    refine yards_ok (d := d + 4) (.inl rfl) (by omega) fun h3 g3 => ?_
    refine ⟨_, ⟨_, (show zs[0]? = some (zs.getD 0 []) by rw [List.getD_eq_getElem?_getD, List.getElem?_eq_getElem (by omega)]; rfl), rfl⟩, ?_⟩
    refine yards_ok (d := d + 4) (.inl rfl) (by omega) fun h4 g4 => ?_
    rw [sum_ex (ex_nf _).2, (ex_nf _).1, sum_ex (ex_nf _).2, (ex_nf _).1]
    have G4 := G2.trans (g3.trans g4)
    rw [bop_sub_int]
    unfold slw at q2
    by_cases c1 : (ys.getD 0 []).length = (zs.getD 0 []).length
    · rw [if_pos c1] at q2
      rw [wpB_cons]
      simp only [wpS_ifs, wpT_cmp, wpE_var, wpE_cst]
      simp [-al_eq, -ixD_ref_int]
      have : ((ys[0]?.getD []).length : Int) - ((zs[0]?.getD []).length : Int) = 0 := by
        rw [List.getD_eq_getElem?_getD, List.getD_eq_getElem?_getD] at c1
        omega
      rw [if_pos this]
      refine ⟨fits_le (by decide), al_rule fun q5 h5 hq5 g5 e5 => ?_⟩
      exact q2 h5 q5 (G4.trans g5) (fresh_gw G4 hq5) e5
    · rw [if_neg c1] at q2
      rw [wpB_cons]
      simp [-al_eq, -ixD_ref_int]
      rw [List.getD_eq_getElem?_getD, List.getD_eq_getElem?_getD] at c1 q2
      rw [if_neg (by omega)]
      by_cases c2 : (zs[0]?.getD []).length < (ys[0]?.getD []).length
      · rw [if_pos (by omega)]
        rw [if_pos c2] at q2
        refine ⟨fits_le (by decide), fits_le (by decide), al_rule fun q5 h5 hq5 g5 e5 => ?_⟩
        exact q2 h5 q5 (G4.trans g5) (fresh_gw G4 hq5) e5
      · rw [if_neg (by omega)]
        rw [if_neg c2] at q2
        refine ⟨fits_le (by decide), fits_le (by decide), al_rule fun q5 h5 hq5 g5 e5 => ?_⟩
        refine q2 h5 q5 (G4.trans g5) (fresh_gw G4 hq5) ?_
        rw [e5]
        simp [Stp.d]
        omega
  · rw [decide_eq_false (fun z => c (nf_inj z))]
    simp
    exact q1 c h2 G2
end
end LW
set_option Elab.async false
set_option linter.all false
set_option maxRecDepth 100000
set_option maxHeartbeats 1000000
set_option exponentiation.threshold 20000
namespace LW
open PySem L2 DL
/-- two standings on two spools, of the same yards -/
structure Two (ys zs : List (List Y3)) : Prop where
  S : St ys
  T : St zs
  l : ys.length = 2
  m : zs.length = 2
  t : tot ys ≤ 300
  u : tot zs ≤ 300
  same : same ys zs
theorem Two.symm {ys zs : List (List Y3)} (W : Two ys zs) : Two zs ys := ⟨W.T, W.S, W.m, W.l, W.u, W.t, fun a => (W.same a).symm⟩
section
variable {d : Nat} {h : MH} {Q : D → MH → Prop} {E : DX} {p c : Addr} {n : Nat}
theorem fit2_ok {ys zs : List (List Y3)} (W : Two ys zs) (q : ∀ h', Gw h h' → Q .non h') : Ph prog (d + 6) 18 [stD ys, stD zs] h Q E :=
  needfit_ok W.S.wf W.T.wf (fun _ _ _ => q) (fun e => by rw [W.S.stand] at e; cases e) (fun _ e => by rw [W.T.stand] at e; cases e) (fun _ _ e => absurd ((fits2_iff W.S W.T).mpr ⟨by rw [W.l, W.m], W.same⟩) e)
theorem way_ok2 {ys zs : List (List Y3)} (W : Two ys zs)
    (q1 : acr ys ≠ acr zs → ∀ h', Gw h h' → Q .non h') (q2 : acr ys = acr zs → ∀ h' p, Gw h h' → h p = none → h' p = some (.lst ((slw ys zs).map Stp.d)) → Q (.ref p) h') : Ph prog (d + 7) 24 [stD ys, stD zs] h Q E := by
  refine ph_of at_way_there rfl ?_
  simp only [f_way_there]
  rw [wpB_cons]
  simp [-al_eq, -ixD_ref_int]
  refine fit2_ok (d := d) W fun h1 g1 => ?_
  try simp [-al_eq, -ixD_ref_int]
  rw [wpB_cons, stD_eq, stD_eq]
  simp [-al_eq, -ixD_ref_int]
  rw [if_pos (by have := W.l; omega)]
  rw [← stD_eq, ← stD_eq]
  exact slid_ok (d := d) W.l W.m W.S.good W.T.good (by have := W.t; omega) (by have := W.u; omega) (fun e h' g => q1 e h' (g1.trans g)) fun e h' p g f e2 => q2 e h' p (g1.trans g) (fresh_gw g1 f) e2
theorem fewest_ok2 {ys zs : List (List Y3)} (W : Two ys zs)
    (q0 : 4 < ys.flatten.length → ∀ h', Gw h h' → E 3 [("many", .int ys.flatten.length)] h')
    (q1 : ys.flatten.length ≤ 4 → acr ys ≠ acr zs → ∀ h', Gw h h' → Q .non h') (q2 : ys.flatten.length ≤ 4 → acr ys = acr zs → ∀ h' p, Gw h h' → h p = none → h' p = some (.lst ((slw ys zs).map Stp.d)) → Q (.ref p) h') : Ph prog (d + 7) 25 [stD ys, stD zs] h Q E := by
  refine ph_of at_fewest rfl ?_
  simp only [f_fewest]
  rw [wpB_cons]
  simp [-al_eq, -ixD_ref_int]
  refine fit2_ok (d := d) W fun h1 g1 => ?_
  try simp [-al_eq, -ixD_ref_int]
  rw [wpB_cons]
  simp [-al_eq, -ixD_ref_int]
  refine gauge_of_ok (d := d + 4) (by have := W.l; omega) (by have := W.t; omega) fun h2 g2 => ?_
  have g12 := g1.trans g2
  refine ⟨_, ints_map _, ?_⟩
  rw [gau_sum]
  try simp [-al_eq, -ixD_ref_int]
  rw [wpB_cons, stD_eq, stD_eq]
  simp only [wpS_ifs, wpT_or, wpT_cmp, wpE_var, wpE_cst, wpE_bi, wpEs_cons, wpEs_nil]
  by_cases c : 4 < ys.flatten.length
  · simp only [List.getElem?_cons_zero, List.getElem?_cons_succ, List.length_flatten] at *
    simp [-al_eq, -ixD_ref_int]
    rw [if_pos (by omega)]
    exact q0 c h2 g12
  · simp [-al_eq, -ixD_ref_int]
    have c' : ¬ (4 : Int) < ((ys.flatten.length : Nat) : Int) := by omega
    simp only [List.length_flatten] at c c'
    rw [if_neg (by omega)]
    rw [if_neg (by have := W.l; omega)]
    rw [wpB_cons]
    simp [-al_eq, -ixD_ref_int]
    rw [if_pos (by have := W.l; omega)]
    rw [← stD_eq, ← stD_eq]
    have c4 : ys.flatten.length ≤ 4 := by rw [List.length_flatten]; omega
    exact slid_ok (d := d) W.l W.m W.S.good W.T.good (by have := W.t; omega) (by have := W.u; omega) (fun e h' g => q1 c4 e h' (g12.trans g)) fun e h' p g f e2 => q2 c4 e h' p (g12.trans g) (fresh_gw g12 f) e2
end
end LW
set_option Elab.async false
set_option linter.all false
set_option maxRecDepth 100000
set_option maxHeartbeats 1000000
set_option exponentiation.threshold 20000
namespace LW
open PySem L2 DL
section
variable {d : Nat} {h : MH} {Q : D → MH → Prop} {E : DX} {p c : Addr} {n : Nat}
theorem cutst_ok {a : Addr} {ts : List S3} (pn : Pen h p c n) (hn : n + 3000 < 2 ^ 60) (ea : h a = some (.lst (ts.map S3.d))) (tl : ts.length ≤ 32) (tb : ∀ x ∈ ts, T3k x)
    (q : ∀ (us : List S3) q h', h q = none → h' q = some (.lst (us.map S3.d)) → us.length ≤ 2 * ts.length → (∀ x ∈ us, T3k x) → exT us = exT ts → Pen h' p c (n + 1100) → Gx p h h' → Q (.ref q) h') : Ph prog (d + 4) 38 [.ref p, .ref a] h Q E := by
  refine ph_of at__law_cut_stretches rfl ?_
  simp only [f__law_cut_stretches]
  rw [wpB_cons]
  simp [-al_eq, -ixD_ref_int]
  refine ⟨fits_le (by decide), al_rule fun q1 h1 hq1 g1 e1 => ?_⟩
  have npq1 : q1 ≠ p := (pn.nep hq1).symm
  have ncq1 : c ≠ q1 := pn.nec hq1
  have nap : a ≠ p := fun z => by obtain ⟨k, e⟩ := pn.has; rw [← z, ea] at e; cases e
  have naq : a ≠ q1 := fun z => by rw [z, hq1] at ea; cases ea
  rw [wpB_cons]
  simp [-al_eq, -ixD_ref_int]
  refine ⟨_, g1 _ _ ea, ?_⟩
  refine for_rule (fun r σ h' => ∃ (done rest us : List S3) (x3 x4 x5 x6 : Option D), ts = done ++ rest ∧ r = rest.map S3.d ∧ σ = [some (.ref p), some (.ref a), some (.ref q1), x3, x4, x5, x6] ∧ h' a = some (.lst (ts.map S3.d)) ∧ h' q1 = some (.lst (us.map S3.d)) ∧ us.length ≤ 2 * done.length ∧ (∀ x ∈ us, T3k x) ∧ exT us = exT done ∧ Pen h' p c (n + 33 * done.length) ∧ Gx p h h')
      (fun r σ h' ⟨done, rest, us, x3, x4, x5, x6, u1, u2, es, eqa, eq1, ul, ut, ue, pn, g⟩ => eqa) (fun σ h' ⟨done, rest, us, x3, x4, x5, x6, u1, u2, es, eqa, eq1, ul, ut, ue, pn, g⟩ => ?_) (fun dd r σ h' K ⟨done, rest, us, x3, x4, x5, x6, u1, u2, es, eqa, eq1, ul, ut, ue, pn, g⟩ hK => ?_) _ _ _ ⟨[], ts, [], none, none, none, none, rfl, rfl, rfl, g1 _ _ ea, e1, Nat.zero_le _, (fun _ z => nomatch z), rfl, pn.gw g1, g1.gx⟩
  · subst es
    have : rest = [] := by simpa using u2.symm
    subst this
    rw [List.append_nil] at u1
    subst u1
    simp
    exact q us q1 h' hq1 eq1 ul ut ue (pn.mono (by omega)) g
  · subst es
    cases rest with
    | nil => cases u2
    | cons t rest =>
    rw [List.map_cons] at u2
    cases u2
    have ot := tb t (by rw [u1]; simp)
    have dl : done.length + 1 ≤ ts.length := by rw [u1]; simp
    have ot1 := ot.m1
    have ot2 := ot.m2
    have ot3 := ot.lo
    have ot4 := ot.top
    simp [S3.d, -al_eq, -ixD_ref_int]
    refine wpB_seq (fun σ h2 => ∃ m : Int, 0 ≤ m ∧ m < t.hi ∧ σ = [some (.ref p), some (.ref a), some (.ref q1), some (.str t.w), some (.int t.lo), some (.int t.hi), some (.int m)] ∧ Pen h2 p c (n + 33 * done.length + 31) ∧ Gx p h' h2) (fun K2 hK2 => ?_) fun σ h2 ⟨m, m0, m1, es, pn2, g2⟩ => ?_
    · simp [-al_eq, -ixD_ref_int]
      refine draw_ok (d := d + 2) pn (by decide) (by decide) (by omega) fun v h2 v0 vm pn2 g2 => ?_
      try simp [-al_eq, -ixD_ref_int]
      by_cases cv : v = 0
      · rw [if_pos cv]
        exact below_ok (d := d) pn2 (by omega) (by omega) (by omega) fun m h3 m0 m1 pn3 g3 => hK2 _ _ ⟨m, m0, m1, rfl, pn3.mono (by omega), g2.trans g3⟩
      · rw [if_neg cv]
        exact hK2 _ _ ⟨0, Int.le_refl _, by omega, rfl, pn2.mono (by omega), g2⟩
    · subst es
      have G2 := g.trans g2
      have a2 := g2.1 _ _ nap eqa
      have e2 := g2.1 _ _ npq1 eq1
      have fin : ∀ (vs : List S3) (h3 : MH), Gw h2 h3 → vs.length ≤ 2 → (∀ x ∈ vs, T3k x) → exT vs = exT [t] → K [some (.ref p), some (.ref a), some (.ref q1), some (.str t.w), some (.int t.lo), some (.int t.hi), some (.int m)] (up h3 q1 (.lst ((us ++ vs).map S3.d))) := fun vs h3 g3 vl vt ve =>
        hK _ _ ⟨done ++ [t], rest, us ++ vs, _, _, _, _, by rw [u1]; simp, rfl, rfl, (up_ne naq).trans (g3 _ _ a2), up_self, by rw [List.length_append, List.length_append, List.length_singleton]; omega, fun x hx => by
          rcases List.mem_append.mp hx with hx | hx
          · exact ut x hx
          · exact vt x hx, by rw [exT_app, exT_app, ue, ve], ((pn2.gw g3).put npq1.symm ncq1).mono (by rw [List.length_append, List.length_singleton]; omega), (G2.trans g3.gx).new hq1 npq1.symm⟩
      simp [-al_eq, -ixD_ref_int]
      by_cases cm : 0 < m
      · rw [if_pos cm]
        refine ⟨⟨_, e2⟩, fits_le (by decide), fits_le (by decide), al_rule fun q3 h3 hq3 g3 e3 => ?_⟩
        simp
        refine ⟨_, g3 _ _ e2, _, e3, fits_le (by simp; omega), ?_⟩
        have := fin [⟨t.w, t.lo, m⟩, ⟨t.w, t.lo + m, t.hi - m⟩] h3 g3 (by simp) (fun x hx => by
          simp at hx
          rcases hx with rfl | rfl
          · exact ⟨ot.w, ot3, by show 1 ≤ m; omega, by show m ≤ 10 ^ 16; omega, by show t.lo + m ≤ _; omega⟩
          · exact ⟨ot.w, by show 0 ≤ t.lo + m; omega, by show 1 ≤ t.hi - m; omega, by show t.hi - m ≤ 10 ^ 16; omega, by show t.lo + m + (t.hi - m) ≤ _; omega⟩) (exT_cut m0 (by omega))
        rw [List.map_append] at this
        exact this
      · rw [if_neg cm]
        refine ⟨⟨_, e2⟩, fits_le (by decide), _, e2, by rw [sizeLine_eq, List.length_map]; omega, ?_⟩
        have := fin [t] h2 .refl (by simp) (fun x hx => by rw [List.mem_singleton.mp hx]; exact ot) rfl
        rw [List.map_append] at this
        exact this
/-- the law's row across -/
theorem lacross_ok {ys : List (List Y3)} (l2 : ys.length = 2) (good : GoodY ys) (ht : tot ys ≤ 400) (q : ∀ h', Gw h h' → Q (rowT (nf (acr ys))) h') : Ph prog (d + 2) 43 [stD ys] h Q E := by
  refine ph_of at__law_across rfl ?_
  simp only [f__law_across]
  rw [wpB_cons, stD_eq]
  simp [-al_eq, -ixD_ref_int]
  have t0 := tot_getD (ys := ys) 0
  have t1 := tot_getD (ys := ys) 1
  refine ⟨_, ⟨_, (show ys[0]? = some (ys.getD 0 []) by rw [List.getD_eq_getElem?_getD, List.getElem?_eq_getElem (by omega)]; rfl), rfl⟩, ?_⟩
  refine flippedT_ok (d := d) (by omega) (good_nf (okY_getD good 0)) fun h1 p1 g1 f1 e1 => ?_
  refine ⟨_, ⟨_, (show ys[1]? = some (ys.getD 1 []) by rw [List.getD_eq_getElem?_getD, List.getElem?_eq_getElem (by omega)]; rfl), rfl⟩, ?_⟩
  simp [rowT, -al_eq, -ixD_ref_int]
  refine al_rule fun q2 h2 hq2 g2 e2 => ?_
  refine ⟨_, _, g2 _ _ e1, e2, fits_le (by simp at t0 t1 ⊢; omega), al_rule fun q3 h3 hq3 g3 e3 => ?_⟩
  have e3 : h3 q3 = some (.lst (((nf (ys.getD 0 [])).reverse.map flip1 ++ nf (ys.getD 1 [])).map S4.d)) := by
    rw [e3, List.map_append, List.getD_eq_getElem?_getD, List.getD_eq_getElem?_getD]
  have gd0 := good_flip (good_nf (okY_getD good 0))
  refine onerow_ok (d := d) (.inr ⟨q3, rfl, e3⟩) (by rw [List.length_append, List.length_map, List.length_reverse]; omega) (good_app gd0 (good_nf (okY_getD good 1))) fun h4 g4 => ?_
  have ps : Pos ((nf (ys.getD 0 [])).reverse.map flip1 ++ nf (ys.getD 1 [])) := fun s hs => by
    rcases List.mem_append.mp hs with hs | hs
    · exact pos_flip (ex_nf _).2 s hs
    · exact (ex_nf _).2 s hs
  have e : jn ((nf (ys.getD 0 [])).reverse.map flip1 ++ nf (ys.getD 1 [])) = nf (acr ys) := by
    rw [jn_ex ps, ex_app, ex_flip (ex_nf _).2, (ex_nf _).1, (ex_nf _).1]
    rfl
  rw [e]
  exact q h4 ((g1.trans (g2.trans g3)).trans g4)
end
end LW
set_option Elab.async false
set_option linter.all false
set_option maxRecDepth 100000
set_option maxHeartbeats 1000000
set_option exponentiation.threshold 20000
namespace LW
open PySem L2 DL
theorem St.f18 {ys : List (List Y3)} (S : St ys) : (ys.flatten.length : Int) ≤ 1000000000000000000 := S.sum
section
variable {d : Nat} {h : MH} {Q : D → MH → Prop} {E : DX} {p c : Addr} {n : Nat}
theorem pair_ok {ys zs : List (List Y3)} (W : Two ys zs) (q : ∀ h', Gw h h' → Q (.bl true) h') : Ph prog (d + 8) 44 [stD ys, stD zs] h Q E := by
  have S := W.S
  have T := W.T
  have t1 := W.t
  have u1 := W.u
  refine ph_of at__law_pair_right rfl ?_
  simp only [f__law_pair_right]
  rw [wpB_cons]
  simp [-al_eq, -ixD_ref_int]
  have gy := acr_good S.good
  have gz := acr_good T.good
  refine way_ok2 (d := d) W (fun ne h1 g1 => ?_) (fun e h1 p1 g1 f1 e1 => ?_)
  · refine lacross_ok (d := d + 5) W.l S.good (by omega) fun h2 g2 => ?_
    refine lacross_ok (d := d + 5) W.m T.good (by omega) fun h3 g3 => ?_
    refine eqD_rowT gy gz ?_
    rw [decide_eq_false ne]
    refine ⟨fits_le (by decide), ?_⟩
    try simp [-al_eq, -ixD_ref_int]
    rw [wpB_cons]
    simp [-al_eq, -ixD_ref_int]
    exact q h3 (g1.trans (g2.trans g3))
  · obtain ⟨s1, ⟨g', s2⟩, s3, s4⟩ := slw_ok W.l W.m e S.f18
    have s5 : (slw ys zs).length ≤ 1 := by rw [s4]; split <;> omega
    refine lacross_ok (d := d + 5) W.l S.good (by omega) fun h2 g2 => ?_
    refine lacross_ok (d := d + 5) W.m T.good (by omega) fun h3 g3 => ?_
    have G3 := g1.trans (g2.trans g3)
    have e3 := g3 _ _ (g2 _ _ e1)
    refine eqD_rowT gy gz ?_
    rw [decide_eq_true e]
    refine ⟨fits_le (by decide), ?_⟩
    try simp [-al_eq, -ixD_ref_int]
    rw [wpB_cons]
    simp [-al_eq, -ixD_ref_int]
    rw [wpB_cons]
    simp [isTys, kindOf, subTy, -al_eq, -ixD_ref_int]
    refine .inl ⟨⟨_, e3⟩, ?_⟩
    refine ⟨_, e3, ?_⟩
    refine eqD_st S.good T.good ?_
    have rest : ∀ h5 (X1 X2 : DX), Gw h3 h5 → Ph prog (d + 7) 42 [stD ys, .ref p1] h5 (fun x h6 => eqD x (stD zs) h6 fun k => if k = true then Ph prog (d + 7) 21 [stD ys, .ref p1] h6 (fun x h7 => eqD x (stD zs) h7 fun k => Q (.bl k) h7) X2 else Q (.bl false) h6) X1 := fun h5 X1 X2 g5 => by
      refine swoundL_ok (d := d + 4) (g5 _ _ e3) (by have := W.l; omega) S.good (by omega) s3 s2 fun h6 g6 => ?_
      rw [s1]
      refine eqD_st T.good T.good ?_
      rw [decide_eq_true rfl, if_pos rfl]
      refine wound_ok (d := d + 1) (.inr ⟨p1, rfl, g6 _ _ (g5 _ _ e3)⟩) (by have := W.l; omega) S.good (by omega) (fun st hst => (s3 st hst).np) (fun g2 h7 eg g7 => ?_) (fun k h7 eg g7 => by rw [s2] at eg; cases eg)
      rw [s1]
      refine eqD_st T.good T.good ?_
      rw [decide_eq_true rfl]
      exact q h7 (G3.trans (g5.trans (g6.trans g7)))
    by_cases c : ys = zs
    · rw [decide_eq_true c]
      rw [if_pos c] at s4
      simp [DL.bi, s4, -al_eq, -ixD_ref_int]
      exact rest h3 _ _ .refl
    · rw [decide_eq_false c]
      rw [if_neg c] at s4
      simp [DL.bi, s4, -al_eq, -ixD_ref_int]
      exact rest h3 _ _ .refl
theorem fewr_ok {ys zs : List (List Y3)} (W : Two ys zs) (q : ∀ h', Gw h h' → Q (.bl true) h') : Ph prog (d + 8) 45 [stD ys, stD zs, .int ys.flatten.length] h Q E := by
  have S := W.S
  have T := W.T
  have t1 := W.t
  have u1 := W.u
  refine ph_of at__law_fewest_right rfl ?_
  simp only [f__law_fewest_right]
  rw [wpB_cons]
  simp [-al_eq, -ixD_ref_int]
  refine fewest_ok2 (d := d) W (fun c4 h1 g1 => ?_) (fun c4 ne h1 g1 => ?_) (fun c4 e h1 p1 g1 f1 e1 => ?_)
  · refine ex_at ?_
    simp only [List.length_flatten] at c4 ⊢
    simp [-al_eq, -ixD_ref_int]
    rw [if_pos (by omega)]
    exact q h1 g1
  · try simp [-al_eq, -ixD_ref_int]
    rw [wpB_cons]
    simp only [List.length_flatten] at c4 ⊢
    simp [-al_eq, -ixD_ref_int]
    rw [if_neg (by omega)]
    rw [wpB_cons]
    simp [-al_eq, -ixD_ref_int]
    refine way_ok2 (d := d) W (fun ne h2 g2 => ?_) (fun e h2 p2 g2 f2 e2 => absurd e ne)
    refine is_nn ?_
    simp only [if_true]
    exact is_nn (q h2 (g1.trans g2))
  · try simp [-al_eq, -ixD_ref_int]
    rw [wpB_cons]
    simp only [List.length_flatten] at c4 ⊢
    simp [-al_eq, -ixD_ref_int]
    rw [if_neg (by omega)]
    rw [wpB_cons]
    simp [-al_eq, -ixD_ref_int]
    refine way_ok2 (d := d) W (fun ne h2 g2 => absurd e ne) (fun _ h2 p2 g2 f2 e2 => ?_)
    simp [isOp, -al_eq, -ixD_ref_int]
    rw [wpB_cons]
    have e3 := g2 _ _ e1
    obtain ⟨s1, ⟨g', s2⟩, s3, s4⟩ := slw_ok W.l W.m e S.f18
    have s5 : (slw ys zs).length ≤ 1 := by rw [s4]; split <;> omega
    have G3 := g1.trans g2
    simp [isTys, kindOf, subTy, -al_eq, -ixD_ref_int]
    refine .inl ⟨⟨_, e3⟩, ?_⟩
    refine ⟨_, e3, ?_⟩
    refine eqD_st S.good T.good ?_
    have rest : ∀ h5 (X1 : DX), Gw h2 h5 → Ph prog (d + 7) 42 [stD ys, .ref p1] h5 (fun x h6 => eqD x (stD zs) h6 fun k => Q (.bl k) h6) X1 := fun h5 X1 g5 => by
      refine swoundL_ok (d := d + 4) (g5 _ _ e3) (by have := W.l; omega) S.good (by omega) s3 s2 fun h6 g6 => ?_
      rw [s1]
      refine eqD_st T.good T.good ?_
      rw [decide_eq_true rfl]
      exact q h6 (G3.trans (g5.trans g6))
    by_cases c : ys = zs
    · rw [decide_eq_true c]
      rw [if_pos c] at s4
      simp [DL.bi, s4, -al_eq, -ixD_ref_int]
      exact rest h2 _ .refl
    · rw [decide_eq_false c]
      rw [if_neg c] at s4
      simp [DL.bi, s4, -al_eq, -ixD_ref_int]
      exact rest h2 _ .refl
end
end LW
set_option Elab.async false
set_option linter.all false
set_option maxRecDepth 100000
set_option maxHeartbeats 1000000
namespace LW
open PySem L2 DL
/-! ### steps keep the yards -/
def nmc (x : Y3) (l : List Y3) : Nat := (l.map upY).count x
theorem nmc_app (x : Y3) (a b : List Y3) : nmc x (a ++ b) = nmc x a + nmc x b := by unfold nmc; rw [List.map_append, List.count_append]
theorem nmc_rv (x : Y3) (l : List Y3) : nmc x (l.reverse.map flp) = nmc x l := by
  unfold nmc
  rw [List.map_map]
  have : (upY ∘ flp : Y3 → Y3) = upY := rfl
  rw [this, List.map_reverse, List.count_reverse]
theorem nmc_set (x : Y3) : ∀ {ys : List (List Y3)} {a : Nat} (v : List Y3), a < ys.length → nmc x (ys.set a v).flatten + nmc x (ys.getD a []) = nmc x ys.flatten + nmc x v
  | [], _, _, h => absurd h (by simp)
  | y :: ys, 0, v, _ => by
    rw [List.set_cons_zero, List.flatten_cons, List.flatten_cons, nmc_app, nmc_app]
    show _ + nmc x y = _
    omega
  | y :: ys, a + 1, v, h => by
    have := nmc_set x (ys := ys) (a := a) v (by simpa using h)
    rw [List.set_cons_succ, List.flatten_cons, List.flatten_cons, nmc_app, nmc_app]
    show _ + nmc x (ys.getD a []) = _
    omega
theorem nmc_yst (x : Y3) {ys : List (List Y3)} {st : Stp} {g' : List Int} (hn : st.ne) (hp : st.pos) (e : gst (gau ys) st = some g') : nmc x (yst ys st).flatten = nmc x ys.flatten := by
  cases st with
  | wind a b n =>
    simp only [gst] at e
    split at e
    · rename_i c
      obtain ⟨c1, c2, c3⟩ := c
      rw [gau_len] at c1 c2
      have hn : a ≠ b := hn
      have t1 := nmc_set x (ys := ys) ((ys.getD a []).drop n.toNat) c1
      have t2 := nmc_set x (ys := ys.set a ((ys.getD a []).drop n.toNat)) (a := b) (((ys.getD a []).take n.toNat).reverse.map flp ++ ys.getD b []) (by simpa using c2)
      rw [getD_set_ne hn] at t2
      rw [nmc_app, nmc_rv] at t2
      have t3 : nmc x (ys.getD a []) = nmc x ((ys.getD a []).take n.toNat) + nmc x ((ys.getD a []).drop n.toNat) := by rw [← nmc_app, List.take_append_drop]
      show nmc x ((ys.set a ((ys.getD a []).drop n.toNat)).set b (((ys.getD a []).take n.toNat).reverse.map flp ++ ys.getD b [])).flatten = _
      omega
    · cases e
  | turn a =>
    simp only [gst] at e
    split at e
    · rename_i c
      rw [gau_len] at c
      have t1 := nmc_set x (ys := ys) ((ys.getD a []).reverse.map flp) c
      rw [nmc_rv] at t1
      show nmc x (ys.set a ((ys.getD a []).reverse.map flp)).flatten = _
      omega
    · cases e
  | swap a b =>
    simp only [gst] at e
    split at e
    · rename_i c
      rw [gau_len] at c
      have hn : a ≠ b := hn
      have t1 := nmc_set x (ys := ys) (ys.getD b []) c.1
      have t2 := nmc_set x (ys := ys.set a (ys.getD b [])) (a := b) (ys.getD a []) (by simpa using c.2)
      rw [getD_set_ne hn] at t2
      show nmc x ((ys.set a (ys.getD b [])).set b (ys.getD a [])).flatten = _
      omega
    · cases e
/-- the same yards, however often -/
def pm (ys zs : List (List Y3)) : Prop := (ys.flatten.map upY).Perm (zs.flatten.map upY)
theorem pm.same {ys zs : List (List Y3)} (h : pm ys zs) : ∀ a, a ∈ ys.flatten.map upY ↔ a ∈ zs.flatten.map upY := fun _ => List.Perm.mem_iff h
theorem pm_yst {ys : List (List Y3)} {st : Stp} {g' : List Int} (hn : st.ne) (hp : st.pos) (e : gst (gau ys) st = some g') : pm (yst ys st) ys :=
  List.perm_iff_count.mpr fun x => nmc_yst x hn hp e
theorem pm_len {ys zs : List (List Y3)} (h : pm ys zs) : ys.flatten.length = zs.flatten.length := by
  have := h.length_eq
  rw [List.length_map, List.length_map] at this
  exact this
/-- a standing behind a step is one -/
theorem St.yst {ys : List (List Y3)} {st : Stp} {g' : List Int} (S : St ys) (hn : st.ne) (hp : st.pos) (e : gst (gau ys) st = some g') (ht : LW.tot ys ≤ 799) : St (LW.yst ys st) := by
  have p := pm_yst hn hp e
  have t := tot_yst hn hp e
  have pl := pm_len p
  refine ⟨?_, ?_, fun y hy a ha => ?_, by omega, by rw [pl]; exact S.sum, p.nodup_iff.mpr S.nd⟩
  · have := S.l2
    cases st <;> simp only [LW.yst, List.length_set] <;> exact this
  · have := S.l6
    cases st <;> simp only [LW.yst, List.length_set] <;> exact this
  · obtain ⟨y0, h1, a0, h2, h3⟩ := yst_mem hy ha
    rcases h3 with rfl | rfl
    · exact S.ok y0 h1 _ h2
    · exact (S.ok y0 h1 a0 h2).flp
/-- what is dealt is a standing -/
theorem Dlt.st {ys : List (List Y3)} {ts : List S3} (D0 : Dlt ys ts) (l2 : 2 ≤ ys.length) (l6 : ys.length ≤ 6) (nd : (exT ts).Nodup) (tl : ts.length ≤ 64) (hs : ((exT ts).length : Int) ≤ M18) : St ys := by
  have pl := D0.perm.length_eq
  rw [List.length_map] at pl
  exact ⟨l2, l6, D0.ok, by have := D0.tot; omega, by rw [pl]; exact hs, D0.perm.nodup_iff.mpr nd⟩
theorem exT_len : ∀ {ts : List S3}, (∀ t ∈ ts, 1 ≤ t.hi) → ((exT ts).length : Int) = (ts.map S3.hi).sum
  | [], _ => rfl
  | t :: ts, h => by
    have ih := exT_len (ts := ts) fun x hx => h x (List.mem_cons_of_mem _ hx)
    have h0 := h t List.mem_cons_self
    have e : exT (t :: ts) = ex1 (up3 t) ++ exT ts := by
      have := exT_app [t] ts
      rw [exT_one] at this
      exact this
    rw [e, List.length_append, ex1_len, List.map_cons, List.sum_cons, ← ih]
    show (((t.hi.toNat + (exT ts).length : Nat)) : Int) = _
    omega
theorem sum_le {B : Int} : ∀ {l : List Int}, (∀ x ∈ l, x ≤ B) → l.sum ≤ l.length * B
  | [], _ => by simp
  | x :: l, h => by
    have ih := sum_le (l := l) fun y hy => h y (List.mem_cons_of_mem _ hy)
    have h0 := h x List.mem_cons_self
    rw [List.sum_cons, List.length_cons]
    have : ((l.length + 1 : Nat) : Int) * B = l.length * B + B := by rw [Int.natCast_add, Int.add_mul]; simp
    rw [this]; omega
theorem exT_18 {ts : List S3} (T : ∀ t ∈ ts, T3k t) (tl : ts.length ≤ 64) : ((exT ts).length : Int) ≤ M18 := by
  rw [exT_len fun t ht => (T t ht).m1]
  have := sum_le (B := 10000000000000000) (l := ts.map S3.hi) fun x hx => by
    obtain ⟨t, ht, rfl⟩ := List.mem_map.mp hx
    exact (T t ht).m2
  rw [List.length_map] at this
  show _ ≤ (1000000000000000000 : Int)
  omega
end LW
set_option Elab.async false
set_option linter.all false
set_option maxRecDepth 100000
set_option maxHeartbeats 1000000
set_option exponentiation.threshold 20000
namespace LW
open PySem L2 DL
section
variable {d : Nat} {h : MH} {Q : D → MH → Prop} {E : DX} {p c : Addr} {n : Nat}
def outer : List Sm := match f_law.body with
  | _ :: .for _ _ b :: _ => b
  | _ => []
theorem lccopy {σ : DS} {Φ : Fns} {X : DX} {ok : MH → Prop} {K : List D → MH → Prop} {v : Nat} {xs : List D} (hl : xs.length ≤ 1000) (hσ : v < σ.length) (hok : ok h) (q : K xs h) :
    lcGo (.nm v) ok (wpC Φ none) (wpE Φ X (.var v)) σ K xs [] h := by
  refine lc_rule (fun r acc h' => h' = h ∧ xs = acc ++ r) (fun r acc h' ⟨e, _⟩ => by rw [e]; exact hok) (fun acc h' ⟨e, e2⟩ => ?_) (fun dd r acc h' N ⟨e, e2⟩ hN => ?_) _ _ _ ⟨rfl, rfl⟩
  · subst e
    have dl : acc.length < 1000 := by rw [e2] at hl; simp at hl; omega
    simp [hσ, -al_eq, -ixD_ref_int]
    exact ⟨by rw [sizeLine_eq]; omega, hN _ _ ⟨rfl, by rw [e2]; simp⟩⟩
  · subst e
    rw [List.append_nil] at e2
    subst e2
    exact q
theorem lcother {σ : DS} {Φ : Fns} {X : DX} {ok : MH → Prop} {K : List D → MH → Prop} {l vs : List S3} {q2 : Addr} {v0 : S3} (hl : l.length ≤ 1000) (hσ : 8 < σ.length) (h4 : σ[4]? = some (some (.ref q2))) (e2 : h q2 = some (.lst (vs.map S3.d))) (hv : l ≠ [] → vs.head? = some v0) (hok : ok h) (q : K ((l.filter fun t => decide (t.w ≠ v0.w)).map S3.d) h) :
    lcGo (.nm 8) ok (wpC Φ (some (.cmp .NotEq (.ix (.var 8) (.cst (.int 0))) (.ix (.ix (.var 4) (.cst (.int 0))) (.cst (.int 0)))))) (wpE Φ X (.var 8)) σ K (l.map S3.d) [] h := by
  refine lc_rule (fun r acc h' => h' = h ∧ ∃ done rest : List S3, l = done ++ rest ∧ r = rest.map S3.d ∧ acc = (done.filter fun t => decide (t.w ≠ v0.w)).map S3.d) (fun r acc h' ⟨e, _⟩ => by rw [e]; exact hok) (fun acc h' ⟨e, done, rest, e3, e4, e5⟩ => ?_) (fun dd r acc h' N ⟨e, done, rest, e3, e4, e5⟩ hN => ?_) _ _ _ ⟨rfl, [], l, rfl, rfl, rfl⟩
  · subst e e5
    cases rest with
    | nil => cases e4
    | cons t rest =>
    rw [List.map_cons] at e4
    cases e4
    have hv := hv (by rw [e3]; simp)
    obtain ⟨r2, rfl⟩ : ∃ r2, vs = v0 :: r2 := by
      cases vs with
      | nil => cases hv
      | cons a r2 => cases hv; exact ⟨r2, rfl⟩
    have dl : done.length < 1000 := by rw [e3] at hl; simp at hl; omega
    have fl : (done.filter fun t => decide (t.w ≠ v0.w)).length ≤ done.length := List.length_filter_le ..
    have h48 : (σ.set 8 (some t.d))[4]? = some (some (.ref q2)) := by
      rw [List.getElem?_set_ne (by decide)]; exact h4
    simp only [bindT_nm, wpC_some, wpT_cmp, wpE_ix, wpE_var, wpE_cst]
    refine ⟨t.d, by rw [List.getElem?_set_self hσ], ?_⟩
    simp [S3.d, -al_eq, -ixD_ref_int]
    refine ⟨.ref q2, h4, ixD_at (j := 0) e2 rfl ?_⟩
    simp [S3.d, -al_eq, -ixD_ref_int]
    have nx : ∀ acc', acc' = ((done ++ [t]).filter fun t => decide (t.w ≠ v0.w)).map S3.d → N acc' h' := fun acc' e => hN _ _ ⟨rfl, done ++ [t], rest, by rw [e3]; simp, rfl, e⟩
    by_cases cw : t.w = v0.w
    · rw [if_pos cw]
      refine nx _ ?_
      rw [List.filter_append]
      simp [cw]
    · rw [if_neg cw]
      refine ⟨_, by rw [List.getElem?_set_self hσ], by simp at fl; rw [sizeLine_eq]; omega, nx _ ?_⟩
      rw [List.filter_append]
      simp [cw, S3.d]
  · subst e e5
    have : rest = [] := by simpa using e4.symm
    subst this
    rw [List.append_nil] at e3
    subst e3
    exact q
/-- stretches made few -/
theorem few_ok {Dn : En} {x0 x2 x3 x5 x6 x7 x8 x9 x10 x11 x12 x13 x14 x15 x16 : Option D} {a : Addr} {ts : List S3} (pn : Pen h p c n) (hn : n + 1000 < 2 ^ 60) (ea : h a = some (.lst (ts.map S3.d))) (tl : ts.length ≤ 16) (tb : ∀ x ∈ ts, T3k x ∧ x.lo + x.hi ≤ 170000000000000000)
    (q : ∀ (us : List S3) q' h', h' q' = some (.lst (us.map S3.d)) → us.length ≤ 16 → (∀ x ∈ us, T3k x) → (exT us).Nodup → Pen h' p c (n + 10) → Gx p h h' → Dn.nx [x0, some (.ref p), x2, x3, some (.ref q'), x5, x6, x7, x8, x9, x10, x11, x12, x13, x14, x15, x16] h') :
    wpB (Ph prog (d + 1)) [.asg (.nm 4) (.lc (.tup [.var 5, .var 6, .bin .Add (.cst (.int 1)) (.call 27 [.var 1, .cst (.int 2)])]) (.tp [5, 6, 7]) (.of (.sl (.var 4) none (some (.cst (.int 2))))) none [5, 6, 7]),
       .asg (.nm 4) (.bin .Add (.lc (.var 8) (.nm 8) (.of (.sl (.var 4) none (some (.cst (.int 1))))) none [8]) (.lc (.var 8) (.nm 8) (.of (.sl (.var 4) (some (.cst (.int 1))) none)) (some (.cmp .NotEq (.ix (.var 8) (.cst (.int 0))) (.ix (.ix (.var 4) (.cst (.int 0))) (.cst (.int 0))))) [8]))] Dn
      [x0, some (.ref p), x2, x3, some (.ref a), x5, x6, x7, x8, x9, x10, x11, x12, x13, x14, x15, x16] h := by
  rw [wpB_cons]
  simp [-al_eq, -ixD_ref_int]
  refine ⟨_, ea, ?_⟩
  rw [show (2 : Int) = ((2 : Nat) : Int) from rfl, cut_to]
  refine al_rule fun q1 h1 hq1 g1 e1 => ⟨_, e1, ?_⟩
  rw [← List.map_take] at e1 ⊢
  have npq1 : q1 ≠ p := (pn.nep hq1).symm
  have l2 : (ts.take 2).length ≤ 2 := by rw [List.length_take]; omega
  have tb2 : ∀ x ∈ ts.take 2, T3k x ∧ x.lo + x.hi ≤ 170000000000000000 := fun x hx => tb x (List.mem_of_mem_take hx)
  generalize ts.take 2 = us at e1 l2 tb2 ⊢
  refine lc_rule (fun r acc h' => ∃ (done rest vs : List S3), us = done ++ rest ∧ r = rest.map S3.d ∧ acc = vs.map S3.d ∧ vs.length = done.length ∧ (∀ x ∈ vs, T3k x) ∧ h' q1 = some (.lst (us.map S3.d)) ∧ Pen h' p c (n + done.length) ∧ Gx p h h')
    (fun r acc h' ⟨done, rest, vs, u1, u2, u3, vl, vt, eq1, pn, g⟩ => eq1) (fun acc h' ⟨done, rest, vs, u1, u2, u3, vl, vt, eq1, pn, g⟩ => ?_) (fun dd r acc h' N ⟨done, rest, vs, u1, u2, u3, vl, vt, eq1, pn, g⟩ hN => ?_) _ _ _ ⟨[], us, [], rfl, rfl, rfl, rfl, (fun _ z => nomatch z), e1, pn.gw g1, g1.gx⟩
  · subst u3
    cases rest with
    | nil => cases u2
    | cons t rest =>
    rw [List.map_cons] at u2
    cases u2
    have ot := tb2 t (by rw [u1]; simp)
    have dl : done.length + 1 ≤ us.length := by rw [u1]; simp
    simp [S3.d, -al_eq, -ixD_ref_int]
    refine draw_ok (d := d) pn (by decide) (by decide) (by omega) fun v h2 v0 v2 pn2 g2 => ?_
    refine ⟨fits_le (by decide), by rw [sizeLine_eq]; omega, ?_⟩
    have := hN (acc' := (vs ++ [(⟨t.w, t.lo, 1 + v⟩ : S3)]).map S3.d) (h' := h2) ⟨done ++ [t], rest, _, by rw [u1]; simp, rfl, rfl, by simp [vl], fun x hx => by
      rcases List.mem_append.mp hx with hx | hx
      · exact vt x hx
      · rw [List.mem_singleton.mp hx]
        have o1 := ot.1.m1
        have o2 := ot.2
        exact ⟨ot.1.w, ot.1.lo, by show 1 ≤ 1 + v; omega, by show 1 + v ≤ 10 ^ 16; omega, by show t.lo + (1 + v) ≤ _; omega⟩, g2.1 _ _ npq1 eq1, pn2.mono (by rw [List.length_append, List.length_singleton]; omega), g.trans g2⟩
    simpa [S3.d] using this
  · subst u3
    have : rest = [] := by simpa using u2.symm
    subst this
    rw [List.append_nil] at u1
    subst u1
    refine al_rule fun q2 h2 hq2 g2 e2 => ?_
    try simp [-al_eq, -ixD_ref_int]
    have vl2 : vs.length ≤ 2 := by omega
    have pn2 := pn.gw g2
    have G2 := g.trans g2.gx
    have fin : ∀ (us : List S3) (q' : Addr) h', h' q' = some (.lst (us.map S3.d)) → us.length ≤ 2 → (∀ x ∈ us, x ∈ vs) → (exT us).Nodup → Gw h2 h' → Dn.nx [x0, some (.ref p), x2, x3, some (.ref q'), x5, x6, x7, x8, x9, x10, x11, x12, x13, x14, x15, x16] h' := fun us q' h' e l m nd g =>
      q us q' h' e (by omega) (fun x hx => vt x (m x hx)) nd ((pn2.gw g).mono (by omega)) (G2.trans g.gx)
    refine ⟨_, e2, ?_⟩
    rw [show (1 : Int) = ((1 : Nat) : Int) from rfl, cut_to, ← List.map_take]
    refine al_rule fun q3 h3 hq3 g3 e3 => ⟨_, e3, ?_⟩
    refine lccopy (by simp; omega) (by simp) e3 ?_
    refine al_rule fun q4 h4 hq4 g4 e4 => ?_
    have e24 := g4 _ _ (g3 _ _ e2)
    refine ⟨_, e24, ?_⟩
    rw [cut_from, ← List.map_drop]
    refine al_rule fun q5 h5 hq5 g5 e5 => ⟨_, e5, ?_⟩
    have hv0 : vs.drop 1 ≠ [] → vs.head? = some (vs.headD ⟨"", 0, 0⟩) := fun z => by
      cases vs with
      | nil => exact absurd rfl z
      | cons a r => rfl
    refine lcother (v0 := vs.headD ⟨"", 0, 0⟩) (by rw [List.length_drop]; omega) (by simp) rfl (g5 _ _ e24) hv0 e5 ?_
    refine al_rule fun q6 h6 hq6 g6 e6 => ?_
    refine ⟨_, _, g6 _ _ (g5 _ _ e4), e6, fits_le ?_, al_rule fun q7 h7 hq7 g7 e7 => ?_⟩
    · have := List.length_filter_le (fun t : S3 => decide (t.w ≠ (vs.headD ⟨"", 0, 0⟩).w)) (vs.drop 1)
      rw [List.length_map, List.length_map, List.length_take]
      rw [List.length_drop] at this
      omega
    rw [← List.map_append] at e7
    have G7 := g3.trans (g4.trans (g5.trans (g6.trans g7)))
    refine fin _ q7 h7 e7 ?_ (fun x hx => ?_) ?_ G7
    · have := List.length_filter_le (fun t : S3 => decide (t.w ≠ (vs.headD ⟨"", 0, 0⟩).w)) (vs.drop 1)
      rw [List.length_append, List.length_take]
      rw [List.length_drop] at this
      omega
    · rcases List.mem_append.mp hx with hx | hx
      · exact List.mem_of_mem_take hx
      · exact List.mem_of_mem_drop (List.mem_filter.mp hx).1
    · match vs, vl2 with
      | [], _ => exact List.nodup_nil
      | [t], _ =>
        show (exT [t]).Nodup
        rw [exT_one]; exact nd_up3 t
      | [t, u], _ =>
        show (exT ([t] ++ [u].filter fun x => decide (x.w ≠ t.w))).Nodup
        by_cases cw : u.w = t.w
        · have : ([u].filter fun x => decide (x.w ≠ t.w)) = [] := by simp [cw]
          rw [this, List.append_nil, exT_one]; exact nd_up3 t
        · have : ([u].filter fun x => decide (x.w ≠ t.w)) = [u] := by simp [cw]
          rw [this]
          refine exT_nodup (by rw [exT_one]; exact nd_up3 t) fun s hs ew => ?_
          rw [List.mem_singleton.mp hs] at ew
          exact absurd ew.symm cw
end
end LW
set_option Elab.async false
set_option linter.all false
set_option maxRecDepth 100000
set_option maxHeartbeats 1000000
set_option exponentiation.threshold 20000
namespace LW
open PySem L2 DL
/-- a pair of the law -/
structure Oth (one zs : List (List Y3)) : Prop where
  S : St zs
  l : zs.length = 2
  t : tot zs ≤ 100
  p : pm zs one
theorem Oth.two {one zs : List (List Y3)} (A : Oth one one) (B : Oth one zs) : Two one zs := ⟨A.S, B.S, A.l, B.l, by have := A.t; omega, by have := B.t; omega, fun a => (B.p.same a).symm⟩
theorem Oth.yst {one ys : List (List Y3)} {st : Stp} {g' : List Int} (A : Oth one ys) (hn : st.ne) (hp : st.pos) (e : gst (gau ys) st = some g') (ht : LW.tot ys ≤ 99) : Oth one (LW.yst ys st) :=
  ⟨A.S.yst hn hp e (by omega), by rw [yst_len]; exact A.l, by have := tot_yst hn hp e; omega, (pm_yst hn hp e).trans A.p⟩
section
variable {d : Nat} {h : MH} {Q : D → MH → Prop} {E : DX} {p c : Addr} {n : Nat}
/-- some windings more -/
theorem slide_ok {Dn : En} {x0 x2 x3 x4 x5 x6 x7 x8 x10 x11 x12 x13 x14 x15 x16 : Option D} {one ys : List (List Y3)} (pn : Pen h p c n) (hn : n + 3000 < 2 ^ 60) (A : Oth one ys) (ht : tot ys ≤ 90) (ea : acr ys = acr one)
    (q : ∀ zs y11 y12 h', Oth one zs → tot zs ≤ tot ys + 1 → acr zs = acr one → Pen h' p c (n + 40) → Gx p h h' → Dn.nx [x0, some (.ref p), x2, x3, x4, x5, x6, x7, x8, some (stD zs), x10, y11, y12, x13, x14, x15, x16] h') :
    wpB (Ph prog (d + 4)) [.asg (.nm 11) (.call 27 [.var 1, .cst (.int 2)]),
       .asg (.nm 12) (.bi .sum [.lc (.ix (.var 13) (.cst (.int 2))) (.nm 13) (.of (.ix (.var 9) (.var 11))) none [13]]),
       .ifs (.cmp .Gt (.var 12) (.cst (.int 0)))
        [.asg (.nm 9) (.call 42 [.var 9, .lst [.tup [.cst (.str "wind"), .var 11, .bin .Sub (.cst (.int 1)) (.var 11), .bin .Add (.cst (.int 1)) (.call 32 [.var 1, .var 12])]]])]
        []] Dn [x0, some (.ref p), x2, x3, x4, x5, x6, x7, x8, some (stD ys), x10, x11, x12, x13, x14, x15, x16] h := by
  have yl := A.l
  have S := A.S
  have s18 := S.sum
  have s18 : (ys.flatten.length : Int) ≤ 1000000000000000000 := s18
  rw [wpB_cons]
  simp [-al_eq, -ixD_ref_int]
  refine draw_ok (d := d + 3) pn (by decide) (by decide) (by omega) fun a h1 a0 a2 pn1 g1 => ?_
  obtain ⟨a, rfl⟩ := Int.eq_ofNat_of_zero_le a0
  have la : a < ys.length := by omega
  have ya : ys[a]? = some (ys.getD a []) := by rw [List.getD_eq_getElem?_getD, List.getElem?_eq_getElem la]; rfl
  try simp [-al_eq, -ixD_ref_int]
  rw [wpB_cons, stD_eq]
  simp [-al_eq, -ixD_ref_int]
  refine ⟨_, ⟨_, ya, rfl⟩, ?_⟩
  simp [rowT, -al_eq, -ixD_ref_int]
  have lnA := tot_getD (ys := ys) a
  have fA := fl_getD (ys := ys) a
  refine lsumX_ok (v := 13) (by simp at lnA ⊢; omega) (by simp) trivial (al_rule fun q5 h5 hq5 g5 e5 => ⟨_, _, e5, ints_map _, ?_⟩)
  have es := (sum_ex (ex_nf (ys.getD a [])).2).trans (by rw [(ex_nf _).1])
  simp at es
  rw [es]
  have G5 := g1.trans g5.gx
  have pn5 := pn1.gw g5
  try simp [-al_eq, -ixD_ref_int]
  have lA : (ys[a]?.getD []) = ys.getD a [] := by rw [List.getD_eq_getElem?_getD]
  have lA2 : (ys[a]?.getD []).length = (ys.getD a []).length := by rw [lA]
  rw [← stD_eq]
  by_cases c1 : 0 < (ys.getD a []).length
  · rw [if_pos (by omega)]
    refine below_ok (d := d + 1) pn5 (by omega) (by omega) (by omega) fun V h7 V0 V1 pn7 g7 => ?_
    rw [lA2] at V1
    have G7 := G5.trans g7
    refine ⟨fits_le (by decide), fits_le (by decide), al_rule fun q8 h8 hq8 g8 e8 => ?_⟩
    obtain ⟨m, hm⟩ : ∃ m : Nat, 1 + V = m := ⟨(1 + V).toNat, by omega⟩
    rw [hm] at e8
    have key : ∀ b : Nat, (1 : Int) - a = b → a ≠ b → b < ys.length → acr (yst ys (.wind a b m)) = acr ys → Ph prog (d + 4) 42 [stD ys, .ref q8] h8 (fun d_1 h1 => Dn.nx [x0, some (.ref p), x2, x3, x4, x5, x6, x7, x8, some d_1, x10, some (.int a), some (.int (ys[a]?.getD []).length), x13, x14, x15, x16] h1) (exAt Dn [x0, some (.ref p), x2, x3, x4, x5, x6, x7, x8, some (stD ys), x10, some (.int a), some (.int (ys[a]?.getD []).length), x13, x14, x15, x16]) := fun b eb ab lb eac => by
      rw [eb] at e8
      have np : (Stp.wind a b m).ne ∧ (Stp.wind a b m).pos := ⟨ab, by show (1 : Int) ≤ m; omega⟩
      have eg : gst (gau ys) (.wind a b m) = some (((gau ys).set a ((gau ys).getD a 0 - m)).set b ((gau ys).getD b 0 + m)) := by
        simp only [gst]
        rw [gau_len, if_pos ⟨la, lb, by rw [gau_getD la]; omega⟩]
      have egb : gby (gau ys) [.wind a b m] 0 = .inl (((gau ys).set a ((gau ys).getD a 0 - m)).set b ((gau ys).getD b 0 + m)) := by
        unfold gby
        rw [eg]; rfl
      refine swoundL_ok (d := d + 1) (sts := [.wind a b m]) e8 (by omega) S.good (by simp; omega) (fun st hst => ?_) egb fun h9 g9 => ?_
      · rw [List.mem_singleton.mp hst]
        exact ⟨a, b, m, rfl, ab, by omega, by omega⟩
      · have T1 := A.yst np.1 np.2 eg (by omega)
        exact q _ _ _ h9 T1 (tot_yst np.1 np.2 eg) (eac.trans ea) ((pn7.gw (g8.trans g9)).mono (by omega)) (G7.trans (g8.trans g9).gx)
    obtain ⟨x, y, rfl⟩ := two_eq yl
    have a01 : a = 0 ∨ a = 1 := by omega
    rcases a01 with rfl | rfl
    · exact key 1 (by decide) (by decide) (by simp) (acr01 x y m)
    · exact key 0 (by decide) (by decide) (by simp) (acr10 x y m)
  · rw [if_neg (by omega)]
    exact q _ _ _ h5 A (by omega) ea (pn5.mono (by omega)) G5
/-- one of the others -/
theorem oth_ok {Dn : En} {x0 x1 x2 x3 x4 x5 x6 x9 x10 x11 x12 x13 x14 x15 : Option D} {one zs : List (List Y3)} (A : Oth one one) (B : Oth one zs)
    (q : ∀ h', Gw h h' → Dn.nx [x0, x1, x2, x3, x4, x5, x6, some (.int one.flatten.length), some (stD one), x9, x10, x11, x12, x13, x14, x15, some (stD zs)] h') :
    wpB (Ph prog (d + 8)) [.ifs (.or (.not (.val (.call 44 [.var 8, .var 16]))) (.not (.val (.call 44 [.var 16, .var 8]))))
        [.ret (.cst (.bl false))]
        [],
       .ifs (.not (.val (.call 45 [.var 8, .var 16, .var 7])))
        [.ret (.cst (.bl false))]
        []] Dn [x0, x1, x2, x3, x4, x5, x6, some (.int one.flatten.length), some (stD one), x9, x10, x11, x12, x13, x14, x15, some (stD zs)] h := by
  have W := A.two B
  rw [wpB_cons]
  simp [-al_eq, -ixD_ref_int]
  refine pair_ok (d := d) W fun h1 g1 => ?_
  try simp [-al_eq, -ixD_ref_int]
  refine pair_ok (d := d) W.symm fun h2 g2 => ?_
  try simp [-al_eq, -ixD_ref_int]
  have e : (((one.map List.length).sum : Nat) : Int) = (one.flatten.length : Int) := by rw [List.length_flatten]
  try rw [e]
  refine fewr_ok (d := d) W fun h3 g3 => ?_
  try simp [-al_eq, -ixD_ref_int]
  have := q h3 (g1.trans (g2.trans g3))
  simpa using this
end
end LW
set_option Elab.async false
set_option linter.all false
set_option maxRecDepth 100000
set_option maxHeartbeats 1000000
set_option exponentiation.threshold 20000
namespace LW
open PySem L2 DL
section
variable {d : Nat} {h : MH} {Q : D → MH → Prop} {E : DX} {p c : Addr} {n : Nat}
theorem lsum3_ok {σ : DS} {Φ : Fns} {X : DX} {ok : MH → Prop} {K : List D → MH → Prop} {v : Nat} {ss : List S3} (hl : ss.length ≤ 1000) (hσ : v < σ.length) (hok : ok h) (q : K ((ss.map S3.hi).map D.int) h) :
    lcGo (.nm v) ok (wpC Φ none) (wpE Φ X (.ix (.var v) (.cst (.int 2)))) σ K (ss.map S3.d) [] h := by
  refine lc_rule (fun r acc h' => h' = h ∧ ∃ done rest : List S3, ss = done ++ rest ∧ r = rest.map S3.d ∧ acc = (done.map S3.hi).map D.int) (fun r acc h' ⟨e, _⟩ => by rw [e]; exact hok) (fun acc h' ⟨e, done, rest, m1, m2, m3⟩ => ?_) (fun dd r acc h' N ⟨e, done, rest, m1, m2, m3⟩ hN => ?_) _ _ _ ⟨rfl, [], ss, rfl, rfl, rfl⟩
  · subst e m3
    cases rest with
    | nil => cases m2
    | cons s rest =>
      rw [List.map_cons] at m2
      cases m2
      have dl : done.length < 1000 := by rw [m1] at hl; simp at hl; omega
      simp [S3.d, hσ, -al_eq, -ixD_ref_int]
      refine ⟨by rw [sizeLine_eq]; omega, ?_⟩
      have := hN (acc' := ((done ++ [s]).map S3.hi).map D.int) (h' := h') ⟨rfl, done ++ [s], rest, by rw [m1]; simp, rfl, rfl⟩
      simpa using this
  · subst e m3
    cases rest with
    | cons _ _ => cases m2
    | nil =>
      rw [List.append_nil] at m1
      subst m1
      exact q
theorem outer_ok {Dn : En} {x0 x2 x3 x4 x5 x6 x7 x8 x9 x10 x11 x12 x13 x14 x15 x16 : Option D} (pn : Pen h p c n) (hn : n + 9000 < 2 ^ 60)
    (q : ∀ (y3 y4 y5 y6 y7 y8 y9 y10 y11 y12 y13 y14 y15 y16 : Option D) h', Pen h' p c (n + 5000) → Gx p h h' → Dn.nx [x0, some (.ref p), x2, y3, y4, y5, y6, y7, y8, y9, y10, y11, y12, y13, y14, y15, y16] h') :
    wpB (Ph prog (d + 8)) outer Dn [x0, some (.ref p), x2, x3, x4, x5, x6, x7, x8, x9, x10, x11, x12, x13, x14, x15, x16] h := by
  show wpB _ [_, _, .ifs _ _ _, _, _, _, .for _ _ _, _, _, .for _ _ _, _] _ _ _
  rw [wpB_cons]
  simp [-al_eq, -ixD_ref_int]
  refine wordsK_ok (d := d + 5) (m := 2) (by decide) pn (by omega) fun ws q0 h1 w2 wd hq0 e0 pn1 g1 => ?_
  try simp [-al_eq, -ixD_ref_int]
  rw [wpB_cons]
  simp [-al_eq, -ixD_ref_int]
  refine gstretchesS_ok (d := d + 4) pn1 (by omega) e0 (fun z => by rw [z] at w2; cases w2) (by omega) wd fun ts q1 h2 hq1 e1 tl tb nd pn2 g2 => ?_
  have G2 := g1.trans g2
  clear g1 g2 e0 pn1
  try simp [-al_eq, -ixD_ref_int]
  refine wpB_seq (fun σ h' => ∃ (us : List S3) (q' : Addr), σ = [x0, some (.ref p), x2, some (.ref q0), some (.ref q'), x5, x6, x7, x8, x9, x10, x11, x12, x13, x14, x15, x16] ∧ h' q' = some (.lst (us.map S3.d)) ∧ us.length ≤ 16 ∧ (∀ x ∈ us, T3k x) ∧ (exT us).Nodup ∧ Pen h' p c (n + 430) ∧ Gx p h h') (fun K hK => ?_) fun σ h3 ⟨us, q', es, e3, ul, ut, und, pn3, G3⟩ => ?_
  · simp only [wpS_ifs, wpT_cmp, wpE_call, wpEs_cons, wpEs_nil, wpE_var, wpE_cst]
    simp [-al_eq, -ixD_ref_int]
    refine draw_ok (d := d + 7) pn2 (by decide) (by decide) (by omega) fun v h3 v0 v2 pn3 g3 => ?_
    have npq1 : q1 ≠ p := fun z => by
      obtain ⟨k, e⟩ := pn2.has
      rw [z, e] at e1; cases e1
    have e13 := g3.1 _ _ npq1 e1
    try simp [-al_eq, -ixD_ref_int]
    by_cases cv : v = 0
    · rw [if_pos cv]
      refine few_ok (d := d + 7) pn3 (by omega) e13 tl tb fun us q' h4 e4 ul ut und pn4 g4 => ?_
      exact hK _ _ ⟨us, q', rfl, e4, ul, ut, und, pn4.mono (by omega), (G2.trans g3).trans g4⟩
    · rw [if_neg cv]
      exact hK _ _ ⟨ts, q1, rfl, e13, tl, fun x hx => (tb x hx).1, nd, pn3.mono (by omega), G2.trans g3⟩
  · subst es
    clear e1 tl tb nd pn2 G2
    have npq : q' ≠ p := fun z => by
      obtain ⟨k, e⟩ := pn3.has
      rw [z, e] at e3; cases e3
    rw [wpB_cons]
    simp [-al_eq, -ixD_ref_int]
    refine ⟨_, e3, ?_⟩
    refine lsum3_ok (v := 8) (by omega) ?hs e3 ?_
    case hs => simp
    refine al_rule fun q4 h4 hq4 g4 e4 => ⟨_, _, e4, ints_map _, ?_⟩
    rw [← exT_len fun t ht => (ut t ht).m1]
    have e34 := g4 _ _ e3
    try simp [-al_eq, -ixD_ref_int]
    rw [wpB_cons]
    simp [-al_eq, -ixD_ref_int]
    refine dealtS_ok (d := d + 5) (k := 2) (pn3.gw g4) (by omega) e34 (by omega) ut (by omega) (by omega) fun one h5 ol D1 pn5 g5 => ?_
    have So : St one := D1.st (by omega) (by omega) und (by omega) (exT_18 ut (by omega))
    have A : Oth one one := ⟨So, ol, by have := D1.tot; omega, List.Perm.refl _⟩
    have lone : (exT us).length = one.flatten.length := by
      have := D1.perm.length_eq
      rw [List.length_map] at this
      exact this.symm
    have D1t := D1.tot
    have G5 := (G3.trans g4.gx).trans g5
    have e35 := g5.1 _ _ npq e34
    clear g4 g5 e4 e34 G3 pn3
    rw [lone]
    try simp [-al_eq, -ixD_ref_int]
    rw [wpB_cons]
    simp [-al_eq, -ixD_ref_int]
    rw [wpB_cons]
    simp [-al_eq, -ixD_ref_int]
    refine draw_ok (d := d + 7) pn5 (by decide) (by decide) (by omega) fun v h6 v0 v3 pn6 g6 => ?_
    obtain ⟨J, rfl⟩ := Int.eq_ofNat_of_zero_le v0
    refine ⟨by omega, ?_⟩
    have e36 := g6.1 _ _ npq e35
    have G6 := G5.trans g6
    have el : ((((one.map List.length).sum : Nat)) : Int) = (one.flatten.length : Int) := by rw [List.length_flatten]
    try rw [el]
    refine for_rule (fun r σ h' => ∃ (j : Nat) (ys : List (List Y3)) (y10 y11 y12 : Option D), r.length + j = J ∧ Oth one ys ∧ tot ys ≤ tot one + j ∧ acr ys = acr one ∧ h' q' = some (.lst (us.map S3.d)) ∧ Pen h' p c (n + 700 + 40 * j) ∧ Gx p h h' ∧ σ = [x0, some (.ref p), x2, some (.ref q0), some (.ref q'), x5, x6, some (.int one.flatten.length), some (stD one), some (stD ys), y10, y11, y12, x13, x14, x15, x16])
      (fun _ _ _ _ => trivial) (fun σ h' ⟨j, ys, y10, y11, y12, l1, B, tb, ea, eq', pn, g, es⟩ => ?_) (fun dd r σ h' K ⟨j, ys, y10, y11, y12, l1, B, tb, ea, eq', pn, g, es⟩ hK => ?_) _ _ _ ⟨0, one, _, _, _, by simp, A, Nat.le_refl _, rfl, e36, pn6.mono (by omega), G6, rfl⟩
    · subst es
      rw [List.length_nil] at l1
      simp only []
      rw [wpB_cons]
      simp [-al_eq, -ixD_ref_int]
      refine cutst_ok (d := d + 4) pn (by omega) eq' (by omega) ut fun us2 q2 h7 hq2 e7 ul2 ut2 ue pn7 g7 => ?_
      refine dealtS_ok (d := d + 5) (k := 2) pn7 (by omega) e7 (by omega) ut2 (by omega) (by omega) fun dl h8 dll D2 pn8 g8 => ?_
      have S2 : St dl := D2.st (by omega) (by omega) (by rw [ue]; exact und) (by omega) (exT_18 ut2 (by omega))
      have B2 : Oth one dl := ⟨S2, dll, by have := D2.tot; omega, D2.perm.trans (by rw [ue]; exact D1.perm.symm)⟩
      have G8 := (g.trans g7).trans g8
      clear g7 g8 e7 pn pn7
      try simp [-al_eq, -ixD_ref_int]
      obtain ⟨a, b, rfl⟩ := two_eq ol
      have B3 : Oth [a, b] [rv a, b] := A.yst (st := .turn 0) trivial trivial (g' := gau [a, b]) (by simp [gst, gau]) (by omega)
      have B4 : Oth [a, b] [b, a] := A.yst (st := .swap 0 1) (by show (0 : Nat) ≠ 1; decide) trivial (g' := [(b.length : Int), (a.length : Int)]) (by simp [gst, gau]) (by omega)
      have t0 : (nf a).length ≤ 100 := Nat.le_trans (tot_mem (ys := [a, b]) (by simp)) A.t
      have ga : Good2 (nf a) := good_nf (A.S.good a (by simp))
      rw [wpB_cons]
      simp [stD_eq, rowT, -al_eq, -ixD_ref_int]
      refine flippedT_ok (d := d + 7) (by omega) ga fun h9 p9 g9 f9 e9 => ?_
      refine onerow_ok (d := d + 7) (.inr ⟨p9, rfl, e9⟩) (by rw [List.length_map, List.length_reverse]; omega) (good_flip ga) fun h10 g10 => ?_
      rw [nf_flip]
      have pn10 := pn8.gw (g9.trans g10)
      have G10 := G8.trans (g9.trans g10).gx
      clear g9 g10 e9 pn8
      refine ⟨fits_le (by decide), ?_⟩
      have ea3 : (.tup [rowT (nf (a.reverse.map flp)), .tup ((nf b).map S4.d)] : D) = stD [rv a, b] := rfl
      rw [ea3]
      rw [wpB_cons]
      simp [-al_eq, -ixD_ref_int]
      refine ⟨fits_le (by decide), fits_le (by decide), al_rule fun q11 h11 hq11 g11 e11 => ⟨_, e11, ?_⟩⟩
      have e1D : (.tup [.tup ((nf a).map S4.d), .tup ((nf b).map S4.d)] : D) = stD [a, b] := rfl
      have e4D : (.tup [.tup ((nf b).map S4.d), .tup ((nf a).map S4.d)] : D) = stD [b, a] := rfl
      have elen : ((a.length : Int) + (b.length : Int)) = (([a, b].flatten.length : Nat) : Int) := by simp
      simp only [← stD_eq, e1D, e4D, elen] at e11 ⊢
      have pn11 := pn10.gw g11
      have G11 := G10.trans g11.gx
      refine for_rule (fun r σ h' => ∃ (zss : List (List (List Y3))) (y16 : Option D), r = zss.map stD ∧ (∀ zs ∈ zss, Oth [a, b] zs) ∧ Gw h11 h' ∧ σ = [x0, some (.ref p), x2, some (.ref q0), some (.ref q'), x5, x6, some (.int (([a, b].flatten.length : Nat) : Int)), some (stD [a, b]), some (stD ys), y10, y11, y12, x13, some (stD dl), some (stD [rv a, b]), y16])
        (fun r σ h' ⟨zss, y16, u1, u2, g, es⟩ => g _ _ e11) (fun σ h' ⟨zss, y16, u1, u2, g, es⟩ => ?_) (fun dd r σ h' K ⟨zss, y16, u1, u2, g, es⟩ hK => ?_) _ _ _ ⟨[ys, [a, b], [rv a, b], [b, a], dl], x16, rfl, fun zs hz => ?_, .refl, rfl⟩
      · subst es
        simp only []
        refine ⟨_, rfl, ?_⟩
        refine lacross_ok (d := d + 6) B.l B.S.good (by have := B.t; omega) fun h12 g12 => ?_
        refine ⟨_, rfl, ?_⟩
        refine lacross_ok (d := d + 6) A.l A.S.good (by have := A.t; omega) fun h13 g13 => ?_
        refine eqD_rowT (acr_good B.S.good) (acr_good A.S.good) ?_
        rw [decide_eq_true ea, if_pos rfl]
        exact q _ _ _ _ _ _ _ _ _ _ _ _ _ _ h13 ((pn11.gw (g.trans (g12.trans g13))).mono (by omega)) (G11.trans (g.trans (g12.trans g13)).gx)
      · subst es
        cases zss with
        | nil => cases u1
        | cons zs zss =>
        rw [List.map_cons] at u1
        cases u1
        simp only [bindT_nm, List.set]
        exact oth_ok (d := d) A (u2 zs (by simp)) fun h12 g12 => hK _ _ ⟨zss, _, rfl, fun z hz => u2 z (List.mem_cons_of_mem _ hz), g.trans g12, rfl⟩
      · simp at hz
        rcases hz with rfl | rfl | rfl | rfl | rfl
        · exact B
        · exact A
        · exact B3
        · exact B4
        · exact B2
    · subst es
      rw [List.length_cons] at l1
      simp only [bindT_nm, List.set]
      refine slide_ok (d := d + 4) pn (by omega) B (by omega) ea fun zs y11 y12 h7 B7 t7 a7 pn7 g7 => ?_
      exact hK _ _ ⟨j + 1, zs, _, _, _, by omega, B7, by omega, a7, g7.1 _ _ npq eq', pn7.mono (by omega), g.trans g7, rfl⟩
theorem law_ok {ns : List Int} (q : ∀ h', Q (.bl true) h') : Ph prog (d + 9) 46 [.scr (ns.map D.int)] h Q E := by
  refine ph_of at_law rfl ?_
  show wpB _ [_, .for _ _ outer, _] _ _ _
  rw [wpB_cons]
  simp [-al_eq, -ixD_ref_int]
  refine pen_ok (d := d + 7) fun p c h1 pn1 g1 => ?_
  try simp [-al_eq, -ixD_ref_int]
  rw [wpB_cons]
  simp [-al_eq, -ixD_ref_int]
  refine for_rule (fun r σ h' => ∃ (j : Nat) (x2 x3 x4 x5 x6 x7 x8 x9 x10 x11 x12 x13 x14 x15 x16 : Option D), r.length + j = 6 ∧ σ = [some (.scr (ns.map D.int)), some (.ref p), x2, x3, x4, x5, x6, x7, x8, x9, x10, x11, x12, x13, x14, x15, x16] ∧ Pen h' p c (5000 * j))
    (fun _ _ _ _ => trivial) (fun σ h' ⟨j, x2, x3, x4, x5, x6, x7, x8, x9, x10, x11, x12, x13, x14, x15, x16, l1, es, pn⟩ => ?_) (fun dd r σ h' K ⟨j, x2, x3, x4, x5, x6, x7, x8, x9, x10, x11, x12, x13, x14, x15, x16, l1, es, pn⟩ hK => ?_) _ _ _ ⟨0, none, none, none, none, none, none, none, none, none, none, none, none, none, none, none, rfl, rfl, pn1⟩
  · exact q h'
  · subst es
    rw [List.length_cons] at l1
    simp only [bindT_nm, List.set]
    exact outer_ok (d := d) pn (by omega) fun y3 y4 y5 y6 y7 y8 y9 y10 y11 y12 y13 y14 y15 y16 h2 pn2 g2 => hK _ _ ⟨j + 1, _, _, _, _, _, _, _, _, _, _, _, _, _, _, _, by omega, rfl, pn2.mono (by omega)⟩
end
end LW
set_option Elab.async false
set_option linter.all false
set_option maxRecDepth 100000
set_option maxHeartbeats 0
open PySem PySem.W PySem.Calls PyProof.Rows
theorem PySem.Challenge.cw_spoolrounds_k79_whole_two_spools_slide_holds : PySem.Challenge.rw_spoolrounds_k79_whole_two_spools_slide.Holds := by
  w_on; o_law
  refine HandSHeadRun.head_any (r := LW.R) (q := view LW.R.prog [73]) (H := LW.hk) (ob := LW.ob) (M := 4000) (loose := LW.nm) (d := HandSHeadRun.topDef LW.R.prog 73) (kwd := []) (fun s => DL.obX_eq s)
    (by kernel_rfl) (fun s => by kernel_rfl) LW.run (by kernel_rfl) (by kernel_rfl) (by kernel_rfl) (by rfl) (by first | assumption | decide +kernel) (by decide +kernel) ⟨rfl, rfl, rfl, rfl, rfl, by decide +kernel⟩ ?hw ?hc
  case hw => w_witness2
  case hc =>
    refine DL.walk_ofD (l := PySem.Challenge.rw_spoolrounds_k79_whole_two_spools_slide) (n := 63) (k := 12) (i := 46) (c := LW.ctx) (rows := LW.rows) (prog := LW.prog) (r := LW.r_law) (dvs := LW.d_law.dvs) (kws := LW.d_law.kws) rfl (by decide) (by kernel_rfl) ⟨rfl, by decide, by decide⟩ LW.checked rfl rfl (DL.grOf LW.xds) (fun _ => rfl) ?F (fun ns _ => LW.law_ok (d := 3) fun _ => rfl)
    intro K mg h X Gd says xk
    have e : (HandSHeadRun.topDef LW.R.prog 73).name = ("law" : PySem.Str) := by kernel_rfl
    rw [e]
    exact LW.facts K mg h X Gd says xk
