import PyProof.Rows.All
import Wide.All
import OpenK.AllK
import Wide.FinOn
import HandS.ForMost
import HandS.ForExc
import HandS.Defaults
import HandS.Flow
import HandS.Style
import HandS.Zip
import HandS.Rev
import HandS.IsInst
import HandS.TupAny
import HandS.TupMul
import HandS.Wide
import HandS.ExcInit
import HandS.ExcField
import HandS.Conv
import HandS.Small
import HandS.Codes
import KE.SortData
import PyProof.ReprReads
import HandS.RaiseMore
import HandS.Head0
import HandS.Head1
import HandS.Head2
import HandS.HeadEnd
import HandS.HeadHook1
import HandS.HeadHook2
import HandS.MakeKw
import KE.KStateDown
import Lean
import PySem.Challenge.RW_spoolrounds_k75_what_is_a_standing
import KE.Datum
import KE.KxText
import PyProof.ReprBulk
set_option Elab.async false
set_option linter.all false
set_option maxRecDepth 100000
/-! The D layer, 1: values without addresses for what never changes, a small heap for what changes; how both stand for the hand layer's. -/
namespace DL
open PySem PySem.Spec PyProof.Rows L2

inductive D where
  | non | bl (b : Bool) | int (i : Int) | str (x : Str) | tup (ds : List D) | ref (a : Addr) | scr (ds : List D)

/-- what stands at an address -/
inductive MO where
  | lst (xs : List D)
  | dct (kvs : List (Key × D))
  | ins (c : Nat) (fs : List (Str × D))

abbrev MH := Addr → Option MO
abbrev DS := List (Option D)

def up (h : MH) (a : Addr) (o : MO) : MH := fun b => if b = a then some o else h b
theorem up_same {h : MH} {a : Addr} {o : MO} : up h a o a = some o := if_pos rfl
theorem up_ne {h : MH} {a b : Addr} {o : MO} (n : b ≠ a) : up h a o b = h b := if_neg n
theorem up_up {h : MH} {a : Addr} {o u : MO} : up (up h a o) a u = up h a u := by
  funext b; unfold up; split <;> rfl

/-- the ground: the written part, the classes' places -/
structure Gr where
  K : PySem.W.Frag
  cl : Nat → Addr

/-- a list that nobody changes (the script) -/
def FzL (K : PySem.W.Frag) (H : Hp) (a : Addr) (xs : List V) : Prop :=
  (∃ ob, H a = some (.frz ob (.lst xs))) ∨
    ∃ (o : Obj) (its : Array Value) (n : Nat), K.lookup a = some o ∧ o.cls = .type "list" ∧ o.dict = none ∧ o.data = .seq its n ∧ its.size ≤ sizeLine ∧ Vals xs its.toList
theorem FzL.sq {K : PySem.W.Frag} {H : Hp} {a : Addr} {xs : List V} (q : FzL K H a xs) : SqL K H a xs := by
  rcases q with ⟨ob, q⟩ | q
  · exact .inl (.inr ⟨ob, q⟩)
  · exact .inr q
/-- what never changes is kept -/
structure Pst (K : PySem.W.Frag) (H H' : Hp) : Prop where
  t : ∀ a xs, SqT K H a xs → SqT K H' a xs
  l : ∀ a xs, FzL K H a xs → FzL K H' a xs

section
variable (K : PySem.W.Frag) (H : Hp)
mutual
def RepV : D → V → Prop
  | .non, v => v = .non
  | .bl b, v => v = .bl b
  | .int i, v => v = .int i
  | .str x, v => v = .str x
  | .ref a, v => v = .ref a
  | .tup ds, v => ∃ a vs, v = .ref a ∧ SqT K H a vs ∧ RepVs ds vs
  | .scr ds, v => ∃ a vs, v = .ref a ∧ FzL K H a vs ∧ RepVs ds vs
def RepVs : List D → List V → Prop
  | [], vs => vs = []
  | d :: ds, vs => ∃ v r, vs = v :: r ∧ RepV d v ∧ RepVs ds r
end
end

section
variable {K : PySem.W.Frag} {H H' : Hp}
theorem RepVs.length : ∀ {ds : List D} {vs : List V}, RepVs K H ds vs → vs.length = ds.length
  | [], vs, h => by
    have e : vs = [] := by simpa only [RepVs] using h
    rw [e]; rfl
  | d :: ds, vs, h => by
    obtain ⟨v, r, rfl, _, h2⟩ : ∃ v r, vs = v :: r ∧ RepV K H d v ∧ RepVs K H ds r := by simpa only [RepVs] using h
    rw [List.length_cons, List.length_cons, RepVs.length h2]
theorem repVs_nil : RepVs K H [] [] := by simp only [RepVs]
theorem repVs_cons {d : D} {ds : List D} {v : V} {vs : List V} (h1 : RepV K H d v) (h2 : RepVs K H ds vs) : RepVs K H (d :: ds) (v :: vs) := by
  simp only [RepVs]; exact ⟨v, vs, rfl, h1, h2⟩
theorem RepVs.cons_inv {d : D} {ds : List D} {vs : List V} (h : RepVs K H (d :: ds) vs) : ∃ v r, vs = v :: r ∧ RepV K H d v ∧ RepVs K H ds r := by simpa only [RepVs] using h
theorem RepVs.nil_inv {vs : List V} (h : RepVs K H [] vs) : vs = [] := by simpa only [RepVs] using h
theorem RepVs.get : ∀ {ds : List D} {vs : List V} {i : Nat} {d : D}, RepVs K H ds vs → ds[i]? = some d → ∃ v, vs[i]? = some v ∧ RepV K H d v
  | [], _, _, _, _, e => by simp at e
  | d :: ds, vs, 0, x, h, e => by
    obtain ⟨v, r, rfl, h1, _⟩ := h.cons_inv
    simp at e; subst e
    exact ⟨v, rfl, h1⟩
  | d :: ds, vs, i + 1, x, h, e => by
    obtain ⟨v, r, rfl, _, h2⟩ := h.cons_inv
    obtain ⟨u, a, b⟩ := RepVs.get (i := i) (d := x) h2 (by simpa using e)
    exact ⟨u, by simpa using a, b⟩
theorem RepVs.get' : ∀ {ds : List D} {vs : List V} {i : Nat} {v : V}, RepVs K H ds vs → vs[i]? = some v → ∃ d, ds[i]? = some d ∧ RepV K H d v
  | [], vs, i, v, h, e => by rw [h.nil_inv] at e; simp at e
  | d :: ds, vs, 0, x, h, e => by
    obtain ⟨v, r, rfl, h1, _⟩ := h.cons_inv
    simp at e; subst e
    exact ⟨d, rfl, h1⟩
  | d :: ds, vs, i + 1, x, h, e => by
    obtain ⟨v, r, rfl, _, h2⟩ := h.cons_inv
    obtain ⟨u, a, b⟩ := RepVs.get' (i := i) (v := x) h2 (by simpa using e)
    exact ⟨u, by simpa using a, b⟩
theorem RepVs.append : ∀ {ds es : List D} {vs us : List V}, RepVs K H ds vs → RepVs K H es us → RepVs K H (ds ++ es) (vs ++ us)
  | [], _, vs, _, h, g => by rw [h.nil_inv]; exact g
  | d :: ds, es, vs, us, h, g => by
    obtain ⟨v, r, rfl, h1, h2⟩ := h.cons_inv
    exact repVs_cons h1 (RepVs.append h2 g)
theorem RepVs.drop : ∀ {ds : List D} {vs : List V} (n : Nat), RepVs K H ds vs → RepVs K H (ds.drop n) (vs.drop n)
  | _, _, 0, h => h
  | [], vs, n + 1, h => by rw [h.nil_inv]; exact repVs_nil
  | d :: ds, vs, n + 1, h => by
    obtain ⟨v, r, rfl, h1, h2⟩ := h.cons_inv
    exact RepVs.drop n h2
theorem RepVs.take : ∀ {ds : List D} {vs : List V} (n : Nat), RepVs K H ds vs → RepVs K H (ds.take n) (vs.take n)
  | _, _, 0, h => repVs_nil
  | [], vs, n + 1, h => by rw [h.nil_inv]; exact repVs_nil
  | d :: ds, vs, n + 1, h => by
    obtain ⟨v, r, rfl, h1, h2⟩ := h.cons_inv
    exact repVs_cons h1 (RepVs.take n h2)
theorem RepVs.set {d : D} {v : V} (q : RepV K H d v) : ∀ {ds : List D} {vs : List V} (n : Nat), RepVs K H ds vs → RepVs K H (ds.set n d) (vs.set n v)
  | [], vs, n, h => by rw [h.nil_inv]; exact repVs_nil
  | e :: ds, vs, 0, h => by
    obtain ⟨v, r, rfl, h1, h2⟩ := h.cons_inv
    exact repVs_cons q h2
  | e :: ds, vs, n + 1, h => by
    obtain ⟨v, r, rfl, h1, h2⟩ := h.cons_inv
    exact repVs_cons h1 (RepVs.set q n h2)
theorem RepVs.reverse {ds : List D} {vs : List V} (h : RepVs K H ds vs) : RepVs K H ds.reverse vs.reverse := by
  induction ds generalizing vs with
  | nil => rw [h.nil_inv]; exact repVs_nil
  | cons d ds ih =>
    obtain ⟨v, r, rfl, h1, h2⟩ := h.cons_inv
    rw [List.reverse_cons, List.reverse_cons]
    exact (ih h2).append (repVs_cons h1 repVs_nil)
theorem RepVs.eraseIdx : ∀ {ds : List D} {vs : List V} (n : Nat), RepVs K H ds vs → RepVs K H (ds.eraseIdx n) (vs.eraseIdx n)
  | [], vs, n, h => by rw [h.nil_inv]; exact repVs_nil
  | e :: ds, vs, 0, h => by
    obtain ⟨v, r, rfl, h1, h2⟩ := h.cons_inv
    exact h2
  | e :: ds, vs, n + 1, h => by
    obtain ⟨v, r, rfl, h1, h2⟩ := h.cons_inv
    exact repVs_cons h1 (RepVs.eraseIdx n h2)
theorem RepVs.dropLast {ds : List D} {vs : List V} (h : RepVs K H ds vs) : RepVs K H ds.dropLast vs.dropLast := by
  rw [List.dropLast_eq_take, List.dropLast_eq_take, h.length]
  exact h.take _
theorem RepVs.flat {ds : List D} {vs : List V} (h : RepVs K H ds vs) : ∀ k : Nat, RepVs K H (List.replicate k ds).flatten (List.replicate k vs).flatten
  | 0 => repVs_nil
  | k + 1 => by
    rw [List.replicate_succ, List.replicate_succ, List.flatten_cons, List.flatten_cons]
    exact h.append (h.flat k)
mutual
theorem RepV.mono (t : Pst K H H') : ∀ {d : D} {v : V}, RepV K H d v → RepV K H' d v
  | .non, _, h => by simpa only [RepV] using h
  | .bl _, _, h => by simpa only [RepV] using h
  | .int _, _, h => by simpa only [RepV] using h
  | .str _, _, h => by simpa only [RepV] using h
  | .ref _, _, h => by simpa only [RepV] using h
  | .tup ds, v, h => by
    obtain ⟨a, vs, rfl, h1, h2⟩ : ∃ a vs, v = .ref a ∧ SqT K H a vs ∧ RepVs K H ds vs := by simpa only [RepV] using h
    simp only [RepV]
    exact ⟨a, vs, rfl, t.t _ _ h1, RepVs.mono t h2⟩
  | .scr ds, v, h => by
    obtain ⟨a, vs, rfl, h1, h2⟩ : ∃ a vs, v = .ref a ∧ FzL K H a vs ∧ RepVs K H ds vs := by simpa only [RepV] using h
    simp only [RepV]
    exact ⟨a, vs, rfl, t.l _ _ h1, RepVs.mono t h2⟩
theorem RepVs.mono (t : Pst K H H') : ∀ {ds : List D} {vs : List V}, RepVs K H ds vs → RepVs K H' ds vs
  | [], vs, h => by rw [h.nil_inv]; exact repVs_nil
  | d :: ds, vs, h => by
    obtain ⟨v, r, rfl, h1, h2⟩ := h.cons_inv
    exact repVs_cons (RepV.mono t h1) (RepVs.mono t h2)
end
theorem repV_tup {ds : List D} {v : V} : RepV K H (.tup ds) v ↔ ∃ a vs, v = .ref a ∧ SqT K H a vs ∧ RepVs K H ds vs := by simp only [RepV]
theorem repV_scr {ds : List D} {v : V} : RepV K H (.scr ds) v ↔ ∃ a vs, v = .ref a ∧ FzL K H a vs ∧ RepVs K H ds vs := by simp only [RepV]
theorem repV_int {i : Int} : RepV K H (.int i) (.int i) := by simp only [RepV]
theorem repV_bl {i : Bool} : RepV K H (.bl i) (.bl i) := by simp only [RepV]
theorem repV_str {i : Str} : RepV K H (.str i) (.str i) := by simp only [RepV]
theorem repV_non : RepV K H .non .non := by simp only [RepV]
theorem repV_ref {a : Addr} : RepV K H (.ref a) (.ref a) := by simp only [RepV]
theorem RepV.int_inv {i : Int} {v : V} (h : RepV K H (.int i) v) : v = .int i := by simpa only [RepV] using h
theorem RepV.bl_inv {i : Bool} {v : V} (h : RepV K H (.bl i) v) : v = .bl i := by simpa only [RepV] using h
theorem RepV.str_inv {i : Str} {v : V} (h : RepV K H (.str i) v) : v = .str i := by simpa only [RepV] using h
theorem RepV.non_inv {v : V} (h : RepV K H .non v) : v = .non := by simpa only [RepV] using h
theorem RepV.ref_inv {a : Addr} {v : V} (h : RepV K H (.ref a) v) : v = .ref a := by simpa only [RepV] using h
end

/-- pairs -/
def RepF (K : PySem.W.Frag) (H : Hp) {κ : Type} : List (κ × D) → List (κ × V) → Prop
  | [], l => l = []
  | (k, d) :: r, l => ∃ v s, l = (k, v) :: s ∧ RepV K H d v ∧ RepF K H r s
/-- an object of the small heap and the hand layer's -/
def RepO (G : Gr) (h : MH) (H : Hp) (a : Addr) : MO → Prop
  | .lst ds => ∃ vs, H a = some (.lst vs) ∧ RepVs G.K H ds vs
  | .dct kvs => ∃ ks, H a = some (.dK ks) ∧ RepF G.K H kvs ks
  | .ins c fs => ∃ dx gs, H a = some (.ins (G.cl c) dx gs) ∧ RepF G.K H fs gs ∧ H dx = some (.own a) ∧ h dx = none
def RepH (G : Gr) (h : MH) (H : Hp) : Prop := ∀ a o, h a = some o → RepO G h H a o
/-- what stands outside of the small heap stays -/
def Fm (h : MH) (H : Hp) (h' : MH) (H' : Hp) : Prop := ∀ a o, h a = none → H a = some o → h' a = none ∧ H' a = some o
def RepS (K : PySem.W.Frag) (H : Hp) (σd : DS) (σ : L2.St) : Prop := σd.length = σ.length ∧ ∀ (i : Nat) (d : D), σd[i]? = some (some d) → ∃ v, σ[i]? = some (some v) ∧ RepV K H d v

section
variable {G : Gr} {h h1 h2 h' : MH} {H H1 H2 H' : Hp}
theorem RepF.mono {κ : Type} (t : Pst G.K H H') : ∀ {l : List (κ × D)} {m : List (κ × V)}, RepF G.K H l m → RepF G.K H' l m
  | [], _, q => q
  | (k, d) :: r, m, q => by
    obtain ⟨v, s, e, q1, q2⟩ := q
    exact ⟨v, s, e, q1.mono t, RepF.mono t q2⟩
theorem RepF.length {κ : Type} : ∀ {l : List (κ × D)} {m : List (κ × V)}, RepF G.K H l m → m.length = l.length
  | [], _, q => by rw [show _ = [] from q]; rfl
  | (k, d) :: r, m, q => by
    obtain ⟨v, s, rfl, q1, q2⟩ := q
    simp only [List.length_cons, RepF.length q2]
/-- what stands in the small heap can be written -/
theorem RepH.kinds (R : RepH G h H) {a : Addr} {o : MO} (e : h a = some o) : (∃ vs, H a = some (.lst vs)) ∨ (∃ ks, H a = some (.dK ks)) ∨ ∃ C dx gs, H a = some (.ins C dx gs) := by
  have r := R a o e
  cases o with
  | lst ds => obtain ⟨vs, z, _⟩ := r; exact .inl ⟨vs, z⟩
  | dct ds => obtain ⟨vs, z, _⟩ := r; exact .inr (.inl ⟨vs, z⟩)
  | ins c fs => obtain ⟨dx, gs, z, _⟩ := r; exact .inr (.inr ⟨_, dx, gs, z⟩)
theorem RepH.free (R : RepH G h H) {a : Addr} (n : H a = none) : h a = none := by
  cases e : h a with
  | none => rfl
  | some o => rcases R.kinds e with ⟨_, z⟩ | ⟨_, z⟩ | ⟨_, _, _, z⟩ <;> · rw [n] at z; cases z
theorem RepH.notup (R : RepH G h H) {a : Addr} {xs : List V} (q : Rd H a (.tup xs)) : h a = none := by
  cases e : h a with
  | none => rfl
  | some o => rcases q with q | ⟨ob, q⟩ <;> rcases R.kinds e with ⟨_, z⟩ | ⟨_, z⟩ | ⟨_, _, _, z⟩ <;> · rw [q] at z; cases z
theorem RepH.nofz (R : RepH G h H) {a : Addr} {ob : Obj} {u : HO} (q : H a = some (.frz ob u)) : h a = none := by
  cases e : h a with
  | none => rfl
  | some o => rcases R.kinds e with ⟨_, z⟩ | ⟨_, z⟩ | ⟨_, _, _, z⟩ <;> · rw [q] at z; cases z
theorem Fm.pst (R : RepH G h H) (f : Fm h H h' H') : Pst G.K H H' := ⟨fun a xs q => by
    rcases q with q | q
    · have n := R.notup q
      rcases q with q | ⟨ob, q⟩
      · exact .inl (.inl (f a _ n q).2)
      · exact .inl (.inr ⟨ob, (f a _ n q).2⟩)
    · exact .inr q, fun a xs q => by
    rcases q with ⟨ob, q⟩ | q
    · exact .inl ⟨ob, (f a _ (R.nofz q) q).2⟩
    · exact .inr q⟩
theorem Fm.refl : Fm h H h H := fun _ _ n q => ⟨n, q⟩
theorem Fm.trans (f : Fm h H h1 H1) (g : Fm h1 H1 h2 H2) : Fm h H h2 H2 := fun a o n q => g a o (f a o n q).1 (f a o n q).2
theorem RepV.fm {d : D} {v : V} (q : RepV G.K H d v) (R : RepH G h H) (f : Fm h H h' H') : RepV G.K H' d v := q.mono (f.pst R)
theorem RepVs.fm {d : List D} {v : List V} (q : RepVs G.K H d v) (R : RepH G h H) (f : Fm h H h' H') : RepVs G.K H' d v := q.mono (f.pst R)
theorem RepS.fm {d : DS} {v : L2.St} (q : RepS G.K H d v) (R : RepH G h H) (f : Fm h H h' H') : RepS G.K H' d v :=
  ⟨q.1, fun i x e => let ⟨u, a, b⟩ := q.2 i x e; ⟨u, a, b.fm R f⟩⟩
theorem RepS.set {σd : DS} {σ : L2.St} {i : Nat} {d : D} {v : V} (q : RepS G.K H σd σ) (r : RepV G.K H d v) : RepS G.K H (σd.set i (some d)) (σ.set i (some v)) := by
  refine ⟨by rw [List.length_set, List.length_set]; exact q.1, fun j x e => ?_⟩
  by_cases hj : j = i
  · subst hj
    by_cases hl : j < σd.length
    · rw [List.getElem?_set_self hl] at e
      injection e with e; injection e with e; subst e
      exact ⟨v, by rw [List.getElem?_set_self (by rw [← q.1]; exact hl)], r⟩
    · rw [List.getElem?_eq_none (by rw [List.length_set]; omega)] at e; cases e
  · rw [List.getElem?_set_ne (Ne.symm hj)] at e
    rw [List.getElem?_set_ne (Ne.symm hj)]
    exact q.2 j x e
/-- less is known -/
theorem RepS.less {σd σd' : DS} {σ : L2.St} (q : RepS G.K H σd σ) (hl : σd'.length = σd.length) (w : ∀ (i : Nat) d, σd'[i]? = some (some d) → σd[i]? = some (some d)) : RepS G.K H σd' σ :=
  ⟨hl.trans q.1, fun i d e => q.2 i d (w i d e)⟩
/-- an object's reading stays where its own place and what it leans on stay -/
theorem RepO.stay {a : Addr} {o : MO} (r : RepO G h H a o) (ha : H' a = H a) (t : Pst G.K H H') (n : ∀ dx, H dx = some (.own a) → h dx = none → H' dx = some (.own a) ∧ h' dx = none) : RepO G h' H' a o := by
  cases o with
  | lst ds => obtain ⟨vs, z, q⟩ := r; exact ⟨vs, ha.trans z, q.mono t⟩
  | dct ds => obtain ⟨vs, z, q⟩ := r; exact ⟨vs, ha.trans z, q.mono t⟩
  | ins c fs => obtain ⟨dx, gs, z, q, y, e⟩ := r; exact ⟨dx, gs, ha.trans z, q.mono t, (n dx y e).1, (n dx y e).2⟩
theorem pst_new {p : Addr} {o : HO} (n : H p = none) : Pst G.K H (L2.upd H p o) := ⟨fun a xs q => by
    rcases q with (q | ⟨ob, q⟩) | q
    · exact .inl (.inl (by rw [upd_ne (ne_of_none q n)]; exact q))
    · exact .inl (.inr ⟨ob, by rw [upd_ne (ne_of_none q n)]; exact q⟩)
    · exact .inr q, fun a xs q => by
    rcases q with ⟨ob, q⟩ | q
    · exact .inl ⟨ob, by rw [upd_ne (ne_of_none q n)]; exact q⟩
    · exact .inr q⟩
/-- what may be written here -/
def Wr : HO → Prop
  | .lst _ => True
  | .dK _ => True
  | .ins _ _ _ => True
  | _ => False
theorem pst_wr {p : Addr} {o u : HO} (n : H p = some u) (w : Wr u) : Pst G.K H (L2.upd H p o) := ⟨fun a xs q => by
    rcases q with (q | ⟨ob, q⟩) | q
    · exact .inl (.inl (by rw [upd_ne (fun z => by rw [z, n] at q; cases q; exact w)]; exact q))
    · exact .inl (.inr ⟨ob, by rw [upd_ne (fun z => by rw [z, n] at q; cases q; exact w)]; exact q⟩)
    · exact .inr q, fun a xs q => by
    rcases q with ⟨ob, q⟩ | q
    · exact .inl ⟨ob, by rw [upd_ne (fun z => by rw [z, n] at q; cases q; exact w)]; exact q⟩
    · exact .inr q⟩
/-- a tuple (or what no small heap holds) is laid -/
theorem RepH.aside {p : Addr} {o : HO} (R : RepH G h H) (n : H p = none) : RepH G h (L2.upd H p o) := fun a u e =>
  (R a u e).stay (upd_ne (fun z => by rw [z, R.free n] at e; cases e)) (pst_new n) fun dx y z => ⟨by rw [upd_ne (ne_of_none y n)]; exact y, z⟩
theorem Fm.aside {p : Addr} {o : HO} (n : H p = none) : Fm h H h (L2.upd H p o) := fun a u e q => ⟨e, by rw [upd_ne (ne_of_none q n)]; exact q⟩
/-- an object of the small heap is laid -/
theorem RepH.new {p : Addr} {o : HO} {u : MO} (R : RepH G h H) (n : H p = none) (new : RepO G (up h p u) (L2.upd H p o) p u) : RepH G (up h p u) (L2.upd H p o) := fun a x e => by
  by_cases ha : a = p
  · subst ha; rw [up_same] at e; cases e; exact new
  · rw [up_ne ha] at e
    exact (R a x e).stay (upd_ne ha) (pst_new n) fun dx y z => ⟨by rw [upd_ne (ne_of_none y n)]; exact y, by rw [up_ne (ne_of_none y n)]; exact z⟩
theorem Fm.new {p : Addr} {o : HO} {u : MO} (n : H p = none) : Fm h H (up h p u) (L2.upd H p o) := fun a x e q => ⟨by rw [up_ne (ne_of_none q n)]; exact e, by rw [upd_ne (ne_of_none q n)]; exact q⟩
/-- an object of the small heap is written -/
theorem RepH.write {p : Addr} {o w : HO} {u : MO} (R : RepH G h H) (n : H p = some w) (wr : Wr w)
    (new : RepO G (up h p u) (L2.upd H p o) p u) : RepH G (up h p u) (L2.upd H p o) := fun a x e => by
  by_cases ha : a = p
  · subst ha; rw [up_same] at e; cases e; exact new
  · rw [up_ne ha] at e
    have ne : ∀ dx, H dx = some (.own a) → dx ≠ p := fun dx y z => by rw [z, n] at y; cases y; exact wr
    exact (R a x e).stay (upd_ne ha) (pst_wr n wr) fun dx y z => ⟨by rw [upd_ne (ne dx y)]; exact y, by rw [up_ne (ne dx y)]; exact z⟩
theorem Fm.write {p : Addr} {o : HO} {u : MO} {x : MO} (n : h p = some x) : Fm h H (up h p u) (L2.upd H p o) := fun a y e q => by
  have ne : a ≠ p := fun z => by rw [z, n] at e; cases e
  exact ⟨by rw [up_ne ne]; exact e, by rw [upd_ne ne]; exact q⟩
/-- the usual ones -/
theorem RepH.newLst {p : Addr} {ds : List D} {vs : List V} (R : RepH G h H) (n : H p = none) (q : RepVs G.K H ds vs) : RepH G (up h p (.lst ds)) (L2.upd H p (.lst vs)) :=
  R.new n ⟨vs, upd_same, q.mono (pst_new n)⟩
theorem RepH.wrLst {p : Addr} {es ds : List D} {vs : List V} (R : RepH G h H) (e : h p = some (.lst es)) (q : RepVs G.K H ds vs) : RepH G (up h p (.lst ds)) (L2.upd H p (.lst vs)) := by
  obtain ⟨us, z, _⟩ := R p _ e
  exact R.write z trivial ⟨vs, upd_same, q.mono (pst_wr z trivial)⟩
theorem RepV.tupNew {p : Addr} {ds : List D} {vs : List V} (n : H p = none) (q : RepVs G.K H ds vs) : RepV G.K (L2.upd H p (.tup vs)) (.tup ds) (.ref p) :=
  repV_tup.mpr ⟨p, vs, rfl, SqT.of upd_same, q.mono (pst_new n)⟩
end
end DL
set_option Elab.async false
set_option linter.all false
set_option maxRecDepth 100000
/-! The D layer, 2: a small syntax, and what must hold so that a piece of it runs to what is wanted. -/
namespace DL
open PySem L2

/-- built-in functions -/
inductive Bi where
  | len | abs | min | max | sum | all | any | sorted | list | tuple | str | int | repr
  deriving DecidableEq
/-- what isinstance is asked for -/
inductive Ty where
  | int | bool | str | list | tuple | dict | non
  deriving DecidableEq
/-- methods of built-in kinds -/
inductive Mt where
  | append | extend | pop | get | join | split | startswith | index | insert | reverse | partition
  deriving DecidableEq
/-- targets of loops -/
inductive Tg where
  | nm (i : Nat) | tp (is : List Nat)

mutual
inductive Ex where
  | var (i : Nat)
  | cst (d : D)
  | bin (op : Operator) (a b : Ex)
  | neg (a : Ex)
  | not (a : Ex)
  | and (a b : Ex)
  | or (a b : Ex)
  | ite (c : Te) (a b : Ex)
  | cmp (op : CmpOp) (a b : Ex)
  | chn (op op' : CmpOp) (a b c : Ex)
  | tup (es : List Ex)
  | lst (es : List Ex)
  | dsp (ks : List Str) (es : List Ex)
  | ix (a i : Ex)
  | sl (a : Ex) (lo hi : Option Ex)
  | call (f : Nat) (es : List Ex)
  | callk (f : Nat) (es kes : List Ex) (arr : List (Nat ⊕ D))
  | bi (b : Bi) (es : List Ex)
  | isi (a : Ex) (ts : List Ty)
  | met (m : Mt) (o : Ex) (es : List Ex)
  | lc (elt : Ex) (tg : Tg) (it : It') (cd : Option Te) (vs : List Nat)
  | lc2 (elt : Ex) (tg : Tg) (it : It') (cd : Option Te) (tg1 : Tg) (it1 : It') (cd1 : Option Te) (vs vs1 : List Nat)
/-- a test -/
inductive Te where
  | val (e : Ex)
  | not (t : Te)
  | and (a b : Te)
  | or (a b : Te)
  | cmp (op : CmpOp) (a b : Ex)
  | chn (op op' : CmpOp) (a b c : Ex)
/-- what a loop walks -/
inductive It' where
  | of (e : Ex) | rng (es : List Ex) | zip (a b : Ex) | enm (a : Ex) | rev (a : Ex)
end
/-- targets of assignments -/
inductive Lv where
  | nm (i : Nat) | sub (o i : Ex) | fld (o : Ex) (f : Str) | tup (ls : List Lv) | star (is : List Nat) (r : Nat)
inductive Sm where
  | asg (l : Lv) (e : Ex)
  | aug (i : Nat) (op : Operator) (e : Ex)
  | ex (e : Ex)
  | ret (e : Ex)
  | retN
  | ifs (c : Te) (a b : List Sm)
  | for (t : Tg) (it : It') (b : List Sm)
  | whl (c : Te) (b : List Sm)
  | brk | cnt | pas
  | rai (c : Nat) (es : List Ex)

/-! ### operations on values -/
/-- a value's data, lists through the heap -/
inductive Den (h : MH) : D → PyData → Prop
  | non : Den h .non .none
  | bl (b : Bool) : Den h (.bl b) (.bool b)
  | int (i : Int) : Den h (.int i) (.int i)
  | str (x : Str) : Den h (.str x) (.str x)
  | tup {ds : List D} {ts : List PyData} (hl : ts.length = ds.length) (hs : ∀ (i : Nat) d t, ds[i]? = some d → ts[i]? = some t → Den h d t) : Den h (.tup ds) (.tuple ts)
  | lst {a : Addr} {ds : List D} {ts : List PyData} (ha : h a = some (.lst ds)) (hl : ts.length = ds.length) (hs : ∀ (i : Nat) d t, ds[i]? = some d → ts[i]? = some t → Den h d t) : Den h (.ref a) (.list ts)
  | dct0 {a : Addr} (ha : h a = some (.dct [])) : Den h (.ref a) (.dict [])

def MulOk (i j : Int) : Prop := i.natAbs < 2 ^ 64 ∨ j.natAbs < 2 ^ 64 ∨ (i.natAbs < 2 ^ 20000 ∧ j.natAbs < 2 ^ 20000)
def DivOk (j : Int) : Prop := 0 < j ∧ j.natAbs < 2 ^ 8000
def Fits (n : Nat) : Prop := n ≤ sizeLine
/-- a new object -/
def al (o : MO) (h : MH) (Q : D → MH → Prop) : Prop := ∀ p, h p = none → Q (.ref p) (up h p o)

def bop (op : Operator) (x y : D) (h : MH) (Q : D → MH → Prop) : Prop :=
  match op, x, y with
  | .Add, .int i, .int j => Q (.int (i + j)) h
  | .Add, .str a, .str b => Fits (a.length + b.length) ∧ Q (.str (a ++ b)) h
  | .Add, .tup a, .tup b => Fits (a.length + b.length) ∧ Q (.tup (a ++ b)) h
  | .Add, .ref a, .ref b => ∃ xs ys, h a = some (.lst xs) ∧ h b = some (.lst ys) ∧ Fits (xs.length + ys.length) ∧ al (.lst (xs ++ ys)) h Q
  | .Sub, .int i, .int j => Q (.int (i - j)) h
  | .Mult, .int i, .int j => MulOk i j ∧ Q (.int (i * j)) h
  | .Mult, .ref a, .int k => ∃ xs, h a = some (.lst xs) ∧ (-(2 ^ 63) ≤ k ∧ k < 2 ^ 63) ∧ Fits (xs.length * k.toNat) ∧ al (.lst (List.replicate k.toNat xs).flatten) h Q
  | .Mult, .tup a, .int k => (-(2 ^ 63) ≤ k ∧ k < 2 ^ 63) ∧ (k ≤ 1000 ∧ a.length ≤ 1000) ∧ Q (.tup (List.replicate k.toNat a).flatten) h
  | .FloorDiv, .int i, .int j => DivOk j ∧ Q (.int (i / j)) h
  | .Mod, .int i, .int j => 0 < j ∧ Q (.int (i % j)) h
  | .Pow, .int i, .int j => (0 ≤ j ∧ j ≤ 1000000 ∧ i.natAbs < 2 ^ 64) ∧ Q (.int (i ^ j.toNat)) h
  | _, _, _ => False

/-- x op= y of a name, nothing that changes -/
def augD (op : Operator) (x y : D) (h : MH) (Q : D → MH → Prop) : Prop :=
  match op, x, y with
  | .Add, .int i, .int j => Q (.int (i + j)) h
  | .Add, .str a, .str b => Fits (a.length + b.length) ∧ Q (.str (a ++ b)) h
  | .Sub, .int i, .int j => Q (.int (i - j)) h
  | .Mult, .int i, .int j => (-(2 ^ 64) < i ∧ i < 2 ^ 64) ∧ Q (.int (i * j)) h
  | _, _, _ => False

/-- truth -/
def tru (x : D) (h : MH) (P : Bool → Prop) : Prop :=
  match x with
  | .non => P false
  | .bl b => P b
  | .int i => P (i != 0)
  | .str y => Fits y.length ∧ P ((y.length : Int) != 0)
  | .tup ds => P (!ds.isEmpty)
  | .ref a => ∃ xs, h a = some (.lst xs) ∧ P (!xs.isEmpty)
  | .scr ds => P (!ds.isEmpty)

/-- one scalar -/
def flat : D → Bool
  | .bl _ => true | .int _ => true | .str _ => true | .non => true
  | _ => false
def toV : D → V
  | .non => .non | .bl b => .bl b | .int i => .int i | .str x => .str x | .ref a => .ref a
  | _ => .non
def inD (x : D) (ys : List D) : Bool := ys.any fun y => eqV (toV y) (toV x)
def subStr (a b : Str) : Bool := !(Builtin.Str.occurrences b a 0 b.length 1).isEmpty
/-- a key -/
def keyD : D → Option Key
  | .int i => some (.inl i)
  | .str x => some (.inr x)
  | _ => none
def getK (kvs : List (Key × D)) (k : Key) : Option D := (kvs.find? fun kv => decide (kv.1 = k)).map (·.2)
def putK (kvs : List (Key × D)) (k : Key) (v : D) : List (Key × D) :=
  if (kvs.any fun kv => decide (kv.1 = k)) = true then kvs.map (fun kv => if kv.1 = k then (kv.1, v) else kv) else kvs ++ [(k, v)]

def deepEq (x y : D) (h : MH) (P : Bool → Prop) : Prop :=
  ∃ t u, Den h x t ∧ Den h y u ∧ SeqAt.shaped t = true ∧ SeqAt.shaped u = true ∧ P (PyData.eqv t u)
def eqD (x y : D) (h : MH) (P : Bool → Prop) : Prop :=
  match x, y with
  | .int i, .int j => P (decide (i = j))
  | .str a, .str b => P (decide (a = b))
  | .non, .non => P true
  | .bl a, .bl b => P (decide (a = b))
  | .ref a, .ref b => deepEq x y h P ∨ ∃ xs ys, h a = some (.lst xs) ∧ h b = some (.lst ys) ∧ xs.length ≠ ys.length ∧ P false
  | _, _ => deepEq x y h P
def inOp (x y : D) (h : MH) (P : Bool → Prop) : Prop :=
  match x, y with
  | .str a, .str b => P (subStr a b)
  | x, .tup ys => flat x = true ∧ ys.all flat = true ∧ P (inD x ys)
  | x, .ref a => (∃ ys, h a = some (.lst ys) ∧ flat x = true ∧ ys.all flat = true ∧ P (inD x ys)) ∨ (∃ kvs k, h a = some (.dct kvs) ∧ keyD x = some k ∧ P (getK kvs k).isSome)
  | _, _ => False
def isOp (x y : D) (P : Bool → Prop) : Prop :=
  match x, y with
  | .non, .non => P true
  | .bl a, .bl b => P (decide (a = b))
  | _, .non => P false
  | _, _ => False
def cop (op : CmpOp) (x y : D) (h : MH) (P : Bool → Prop) : Prop :=
  match op with
  | .Eq => eqD x y h P
  | .NotEq => eqD x y h fun k => P (!k)
  | .Lt => match x, y with
    | .int i, .int j => P (decide (i < j))
    | _, _ => False
  | .LtE => match x, y with
    | .int i, .int j => P (decide (i ≤ j))
    | _, _ => False
  | .Gt => match x, y with
    | .int i, .int j => P (decide (j < i))
    | _, _ => False
  | .GtE => match x, y with
    | .int i, .int j => P (decide (j ≤ i))
    | _, _ => False
  | .Is => isOp x y P
  | .IsNot => isOp x y fun k => P (!k)
  | .In => inOp x y h P
  | .NotIn => inOp x y h fun k => P (!k)

/-- x[i] -/
def ixD (x i : D) (h : MH) (Q : D → MH → Prop) : Prop :=
  match x, i with
  | .tup ds, .int i => ∃ d, atI ds i = some d ∧ Q d h
  | .scr ds, .int i => ∃ d, atI ds i = some d ∧ Q d h
  | .str z, .int i => Fits z.length ∧ ∃ c, atI z.cps.toList i = some c ∧ Q (.str ⟨#[c]⟩) h
  | .ref a, k => (∃ xs i d, k = .int i ∧ h a = some (.lst xs) ∧ atI xs i = some d ∧ Q d h) ∨ (∃ kvs k' d, keyD k = some k' ∧ h a = some (.dct kvs) ∧ getK kvs k' = some d ∧ Q d h)
  | _, _ => False
/-- x[lo:hi] -/
def cut {α : Type} (xs : List α) (lo hi : Option Int) : List α := (xs.drop (HT.sIx xs.length 0 lo)).take (HT.sIx xs.length xs.length hi - HT.sIx xs.length 0 lo)
def slD (x : D) (lo hi : Option Int) (h : MH) (Q : D → MH → Prop) : Prop :=
  match x with
  | .tup ds => Q (.tup (cut ds lo hi)) h
  | .scr ds => al (.lst (cut ds lo hi)) h Q
  | .str z => Fits z.length ∧ Q (.str ⟨(cut z.cps.toList lo hi).toArray⟩) h
  | .ref a => ∃ xs, h a = some (.lst xs) ∧ al (.lst (cut xs lo hi)) h Q
  | _ => False
/-- x[i] = v -/
def setD (x i v : D) (h : MH) (P : MH → Prop) : Prop :=
  match x with
  | .ref a => (∃ xs k j, i = .int k ∧ h a = some (.lst xs) ∧ ixN xs.length k = some j ∧ P (up h a (.lst (xs.set j v)))) ∨
      (∃ kvs k, keyD i = some k ∧ h a = some (.dct kvs) ∧ kvs.length < sizeLine ∧ P (up h a (.dct (putK kvs k v))))
  | _ => False

def intsOf : List D → Option (List Int)
  | [] => some []
  | .int i :: r => (intsOf r).map (i :: ·)
  | _ => none
def blsOf : List D → Option (List Bool)
  | [] => some []
  | .bl i :: r => (blsOf r).map (i :: ·)
  | _ => none
def strsOf : List D → Option (List Str)
  | [] => some []
  | .str i :: r => (strsOf r).map (i :: ·)
  | _ => none
/-- the items of a list or tuple -/
def itemsOf (x : D) (h : MH) (P : List D → Prop) : Prop :=
  match x with
  | .tup ds => P ds
  | .scr ds => P ds
  | .ref a => ∃ xs, h a = some (.lst xs) ∧ P xs
  | _ => False
mutual
/-- what never changes, as data -/
def toP : D → PyData
  | .non => .none
  | .bl b => .bool b
  | .int i => .int i
  | .str x => .str x
  | .tup ds => .tuple (toPs ds)
  | .ref _ => .none
  | .scr ds => .none
def toPs : List D → List PyData
  | [] => []
  | d :: ds => toP d :: toPs ds
end
mutual
/-- nothing within it changes -/
def imm : D → Bool
  | .non => true
  | .bl b => true
  | .int i => true
  | .str x => true
  | .tup ds => imms ds
  | .ref _ => false
  | .scr _ => false
def imms : List D → Bool
  | [] => true
  | d :: ds => imm d && imms ds
end
def bi (b : Bi) (xs : List D) (h : MH) (Q : D → MH → Prop) : Prop :=
  match b, xs with
  | .len, [.str y] => Fits y.length ∧ Q (.int y.length) h
  | .len, [x] => itemsOf x h fun ds => Q (.int ds.length) h
  | .abs, [.int i] => Q (.int (if i < 0 then -i else i)) h
  | .max, [.int i, .int j] => Q (.int (if j > i then j else i)) h
  | .min, [.int i, .int j] => Q (.int (if j < i then j else i)) h
  | .sum, [.ref a] => ∃ ds ns, h a = some (.lst ds) ∧ intsOf ds = some ns ∧ Q (.int ns.sum) h
  | .all, [.ref a] => ∃ ds ns, h a = some (.lst ds) ∧ blsOf ds = some ns ∧ Q (.bl (ns.all id)) h
  | .any, [.ref a] => ∃ ds ns, h a = some (.lst ds) ∧ blsOf ds = some ns ∧ Q (.bl (ns.any id)) h
  | .list, [x] => itemsOf x h fun ds => al (.lst ds) h Q
  | .tuple, [x] => itemsOf x h fun ds => Q (.tup ds) h
  | .int, [.int i] => Q (.int i) h
  | .int, [.bl k] => Q (.int (if k then 1 else 0)) h
  | .int, [.str z] => ∃ n, PySem.intText? z = some n ∧ z.length ≤ 640 ∧ Q (.int n) h
  | .str, [.int i] => i.natAbs.log2 < 1920 ∧ Q (.str (toString i)) h
  | .str, [.str z] => Q (.str z) h
  | .repr, [x] => ∃ t, Den h x t ∧ PyData.showable t = true ∧ Fits t.shown.length ∧ PyData.depth t ≤ 60 ∧ Q (.str t.shown) h
  | .sorted, [.ref a] => ∃ ds, h a = some (.lst ds) ∧ imms ds = true ∧ PySem.W.AllAlike (ds.map toP) ∧ PySem.W.Sortable (ds.map toP) ∧ (∀ d, d ∈ ds → (toP d).depth ≤ 60) ∧ al (.lst (ds.mergeSort (PySem.W.dataLe false toP))) h Q
  | _, _ => False
/-- isinstance -/
def kindOf (x : D) (h : MH) (P : Ty → Prop) : Prop :=
  match x with
  | .int _ => P .int
  | .bl _ => P .bool
  | .str _ => P .str
  | .non => P .non
  | .tup _ => P .tuple
  | .scr _ => P .list
  | .ref a => (∃ xs, h a = some (.lst xs) ∧ P .list) ∨ (∃ kvs, h a = some (.dct kvs) ∧ P .dict)
def subTy (k t : Ty) : Bool := decide (k = t) || (decide (k = .bool) && decide (t = .int))
def isTys (x : D) (h : MH) (ts : List Ty) (P : Bool → Prop) : Prop := kindOf x h fun k => P (ts.any (subTy k))

/-- of which kind the method is -/
def mtTy (m : Mt) (x : D) (h : MH) : Prop :=
  match m with
  | .append | .extend | .pop | .index | .insert | .reverse => match x with
    | .ref a => ∃ xs, h a = some (.lst xs)
    | _ => False
  | .get => match x with
    | .ref a => ∃ kvs, h a = some (.dct kvs)
    | _ => False
  | .join | .split | .startswith | .partition => match x with
    | .str _ => True
    | _ => False
def met (m : Mt) (x : D) (ys : List D) (h : MH) (Q : D → MH → Prop) : Prop :=
  match m, x, ys with
  | .append, .ref a, [y] => ∃ xs, h a = some (.lst xs) ∧ xs.length < sizeLine ∧ Q .non (up h a (.lst (xs ++ [y])))
  | .extend, .ref a, [.ref b] => ∃ xs zs, h a = some (.lst xs) ∧ h b = some (.lst zs) ∧ Fits (xs.length + zs.length) ∧ Q .non (up h a (.lst (xs ++ zs)))
  | .pop, .ref a, [] => ∃ xs d, h a = some (.lst xs) ∧ xs[xs.length - 1]? = some d ∧ Q d (up h a (.lst xs.dropLast))
  | .pop, .ref a, [.int i] => ∃ xs k d, h a = some (.lst xs) ∧ ixN xs.length i = some k ∧ xs[k]? = some d ∧ xs.length < 2 ^ 62 ∧ Q d (up h a (.lst (xs.eraseIdx k)))
  | .reverse, .ref a, [] => ∃ xs, h a = some (.lst xs) ∧ Q .non (up h a (.lst xs.reverse))
  | .get, .ref a, [k, v] => ∃ kvs k', keyD k = some k' ∧ h a = some (.dct kvs) ∧ Q ((getK kvs k').getD v) h
  | .join, .str s, [.ref a] => ∃ ds ts, h a = some (.lst ds) ∧ strsOf ds = some ts ∧ (ts.map (·.length)).sum + ts.length * s.length ≤ 16777216 ∧ Q (.str (Txt.join s ts)) h
  | .split, .str s, [.str b] => ((b.length == 0) = false ∧ Fits (s.length + 2)) ∧ al (.lst ((Txt.split s b).map D.str)) h Q
  | .startswith, .str s, [.str b] => Q (.bl (Txt.startswith s b)) h
  | _, _, _ => False

/-! ### loops -/
structure ItV where
  its : List D
  ok : MH → Prop
def setAll (σ : DS) : List Nat → List D → DS
  | i :: is, d :: ds => setAll (σ.set i (some d)) is ds
  | _, _ => σ
def bindT (t : Tg) (d : D) (σ : DS) (P : DS → Prop) : Prop :=
  match t with
  | .nm i => P (σ.set i (some d))
  | .tp is => match d with
    | .tup ds => ds.length = is.length ∧ P (setAll σ is ds)
    | _ => False
def wipeD (σ : DS) : List Nat → DS
  | [] => σ
  | v :: vs => (wipeD σ vs).set v none
abbrev DT := DS → MH → (Bool → MH → Prop) → Prop
abbrev DE := DS → MH → (D → MH → Prop) → Prop
/-- a comprehension's loop -/
def lcGo (t : Tg) (ok : MH → Prop) (cd : DT) (elt : DE) (σ : DS) (K : List D → MH → Prop) : List D → List D → MH → Prop
  | [], acc, h => ok h ∧ K acc h
  | d :: r, acc, h => ok h ∧ bindT t d σ fun σ1 => cd σ1 h fun k h1 =>
      if k = true then elt σ1 h1 fun x h2 => acc.length < sizeLine ∧ lcGo t ok cd elt σ K r (acc ++ [x]) h2
      else lcGo t ok cd elt σ K r acc h1
/-- two clauses: inn is the inner loop, handed what follows -/
def lcGo2 (t : Tg) (ok : MH → Prop) (cd : DT) (inn : DS → List D → MH → (List D → MH → Prop) → Prop) (σ : DS) (K : List D → MH → Prop) : List D → List D → MH → Prop
  | [], acc, h => ok h ∧ K acc h
  | d :: r, acc, h => ok h ∧ bindT t d σ fun σ1 => cd σ1 h fun k h1 =>
      if k = true then inn σ1 acc h1 (lcGo2 t ok cd inn σ K r)
      else lcGo2 t ok cd inn σ K r acc h1

/-- what follows a statement -/
structure En where
  nx : DS → MH → Prop
  rt : D → MH → Prop
  bk : DS → MH → Prop
  ct : DS → MH → Prop
  ex : Nat → List (Str × D) → DS → MH → Prop
abbrev DX := Nat → List (Str × D) → MH → Prop
abbrev Fns := Nat → List D → MH → (D → MH → Prop) → DX → Prop
def forGo (t : Tg) (ok : MH → Prop) (body : En → DS → MH → Prop) (Dn : En) : List D → DS → MH → Prop
  | [], σ, h => ok h ∧ Dn.nx σ h
  | d :: r, σ, h => ok h ∧ bindT t d σ fun σ1 => body { Dn with nx := forGo t ok body Dn r, ct := forGo t ok body Dn r, bk := Dn.nx } σ1 h
def whlGo (c : DT) (body : En → DS → MH → Prop) (Dn : En) (σ : DS) (h : MH) : Prop :=
  ∃ W : Nat → DS → MH → Prop, (∃ m, W m σ h) ∧ ∀ m σ h, W m σ h → c σ h fun k h1 =>
    if k = true then body { Dn with nx := fun σ' h' => ∃ m', m' < m ∧ W m' σ' h', ct := fun σ' h' => ∃ m', m' < m ∧ W m' σ' h', bk := Dn.nx } σ h1
    else Dn.nx σ h1

def arrOf (ds : List D) : List (Nat ⊕ D) → List D
  | [] => []
  | .inl i :: r => ds.getD i .non :: arrOf ds r
  | .inr d :: r => d :: arrOf ds r
def rngD (xs : List D) (P : ItV → Prop) : Prop :=
  match xs with
  | [.int n] => (-(2 ^ 60) < n ∧ n < 2 ^ 60) ∧ P ⟨(List.range n.toNat).map fun (k : Nat) => .int k, fun _ => True⟩
  | [.int a, .int b] => (-(2 ^ 60) < a ∧ a < 2 ^ 60 ∧ b < 2 ^ 60 ∧ -(2 ^ 60) < b) ∧ P ⟨(List.range (b - a).toNat).map fun (k : Nat) => .int (a + k), fun _ => True⟩
  | [.int a, .int b, .int c] => (-(2 ^ 60) < a ∧ a < 2 ^ 60 ∧ b < 2 ^ 60 ∧ -(2 ^ 60) < b ∧ c = -1) ∧ P ⟨(List.range (a - b).toNat).map fun (k : Nat) => .int (a - k), fun _ => True⟩
  | _ => False
/-- what a list, a tuple, a text gives to a loop -/
def walkD (x : D) (h : MH) (P : ItV → Prop) : Prop :=
  match x with
  | .tup ds => P ⟨ds, fun _ => True⟩
  | .scr ds => P ⟨ds, fun _ => True⟩
  | .str z => P ⟨z.cps.toList.map fun c => .str ⟨#[c]⟩, fun _ => True⟩
  | .ref a => ∃ xs, h a = some (.lst xs) ∧ P ⟨xs, fun h' => h' a = some (.lst xs)⟩
  | _ => False
def zipD (x y : D) (h : MH) (P : ItV → Prop) : Prop :=
  match x, y with
  | .tup xs, .tup ys => P ⟨(xs.zip ys).map fun p => .tup [p.1, p.2], fun _ => True⟩
  | .ref a, .ref b => ∃ xs ys, h a = some (.lst xs) ∧ h b = some (.lst ys) ∧ P ⟨(xs.zip ys).map fun p => .tup [p.1, p.2], fun h' => h' a = some (.lst xs) ∧ h' b = some (.lst ys)⟩
  | _, _ => False
def revD (x : D) (h : MH) (P : ItV → Prop) : Prop :=
  match x with
  | .tup ds => P ⟨ds.reverse, fun _ => True⟩
  | .ref a => ∃ xs, h a = some (.lst xs) ∧ P ⟨xs.reverse, fun h' => h' a = some (.lst xs)⟩
  | _ => False
def enmD (x : D) (h : MH) (P : ItV → Prop) : Prop :=
  match x with
  | .ref a => ∃ xs, h a = some (.lst xs) ∧ P ⟨xs.zipIdx.map fun p => .tup [.int p.2, p.1], fun h' => h' a = some (.lst xs)⟩
  | _ => False

section
variable (Φ : Fns)
mutual
def wpE (E : DX) : Ex → DS → MH → (D → MH → Prop) → Prop
  | .var i, σ, h, Q => ∃ d, σ[i]? = some (some d) ∧ Q d h
  | .cst d, _, h, Q => Q d h
  | .bin op a b, σ, h, Q => wpE E a σ h fun x h1 => wpE E b σ h1 fun y h2 => bop op x y h2 Q
  | .neg a, σ, h, Q => wpE E a σ h fun x h1 => match x with
    | .int i => Q (.int (-i)) h1
    | _ => False
  | .not a, σ, h, Q => wpE E a σ h fun x h1 => tru x h1 fun k => Q (.bl (!k)) h1
  | .and a b, σ, h, Q => wpE E a σ h fun x h1 => tru x h1 fun k => if k = true then wpE E b σ h1 Q else Q x h1
  | .or a b, σ, h, Q => wpE E a σ h fun x h1 => tru x h1 fun k => if k = true then Q x h1 else wpE E b σ h1 Q
  | .ite c a b, σ, h, Q => wpT E c σ h fun k h1 => if k = true then wpE E a σ h1 Q else wpE E b σ h1 Q
  | .cmp op a b, σ, h, Q => wpE E a σ h fun x h1 => wpE E b σ h1 fun y h2 => cop op x y h2 fun k => Q (.bl k) h2
  | .chn op op' a b c, σ, h, Q => wpE E a σ h fun x h1 => wpE E b σ h1 fun y h2 => cop op x y h2 fun k =>
      if k = true then wpE E c σ h2 fun z h3 => cop op' y z h3 fun k' => Q (.bl k') h3 else Q (.bl false) h2
  | .tup es, σ, h, Q => wpEs E es σ h fun ds h1 => Fits ds.length ∧ Q (.tup ds) h1
  | .lst es, σ, h, Q => wpEs E es σ h fun ds h1 => Fits ds.length ∧ al (.lst ds) h1 Q
  | .dsp ks es, σ, h, Q => wpEs E es σ h fun ds h1 => al (.dct ((ks.map Sum.inr).zip ds)) h1 Q
  | .ix a i, σ, h, Q => wpE E a σ h fun x h1 => wpE E i σ h1 fun y h2 => ixD x y h2 Q
  | .sl a lo hi, σ, h, Q => wpE E a σ h fun x h1 => wpO E lo σ h1 fun l h2 => wpO E hi σ h2 fun u h3 => slD x l u h3 Q
  | .call f es, σ, h, Q => wpEs E es σ h fun ds h1 => ds.length = es.length ∧ Φ f ds h1 Q E
  | .callk f es kes arr, σ, h, Q => wpEs E es σ h fun ds h1 => wpEs E kes σ h1 fun ks h2 => (ds.length = es.length ∧ ks.length = kes.length) ∧ Φ f (arrOf (ds ++ ks) arr) h2 Q E
  | .bi b es, σ, h, Q => wpEs E es σ h fun ds h1 => bi b ds h1 Q
  | .isi a ts, σ, h, Q => wpE E a σ h fun x h1 => isTys x h1 ts fun k => Q (.bl k) h1
  | .met m o es, σ, h, Q => wpE E o σ h fun x h1 => mtTy m x h1 ∧ wpEs E es σ h1 fun ds h2 => met m x ds h2 Q
  | .lc elt t it cd vs, σ, h, Q => wpI E it σ h fun J h1 => lcGo t J.ok (wpC cd) (wpE (fun _ _ _ => False) elt) (wipeD σ vs) (fun acc h2 => al (.lst acc) h2 Q) J.its [] h1
  | .lc2 elt t it cd t1 it1 cd1 vs vs1, σ, h, Q => wpI E it σ h fun J h1 =>
      lcGo2 t J.ok (wpC cd) (fun σ1 acc h2 K => wpI (fun _ _ _ => False) it1 σ1 h2 fun J1 h3 => lcGo t1 J1.ok (wpC cd1) (wpE (fun _ _ _ => False) elt) (wipeD σ1 vs1) K J1.its acc h3)
        (wipeD σ vs) (fun acc h2 => al (.lst acc) h2 Q) J.its [] h1
def wpT (E : DX) : Te → DS → MH → (Bool → MH → Prop) → Prop
  | .not a, σ, h, Q => wpT E a σ h fun k h1 => Q (!k) h1
  | .and a b, σ, h, Q => wpT E a σ h fun k h1 => if k = true then wpT E b σ h1 Q else Q false h1
  | .or a b, σ, h, Q => wpT E a σ h fun k h1 => if k = true then Q true h1 else wpT E b σ h1 Q
  | .cmp op a b, σ, h, Q => wpE E a σ h fun x h1 => wpE E b σ h1 fun y h2 => cop op x y h2 fun k => Q k h2
  | .chn op op' a b c, σ, h, Q => wpE E a σ h fun x h1 => wpE E b σ h1 fun y h2 => cop op x y h2 fun k =>
      if k = true then wpE E c σ h2 fun z h3 => cop op' y z h3 fun k' => Q k' h3 else Q false h2
  | .val e, σ, h, Q => wpE E e σ h fun x h1 => tru x h1 fun k => Q k h1
def wpEs (E : DX) : List Ex → DS → MH → (List D → MH → Prop) → Prop
  | [], _, h, Q => Q [] h
  | e :: r, σ, h, Q => wpE E e σ h fun x h1 => wpEs E r σ h1 fun xs h2 => Q (x :: xs) h2
def wpO (E : DX) : Option Ex → DS → MH → (Option Int → MH → Prop) → Prop
  | none, _, h, Q => Q none h
  | some e, σ, h, Q => wpE E e σ h fun x h1 => match x with
    | .int i => Q (some i) h1
    | _ => False
def wpC : Option Te → DS → MH → (Bool → MH → Prop) → Prop
  | none, _, h, Q => Q true h
  | some e, σ, h, Q => wpT (fun _ _ _ => False) e σ h Q
def wpI (E : DX) : It' → DS → MH → (ItV → MH → Prop) → Prop
  | .of e, σ, h, Q => wpE E e σ h fun x h1 => walkD x h1 fun J => Q J h1
  | .rng es, σ, h, Q => wpEs E es σ h fun ds h1 => rngD ds fun J => Q J h1
  | .zip a b, σ, h, Q => wpE E a σ h fun x h1 => wpE E b σ h1 fun y h2 => zipD x y h2 fun J => Q J h2
  | .enm a, σ, h, Q => wpE E a σ h fun x h1 => enmD x h1 fun J => Q J h1
  | .rev a, σ, h, Q => wpE E a σ h fun x h1 => revD x h1 fun J => Q J h1
end
mutual
def wpLv (F : DS → DX) : Lv → D → DS → MH → (DS → MH → Prop) → Prop
  | .nm i, d, σ, h, P => P (σ.set i (some d)) h
  | .sub o i, d, σ, h, P => wpE Φ (F σ) o σ h fun x h1 => wpE Φ (F σ) i σ h1 fun k h2 => setD x k d h2 fun h3 => P σ h3
  | .fld o f, d, σ, h, P => False
  | .tup ls, d, σ, h, P => match d with
    | .tup ds => ds.length = ls.length ∧ wpLvs F ls ds σ h P
    | _ => False
  | .star is r, d, σ, h, P => (match d with
    | .tup ds => is.length ≤ ds.length ∧ ∀ p, h p = none → P ((setAll σ is (ds.take is.length)).set r (some (.ref p))) (up h p (.lst (ds.drop is.length)))
    | .ref a => ∃ ds, h a = some (.lst ds) ∧ is.length ≤ ds.length ∧ ∀ p, h p = none → P ((setAll σ is (ds.take is.length)).set r (some (.ref p))) (up h p (.lst (ds.drop is.length)))
    | _ => False)
def wpLvs (F : DS → DX) : List Lv → List D → DS → MH → (DS → MH → Prop) → Prop
  | [], [], σ, h, P => P σ h
  | [], _ :: _, _, _, _ => False
  | _ :: _, [], _, _, _ => False
  | l :: ls, d :: ds, σ, h, P => wpLv F l d σ h fun σ1 h1 => wpLvs F ls ds σ1 h1 P
end
def exAt (Dn : En) (σ : DS) : DX := fun c fs h => Dn.ex c fs σ h
mutual
def wpS : Sm → En → DS → MH → Prop
  | .asg l e, Dn, σ, h => wpE Φ (exAt Dn σ) e σ h fun d h1 => wpLv Φ (exAt Dn) l d σ h1 Dn.nx
  | .aug i op e, Dn, σ, h => ∃ x, σ[i]? = some (some x) ∧ wpE Φ (exAt Dn σ) e σ h fun y h1 => augD op x y h1 fun z h2 => Dn.nx (σ.set i (some z)) h2
  | .ex e, Dn, σ, h => wpE Φ (exAt Dn σ) e σ h fun _ h1 => Dn.nx σ h1
  | .ret e, Dn, σ, h => wpE Φ (exAt Dn σ) e σ h Dn.rt
  | .retN, Dn, _, h => Dn.rt .non h
  | .ifs c a b, Dn, σ, h => wpT Φ (exAt Dn σ) c σ h fun k h1 => if k = true then wpB a Dn σ h1 else wpB b Dn σ h1
  | .for t it b, Dn, σ, h => wpI Φ (exAt Dn σ) it σ h fun J h1 => forGo t J.ok (wpB b) Dn J.its σ h1
  | .whl c b, Dn, σ, h => whlGo (fun σ h P => wpT Φ (exAt Dn σ) c σ h P) (wpB b) Dn σ h
  | .brk, Dn, σ, h => Dn.bk σ h
  | .cnt, Dn, σ, h => Dn.ct σ h
  | .pas, Dn, σ, h => Dn.nx σ h
  | .rai _ _, _, _, _ => False
def wpB : List Sm → En → DS → MH → Prop
  | [], Dn, σ, h => Dn.nx σ h
  | s :: r, Dn, σ, h => wpS s { Dn with nx := fun σ' h' => wpB r Dn σ' h' } σ h
end
end
/-- a def -/
structure Fn where
  n : Nat
  ar : Nat
  body : List Sm
def wpF (Φ : Fns) (f : Fn) (ds : List D) (h : MH) (Q : D → MH → Prop) (E : DX) : Prop :=
  ds.length = f.ar ∧ wpB Φ f.body ⟨fun _ h' => Q .non h', Q, fun _ _ => False, fun _ _ => False, fun c fs _ h' => E c fs h'⟩ (ds.map some ++ List.replicate (f.n - f.ar) none) h
/-- a whole text's defs, calls so deep -/
def Ph (prog : List Fn) : Nat → Fns
  | 0 => fun _ _ _ _ _ => False
  | d + 1 => fun f ds h Q E => ∃ fn, prog[f]? = some fn ∧ wpF (Ph prog d) fn ds h Q E
end DL
set_option Elab.async false
set_option linter.all false
set_option maxRecDepth 100000
set_option maxHeartbeats 1000000
/-! The D layer, 3: operations by values. -/
namespace DL
open PySem PySem.Spec PyProof.Rows L2

/-- an exception's own dict -/
def RepX (G : Gr) (h : MH) (H : Hp) (c : Nat) (fs : List (Str × D)) (cls : Value) (dd : Option Addr) : Prop :=
  cls = .ref (G.cl c) ∧ ((fs = [] ∧ dd = none) ∨ ∃ a gs, dd = some a ∧ H a = some (.xd gs) ∧ RepF G.K H fs gs ∧ h a = none)

/-- what follows a value -/
def Post (G : Gr) (h : MH) (H : Hp) (R : D → MH → Prop) (Q : VK) : Prop := ∀ d h' v H', R d h' → RepV G.K H' d v → RepH G h' H' → Fm h H h' H' → Q v H'
def lR2 (G : Gr) (w : D → D → MH → (D → MH → Prop) → Prop) : R2 := fun x y H Q => ∃ dx dy h R, RepV G.K H dx x ∧ RepV G.K H dy y ∧ RepH G h H ∧ w dx dy h R ∧ Post G h H R Q
def lC2 (G : Gr) (w : D → D → MH → (Bool → Prop) → Prop) : R2 := fun x y H Q => ∃ dx dy h P, RepV G.K H dx x ∧ RepV G.K H dy y ∧ RepH G h H ∧ w dx dy h P ∧ ∀ k, P k → Q (.bl k) H
def lTr (G : Gr) : V → Hp → (Bool → Hp → Prop) → Prop := fun x H Q => ∃ dx h P, RepV G.K H dx x ∧ RepH G h H ∧ tru dx h P ∧ ∀ k, P k → Q k H
def lBi (G : Gr) (w : List D → MH → (D → MH → Prop) → Prop) : List V → Hp → VK → Prop := fun xs H Q => ∃ ds h R, RepVs G.K H ds xs ∧ RepH G h H ∧ w ds h R ∧ Post G h H R Q
def lMt (G : Gr) (w : D → List D → MH → (D → MH → Prop) → Prop) : V → List V → Hp → VK → Prop := fun x xs H Q => ∃ d ds h R, RepV G.K H d x ∧ RepVs G.K H ds xs ∧ RepH G h H ∧ w d ds h R ∧ Post G h H R Q
def lSl (G : Gr) : V → Option Int → Option Int → Hp → VK → Prop := fun x lo hi H Q => ∃ dx h R, RepV G.K H dx x ∧ RepH G h H ∧ slD dx lo hi h R ∧ Post G h H R Q
def lSet (G : Gr) : V → V → V → Hp → (Hp → Prop) → Prop := fun o i v H Q => ∃ d1 d2 d3 h P, RepV G.K H d1 o ∧ RepV G.K H d2 i ∧ RepV G.K H d3 v ∧ RepH G h H ∧ setD d1 d2 d3 h P ∧ ∀ h' H', P h' → RepH G h' H' → Fm h H h' H' → Q H'

section
variable {G : Gr} {h : MH} {H : Hp} {R : D → MH → Prop} {Q : VK}
theorem Post.here (p : Post G h H R Q) (rh : RepH G h H) {d : D} {v : V} (q : R d h) (r : RepV G.K H d v) : Q v H := p d h v H q r rh Fm.refl
theorem Post.new (p : Post G h H R Q) (rh : RepH G h H) {ds : List D} {vs : List V} (q : al (.lst ds) h R) (r : RepVs G.K H ds vs) {l : Addr} (n : H l = none) : Q (.ref l) (L2.upd H l (.lst vs)) :=
  p _ _ _ _ (q l (rh.free n)) repV_ref (rh.newLst n r) (Fm.new n)
theorem Post.tup (p : Post G h H R Q) (rh : RepH G h H) {ds : List D} {vs : List V} (q : R (.tup ds) h) (r : RepVs G.K H ds vs) {l : Addr} (n : H l = none) : Q (.ref l) (L2.upd H l (.tup vs)) :=
  p _ _ _ _ q (RepV.tupNew n r) (rh.aside n) (Fm.aside n)
theorem Post.wr (p : Post G h H R Q) (rh : RepH G h H) {es ds : List D} {vs : List V} {d : D} {v : V} {l : Addr} (e : h l = some (.lst es)) (q : R d (up h l (.lst ds))) (r : RepVs G.K H ds vs) (rv : RepV G.K H d v) : Q v (L2.upd H l (.lst vs)) := by
  obtain ⟨us, z, _⟩ := rh l _ e
  exact p _ _ _ _ q (rv.mono (pst_wr z trivial)) (rh.wrLst e r) (Fm.write e)
theorem RepH.lst (rh : RepH G h H) {a : Addr} {ds : List D} (e : h a = some (.lst ds)) : ∃ vs, H a = some (.lst vs) ∧ RepVs G.K H ds vs := rh a _ e
theorem RepVs.nil_iff {K : PySem.W.Frag} {ds : List D} {vs : List V} (r : RepVs K H ds vs) : vs = [] ↔ ds = [] := by
  have e := r.length
  rw [← List.length_eq_zero_iff, ← List.length_eq_zero_iff, e]
theorem RepVs.isEmpty {K : PySem.W.Frag} {ds : List D} {vs : List V} (r : RepVs K H ds vs) : vs.isEmpty = ds.isEmpty := by
  cases ds with
  | nil => rw [r.nil_inv] <;> rfl
  | cons d ds => obtain ⟨v, s, rfl, _⟩ := r.cons_inv; rfl
end

section
variable {X : Cx} {G : Gr}
/-- an operation that is known by cases -/
theorem OpR.imp {f : Value → Value → Sem Value} {r r' : R2} (o : OpR X f r) (i : ∀ x y H Q, r' x y H Q → r x y H Q) : OpR X f r' :=
  fun pins s σ H x y v u Q I rx ry q => o pins s σ H x y v u Q I rx ry (i _ _ _ _ q)

theorem mulOk {i j : Int} (m : MulOk i j) : IntMulOk i j := by
  rcases m with m | m | ⟨m1, m2⟩
  · exact CMul.ok (.inl (by omega))
  · exact CMul.ok (.inr (by omega))
  · exact CMulW.ok (wide_mul m1 m2 (by decide) (by decide) (by decide))
theorem op_mulD : OpR X (binaryOp .Mult) (rI MulOk fun i j => .int (i * j)) := opI fun _ _ _ _ _ _ _ hc q => mul_int q (mulOk hc)
theorem op_divD : OpR X (binaryOp .FloorDiv) (rI (fun _ j => DivOk j) fun i j => .int (i / j)) :=
  OpR.imp op_fdivW fun x y H Q ⟨i, j, e1, e2, ⟨c1, c2⟩, q⟩ => ⟨i, j, e1, e2, wide_div (b := 8000) c1 c2 (by decide) (by decide), q⟩

theorem op_addD (hK : X.K = G.K) : OpR X (binaryOp .Add) (lR2 G (bop .Add)) := by
  refine OpR.imp (OpR.or op_add (OpR.or op_add_str (OpR.or op_catA op_cat))) fun x y H Q ⟨dx, dy, h, R, rx, ry, rh, w, p⟩ => ?_
  cases dx with
  | int i => cases dy with
    | int j => rw [rx.int_inv, ry.int_inv]; exact .inl ⟨i, j, rfl, rfl, p.here rh w repV_int⟩
    | _ => exact w.elim
  | str a => cases dy with
    | str b => rw [rx.str_inv, ry.str_inv]; exact .inr (.inl ⟨a, b, rfl, rfl, w.1, p.here rh w.2 repV_str⟩)
    | _ => exact w.elim
  | tup xs => cases dy with
    | tup ys =>
      obtain ⟨a, vs, rfl, sa, ra⟩ := repV_tup.mp rx
      obtain ⟨b, us, rfl, sb, rb⟩ := repV_tup.mp ry
      obtain ⟨w1, w2⟩ := w
      refine .inr (.inr (.inl ⟨a, b, vs, us, rfl, rfl, by rw [hK]; exact sa, by rw [hK]; exact sb, ?_, fun e => ?_, fun _ e => ?_, fun _ _ l n => p.tup rh w2 (ra.append rb) n⟩))
      · rw [ra.length, rb.length]; exact w1
      · rw [ra.nil_iff.mp e, List.nil_append] at w2
        exact p.here rh w2 ry
      · rw [rb.nil_iff.mp e, List.append_nil] at w2
        exact p.here rh w2 rx
    | _ => exact w.elim
  | ref a => cases dy with
    | ref b =>
      rw [rx.ref_inv, ry.ref_inv]
      obtain ⟨xs, ys, e1, e2, z, q⟩ := w
      obtain ⟨vs, g1, r1⟩ := rh.lst e1
      obtain ⟨us, g2, r2⟩ := rh.lst e2
      exact .inr (.inr (.inr ⟨a, b, vs, us, rfl, rfl, g1, g2, by rw [r1.length, r2.length]; exact z, fun l n => p.new rh q (r1.append r2) n⟩))
    | _ => exact w.elim
  | _ => cases dy <;> exact w.elim
theorem op_subD : OpR X (binaryOp .Sub) (lR2 G (bop .Sub)) := by
  refine OpR.imp op_sub fun x y H Q ⟨dx, dy, h, R, rx, ry, rh, w, p⟩ => ?_
  cases dx with
  | int i => cases dy with
    | int j => rw [rx.int_inv, ry.int_inv]; exact ⟨i, j, rfl, rfl, p.here rh w repV_int⟩
    | _ => exact w.elim
  | _ => cases dy <;> exact w.elim
theorem op_fdivD : OpR X (binaryOp .FloorDiv) (lR2 G (bop .FloorDiv)) := by
  refine OpR.imp op_divD fun x y H Q ⟨dx, dy, h, R, rx, ry, rh, w, p⟩ => ?_
  cases dx with
  | int i => cases dy with
    | int j => rw [rx.int_inv, ry.int_inv]; exact ⟨i, j, rfl, rfl, w.1, p.here rh w.2 repV_int⟩
    | _ => exact w.elim
  | _ => cases dy <;> exact w.elim
theorem op_modD : OpR X (binaryOp .Mod) (lR2 G (bop .Mod)) := by
  refine OpR.imp op_mod fun x y H Q ⟨dx, dy, h, R, rx, ry, rh, w, p⟩ => ?_
  cases dx with
  | int i => cases dy with
    | int j => rw [rx.int_inv, ry.int_inv]; exact ⟨i, j, rfl, rfl, w.1, p.here rh w.2 repV_int⟩
    | _ => exact w.elim
  | _ => cases dy <;> exact w.elim
theorem op_powD : OpR X (binaryOp .Pow) (lR2 G (bop .Pow)) := by
  refine OpR.imp op_pow fun x y H Q ⟨dx, dy, h, R, rx, ry, rh, w, p⟩ => ?_
  cases dx with
  | int i => cases dy with
    | int j => rw [rx.int_inv, ry.int_inv]; exact ⟨i, j, rfl, rfl, w.1, p.here rh w.2 repV_int⟩
    | _ => exact w.elim
  | _ => cases dy <;> exact w.elim
end
/-! tuple * int, where the tuple itself or an empty one is handed back -/
theorem tupMulSame (l : Addr) (its : Array Value) (n : Nat) (dd : Option Addr) (sl : Array (Option Value)) (x : Int) (u : Tok)
    (b0 : (decide (x < -(2 ^ 63)) || decide (x ≥ 2 ^ 63)) = false) (b1 : (its.isEmpty || x == 1) = true) :
    Meets (Builtin.«tuple.__mul__» ⟨[.ref l, .int x u], []⟩) (fun _ R s => s.heap.get? l = some { cls := .type "tuple", dict := dd, data := .seq its n, slots := sl } ∧ R (.ok (.ret (Value.ref l))) s) :=
  .of_wp fun prog w A R s h => by
    obtain ⟨hp, g, d, tk, os⟩ := s
    obtain ⟨hl, h⟩ := h
    have f1 := AutoSeq1.idx_int
    wp_walk using wpAny_loadPart' hl
    refine wpAny_ite_false (decide_eq_false (by rw [b0]; exact Bool.false_ne_true)) ?_
    wp_walk using wpAny_loadPart' hl
    exact ⟨_, rfl, h⟩
theorem tupMulNone (l : Addr) (its : Array Value) (n : Nat) (dd : Option Addr) (sl : Array (Option Value)) (x : Int) (u : Tok)
    (b0 : (decide (x < -(2 ^ 63)) || decide (x ≥ 2 ^ 63)) = false) (b1 : (its.isEmpty || x == 1) = false) (b2 : (decide (x ≤ 0) || its.isEmpty) = true) :
    Meets (Builtin.«tuple.__mul__» ⟨[.ref l, .int x u], []⟩) (fun _ R s => s.heap.get? l = some { cls := .type "tuple", dict := dd, data := .seq its n, slots := sl } ∧
      R (.ok (.ret (Value.ref s.heap.objs.size))) { s with heap := s.heap.push { cls := Value.type "tuple", data := Data.seq #[] }, toks := s.toks }) :=
  .of_wp fun prog w A R s h => by
    obtain ⟨hp, g, d, tk, os⟩ := s
    obtain ⟨hl, h⟩ := h
    have f1 := AutoSeq1.idx_int
    wp_walk using wpAny_loadPart' hl
    repeat (first
      | (refine wpAny_ite_false (decide_eq_false (by rw [b0]; exact Bool.false_ne_true)) ?_; wp_walk using wpAny_loadPart' hl)
      | (refine wpAny_ite_false (decide_eq_false (by rw [b1]; exact Bool.false_ne_true)) ?_; wp_walk using wpAny_loadPart' hl)
      | (refine wpAny_ite_true (decide_eq_true b2) ?_; wp_walk using wpAny_loadPart' hl))
    exact ⟨_, rfl, h⟩

section
variable {X : Cx} {G : Gr}
theorem op_repT0 : OpR X (binaryOp .Mult) (fun x y H Q => ∃ l k xs, x = .ref l ∧ y = .int k ∧ SqT X.K H l xs ∧ -(2 ^ 63) ≤ k ∧ k < 2 ^ 63 ∧ ((xs = [] ∨ k = 1) ∧ Q (.ref l) H ∨ (xs ≠ [] ∧ k ≤ 0 ∧ ∀ p, H p = none → Q (.ref p) (L2.upd H p (.tup []))))) := by
  intro pins s σ H x y v u Q I rx ry hq
  obtain ⟨l, k, xs, rfl, rfl, hT, h1, h2, q⟩ := hq
  cases rx
  obtain ⟨t, rfl⟩ := ry
  obtain ⟨its, r, ⟨⟨cls, dd, data, sl⟩, ho, hc, n, hd⟩, hs⟩ := I.tuple hT
  simp only at hc hd
  subst hc hd
  have hle : its.length = xs.length := r.length.symm
  have b0 : (decide (k < -(2 ^ 63)) || decide (k ≥ 2 ^ 63)) = false := by
    rw [decide_eq_false (by omega), decide_eq_false (by omega)] <;> rfl
  rcases q with ⟨c, q⟩ | ⟨c1, c2, q⟩
  · have b1 : (its.toArray.isEmpty || k == 1) = true := by
      rcases c with c | c
      · have : its = [] := List.eq_nil_of_length_eq_zero (by rw [hle, c]; rfl)
        rw [this]; rfl
      · rw [c]; simp
    refine wpAny_binaryOp_repeat_ref (T := "tuple") (U := "int") (by decide) ⟨_, ho, rfl⟩ (fun s' => typeIs_int s' k t) noFill_tuple_mul F.fills_int_mul F.slot_int_rmul repeat_tuple F.slot_int_index.lookup
      (call_meets F.slot_int_rmul (typeIs_int s k t) F.entry_int_rmul (F.args_int_rmul_2 _ _) (int_rmul_tuple k t l its.toArray n dd sl)
        ⟨ho, rfl, ⟨_, ho, rfl⟩, call_meets F.slot_tuple_mul ⟨_, ho, rfl⟩ F.entry_tuple_mul (F.args_tuple_mul_2 _ _) (tupMulSame l its.toArray n dd sl k t b0 b1) ⟨ho, ?_⟩⟩)
    exact ⟨.ref l, H, I, rfl, q⟩
  · have hn : its ≠ [] := fun e => c1 (List.eq_nil_of_length_eq_zero (by rw [← hle, e]; rfl))
    have b1 : (its.toArray.isEmpty || k == 1) = false := by
      have : its.toArray.isEmpty = false := by cases its with
        | nil => exact absurd rfl hn
        | cons a b => rfl
      rw [this, Bool.false_or]
      exact beq_eq_false_iff_ne.mpr (by omega)
    refine wpAny_binaryOp_repeat_ref (T := "tuple") (U := "int") (by decide) ⟨_, ho, rfl⟩ (fun s' => typeIs_int s' k t) noFill_tuple_mul F.fills_int_mul F.slot_int_rmul repeat_tuple F.slot_int_index.lookup
      (call_meets F.slot_int_rmul (typeIs_int s k t) F.entry_int_rmul (F.args_int_rmul_2 _ _) (int_rmul_tuple k t l its.toArray n dd sl)
        ⟨ho, rfl, ⟨_, ho, rfl⟩, call_meets F.slot_tuple_mul ⟨_, ho, rfl⟩ F.entry_tuple_mul (F.args_tuple_mul_2 _ _) (tupMulNone l its.toArray n dd sl k t b0 b1 (by rw [decide_eq_true c2]; rfl)) ⟨ho, ?_⟩⟩)
    refine ⟨.ref s.heap.objs.size, _, I.laid (t' := s.toks) (o := .tup []) (fun b ob z => Heap.get?_push_of_some _ z) (Nat.le_refl _) ?_, rfl, q _ (I.hok.fresh (Nat.le_refl _))⟩
    exact ⟨Nat.zero_le _, [], .nil, IsTup.new _ _⟩
theorem op_mulAllD (hK : X.K = G.K) : OpR X (binaryOp .Mult) (lR2 G (bop .Mult)) := by
  refine OpR.imp (OpR.or op_mulD (OpR.or op_rep (OpR.or op_repT op_repT0))) fun x y H Q ⟨dx, dy, h, R, rx, ry, rh, w, p⟩ => ?_
  cases dx with
  | int i => cases dy with
    | int j => rw [rx.int_inv, ry.int_inv]; exact .inl ⟨i, j, rfl, rfl, w.1, p.here rh w.2 repV_int⟩
    | _ => exact w.elim
  | ref a => cases dy with
    | int k =>
      rw [rx.ref_inv, ry.int_inv]
      obtain ⟨xs, e1, z, f, q⟩ := w
      obtain ⟨vs, g1, r1⟩ := rh.lst e1
      exact .inr (.inl ⟨a, k, vs, rfl, rfl, g1, z.1, z.2, by rw [r1.length]; exact f, fun l n => p.new rh q (r1.flat _) n⟩)
    | _ => exact w.elim
  | tup ds => cases dy with
    | int k =>
      obtain ⟨a, vs, rfl, sa, ra⟩ := repV_tup.mp rx
      rw [ry.int_inv]
      obtain ⟨z, f, q⟩ := w
      by_cases c0 : vs = [] ∨ k = 1
      · refine .inr (.inr (.inr ⟨a, k, vs, rfl, rfl, by rw [hK]; exact sa, z.1, z.2, .inl ⟨c0, ?_⟩⟩))
        have e : (List.replicate k.toNat ds).flatten = ds := by
          rcases c0 with c | c
          · rw [ra.nil_iff.mp c]; simp
          · rw [c]; simp
        rw [e] at q
        exact p.here rh q rx
      · by_cases c1 : k ≤ 0
        · refine .inr (.inr (.inr ⟨a, k, vs, rfl, rfl, by rw [hK]; exact sa, z.1, z.2, .inr ⟨fun e => c0 (.inl e), c1, fun l n => ?_⟩⟩))
          have e : (List.replicate k.toNat ds).flatten = [] := by rw [show k.toNat = 0 from by omega] <;> rfl
          rw [e] at q
          exact p.tup rh q repVs_nil n
        · exact .inr (.inr (.inl ⟨a, k, vs, rfl, rfl, by rw [hK]; exact sa, fun e => c0 (.inl e), by omega, f.1, by rw [ra.length]; exact f.2, fun l n => p.tup rh q (ra.flat _) n⟩))
    | _ => exact w.elim
  | _ => cases dy <;> exact w.elim
theorem op_binD (hK : X.K = G.K) (op : Operator) : OpR X (binaryOp op) (lR2 G (bop op)) := by
  cases op with
  | Add => exact op_addD hK
  | Sub => exact op_subD
  | Mult => exact op_mulAllD hK
  | FloorDiv => exact op_fdivD
  | Mod => exact op_modD
  | Pow => exact op_powD
  | _ =>
    intro pins s σ H x y v u Q I rx ry ⟨dx, dy, h, R, _, _, _, w, _⟩
    cases dx <;> cases dy <;> exact w.elim
end
end DL
set_option Elab.async false
set_option linter.all false
set_option maxRecDepth 100000
set_option maxHeartbeats 1000000
/-! The D layer, 4: data, comparisons, truth, subscripts, slices, stores. -/
namespace DL
open PySem PySem.Spec PyProof.Rows L2

structure Ok (X : Cx) (G : Gr) : Prop where
  k : X.K = G.K
  nd : X.N.Nodup
  gd : X.A.guards = some []
  hu : X.A.units + 100 < cLine
  sy : ∃ o, X.base.get? sysModules = some o ∧ o.cls = .type "dict"

section
variable {X : Cx} {G : Gr} {pins : List (Addr × Obj)} {σ : L2.St} {H : Hp} {h : MH} {s : Shared}
theorem readsAll_of {P : D → PyData → Prop} {hp : Heap} : ∀ {ds : List D} {ts : List PyData} {vs : List V} {us : List Value},
    ts.length = ds.length → RepVs G.K H ds vs → Vals vs us →
    (∀ (i : Nat) d t v u, ds[i]? = some d → ts[i]? = some t → RepV G.K H d v → RelV v u → ∃ as, Reads hp u t as ∧ sysModules ∉ as) → ∃ as, ReadsAll hp us ts as ∧ sysModules ∉ as
  | [], ts, vs, us, hl, r, rv, _ => by
    rw [r.nil_inv] at rv
    cases rv
    have : ts = [] := List.eq_nil_of_length_eq_zero hl
    subst this
    exact ⟨[], .nil, by simp⟩
  | d :: ds, [], vs, us, hl, r, rv, _ => by simp at hl
  | d :: ds, t :: ts, vs, us, hl, r, rv, f => by
    obtain ⟨v, vr, rfl, r1, r2⟩ := r.cons_inv
    cases rv with
    | cons q1 q2 =>
      obtain ⟨as, a1, a2⟩ := f 0 d t v _ rfl rfl r1 q1
      obtain ⟨bs, b1, b2⟩ := readsAll_of (P := P) (ds := ds) (ts := ts) (by simpa using hl) r2 q2 fun i d t v u e1 e2 => f (i + 1) d t v u (by simpa using e1) (by simpa using e2)
      exact ⟨as ++ bs, .cons a1 b1, by simp [a2, b2]⟩
theorem Inv.noSys (I : Inv X pins σ H s) (ok : Ok X G) {a : Addr} {o : Obj} (e : s.heap.get? a = some o) (c : o.cls = .type "list") : sysModules ≠ a := fun z => by
  obtain ⟨ob, e1, e2⟩ := ok.sy
  have := I.bk _ _ e1
  rw [z, e] at this
  cases this
  rw [c] at e2
  exact absurd e2 (by decide)
theorem den_reads (I : Inv X pins σ H s) (ok : Ok X G) (rh : RepH G h H) {d : D} {t : PyData} (q : Den h d t) : ∀ {v : V} {u : Value}, RepV G.K H d v → RelV v u → ∃ as, Reads s.heap u t as ∧ sysModules ∉ as := by
  induction q with
  | non => intro v u r rv; rw [r.non_inv] at rv; cases rv; exact ⟨_, .none, by simp⟩
  | bl b => intro v u r rv; rw [r.bl_inv] at rv; cases rv; exact ⟨_, .bool b, by simp⟩
  | int i => intro v u r rv; rw [r.int_inv] at rv; obtain ⟨tk, rfl⟩ := rv; exact ⟨_, .int i tk, by simp⟩
  | str x => intro v u r rv; rw [r.str_inv] at rv; obtain ⟨tk, rfl⟩ := rv; exact ⟨_, .str x tk, by simp⟩
  | @tup ds ts hl hs ih =>
    intro v u r rv
    obtain ⟨a, vs, rfl, sq, rs⟩ := repV_tup.mp r
    cases rv
    obtain ⟨its, r1, ⟨o, ho, hc, n, hd⟩, _⟩ := I.tuple (by rw [ok.k]; exact sq)
    obtain ⟨as, a1, a2⟩ := readsAll_of (P := fun _ _ => True) hl rs r1 fun i d t v u e1 e2 => ih i d t e1 e2
    exact ⟨_, .tuple ho hc hd (by simpa using a1), a2⟩
  | @lst a ds ts ha hl hs ih =>
    intro v u r rv
    rw [r.ref_inv] at rv
    cases rv
    obtain ⟨vs, g, rs⟩ := rh.lst ha
    obtain ⟨z, its, n, r1, e⟩ := I.hok a _ g
    obtain ⟨as, a1, a2⟩ := readsAll_of (P := fun _ _ => True) hl rs r1 fun i d t v u e1 e2 => ih i d t e1 e2
    exact ⟨_, .list e rfl rfl (by simpa using a1), by simp [a2, Inv.noSys I ok e rfl]⟩
  | @dct0 a ha =>
    intro v u r rv
    rw [r.ref_inv] at rv
    cases rv
    obtain ⟨ks, g, rs⟩ := rh a _ ha
    have e0 : ks = [] := rs
    subst e0
    obtain ⟨z, ns, vs, r1, o, es, ep, ho, hx, hd, _, hes, _⟩ := I.hok a _ g
    have ev : vs = [] := by cases r1; rfl
    subst ev
    have ee : es = #[] := by
      have : es.toList = [] := by
        have z2 := hes
        generalize es.toList = l at z2
        cases z2
        rfl
      exact Array.toList_inj.mp (by simpa using this)
    subst ee
    exact ⟨_, .dict (kvs := []) ho hx.1 hd .nil .nil, by simpa using (beq_eq_false_iff_ne.mp ns).symm⟩
end

section
variable {X : Cx} {G : Gr}
/-- ==, != -/
theorem flatToV {K : PySem.W.Frag} {H : Hp} {d : D} {v : V} (f : flat d = true) (r : RepV K H d v) : v = toV d ∧ flatV v = true := by
  cases d with
  | non => rw [r.non_inv]; exact ⟨rfl, rfl⟩
  | bl b => rw [r.bl_inv]; exact ⟨rfl, rfl⟩
  | int b => rw [r.int_inv]; exact ⟨rfl, rfl⟩
  | str b => rw [r.str_inv]; exact ⟨rfl, rfl⟩
  | _ => exact absurd (show false = true from f) Bool.false_ne_true
theorem flatsToV {K : PySem.W.Frag} {H : Hp} : ∀ {ds : List D} {vs : List V}, ds.all flat = true → RepVs K H ds vs → vs = ds.map toV ∧ vs.all flatV = true
  | [], vs, _, r => by rw [r.nil_inv]; exact ⟨rfl, rfl⟩
  | d :: ds, vs, f, r => by
    obtain ⟨v, vr, rfl, r1, r2⟩ := r.cons_inv
    rw [List.all_cons, Bool.and_eq_true] at f
    obtain ⟨e1, f1⟩ := flatToV f.1 r1
    obtain ⟨e2, f2⟩ := flatsToV f.2 r2
    exact ⟨by rw [e1, e2]; rfl, by rw [List.all_cons, f1, f2]; rfl⟩
theorem inV_eq (x : D) (ys : List D) : inV (toV x) (ys.map toV) = inD x ys := by
  unfold inV inD
  rw [List.any_map]
  rfl
theorem op_eqDD (ok : Ok X G) (neg : Bool) : OpR X (compareOp (if neg then .NotEq else .Eq)) (lC2 G fun x y h P => eqD x y h fun k => P (if neg then !k else k)) := by
  intro pins s σ H x y v u Q I rx ry hq
  obtain ⟨dx, dy, h, P, r1, r2, rh, w, p⟩ := hq
  have fin : ∀ (a b : V) (k : Bool), x = a → y = b → scal a b = true → decide (a = b) = k → P (if neg then !k else k) → wpAny (model X.prog X.w) X.A (compareOp (if neg then .NotEq else .Eq) v u) (EP X pins σ Q) X.xe s := by
    intro a b k ea eb sc ek q
    subst ea eb
    cases neg with
    | true => exact op_ne pins s σ H x y v u Q I rx ry ⟨sc, by rw [ek]; exact p _ q⟩
    | false => exact op_eq pins s σ H x y v u Q I rx ry ⟨sc, by rw [ek]; exact p _ q⟩
  have deep : deepEq dx dy h (fun k => P (if neg then !k else k)) → wpAny (model X.prog X.w) X.A (compareOp (if neg then .NotEq else .Eq) v u) (EP X pins σ Q) X.xe s := by
    rintro ⟨t, t2, e1, e2, s1, s2, q⟩
    obtain ⟨as, a1, _⟩ := den_reads I ok rh e1 r1 rx
    obtain ⟨bs, b1, _⟩ := den_reads I ok rh e2 r2 ry
    have hu : X.A.units + 64 < cLine := by have := ok.hu; omega
    cases neg with
    | true => exact SeqAt.compareNe_shaped a1 b1 s1 s2 hu ⟨.bl _, H, I, rfl, p _ q⟩
    | false => exact SeqAt.compareEq_shaped a1 b1 s1 s2 hu ⟨.bl _, H, I, rfl, p _ q⟩
  cases dx with
  | int i => cases dy with
    | int j => exact fin _ _ _ r1.int_inv r2.int_inv rfl (by simp) w
    | _ => exact deep w
  | str i => cases dy with
    | str j => exact fin _ _ _ r1.str_inv r2.str_inv rfl (by simp) w
    | _ => exact deep w
  | non => cases dy with
    | non => exact fin _ _ _ r1.non_inv r2.non_inv rfl (by simp) w
    | _ => exact deep w
  | bl i => cases dy with
    | bl j => exact fin _ _ _ r1.bl_inv r2.bl_inv rfl (by simp) w
    | _ => exact deep w
  | ref i => cases dy with
    | ref j =>
      rcases w with w | ⟨xs, ys, e1, e2, hn, q⟩
      · exact deep w
      · obtain ⟨vs, g1, w1⟩ := (show ∃ vs, H i = some (.lst vs) ∧ RepVs G.K H xs vs from rh i _ e1)
        obtain ⟨us, g2, w2⟩ := (show ∃ vs, H j = some (.lst vs) ∧ RepVs G.K H ys vs from rh j _ e2)
        rw [r1.ref_inv] at rx
        rw [r2.ref_inv] at ry
        cases rx
        cases ry
        obtain ⟨its, v1, p1, _⟩ := I.list (.of g1)
        obtain ⟨its2, v2, p2, _⟩ := I.list (.of g2)
        have hs : (its.toArray.size != its2.toArray.size) = true := by
          have z1 := v1.length
          have z2 := v2.length
          rw [w1.length] at z1
          rw [w2.length] at z2
          refine bne_iff_ne.mpr ?_
          simp only [List.size_toArray]
          omega
        have hu : X.A.units < cLine := by have := ok.hu; omega
        cases neg with
        | true => exact SeqAt.RcNeAt.lists_lengths p1.isList p2.isList hs hu X.prog X.w X.xe _ ⟨.bl _, H, I, rfl, p _ q⟩
        | false => exact SeqAt.RcAt.lists_lengths p1.isList p2.isList hs hu X.prog X.w X.xe _ ⟨.bl _, H, I, rfl, p _ q⟩
    | _ => exact deep w
  | _ => cases dy <;> exact deep w
theorem op_eqAllD (ok : Ok X G) : OpR X (compareOp .Eq) (lC2 G (cop .Eq)) := op_eqDD ok false
theorem op_neAllD (ok : Ok X G) : OpR X (compareOp .NotEq) (lC2 G (cop .NotEq)) := op_eqDD ok true
theorem ordD {op : CmpOp} {g : Int → Int → Bool} (o : OpR X (compareOp op) (rI0 fun i j => .bl (g i j))) (hc : ∀ x y h P, cop op x y h P → ∃ i j, x = .int i ∧ y = .int j ∧ P (g i j)) : OpR X (compareOp op) (lC2 G (cop op)) := by
  refine OpR.imp o fun x y H Q ⟨dx, dy, h, P, r1, r2, rh, w, p⟩ => ?_
  obtain ⟨i, j, rfl, rfl, q⟩ := hc _ _ _ _ w
  rw [r1.int_inv, r2.int_inv]
  exact ⟨i, j, rfl, rfl, p _ q⟩
theorem op_isD : OpR X (compareOp .Is) (lC2 G (cop .Is)) := by
  refine OpR.imp (OpR.or op_isN op_isBl) fun x y H Q ⟨dx, dy, h, P, r1, r2, rh, w, p⟩ => ?_
  cases dy with
  | non =>
    rw [r2.non_inv]
    refine .inl ⟨rfl, ?_⟩
    cases dx with
    | non => rw [r1.non_inv]; exact p _ w
    | bl b => rw [r1.bl_inv]; exact p _ w
    | int b => rw [r1.int_inv]; exact p _ w
    | str b => rw [r1.str_inv]; exact p _ w
    | ref b => rw [r1.ref_inv]; exact p _ w
    | tup b => obtain ⟨a, vs, e, _⟩ := repV_tup.mp r1; rw [e]; exact p _ w
    | scr b => obtain ⟨a, vs, e, _⟩ := repV_scr.mp r1; rw [e]; exact p _ w
  | bl b => cases dx with
    | bl a => rw [r1.bl_inv, r2.bl_inv]; exact .inr ⟨a, b, rfl, rfl, p _ w⟩
    | _ => exact w.elim
  | _ => cases dx <;> exact w.elim
theorem op_isnotD : OpR X (compareOp .IsNot) (lC2 G (cop .IsNot)) := by
  refine OpR.imp (OpR.or op_notN op_notBl) fun x y H Q ⟨dx, dy, h, P, r1, r2, rh, w, p⟩ => ?_
  cases dy with
  | non =>
    rw [r2.non_inv]
    refine .inl ⟨rfl, ?_⟩
    cases dx with
    | non => rw [r1.non_inv]; exact p _ w
    | bl b => rw [r1.bl_inv]; exact p _ w
    | int b => rw [r1.int_inv]; exact p _ w
    | str b => rw [r1.str_inv]; exact p _ w
    | ref b => rw [r1.ref_inv]; exact p _ w
    | tup b => obtain ⟨a, vs, e, _⟩ := repV_tup.mp r1; rw [e]; exact p _ w
    | scr b => obtain ⟨a, vs, e, _⟩ := repV_scr.mp r1; rw [e]; exact p _ w
  | bl b => cases dx with
    | bl a => rw [r1.bl_inv, r2.bl_inv]; exact .inr ⟨a, b, rfl, rfl, p _ w⟩
    | _ => exact w.elim
  | _ => cases dx <;> exact w.elim
end

/-! ### dicts -/
section
variable {K : PySem.W.Frag} {H : Hp}
theorem RepF.look {k : Key} : ∀ {kvs : List (Key × D)} {ks : List (Key × V)}, RepF K H kvs ks → ∀ {d : D}, getK kvs k = some d → ∃ v, valV ks k = some v ∧ RepV K H d v
  | [], _, _, d, e => by simp [getK] at e
  | (k', x) :: r, ks, q, d, e => by
    obtain ⟨v, s, rfl, r1, r2⟩ := q
    unfold getK at e
    unfold valV
    rw [List.find?_cons] at e ⊢
    by_cases z : k' = k
    · rw [decide_eq_true z] at e ⊢
      simp only [Option.map_some, Option.some.injEq] at e ⊢
      subst e
      exact ⟨v, rfl, r1⟩
    · rw [decide_eq_false z] at e ⊢
      exact RepF.look r2 e
theorem RepF.lookN {k : Key} : ∀ {kvs : List (Key × D)} {ks : List (Key × V)}, RepF K H kvs ks → getK kvs k = none → valV ks k = none
  | [], _, q, e => by rw [show _ = [] from q] <;> rfl
  | (k', x) :: r, ks, q, e => by
    obtain ⟨v, s, rfl, r1, r2⟩ := q
    unfold getK at e
    unfold valV
    rw [List.find?_cons] at e ⊢
    by_cases z : k' = k
    · rw [decide_eq_true z] at e
      simp at e
    · rw [decide_eq_false z] at e ⊢
      exact RepF.lookN r2 e
theorem RepF.any {k : Key} : ∀ {kvs : List (Key × D)} {ks : List (Key × V)}, RepF K H kvs ks → (ks.any fun kv => decide (kv.1 = k)) = (kvs.any fun kv => decide (kv.1 = k))
  | [], _, q => by rw [show _ = [] from q] <;> rfl
  | (k', x) :: r, ks, q => by
    obtain ⟨v, s, rfl, r1, r2⟩ := q
    rw [List.any_cons, List.any_cons, RepF.any r2]
theorem RepF.snoc {κ : Type} {k : κ} {d : D} {v : V} (rv : RepV K H d v) : ∀ {kvs : List (κ × D)} {ks : List (κ × V)}, RepF K H kvs ks → RepF K H (kvs ++ [(k, d)]) (ks ++ [(k, v)])
  | [], _, q => by rw [show _ = [] from q]; exact ⟨v, [], rfl, rv, rfl⟩
  | (k', x) :: r, ks, q => by
    obtain ⟨u, s, rfl, r1, r2⟩ := q
    exact ⟨u, _, rfl, r1, RepF.snoc rv r2⟩
theorem RepF.mapPut {k : Key} {d : D} {v : V} (rv : RepV K H d v) : ∀ {kvs : List (Key × D)} {ks : List (Key × V)}, RepF K H kvs ks →
    RepF K H (kvs.map fun kv => if kv.1 = k then (kv.1, d) else kv) (ks.map fun kv => if kv.1 = k then (kv.1, v) else kv)
  | [], _, q => by rw [show _ = [] from q]; exact rfl
  | (k', x) :: r, ks, q => by
    obtain ⟨u, s, rfl, r1, r2⟩ := q
    rw [List.map_cons, List.map_cons]
    by_cases z : k' = k
    · rw [if_pos z, if_pos z]; exact ⟨v, _, rfl, rv, RepF.mapPut rv r2⟩
    · rw [if_neg z, if_neg z]; exact ⟨u, _, rfl, r1, RepF.mapPut rv r2⟩
theorem RepF.put {k : Key} {d : D} {v : V} {kvs : List (Key × D)} {ks : List (Key × V)} (q : RepF K H kvs ks) (rv : RepV K H d v) : RepF K H (putK kvs k d) (L2.putK ks k v) := by
  unfold putK L2.putK
  rw [q.any]
  by_cases z : (kvs.any fun kv => decide (kv.1 = k)) = true
  · rw [if_pos z, if_pos z]; exact q.mapPut rv
  · rw [if_neg z, if_neg z]; exact q.snoc rv
theorem keyD_rep {d : D} {k : Key} {v : V} (e : keyD d = some k) (r : RepV K H d v) : v = kV k := by
  cases d with
  | int i => rw [r.int_inv]; cases e; rfl
  | str i => rw [r.str_inv]; cases e; rfl
  | _ => cases e
end

section
variable {X : Cx} {G : Gr}
theorem in_dictR (hu : X.A.units + 1 < cLine) (neg : Bool) : OpR X (compareOp (if neg then .NotIn else .In)) (fun x y H Q => ∃ a o, y = .ref a ∧ DGet H a x o ∧ Q (.bl (if neg then !o.isSome else o.isSome)) H) := by
  intro pins s σ H x y v u Q I rx ry ⟨a, o, e, g, q⟩
  subst e
  cases ry
  cases neg with
  | true => exact d_notIn hu I g rx fun s3 I3 => ⟨.bl _, H, I3, rfl, q⟩
  | false => exact d_in hu I g rx fun s3 I3 => ⟨.bl _, H, I3, rfl, q⟩
theorem RepH.dct {h : MH} {H : Hp} (rh : RepH G h H) {a : Addr} {kvs : List (Key × D)} (e : h a = some (.dct kvs)) : ∃ ks, H a = some (.dK ks) ∧ RepF G.K H kvs ks := rh a _ e
theorem op_inDD (ok : Ok X G) (neg : Bool) : OpR X (compareOp (if neg then .NotIn else .In)) (lC2 G fun x y h P => inOp x y h fun k => P (if neg then !k else k)) := by
  have hu : X.A.units + 1 < cLine := by have := ok.hu; omega
  intro pins s σ H x y v u Q I rx ry hq
  obtain ⟨dx, dy, h, P, r1, r2, rh, w, p⟩ := hq
  have seq : ∀ (q : Addr) (ds : List D) (vs : List V), y = .ref q → (SqL X.K H q vs ∨ SqT X.K H q vs) → RepVs G.K H ds vs → flat dx = true → ds.all flat = true → P (if neg then !(inD dx ds) else inD dx ds) →
      wpAny (model X.prog X.w) X.A (compareOp (if neg then .NotIn else .In) v u) (EP X pins σ Q) X.xe s := by
    intro q ds vs ey sq rs f1 f2 z
    obtain ⟨e1, g1⟩ := flatToV f1 r1
    obtain ⟨e2, g2⟩ := flatsToV f2 rs
    have e3 : inV x vs = inD dx ds := by rw [e1, e2, inV_eq]
    cases neg with
    | true => exact op_notIn_seq pins s σ H x y v u Q I rx ry ⟨q, vs, ey, sq, g1, g2, by rw [e3]; exact p _ z⟩
    | false => exact op_in_seq pins s σ H x y v u Q I rx ry ⟨q, vs, ey, sq, g1, g2, by rw [e3]; exact p _ z⟩
  have tup : ∀ ys, dy = .tup ys → flat dx = true → ys.all flat = true → P (if neg then !(inD dx ys) else inD dx ys) →
      wpAny (model X.prog X.w) X.A (compareOp (if neg then .NotIn else .In) v u) (EP X pins σ Q) X.xe s := by
    intro ys e f1 f2 z
    subst e
    obtain ⟨a, vs, ea, sq, rs⟩ := repV_tup.mp r2
    exact seq a ys vs ea (.inr (by rw [ok.k]; exact sq)) rs f1 f2 z
  have ref : ∀ a, dy = .ref a → ((∃ ys, h a = some (.lst ys) ∧ flat dx = true ∧ ys.all flat = true ∧ P (if neg then !(inD dx ys) else inD dx ys)) ∨ (∃ kvs k, h a = some (.dct kvs) ∧ keyD dx = some k ∧ P (if neg then !(getK kvs k).isSome else (getK kvs k).isSome))) →
      wpAny (model X.prog X.w) X.A (compareOp (if neg then .NotIn else .In) v u) (EP X pins σ Q) X.xe s := by
    intro a e z
    subst e
    rcases z with ⟨ys, e1, f1, f2, z⟩ | ⟨kvs, k, e1, ek, z⟩
    · obtain ⟨vs, g, rs⟩ := rh.lst e1
      exact seq a ys vs r2.ref_inv (.inl (SqL.of g)) rs f1 f2 z
    · obtain ⟨ks, g, rk⟩ := rh.dct e1
      have ex := keyD_rep ek r1
      refine in_dictR hu neg pins s σ H x y v u Q I rx ry ⟨a, valV ks k, r2.ref_inv, by rw [ex]; exact DGet.k g, ?_⟩
      have es : (valV ks k).isSome = (getK kvs k).isSome := by
        cases q : getK kvs k with
        | none => rw [rk.lookN q] <;> rfl
        | some d => obtain ⟨v', q', _⟩ := rk.look q; rw [q'] <;> rfl
      rw [es]
      exact p _ z
  cases dy with
  | str b => cases dx with
    | str a =>
      cases neg with
      | true => exact op_notIn_str pins s σ H x y v u Q I rx ry ⟨a, b, r1.str_inv, r2.str_inv, p _ w⟩
      | false => exact op_in_str pins s σ H x y v u Q I rx ry ⟨a, b, r1.str_inv, r2.str_inv, p _ w⟩
    | _ => exact w.elim
  | tup ys => cases dx <;> exact tup ys rfl w.1 w.2.1 w.2.2
  | ref a => cases dx <;> exact ref a rfl w
  | _ => cases dx <;> exact w.elim
theorem op_cmpD (ok : Ok X G) (op : CmpOp) : OpR X (compareOp op) (lC2 G (cop op)) := by
  cases op with
  | Eq => exact op_eqAllD ok
  | NotEq => exact op_neAllD ok
  | Lt => exact ordD op_lt fun x y h P q => by cases x <;> cases y <;> first | exact ⟨_, _, rfl, rfl, q⟩ | exact (show False from q).elim
  | LtE => exact ordD op_le fun x y h P q => by cases x <;> cases y <;> first | exact ⟨_, _, rfl, rfl, q⟩ | exact (show False from q).elim
  | Gt => exact ordD op_gt fun x y h P q => by cases x <;> cases y <;> first | exact ⟨_, _, rfl, rfl, q⟩ | exact (show False from q).elim
  | GtE => exact ordD op_ge fun x y h P q => by cases x <;> cases y <;> first | exact ⟨_, _, rfl, rfl, q⟩ | exact (show False from q).elim
  | Is => exact op_isD
  | IsNot => exact op_isnotD
  | In => exact op_inDD ok false
  | NotIn => exact op_inDD ok true
/-- truth -/
theorem tru_of {h : MH} {H : Hp} (hK : X.K = G.K) {d : D} {v : V} {P : Bool → Prop} (r : RepV G.K H d v) (rh : RepH G h H) (q : tru d h P) : ∃ k, TruV X.K v H k ∧ P k := by
  cases d with
  | non => rw [r.non_inv]; exact ⟨_, rfl, q⟩
  | bl b => rw [r.bl_inv]; exact ⟨_, rfl, q⟩
  | int b => rw [r.int_inv]; exact ⟨_, rfl, q⟩
  | str b => rw [r.str_inv]; exact ⟨_, ⟨q.1, rfl⟩, q.2⟩
  | tup ds =>
    obtain ⟨a, vs, rfl, sq, rs⟩ := repV_tup.mp r
    exact ⟨_, .inr (.inl ⟨vs, by rw [hK]; exact sq, rfl⟩), by rw [rs.isEmpty]; exact q⟩
  | scr ds =>
    obtain ⟨a, vs, rfl, sq, rs⟩ := repV_scr.mp r
    exact ⟨_, .inl ⟨vs, by rw [hK]; exact sq.sq, rfl⟩, by rw [rs.isEmpty]; exact q⟩
  | ref a =>
    rw [r.ref_inv]
    obtain ⟨ds, e, q⟩ := q
    obtain ⟨vs, g, rs⟩ := rh.lst e
    exact ⟨_, .inl ⟨vs, SqL.of g, rfl⟩, by rw [rs.isEmpty]; exact q⟩
/-- x[i] -/
theorem atI_rep {K : PySem.W.Frag} {H : Hp} {ds : List D} {vs : List V} {i : Int} {d : D} (r : RepVs K H ds vs) (e : atI ds i = some d) : ∃ v, atI vs i = some v ∧ RepV K H d v := by
  unfold atI at e ⊢
  rw [r.length]
  cases q : ixN ds.length i with
  | none => rw [q] at e; cases e
  | some j =>
    rw [q] at e
    exact r.get e
theorem ixdR (hu : X.A.units + 1 < cLine) : IxR X (fun x y H Q => ∃ a v, x = .ref a ∧ DGet H a y (some v) ∧ Q v H) := by
  intro value slice pins s σ H x y v u Q I rx ry ⟨a, z, e, g, q⟩ hs
  subst e
  cases rx
  exact tail_any (dict_typeIs I g) PySem.F.slot_dict_getitem.lookup (d_getItem hu I g ry fun w' s3 I3 rw' => ⟨z, H, I3, rw', q⟩) hs
theorem IxR.imp {r r' : R2} (o : IxR X r) (i : ∀ x y H Q, r' x y H Q → r x y H Q) : IxR X r' := fun value slice pins s σ H x y v u Q I rx ry q => o value slice pins s σ H x y v u Q I rx ry (i _ _ _ _ q)
theorem ix_D (ok : Ok X G) : IxR X (lR2 G ixD) := by
  have hu : X.A.units + 1 < cLine := by have := ok.hu; omega
  refine IxR.imp (IxR.or ix_seq (ixdR hu)) fun x y H Q ⟨dx, dy, h, R, rx, ry, rh, w, p⟩ => ?_
  cases dx with
  | tup ds => cases dy with
    | int i =>
      obtain ⟨a, vs, rfl, sq, rs⟩ := repV_tup.mp rx
      obtain ⟨d, e, q⟩ := w
      obtain ⟨v, e', rv⟩ := atI_rep rs e
      exact .inl (.inr (.inl ⟨a, vs, i, v, rfl, ry.int_inv, by rw [ok.k]; exact sq, e', p.here rh q rv⟩))
    | _ => exact w.elim
  | scr ds => cases dy with
    | int i =>
      obtain ⟨a, vs, rfl, sq, rs⟩ := repV_scr.mp rx
      obtain ⟨d, e, q⟩ := w
      obtain ⟨v, e', rv⟩ := atI_rep rs e
      exact .inl (.inl ⟨a, vs, i, v, rfl, ry.int_inv, by rw [ok.k]; exact sq.sq, e', p.here rh q rv⟩)
    | _ => exact w.elim
  | str z => cases dy with
    | int i =>
      obtain ⟨f, c, e, q⟩ := w
      exact .inl (.inr (.inr ⟨z, i, c, rx.str_inv, ry.int_inv, f, e, p.here rh q repV_str⟩))
    | _ => exact w.elim
  | ref a =>
    rcases w with ⟨ds, i, d, rfl, e1, e, q⟩ | ⟨kvs, k, d, ek, e1, e, q⟩
    · obtain ⟨vs, g, rs⟩ := rh.lst e1
      obtain ⟨v, e', rv⟩ := atI_rep rs e
      exact .inl (.inl ⟨a, vs, i, v, rx.ref_inv, ry.int_inv, SqL.of g, e', p.here rh q rv⟩)
    · obtain ⟨ks, g, rk⟩ := rh.dct e1
      obtain ⟨v, e', rv⟩ := rk.look e
      refine .inr ⟨a, v, rx.ref_inv, ?_, p.here rh q rv⟩
      rw [keyD_rep ek ry, ← e']
      exact DGet.k g
  | _ => cases dy <;> exact w.elim
/-- slices -/
theorem SlR.imp {r r' : V → Option Int → Option Int → Hp → VK → Prop} (o : SlR X r) (i : ∀ x lo hi H Q, r' x lo hi H Q → r x lo hi H Q) : SlR X r' := fun pins s σ H x v vl vu lo hi sl Q I rx hs pl pu q => o pins s σ H x v vl vu lo hi sl Q I rx hs pl pu (i _ _ _ _ _ q)
theorem RepVs.cut {K : PySem.W.Frag} {H : Hp} {ds : List D} {vs : List V} (r : RepVs K H ds vs) (lo hi : Option Int) : RepVs K H (cut ds lo hi) (cutV vs lo hi) := by
  unfold DL.cut cutV
  rw [r.length]
  exact (r.drop _).take _
theorem cut_whole {α : Type} {xs : List α} {lo hi : Option Int} (e : HT.sIx xs.length 0 lo = 0 ∧ HT.sIx xs.length xs.length hi = xs.length) : cut xs lo hi = xs := by
  unfold cut
  rw [e.1, e.2]
  simp
theorem sl_D (hK : X.K = G.K) : SlR X (lSl G) := by
  refine SlR.imp (SlR.or sl_tupA (SlR.or sl_list L2.sl_str)) fun x lo hi H Q ⟨dx, h, R, rx, rh, w, p⟩ => ?_
  cases dx with
  | tup ds =>
    obtain ⟨a, vs, rfl, sq, rs⟩ := repV_tup.mp rx
    refine .inl ⟨a, vs, rfl, by rw [hK]; exact sq, fun e => ?_, fun _ l n => p.tup rh w (rs.cut lo hi) n⟩
    rw [rs.length] at e
    have w' : R (.tup (cut ds lo hi)) h := w
    rw [cut_whole e] at w'
    exact p.here rh w' rx
  | scr ds =>
    obtain ⟨a, vs, rfl, sq, rs⟩ := repV_scr.mp rx
    exact .inr (.inl ⟨a, vs, rfl, by rw [hK]; exact sq.sq, fun l n => p.new rh w (rs.cut lo hi) n⟩)
  | ref a =>
    obtain ⟨ds, e, q⟩ := w
    obtain ⟨vs, g, rs⟩ := rh.lst e
    exact .inr (.inl ⟨a, vs, rx.ref_inv, SqL.of g, fun l n => p.new rh q (rs.cut lo hi) n⟩)
  | str z =>
    have e : cutS z lo hi = ⟨(cut z.cps.toList lo hi).toArray⟩ := by
      unfold cutS DL.cut
      rw [show z.cps.toList.length = z.length from by simp [Str.length]]
    exact .inr (.inr ⟨z, rx.str_inv, w.1, by rw [e]; exact p.here rh w.2 repV_str⟩)
  | _ => exact w.elim
/-- x[i] = v -/
theorem set_D (ok : Ok X G) : PSet X (lSet G) := by
  have hu : X.A.units + 1 < cLine := by have := ok.hu; omega
  intro pins s σ H o i v ov iv u Q I ro ri rv ⟨d1, d2, d3, h, P, r1, r2, r3, rh, w, p⟩
  cases d1 with
  | ref a =>
    rcases w with ⟨ds, k, j, rfl, e, z, q⟩ | ⟨kvs, k, ek, e, hz, q⟩
    · obtain ⟨vs, g, rs⟩ := rh.lst e
      refine set_list pins s σ H o i v ov iv u Q I ro ri rv ⟨a, vs, k, j, r1.ref_inv, r2.int_inv, g, by rw [rs.length]; exact z, p _ _ q (rh.wrLst e (rs.set r3 j)) (Fm.write e)⟩
    · obtain ⟨ks, g, rk⟩ := rh.dct e
      refine set_dict hu pins s σ H o i v ov iv u Q I ro ri rv ⟨a, _, r1.ref_inv, by rw [keyD_rep ek r2]; exact DPut.k g (by rw [rk.length]; exact hz), ?_⟩
      exact p _ _ q (rh.write g trivial ⟨_, upd_same, (rk.put r3).mono (pst_wr g trivial)⟩) (Fm.write e)
  | _ => exact w.elim
end
end DL
set_option Elab.async false
set_option linter.all false
set_option maxRecDepth 100000
set_option maxHeartbeats 1000000
/-! The D layer, 5: built-in functions and methods. -/
namespace DL
open PySem PySem.Spec PyProof.Rows L2

section
variable {K : PySem.W.Frag} {H : Hp}
theorem intsOf_rep : ∀ {ds : List D} {ns : List Int} {vs : List V}, intsOf ds = some ns → RepVs K H ds vs → vs = ns.map V.int
  | [], ns, vs, e, r => by cases e; rw [r.nil_inv] <;> rfl
  | d :: ds, ns, vs, e, r => by
    obtain ⟨v, vr, rfl, r1, r2⟩ := r.cons_inv
    cases d with
    | int i =>
      unfold intsOf at e
      obtain ⟨ms, e1, rfl⟩ := Option.map_eq_some_iff.mp e
      rw [r1.int_inv, intsOf_rep e1 r2] <;> rfl
    | _ => cases e
theorem blsOf_rep : ∀ {ds : List D} {ns : List Bool} {vs : List V}, blsOf ds = some ns → RepVs K H ds vs → vs = ns.map V.bl
  | [], ns, vs, e, r => by cases e; rw [r.nil_inv] <;> rfl
  | d :: ds, ns, vs, e, r => by
    obtain ⟨v, vr, rfl, r1, r2⟩ := r.cons_inv
    cases d with
    | bl i =>
      unfold blsOf at e
      obtain ⟨ms, e1, rfl⟩ := Option.map_eq_some_iff.mp e
      rw [r1.bl_inv, blsOf_rep e1 r2] <;> rfl
    | _ => cases e
theorem strsOf_rep : ∀ {ds : List D} {ns : List Str} {vs : List V}, strsOf ds = some ns → RepVs K H ds vs → vs = ns.map V.str
  | [], ns, vs, e, r => by cases e; rw [r.nil_inv] <;> rfl
  | d :: ds, ns, vs, e, r => by
    obtain ⟨v, vr, rfl, r1, r2⟩ := r.cons_inv
    cases d with
    | str i =>
      unfold strsOf at e
      obtain ⟨ms, e1, rfl⟩ := Option.map_eq_some_iff.mp e
      rw [r1.str_inv, strsOf_rep e1 r2] <;> rfl
    | _ => cases e
theorem repVs_strs : ∀ ts : List Str, RepVs K H (ts.map D.str) (ts.map V.str)
  | [] => repVs_nil
  | t :: ts => repVs_cons repV_str (repVs_strs ts)
theorem RepVs.one {d : D} {vs : List V} (r : RepVs K H [d] vs) : ∃ v, vs = [v] ∧ RepV K H d v := by
  obtain ⟨v, s, rfl, r1, r2⟩ := r.cons_inv
  rw [r2.nil_inv]
  exact ⟨v, rfl, r1⟩
theorem RepVs.two {d e : D} {vs : List V} (r : RepVs K H [d, e] vs) : ∃ v u, vs = [v, u] ∧ RepV K H d v ∧ RepV K H e u := by
  obtain ⟨v, s, rfl, r1, r2⟩ := r.cons_inv
  obtain ⟨u, rfl, r3⟩ := r2.one
  exact ⟨v, u, rfl, r1, r3⟩
mutual
theorem imm_den {h : MH} : ∀ {d : D}, imm d = true → Den h d (toP d)
  | .non, _ => .non
  | .bl b, _ => .bl b
  | .int b, _ => .int b
  | .str b, _ => .str b
  | .tup ds, e => .tup (imms_len ds) (imms_den (by simpa only [imm] using e))
  | .ref _, e => by simp [imm] at e
  | .scr _, e => by simp [imm] at e
theorem imms_len : ∀ ds : List D, (toPs ds).length = ds.length
  | [] => rfl
  | d :: ds => by simp only [toPs, List.length_cons, imms_len ds]
theorem imms_den {h : MH} : ∀ {ds : List D}, imms ds = true → ∀ (i : Nat) d t, ds[i]? = some d → (toPs ds)[i]? = some t → Den h d t
  | [], _, i, d, t, e1, _ => by simp at e1
  | x :: ds, e, 0, d, t, e1, e2 => by
    simp only [imms, Bool.and_eq_true] at e
    simp [toPs] at e1 e2
    subst e1 e2
    exact imm_den e.1
  | x :: ds, e, i + 1, d, t, e1, e2 => by
    simp only [imms, Bool.and_eq_true] at e
    exact imms_den e.2 i d t (by simpa using e1) (by simpa [toPs] using e2)
end
theorem toPs_map : ∀ ds : List D, toPs ds = ds.map toP
  | [] => rfl
  | d :: ds => by simp only [toPs, List.map_cons, toPs_map ds]
theorem imms_mem : ∀ {ds : List D}, imms ds = true → ∀ d, d ∈ ds → imm d = true
  | [], _, d, m => by simp at m
  | x :: ds, e, d, m => by
    simp only [imms, Bool.and_eq_true] at e
    rcases List.mem_cons.mp m with z | z
    · rw [z]; exact e.1
    · exact imms_mem e.2 d z
end

section
variable {X : Cx} {G : Gr}
theorem CallR.imp {f : Value} {r r' : List V → Hp → VK → Prop} (o : CallR X f r) (i : ∀ xs H Q, r' xs H Q → r xs H Q) : CallR X f r' := fun pins s σ H xs us Q I rs q => o pins s σ H xs us Q I rs (i _ _ _ q)
theorem itemsOf_rep {h : MH} {H : Hp} (rh : RepH G h H) {d : D} {v : V} {P : List D → Prop} (r : RepV G.K H d v) (w : itemsOf d h P) :
    ∃ a ds vs, v = .ref a ∧ RepVs G.K H ds vs ∧ P ds ∧ (SqL G.K H a vs ∨ (SqT G.K H a vs ∧ d = .tup ds)) := by
  cases d with
  | tup ds => obtain ⟨a, vs, e, sq, rs⟩ := repV_tup.mp r; exact ⟨a, ds, vs, e, rs, w, .inr ⟨sq, rfl⟩⟩
  | scr ds => obtain ⟨a, vs, e, sq, rs⟩ := repV_scr.mp r; exact ⟨a, ds, vs, e, rs, w, .inl sq.sq⟩
  | ref a =>
    obtain ⟨ds, e, q⟩ := w
    obtain ⟨vs, g, rs⟩ := rh.lst e
    exact ⟨a, ds, vs, r.ref_inv, rs, q, .inl (SqL.of g)⟩
  | _ => exact w.elim
/-- where a built-in function stands -/
def biV : Bi → Value
  | .len => .builtin "len" | .abs => .builtin "abs" | .max => .builtin "max" | .min => .builtin "min" | .sum => .builtin "sum" | .all => .builtin "all" | .any => .builtin "any"
  | .sorted => .builtin "sorted" | .list => .type "list" | .tuple => .type "tuple" | .str => .type "str" | .int => .type "int" | .repr => .builtin "repr"
theorem bi_len (hK : X.K = G.K) : CallR X (biV .len) (lBi G (bi .len)) := by
  refine CallR.imp (CallR.or call_len_str call_len_seq) fun xs H Q ⟨ds, h, R, rs, rh, w, p⟩ => ?_
  cases ds with
  | nil => exact w.elim
  | cons x r =>
    cases r with
    | cons _ _ => cases x <;> exact w.elim
    | nil =>
      obtain ⟨v, rfl, rv⟩ := rs.one
      have seq : itemsOf x h (fun ds => R (.int ds.length) h) → (∃ z, [v] = [V.str z] ∧ z.length ≤ sizeLine ∧ Q (.int z.length) H) ∨ ∃ p ys, [v] = [V.ref p] ∧ (SqL X.K H p ys ∨ SqT X.K H p ys) ∧ Q (.int ys.length) H := by
        intro w
        obtain ⟨a, ds, vs, rfl, r2, q, z⟩ := itemsOf_rep rh rv w
        refine .inr ⟨a, vs, rfl, by rw [hK]; exact z.imp id (·.1), ?_⟩
        rw [r2.length]
        exact p.here rh q repV_int
      cases x with
      | str z => exact .inl ⟨z, by rw [rv.str_inv], w.1, p.here rh w.2 repV_int⟩
      | _ => exact seq w
theorem bi_abs : CallR X (biV .abs) (lBi G (bi .abs)) := by
  refine CallR.imp call_abs fun xs H Q ⟨ds, h, R, rs, rh, w, p⟩ => ?_
  unfold bi at w
  split at w <;> first | contradiction | skip
  obtain ⟨v, rfl, rv⟩ := rs.one
  exact ⟨_, by rw [rv.int_inv], p.here rh w repV_int⟩
theorem bi_max (hc : X.calm = true) : CallR X (biV .max) (lBi G (bi .max)) := by
  refine CallR.imp (call_max2 hc) fun xs H Q ⟨ds, h, R, rs, rh, w, p⟩ => ?_
  unfold bi at w
  split at w <;> first | contradiction | skip
  obtain ⟨v, u, rfl, rv, ru⟩ := rs.two
  exact ⟨_, _, by rw [rv.int_inv, ru.int_inv], p.here rh w repV_int⟩
theorem bi_min (hc : X.calm = true) : CallR X (biV .min) (lBi G (bi .min)) := by
  refine CallR.imp (call_min2 hc) fun xs H Q ⟨ds, h, R, rs, rh, w, p⟩ => ?_
  unfold bi at w
  split at w <;> first | contradiction | skip
  obtain ⟨v, u, rfl, rv, ru⟩ := rs.two
  exact ⟨_, _, by rw [rv.int_inv, ru.int_inv], p.here rh w repV_int⟩
theorem bi_sum (hc : X.calm = true) : CallR X (biV .sum) (lBi G (bi .sum)) := by
  refine CallR.imp (cr_sum hc) fun xs H Q ⟨ds, h, R, rs, rh, w, p⟩ => ?_
  unfold bi at w
  split at w <;> first | contradiction | skip
  obtain ⟨v, rfl, rv⟩ := rs.one
  obtain ⟨es, ns, e, en, q⟩ := w
  obtain ⟨vs, g, rg⟩ := rh.lst e
  exact ⟨_, ns, by rw [rv.ref_inv], SqL.of (by rw [g, intsOf_rep en rg]), p.here rh q repV_int⟩
theorem bi_all (hc : X.calm = true) : CallR X (biV .all) (lBi G (bi .all)) := by
  refine CallR.imp (cr_all hc) fun xs H Q ⟨ds, h, R, rs, rh, w, p⟩ => ?_
  unfold bi at w
  split at w <;> first | contradiction | skip
  obtain ⟨v, rfl, rv⟩ := rs.one
  obtain ⟨es, ns, e, en, q⟩ := w
  obtain ⟨vs, g, rg⟩ := rh.lst e
  exact ⟨_, ns, by rw [rv.ref_inv], SqL.of (by rw [g, blsOf_rep en rg]), p.here rh q repV_bl⟩
theorem bi_any (hc : X.calm = true) : CallR X (biV .any) (lBi G (bi .any)) := by
  refine CallR.imp (cr_any hc) fun xs H Q ⟨ds, h, R, rs, rh, w, p⟩ => ?_
  unfold bi at w
  split at w <;> first | contradiction | skip
  obtain ⟨v, rfl, rv⟩ := rs.one
  obtain ⟨es, ns, e, en, q⟩ := w
  obtain ⟨vs, g, rg⟩ := rh.lst e
  exact ⟨_, ns, by rw [rv.ref_inv], SqL.of (by rw [g, blsOf_rep en rg]), p.here rh q repV_bl⟩
theorem bi_list (hK : X.K = G.K) : CallR X (biV .list) (lBi G (bi .list)) := by
  refine CallR.imp call_list_of fun xs H Q ⟨ds, h, R, rs, rh, w, p⟩ => ?_
  unfold bi at w
  split at w <;> first | contradiction | skip
  obtain ⟨v, rfl, rv⟩ := rs.one
  obtain ⟨a, es, vs, rfl, r2, q, z⟩ := itemsOf_rep rh rv w
  exact ⟨a, vs, rfl, by rw [hK]; exact z.imp id (·.1), fun l n => p.new rh q r2 n⟩
theorem bi_tuple (hK : X.K = G.K) : CallR X (biV .tuple) (lBi G (bi .tuple)) := by
  refine CallR.imp call_tuple_of fun xs H Q ⟨ds, h, R, rs, rh, w, p⟩ => ?_
  unfold bi at w
  split at w <;> first | contradiction | skip
  obtain ⟨v, rfl, rv⟩ := rs.one
  obtain ⟨a, es, vs, rfl, r2, q, z⟩ := itemsOf_rep rh rv w
  refine ⟨a, vs, rfl, ?_⟩
  rcases z with z | ⟨z, rfl⟩
  · exact .inl ⟨by rw [hK]; exact z, fun l n => p.tup rh q r2 n⟩
  · exact .inr ⟨by rw [hK]; exact z, p.here rh q rv⟩
theorem bi_int : CallR X (biV .int) (lBi G (bi .int)) := by
  refine CallR.imp (CallR.or call_int1 call_int_str) fun xs H Q ⟨ds, h, R, rs, rh, w, p⟩ => ?_
  unfold bi at w
  split at w <;> first | contradiction | skip
  · obtain ⟨v, rfl, rv⟩ := rs.one
    exact .inl (.inl ⟨_, by rw [rv.int_inv], p.here rh w repV_int⟩)
  · obtain ⟨v, rfl, rv⟩ := rs.one
    exact .inl (.inr ⟨_, by rw [rv.bl_inv], p.here rh w repV_int⟩)
  · obtain ⟨v, rfl, rv⟩ := rs.one
    obtain ⟨n, e, hz, q⟩ := w
    exact .inr ⟨_, n, by rw [rv.str_inv], e, hz, p.here rh q repV_int⟩
theorem bi_str : CallR X (biV .str) (lBi G (bi .str)) := by
  refine CallR.imp (CallR.or call_str_int SkE.call_str_str) fun xs H Q ⟨ds, h, R, rs, rh, w, p⟩ => ?_
  unfold bi at w
  split at w <;> first | contradiction | skip
  · obtain ⟨v, rfl, rv⟩ := rs.one
    exact .inl ⟨_, by rw [rv.int_inv], w.1, p.here rh w.2 repV_str⟩
  · obtain ⟨v, rfl, rv⟩ := rs.one
    exact .inr ⟨_, by rw [rv.str_inv], p.here rh w repV_str⟩
theorem bi_repr (ok : Ok X G) : CallR X (biV .repr) (lBi G (bi .repr)) := by
  intro pins s σ H xs us Q I r ⟨ds, h, R, rs, rh, w, p⟩
  unfold bi at w
  split at w <;> first | contradiction | skip
  rename_i x _
  obtain ⟨v, rfl, rv⟩ := rs.one
  obtain ⟨u, rfl, ru⟩ := vals1 r
  obtain ⟨t, de, sh, fz, dp, q⟩ := w
  obtain ⟨as, rd, ns⟩ := den_reads I ok rh de rv ru
  have fin : ∀ (h' : Heap) (tk t' : Nat), (∀ b o, s.heap.get? b = some o → h'.get? b = some o) → EP X pins σ Q (.str t.shown t') { s with heap := h', toks := tk } := fun h' tk t' k =>
    ⟨.str t.shown, H, I.kept k, ⟨_, rfl⟩, p.here rh q repV_str⟩
  cases de with
  | non => cases rd; exact PySem.P.repr_of_none (fin _ _ _ fun _ _ z => z)
  | bl b =>
    cases rd
    refine PySem.P.repr_of_bool ?_
    cases b <;> exact fin _ _ _ fun _ _ z => z
  | int i =>
    cases rd
    exact PySem.P.repr_of_int (by simpa [PyData.showable] using sh) (fin _ _ _ fun _ _ z => z)
  | str z =>
    cases rd
    exact PySem.P.repr_of_str (fin _ _ _ fun _ _ z => z) fz
  | _ =>
    have hu := ok.hu
    have hr : ∃ a, u = .ref a := by cases rd <;> exact ⟨_, rfl⟩
    obtain ⟨a, rfl⟩ := hr
    exact PySem.repr_of_reads' rd sh (fun _ => ns) ok.gd (by omega) (fun _ _ z => z) (fun h' u tk k => fin h' tk u k) fz
theorem each_of : ∀ {K : PySem.W.Frag} {H : Hp} {ds : List D} {vs : List V} {us : List Value}, RepVs K H ds vs → Vals vs us → PySem.W.EachIs (fun u d => ∃ v, RelV v u ∧ RepV K H d v) us ds
  | _, _, [], vs, us, r, q => by rw [r.nil_inv] at q; cases q; exact .nil
  | _, _, d :: ds, vs, us, r, q => by
    obtain ⟨v, vr, rfl, r1, r2⟩ := r.cons_inv
    cases q with
    | cons q1 q2 => exact .cons ⟨v, q1, r1⟩ (each_of r2 q2)
theorem of_each : ∀ {K : PySem.W.Frag} {H : Hp} {ds : List D} {us : List Value}, PySem.W.EachIs (fun u d => ∃ v, RelV v u ∧ RepV K H d v) us ds → ∃ vs, RepVs K H ds vs ∧ Vals vs us
  | _, _, [], us, r => by cases r; exact ⟨[], repVs_nil, .nil⟩
  | _, _, d :: ds, us, r => by
    cases r with
    | cons q1 q2 =>
      obtain ⟨v, a, b⟩ := q1
      obtain ⟨vs, c, e⟩ := of_each q2
      exact ⟨v :: vs, repVs_cons b c, .cons a e⟩
theorem each_reads {pins : List (Addr × Obj)} {σ : L2.St} {H : Hp} {h : MH} {s : Shared} (I : Inv X pins σ H s) (ok : Ok X G) (rh : RepH G h H) : ∀ {ds : List D} {vs : List V} {us : List Value}, imms ds = true → RepVs G.K H ds vs → Vals vs us →
    PySem.W.EachIs (fun u d => ∃ as, Reads s.heap u (toP d) as) us ds
  | [], vs, us, _, r, q => by rw [r.nil_inv] at q; cases q; exact .nil
  | d :: ds, vs, us, m, r, q => by
    obtain ⟨v, vr, rfl, r1, r2⟩ := r.cons_inv
    simp only [imms, Bool.and_eq_true] at m
    cases q with
    | cons q1 q2 =>
      obtain ⟨as, a, _⟩ := den_reads I ok rh (imm_den m.1) r1 q1
      exact .cons ⟨as, a⟩ (each_reads I ok rh m.2 r2 q2)
theorem bi_sorted (ok : Ok X G) : CallR X (biV .sorted) (lBi G (bi .sorted)) := by
  intro pins s σ H xs us Q I r ⟨ds, h, R, rs, rh, w, p⟩
  unfold bi at w
  split at w <;> first | contradiction | skip
  obtain ⟨v, rfl, rv⟩ := rs.one
  rw [rv.ref_inv] at r
  obtain ⟨es, e, im, al1, so, dp, q⟩ := w
  obtain ⟨vs, g, rg⟩ := rh.lst e
  obtain ⟨z, its, n, rt, ho⟩ := I.hok _ _ g
  have hl : s.heap.IsList _ its.toArray := ⟨_, ho, rfl, n, rfl⟩
  rw [Vals.ref1 r]
  have hu := ok.hu
  refine PySem.W.sorted_data (bs := es) (enc := toP) hl (each_of rg rt) (each_reads I ok rh im rg rt) al1 so (by rw [← rg.length]; exact z) (fun b m => by have := dp b m; omega) fun out ho2 eo => ?_
  obtain ⟨ws, a, b⟩ := of_each eo
  obtain ⟨ep, he'⟩ := PyProof.Rows.sortedAll_at s.heap its out.toArray
  have hlen : ws.length ≤ sizeLine := by rw [a.length, List.length_mergeSort, ← rg.length]; exact z
  have hn := I.hok.fresh (a := s.heap.objs.size + 1) (Nat.le_succ _)
  exact ⟨.ref _, L2.upd H (s.heap.objs.size + 1) (.lst ws), I.laid (t' := s.toks) (fun _ _ => PyProof.Rows.sortedAll_old) (Nat.le_succ _) ⟨hlen, out, ep, b, he'⟩, rfl, p.new rh q a hn⟩
theorem bi_D (ok : Ok X G) (hc : X.calm = true) (b : Bi) : CallR X (biV b) (lBi G (bi b)) := by
  cases b with
  | len => exact bi_len ok.k
  | abs => exact bi_abs
  | max => exact bi_max hc
  | min => exact bi_min hc
  | sum => exact bi_sum hc
  | all => exact bi_all hc
  | any => exact bi_any hc
  | sorted => exact bi_sorted ok
  | list => exact bi_list ok.k
  | tuple => exact bi_tuple ok.k
  | str => exact bi_str
  | int => exact bi_int
  | repr => exact bi_repr ok

/-! ### methods -/
def mtT : Mt → String
  | .append | .extend | .pop | .index | .insert | .reverse => "list"
  | .get => "dict"
  | .join | .split | .startswith | .partition => "str"
def mtId : Mt → String
  | .append => "list.append" | .extend => "list.extend" | .pop => "list.pop" | .index => "list.index" | .insert => "list.insert" | .reverse => "list.reverse"
  | .get => "dict.get" | .join => "str.join" | .split => "str.split" | .startswith => "str.startswith" | .partition => "str.partition"
theorem MtR.imp {id : String} {r r' : V → List V → Hp → VK → Prop} (o : MtR X id r) (i : ∀ x xs H Q, r' x xs H Q → r x xs H Q) : MtR X id r' := fun pins s σ H x xs v us Q I rx rs q => o pins s σ H x xs v us Q I rx rs (i _ _ _ _ q)
theorem mt_dget (hu : X.A.units + 1 < cLine) : MtR X "dict.get" (fun x xs H Q => ∃ a y z o, x = .ref a ∧ xs = [y, z] ∧ DGet H a y o ∧ Q (o.getD z) H) := by
  intro pins s σ H x xs v us Q I rx rs ⟨a, y, z, o, e1, e2, g, q⟩
  subst e1 e2
  cases rx
  cases rs with
  | cons r1 rs => cases rs with
    | cons r2 rs =>
      cases rs
      exact d_get2 hu I g r1 r2 fun w' s4 I4 rw' => ⟨_, H, I4, rw', q⟩
theorem met_tyV {H : Hp} {h : MH} (rh : RepH G h H) {m : Mt} {d : D} {v : V} (r : RepV G.K H d v) (t : mtTy m d h) : tyV X.K (mtT m) v H := by
  have li : (∃ a xs, d = .ref a ∧ h a = some (.lst xs)) → tyV X.K "list" v H := by
    rintro ⟨a, xs, rfl, e⟩
    obtain ⟨vs, g, _⟩ := rh.lst e
    rw [r.ref_inv]
    exact .inl ⟨rfl, vs, SqL.of g⟩
  cases m <;> unfold mtTy at t <;> cases d <;> first
    | exact t.elim
    | (obtain ⟨xs, e⟩ := t; exact li ⟨_, _, rfl, e⟩)
    | (obtain ⟨xs, e⟩ := t; obtain ⟨ks, g, _⟩ := rh.dct e; rw [r.ref_inv]; exact .inr (.inr (.inl ⟨rfl, .inl ⟨ks, g⟩⟩)))
    | (rw [r.str_inv]; rfl)
theorem ixN_bounds {n : Nat} {i : Int} {k : Nat} (e : ixN n i = some k) (hn : n < 2 ^ 62) : -(2 ^ 63) ≤ i ∧ i < 2 ^ 63 ∧ seqIndex? i n = some k := by
  obtain ⟨h1, h2, h3, h4⟩ := ixN_seq e
  exact ⟨by omega, by omega, h1⟩
theorem mt_append' : MtR X "list.append" (lMt G (met .append)) := by
  refine MtR.imp (show MtR X "list.append" rAppend from mt_append) fun x xs H Q ⟨d, ds, h, R, rx, rs, rh, w, p⟩ => ?_
  unfold met at w
  split at w <;> first | contradiction | skip
  obtain ⟨es, e, z, q⟩ := w
  obtain ⟨vs, g, rg⟩ := rh.lst e
  obtain ⟨y, rfl, ry⟩ := rs.one
  exact ⟨_, vs, y, rx.ref_inv, rfl, g, by rw [rg.length]; exact z, p.wr rh e q (rg.append (repVs_cons ry repVs_nil)) repV_non⟩
theorem mt_extend' : MtR X "list.extend" (lMt G (met .extend)) := by
  refine MtR.imp (show MtR X "list.extend" rExtend from mt_extend) fun x xs H Q ⟨d, ds, h, R, rx, rs, rh, w, p⟩ => ?_
  unfold met at w
  split at w <;> first | contradiction | skip
  obtain ⟨es, fs, e, e2, z, q⟩ := w
  obtain ⟨vs, g, rg⟩ := rh.lst e
  obtain ⟨us, g2, rg2⟩ := rh.lst e2
  obtain ⟨y, rfl, ry⟩ := rs.one
  exact ⟨_, _, vs, us, rx.ref_inv, by rw [ry.ref_inv], g, g2, by rw [rg.length, rg2.length]; exact z, p.wr rh e q (rg.append rg2) repV_non⟩
theorem mt_pop' : MtR X "list.pop" (lMt G (met .pop)) := by
  refine MtR.imp (MtR.or (show MtR X "list.pop" rPop from mt_pop) (show MtR X "list.pop" rPopAt from mt_popAt)) fun x xs H Q ⟨d, ds, h, R, rx, rs, rh, w, p⟩ => ?_
  unfold met at w
  split at w <;> first | contradiction | skip
  · obtain ⟨es, y, e, z, q⟩ := w
    obtain ⟨vs, g, rg⟩ := rh.lst e
    obtain ⟨v, ev, rv⟩ := rg.get z
    exact .inl ⟨_, vs, v, rx.ref_inv, rs.nil_inv, g, by rw [rg.length]; exact ev, p.wr rh e q rg.dropLast rv⟩
  · obtain ⟨es, k, y, e, ek, z, hn, q⟩ := w
    obtain ⟨vs, g, rg⟩ := rh.lst e
    obtain ⟨v, ev, rv⟩ := rg.get z
    obtain ⟨u, rfl, ru⟩ := rs.one
    obtain ⟨b1, b2, b3⟩ := ixN_bounds ek hn
    exact .inr ⟨_, vs, _, k, v, rx.ref_inv, by rw [ru.int_inv], g, b1, b2, by rw [rg.length]; exact b3, ev, p.wr rh e q (rg.eraseIdx k) rv⟩
theorem mt_reverse' : MtR X "list.reverse" (lMt G (met .reverse)) := by
  refine MtR.imp (show MtR X "list.reverse" rReverse from mt_reverse) fun x xs H Q ⟨d, ds, h, R, rx, rs, rh, w, p⟩ => ?_
  unfold met at w
  split at w <;> first | contradiction | skip
  obtain ⟨es, e, q⟩ := w
  obtain ⟨vs, g, rg⟩ := rh.lst e
  exact ⟨_, vs, rx.ref_inv, rs.nil_inv, g, p.wr rh e q rg.reverse repV_non⟩
theorem mt_get' (ok : Ok X G) : MtR X "dict.get" (lMt G (met .get)) := by
  refine MtR.imp (mt_dget (by have := ok.hu; omega)) fun x xs H Q ⟨d, ds, h, R, rx, rs, rh, w, p⟩ => ?_
  unfold met at w
  split at w <;> first | contradiction | skip
  obtain ⟨kvs, k, ek, e, q⟩ := w
  obtain ⟨ks, g, rk⟩ := rh.dct e
  obtain ⟨y, z, rfl, ry, rz⟩ := rs.two
  refine ⟨_, y, z, valV ks k, rx.ref_inv, rfl, by rw [keyD_rep ek ry]; exact DGet.k g, ?_⟩
  cases c : getK kvs k with
  | none => rw [c] at q; rw [rk.lookN c]; exact p.here rh q rz
  | some d => rw [c] at q; obtain ⟨v, ev, rv⟩ := rk.look c; rw [ev]; exact p.here rh q rv
theorem mt_join' (hK : X.K = G.K) : MtR X "str.join" (lMt G (met .join)) := by
  refine MtR.imp mt_join fun x xs H Q ⟨d, ds, h, R, rx, rs, rh, w, p⟩ => ?_
  unfold met at w
  split at w <;> first | contradiction | skip
  obtain ⟨es, ts, e, et, z, q⟩ := w
  obtain ⟨vs, g, rg⟩ := rh.lst e
  obtain ⟨y, rfl, ry⟩ := rs.one
  exact ⟨_, _, ts, rx.str_inv, by rw [ry.ref_inv], .inl (SqL.of (by rw [g, strsOf_rep et rg])), z, p.here rh q repV_str⟩
theorem mt_split' : MtR X "str.split" (lMt G (met .split)) := by
  refine MtR.imp mt_split fun x xs H Q ⟨d, ds, h, R, rx, rs, rh, w, p⟩ => ?_
  unfold met at w
  split at w <;> first | contradiction | skip
  obtain ⟨⟨z1, z2⟩, q⟩ := w
  obtain ⟨y, rfl, ry⟩ := rs.one
  exact ⟨_, _, rx.str_inv, by rw [ry.str_inv], z1, z2, fun l n => p.new rh q (repVs_strs _) n⟩
theorem mt_startswith' : MtR X "str.startswith" (lMt G (met .startswith)) := by
  refine MtR.imp mt_startswith fun x xs H Q ⟨d, ds, h, R, rx, rs, rh, w, p⟩ => ?_
  unfold met at w
  split at w <;> first | contradiction | skip
  obtain ⟨y, rfl, ry⟩ := rs.one
  exact ⟨_, _, rx.str_inv, by rw [ry.str_inv], p.here rh w repV_bl⟩
theorem mt_none {id : String} {m : Mt} (f : ∀ d ds h R, ¬ met m d ds h R) : MtR X id (lMt G (met m)) := fun pins s σ H x xs v us Q I rx rs ⟨d, ds, h, R, _, _, _, w, _⟩ => (f _ _ _ _ w).elim
theorem met_D (ok : Ok X G) (m : Mt) : MtR X (mtId m) (lMt G (met m)) := by
  cases m with
  | append => exact mt_append'
  | extend => exact mt_extend'
  | pop => exact mt_pop'
  | reverse => exact mt_reverse'
  | get => exact mt_get' ok
  | join => exact mt_join' ok.k
  | split => exact mt_split'
  | startswith => exact mt_startswith'
  | index => exact mt_none fun d ds h R w => by unfold met at w; split at w <;> contradiction
  | insert => exact mt_none fun d ds h R w => by unfold met at w; split at w <;> contradiction
  | partition => exact mt_none fun d ds h R w => by unfold met at w; split at w <;> contradiction
end

/-! ### isinstance -/
def tyN : Ty → String
  | .int => "int" | .bool => "bool" | .str => "str" | .list => "list" | .tuple => "tuple" | .dict => "dict" | .non => "NoneType"
def tysAll : List Ty := [.int, .bool, .str, .list, .tuple, .dict, .non]
theorem tysAll_mem (t : Ty) : t ∈ tysAll := by cases t <;> decide
theorem kitB_all : (tysAll.all fun k => tysAll.all fun t => decide (t = .non) || decide (kitB (tyN k) (tyN t) = some (subTy k t))) = true := by decide +kernel
theorem kitB_of (k t : Ty) (ht : t ≠ .non) : kitB (tyN k) (tyN t) = some (subTy k t) := by
  have h1 := List.all_eq_true.mp kitB_all k (tysAll_mem k)
  have h2 := List.all_eq_true.mp h1 t (tysAll_mem t)
  rw [decide_eq_false ht, Bool.false_or] at h2
  exact of_decide_eq_true h2
theorem kitAny_of {K : PySem.W.Frag} (k : Ty) : ∀ ts : List Ty, (∀ t, t ∈ ts → t ≠ .non) → PySem.W.kitAny K (.type (tyN k)) (ts.map fun t => .type (tyN t)) = some (ts.any (subTy k))
  | [], _ => rfl
  | t :: ts, hn => by
    rw [List.map_cons, List.any_cons]
    have e1 : PySem.W.kitOne K (.type (tyN k)) (.type (tyN t)) = some (subTy k t) := kit_ty (kitB_of k t (hn t List.mem_cons_self))
    refine kitAny_cons e1 (fun e => ?_) fun e => by rw [e]; rfl
    rw [e, Bool.false_or]
    exact kitAny_of k ts fun t m => hn t (List.mem_cons_of_mem _ m)
section
variable {G : Gr}
theorem kind_rep {h : MH} {H : Hp} (rh : RepH G h H) {d : D} {v : V} {P : Ty → Prop} (r : RepV G.K H d v) (w : kindOf d h P) : ∃ k, TyX G.K H v (.type (tyN k)) ∧ P k := by
  cases d with
  | non => rw [r.non_inv]; exact ⟨_, .base .non, w⟩
  | bl b => rw [r.bl_inv]; exact ⟨_, .base (.bl b), w⟩
  | int b => rw [r.int_inv]; exact ⟨_, .base (.int b), w⟩
  | str b => rw [r.str_inv]; exact ⟨_, .base (.str b), w⟩
  | tup ds =>
    obtain ⟨a, vs, rfl, sq, rs⟩ := repV_tup.mp r
    refine ⟨.tuple, ?_, w⟩
    rcases sq with (sq | ⟨ob, sq⟩) | ⟨o, its, n, e, c, _⟩
    · exact .base (.tup sq)
    · exact .fTuple sq
    · exact .kTuple e c
  | scr ds =>
    obtain ⟨a, vs, rfl, sq, rs⟩ := repV_scr.mp r
    refine ⟨.list, ?_, w⟩
    rcases sq with ⟨ob, sq⟩ | ⟨o, its, n, e, c, _⟩
    · exact .base (.frz sq)
    · exact .kList e c
  | ref a =>
    rw [r.ref_inv]
    rcases w with ⟨xs, e, q⟩ | ⟨kvs, e, q⟩
    · obtain ⟨vs, g, _⟩ := rh.lst e
      exact ⟨.list, .base (.lst g), q⟩
    · obtain ⟨vs, g, _⟩ := rh.dct e
      exact ⟨.dict, .base (.dK g), q⟩
end
end DL
set_option Elab.async false
set_option linter.all false
set_option maxRecDepth 100000
set_option maxHeartbeats 1000000
/-! The D layer, 6: expressions. -/
namespace DL
open PySem PySem.Spec PyProof.Rows L2

/-- where one stands: the slots, the small heap, what is wanted of exceptions -/
structure At (G : Gr) (W : WX) (E : DX) (σd : DS) (σ : L2.St) (h : MH) (H : Hp) : Prop where
  s : RepS G.K H σd σ
  r : RepH G h H
  x : ∀ c fs h' cls dd H', E c fs h' → RepX G h' H' c fs cls dd → RepH G h' H' → Fm h H h' H' → W cls dd σ H'
def PostB (G : Gr) (h : MH) (H : Hp) (R : Bool → MH → Prop) (Q : Bool → Hp → Prop) : Prop := ∀ k h' H', R k h' → RepH G h' H' → Fm h H h' H' → Q k H'
def PostO (G : Gr) (h : MH) (H : Hp) (R : Option Int → MH → Prop) (Q : Option Int → Hp → Prop) : Prop := ∀ k h' H', R k h' → RepH G h' H' → Fm h H h' H' → Q k H'
def PostL (G : Gr) (h : MH) (H : Hp) (R : List D → MH → Prop) (Q : List V → Hp → Prop) : Prop := ∀ d h' v H', R d h' → RepVs G.K H' d v → RepH G h' H' → Fm h H h' H' → Q v H'
/-- an iterator stands for its items -/
def ItRel (G : Gr) (h0 : MH) (H0 : Hp) (Jd : ItV) (J : It) : Prop :=
  ∀ h H, RepH G h H → Pst G.K H0 H → Jd.ok h → (∀ (i : Nat) d, Jd.its[i]? = some d → J.go i H ∧ ∀ x H', J.yld i H x H' → RepV G.K H' d x ∧ RepH G h H' ∧ Fm h H h H') ∧ J.stop Jd.its.length H
def PostI (G : Gr) (h : MH) (H : Hp) (R : ItV → MH → Prop) (Q : It → Hp → Prop) : Prop := ∀ Jd h' J H', R Jd h' → ItRel G h' H' Jd J → RepH G h' H' → Fm h H h' H' → Q J H'

abbrev WE := DX → DS → MH → (D → MH → Prop) → Prop
def lE (G : Gr) (W : WX) (w : DX → DS → MH → (D → MH → Prop) → Prop) : TE := fun σ H Q => ∃ σd h R E, At G W E σd σ h H ∧ w E σd h R ∧ Post G h H R Q
def lT (G : Gr) (W : WX) (w : DX → DS → MH → (Bool → MH → Prop) → Prop) : TT := fun σ H Q => ∃ σd h R E, At G W E σd σ h H ∧ w E σd h R ∧ PostB G h H R Q
def lO (G : Gr) (W : WX) (w : DX → DS → MH → (Option Int → MH → Prop) → Prop) : TO := fun σ H Q => ∃ σd h R E, At G W E σd σ h H ∧ w E σd h R ∧ PostO G h H R Q
def lA (G : Gr) (W : WX) (w : DX → DS → MH → (List D → MH → Prop) → Prop) : TA := fun σ H Q => ∃ σd h R E, At G W E σd σ h H ∧ w E σd h R ∧ PostL G h H R Q
def lI (G : Gr) (W : WX) (w : DX → DS → MH → (ItV → MH → Prop) → Prop) : TI := fun σ H Q => ∃ σd h R E, At G W E σd σ h H ∧ w E σd h R ∧ PostI G h H R Q

theorem Pst.trans {K : PySem.W.Frag} {H H1 H2 : Hp} (a : Pst K H H1) (b : Pst K H1 H2) : Pst K H H2 := ⟨fun x xs q => b.t x xs (a.t x xs q), fun x xs q => b.l x xs (a.l x xs q)⟩
theorem RepS.mono {K : PySem.W.Frag} {H H' : Hp} {d : DS} {v : L2.St} (q : RepS K H d v) (t : Pst K H H') : RepS K H' d v := ⟨q.1, fun i x e => let ⟨u, a, b⟩ := q.2 i x e; ⟨u, a, b.mono t⟩⟩
section
variable {G : Gr} {W : WX} {E : DX} {σd : DS} {σ : L2.St} {h h1 : MH} {H H1 : Hp}
theorem At.fm (a : At G W E σd σ h H) (r : RepH G h1 H1) (f : Fm h H h1 H1) : At G W E σd σ h1 H1 :=
  ⟨a.s.fm a.r f, r, fun c fs h' cls dd H' e rx rh g => a.x c fs h' cls dd H' e rx rh (f.trans g)⟩
theorem Post.fm {R : D → MH → Prop} {Q : VK} (p : Post G h H R Q) (f : Fm h H h1 H1) : Post G h1 H1 R Q := fun d h' v H' r rv rh g => p d h' v H' r rv rh (f.trans g)
theorem PostB.fm {R : Bool → MH → Prop} {Q : Bool → Hp → Prop} (p : PostB G h H R Q) (f : Fm h H h1 H1) : PostB G h1 H1 R Q := fun k h' H' r rh g => p k h' H' r rh (f.trans g)
theorem PostO.fm {R : Option Int → MH → Prop} {Q : Option Int → Hp → Prop} (p : PostO G h H R Q) (f : Fm h H h1 H1) : PostO G h1 H1 R Q := fun k h' H' r rh g => p k h' H' r rh (f.trans g)
theorem PostL.fm {R : List D → MH → Prop} {Q : List V → Hp → Prop} (p : PostL G h H R Q) (f : Fm h H h1 H1) : PostL G h1 H1 R Q := fun k h' v H' r rv rh g => p k h' v H' r rv rh (f.trans g)
theorem PostI.fm {R : ItV → MH → Prop} {Q : It → Hp → Prop} (p : PostI G h H R Q) (f : Fm h H h1 H1) : PostI G h1 H1 R Q := fun Jd h' J H' r ri rh g => p Jd h' J H' r ri rh (f.trans g)
end

section
variable {X : Cx} {G : Gr} {W : WX} {e a b c : Expr} {es : List Expr} {pos : Pos}
theorem PE.imp {t t' : TE} (p : PE X e t) (i : ∀ σ H Q, t' σ H Q → t σ H Q) : PE X e t' := ⟨fun pins s σ H Q I w => p.run pins s σ H Q I (i _ _ _ w)⟩
theorem PT.imp {t t' : TT} (p : PT X e t) (i : ∀ σ H Q, t' σ H Q → t σ H Q) : PT X e t' := ⟨fun pins s σ H Q I w => p.run pins s σ H Q I (i _ _ _ w)⟩
theorem PW.imp {t t' : TT} (p : PW X e t) (i : ∀ σ H Q, t' σ H Q → t σ H Q) : PW X e t' := ⟨fun wh pins s σ H Q I w => p.run wh pins s σ H Q I (i _ _ _ w)⟩
theorem PA.imp {t t' : TA} (p : PA X es t) (i : ∀ σ H Q, t' σ H Q → t σ H Q) : PA X es t' := ⟨fun po pins s σ H Q I w => p.run po pins s σ H Q I (i _ _ _ w)⟩
theorem PK.imp {ks : List Keyword} {t t' : TA} (p : PK X ks t) (i : ∀ σ H Q, t' σ H Q → t σ H Q) : PK X ks t' := ⟨fun po pins s σ H Q I w => p.run po pins s σ H Q I (i _ _ _ w)⟩
theorem PO.imp {e : Option Expr} {t t' : TO} (p : PO X e t) (i : ∀ σ H Q, t' σ H Q → t σ H Q) : PO X e t' := ⟨fun pins s σ H Q I w => p.run pins s σ H Q I (i _ _ _ w)⟩
theorem PI.imp {tg : Expr} {t t' : TI} (p : PI X tg e t) (i : ∀ σ H Q, t' σ H Q → t σ H Q) : PI X tg e t' := ⟨fun pins s σ H Q I w => p.run pins s σ H Q I (i _ _ _ w)⟩

/-- one value, then more -/
theorem lE.bind {w : WE} {k : D → MH → Prop} {σd : DS} {σ : L2.St} {h : MH} {H : Hp} {E : DX} {Q : VK} (at_ : At G W E σd σ h H) (q : w E σd h k) (f : ∀ d h1 v H1, k d h1 → RepV G.K H1 d v → RepH G h1 H1 → Fm h H h1 H1 → Q v H1) : lE G W w σ H Q :=
  ⟨σd, h, k, E, at_, q, f⟩

theorem se_var {i : Nat} {x : Str} (hN : X.N[i]? = some x) (hv : Vis X.env.scope x) (hd : (x == ("__debug__" : Str)) = false) (hcd : (x == ("__classdict__" : Str)) = false) : PE X (.Name x pos) (lE G W fun E σ h Q => ∃ d, σ[i]? = some (some d) ∧ Q d h) :=
  PE.imp (pe_var hN hv hd hcd) fun σ H Q ⟨σd, h, R, E, at_, ⟨d, e, q⟩, p⟩ => by
    obtain ⟨v, e2, r⟩ := at_.s.2 i d e
    exact ⟨v, e2, p.here at_.r q r⟩
theorem se_cst {v : V} {d : D} (p : PE X e (tC v)) (r : ∀ H, RepV G.K H d v) : PE X e (lE G W fun _ _ h Q => Q d h) :=
  PE.imp p fun σ H Q ⟨σd, h, R, E, at_, q, p⟩ => p.here at_.r q (r H)

variable {wa wb wc : WE}
theorem se_op {op : Operator} {f : D → D → MH → (D → MH → Prop) → Prop} (ho : OpR X (binaryOp op) (lR2 G f)) (ha : PE X a (lE G W wa)) (hb : PE X b (lE G W wb)) : PE X (.BinOp a op b pos) (lE G W fun E σ h Q => wa E σ h fun x h1 => wb E σ h1 fun y h2 => f x y h2 Q) :=
  PE.imp (pe_op ho ha hb) fun σ H Q ⟨σd, h, R, E, at_, w, p⟩ =>
    ⟨σd, h, _, E, at_, w, fun dx h1 x H1 w1 rx rh1 f1 => ⟨σd, h1, _, E, at_.fm rh1 f1, w1, fun dy h2 y H2 w2 ry rh2 f2 => ⟨dx, dy, h2, R, rx.fm rh1 f2, ry, rh2, w2, p.fm (f1.trans f2)⟩⟩⟩
theorem se_ix {f : D → D → MH → (D → MH → Prop) → Prop} (ho : IxR X (lR2 G f)) (ha : PE X a (lE G W wa)) (hb : PE X b (lE G W wb)) (hs : PlainIx b) : PE X (.Subscript a b pos) (lE G W fun E σ h Q => wa E σ h fun x h1 => wb E σ h1 fun y h2 => f x y h2 Q) :=
  PE.imp (pe_ix ho ha hb hs) fun σ H Q ⟨σd, h, R, E, at_, w, p⟩ =>
    ⟨σd, h, _, E, at_, w, fun dx h1 x H1 w1 rx rh1 f1 => ⟨σd, h1, _, E, at_.fm rh1 f1, w1, fun dy h2 y H2 w2 ry rh2 f2 => ⟨dx, dy, h2, R, rx.fm rh1 f2, ry, rh2, w2, p.fm (f1.trans f2)⟩⟩⟩
theorem se_neg (ha : PE X a (lE G W wa)) : PE X (.UnaryOp .USub a pos) (lE G W fun E σ h Q => wa E σ h fun x h1 => match x with
    | .int i => Q (.int (-i)) h1
    | _ => False) :=
  PE.imp (pe_un un_neg ha) fun σ H Q ⟨σd, h, R, E, at_, w, p⟩ =>
    ⟨σd, h, _, E, at_, w, fun dx h1 x H1 w1 rx rh1 f1 => by
      cases dx with
      | int i => exact ⟨i, rx.int_inv, (p.fm f1).here rh1 w1 repV_int⟩
      | _ => exact w1.elim⟩
theorem se_not (hK : X.K = G.K) (ha : PE X a (lE G W wa)) : PE X (.UnaryOp .Not a pos) (lE G W fun E σ h Q => wa E σ h fun x h1 => tru x h1 fun k => Q (.bl (!k)) h1) :=
  PE.imp (pe_notT ha) fun σ H Q ⟨σd, h, R, E, at_, w, p⟩ =>
    ⟨σd, h, _, E, at_, w, fun dx h1 x H1 w1 rx rh1 f1 => by
      obtain ⟨k, t, q⟩ := tru_of hK rx rh1 w1
      exact ⟨k, t, (p.fm f1).here rh1 q repV_bl⟩⟩
theorem se_and (hK : X.K = G.K) (ha : PE X a (lE G W wa)) (hb : PE X (.BoolOp .And (b :: es) pos) (lE G W wb)) : PE X (.BoolOp .And (a :: b :: es) pos) (lE G W fun E σ h Q => wa E σ h fun x h1 => tru x h1 fun k => if k = true then wb E σ h1 Q else Q x h1) :=
  PE.imp (pe_andT ha hb) fun σ H Q ⟨σd, h, R, E, at_, w, p⟩ =>
    ⟨σd, h, _, E, at_, w, fun dx h1 x H1 w1 rx rh1 f1 => by
      obtain ⟨k, t, q⟩ := tru_of hK rx rh1 w1
      refine ⟨k, t, ?_⟩
      cases k with
      | true => exact ⟨σd, h1, R, E, at_.fm rh1 f1, q, p.fm f1⟩
      | false => exact (p.fm f1).here rh1 q rx⟩
theorem se_or (hK : X.K = G.K) (ha : PE X a (lE G W wa)) (hb : PE X (.BoolOp .Or (b :: es) pos) (lE G W wb)) : PE X (.BoolOp .Or (a :: b :: es) pos) (lE G W fun E σ h Q => wa E σ h fun x h1 => tru x h1 fun k => if k = true then Q x h1 else wb E σ h1 Q) :=
  PE.imp (pe_orT ha hb) fun σ H Q ⟨σd, h, R, E, at_, w, p⟩ =>
    ⟨σd, h, _, E, at_, w, fun dx h1 x H1 w1 rx rh1 f1 => by
      obtain ⟨k, t, q⟩ := tru_of hK rx rh1 w1
      refine ⟨k, t, ?_⟩
      cases k with
      | true => exact (p.fm f1).here rh1 q rx
      | false => exact ⟨σd, h1, R, E, at_.fm rh1 f1, q, p.fm f1⟩⟩
variable {wt wu : DX → DS → MH → (Bool → MH → Prop) → Prop}
theorem se_ite (hc : PT X c (lT G W wt)) (ha : PE X a (lE G W wa)) (hb : PE X b (lE G W wb)) : PE X (.IfExp c a b pos) (lE G W fun E σ h Q => wt E σ h fun k h1 => if k = true then wa E σ h1 Q else wb E σ h1 Q) :=
  PE.imp (pe_ifExp hc ha hb) fun σ H Q ⟨σd, h, R, E, at_, w, p⟩ =>
    ⟨σd, h, _, E, at_, w, fun k h1 H1 w1 rh1 f1 => by
      cases k with
      | true => exact ⟨σd, h1, R, E, at_.fm rh1 f1, w1, p.fm f1⟩
      | false => exact ⟨σd, h1, R, E, at_.fm rh1 f1, w1, p.fm f1⟩⟩
theorem se_cmp {op : CmpOp} (ok : Ok X G) (ha : PE X a (lE G W wa)) (hb : PE X b (lE G W wb)) (hm : behindInMarks op b = false) : PE X (.Compare a [op] [b] pos) (lE G W fun E σ h Q => wa E σ h fun x h1 => wb E σ h1 fun y h2 => cop op x y h2 fun k => Q (.bl k) h2) :=
  PE.imp (pe_cmpR (op_cmpD ok op) ha hb hm) fun σ H Q ⟨σd, h, R, E, at_, w, p⟩ =>
    ⟨σd, h, _, E, at_, w, fun dx h1 x H1 w1 rx rh1 f1 => ⟨σd, h1, _, E, at_.fm rh1 f1, w1, fun dy h2 y H2 w2 ry rh2 f2 => ⟨dx, dy, h2, _, rx.fm rh1 f2, ry, rh2, w2, fun k q => (p.fm (f1.trans f2)).here rh2 q repV_bl⟩⟩⟩
theorem st_cmp {op : CmpOp} (ok : Ok X G) (ha : PE X a (lE G W wa)) (hb : PE X b (lE G W wb)) (hm : behindInMarks op b = false) : PT X (.Compare a [op] [b] pos) (lT G W fun E σ h Q => wa E σ h fun x h1 => wb E σ h1 fun y h2 => cop op x y h2 fun k => Q k h2) :=
  PT.imp (pt_cmpR (op_cmpD ok op) ha hb hm) fun σ H Q ⟨σd, h, R, E, at_, w, p⟩ =>
    ⟨σd, h, _, E, at_, w, fun dx h1 x H1 w1 rx rh1 f1 => ⟨σd, h1, _, E, at_.fm rh1 f1, w1, fun dy h2 y H2 w2 ry rh2 f2 => ⟨dx, dy, h2, _, rx.fm rh1 f2, ry, rh2, w2, fun k q => ⟨k, rfl, p k h2 H2 q rh2 (f1.trans f2)⟩⟩⟩⟩
theorem se_chn {op op' : CmpOp} (ok : Ok X G) (ha : PE X a (lE G W wa)) (hb : PE X b (lE G W wb)) (hc : PE X c (lE G W wc)) (hm : lastMarks [op, op'] [b, c] = false) : PE X (.Compare a [op, op'] [b, c] pos) (lE G W fun E σ h Q => wa E σ h fun x h1 => wb E σ h1 fun y h2 => cop op x y h2 fun k =>
      if k = true then wc E σ h2 fun z h3 => cop op' y z h3 fun k' => Q (.bl k') h3 else Q (.bl false) h2) :=
  PE.imp (pe_chain (op_cmpD ok op) (op_cmpD ok op') ha hb hc hm) fun σ H Q ⟨σd, h, R, E, at_, w, p⟩ =>
    ⟨σd, h, _, E, at_, w, fun dx h1 x H1 w1 rx rh1 f1 => ⟨σd, h1, _, E, at_.fm rh1 f1, w1, fun dy h2 y H2 w2 ry rh2 f2 => ⟨dx, dy, h2, _, rx.fm rh1 f2, ry, rh2, w2, fun k q => ⟨k, rfl, by
      cases k with
      | false => exact (p.fm (f1.trans f2)).here rh2 q repV_bl
      | true => exact ⟨σd, h2, _, E, (at_.fm rh1 f1).fm rh2 f2, q, fun dz h3 z H3 w3 rz rh3 f3 => ⟨dy, dz, h3, _, ry.fm rh2 f3, rz, rh3, w3, fun k' q' => (p.fm ((f1.trans f2).trans f3)).here rh3 q' repV_bl⟩⟩⟩⟩⟩⟩
theorem st_chn {op op' : CmpOp} (ok : Ok X G) (ha : PE X a (lE G W wa)) (hb : PE X b (lE G W wb)) (hc : PE X c (lE G W wc)) (hm : lastMarks [op, op'] [b, c] = false) : PT X (.Compare a [op, op'] [b, c] pos) (lT G W fun E σ h Q => wa E σ h fun x h1 => wb E σ h1 fun y h2 => cop op x y h2 fun k =>
      if k = true then wc E σ h2 fun z h3 => cop op' y z h3 fun k' => Q k' h3 else Q false h2) :=
  PT.imp (pt_chain (op_cmpD ok op) (op_cmpD ok op') ha hb hc hm) fun σ H Q ⟨σd, h, R, E, at_, w, p⟩ =>
    ⟨σd, h, _, E, at_, w, fun dx h1 x H1 w1 rx rh1 f1 => ⟨σd, h1, _, E, at_.fm rh1 f1, w1, fun dy h2 y H2 w2 ry rh2 f2 => ⟨dx, dy, h2, _, rx.fm rh1 f2, ry, rh2, w2, fun k q => ⟨k, rfl, by
      cases k with
      | false => exact ⟨false, rfl, p false h2 H2 q rh2 (f1.trans f2)⟩
      | true => exact ⟨σd, h2, _, E, (at_.fm rh1 f1).fm rh2 f2, q, fun dz h3 z H3 w3 rz rh3 f3 => ⟨dy, dz, h3, _, ry.fm rh2 f3, rz, rh3, w3, fun k' q' => ⟨k', rfl, p k' h3 H3 q' rh3 ((f1.trans f2).trans f3)⟩⟩⟩⟩⟩⟩⟩
theorem st_val (hK : X.K = G.K) (ha : PE X a (lE G W wa)) (he : ∀ whole, isTrue a X.env whole = (do let v ← whole; standAt a.pos; holding [v] (truthy v))) : PT X a (lT G W fun E σ h Q => wa E σ h fun x h1 => tru x h1 fun k => Q k h1) :=
  PT.imp (pt_truth ha he) fun σ H Q ⟨σd, h, R, E, at_, w, p⟩ =>
    ⟨σd, h, _, E, at_, w, fun dx h1 x H1 w1 rx rh1 f1 => by
      obtain ⟨k, t, q⟩ := tru_of hK rx rh1 w1
      exact ⟨k, t, p k h1 H1 q rh1 f1⟩⟩
theorem st_not (ha : PT X a (lT G W wt)) : PT X (.UnaryOp .Not a pos) (lT G W fun E σ h Q => wt E σ h fun k h1 => Q (!k) h1) :=
  PT.imp (pt_not ha) fun σ H Q ⟨σd, h, R, E, at_, w, p⟩ => ⟨σd, h, _, E, at_, w, fun k h1 H1 w1 rh1 f1 => p (!k) h1 H1 w1 rh1 f1⟩
theorem sw_and (ha : PT X a (lT G W wt)) (hb : PW X (.BoolOp .And (b :: es) pos) (lT G W wu)) : PW X (.BoolOp .And (a :: b :: es) pos) (lT G W fun E σ h Q => wt E σ h fun k h1 => if k = true then wu E σ h1 Q else Q false h1) :=
  PW.imp (pw_and ha hb) fun σ H Q ⟨σd, h, R, E, at_, w, p⟩ => ⟨σd, h, _, E, at_, w, fun k h1 H1 w1 rh1 f1 => by
    cases k with
    | true => exact ⟨σd, h1, R, E, at_.fm rh1 f1, w1, p.fm f1⟩
    | false => exact p false h1 H1 w1 rh1 f1⟩
theorem sw_or (ha : PT X a (lT G W wt)) (hb : PW X (.BoolOp .Or (b :: es) pos) (lT G W wu)) : PW X (.BoolOp .Or (a :: b :: es) pos) (lT G W fun E σ h Q => wt E σ h fun k h1 => if k = true then Q true h1 else wu E σ h1 Q) :=
  PW.imp (pw_or ha hb) fun σ H Q ⟨σd, h, R, E, at_, w, p⟩ => ⟨σd, h, _, E, at_, w, fun k h1 H1 w1 rh1 f1 => by
    cases k with
    | true => exact p true h1 H1 w1 rh1 f1
    | false => exact ⟨σd, h1, R, E, at_.fm rh1 f1, w1, p.fm f1⟩⟩
abbrev WL := DX → DS → MH → (List D → MH → Prop) → Prop
variable {wl wk : WL}
theorem sa_nil : PA X [] (lA G W fun _ _ h Q => Q [] h) := PA.imp pa_nil fun σ H Q ⟨σd, h, R, E, at_, w, p⟩ => p [] h [] H w repVs_nil at_.r Fm.refl
theorem sa_cons (ha : PE X a (lE G W wa)) (hr : PA X es (lA G W wl)) (hs : starEach (a :: es) X.env = (false, eval a X.env) :: starEach es X.env) : PA X (a :: es) (lA G W fun E σ h Q => wa E σ h fun x h1 => wl E σ h1 fun xs h2 => Q (x :: xs) h2) :=
  PA.imp (pa_cons ha hr hs) fun σ H Q ⟨σd, h, R, E, at_, w, p⟩ => ⟨σd, h, _, E, at_, w, fun dx h1 x H1 w1 rx rh1 f1 => ⟨σd, h1, _, E, at_.fm rh1 f1, w1, fun ds h2 xs H2 w2 rs rh2 f2 => p (dx :: ds) h2 (x :: xs) H2 w2 (repVs_cons (rx.fm rh1 f2) rs) rh2 (f1.trans f2)⟩⟩
theorem sk_nil : PK X [] (lA G W fun _ _ h Q => Q [] h) := PK.imp pk_nil fun σ H Q ⟨σd, h, R, E, at_, w, p⟩ => p [] h [] H w repVs_nil at_.r Fm.refl
theorem sk_cons {ks : List Keyword} {nm : Option Str} {kp : Pos} (ha : PE X a (lE G W wa)) (hr : PK X ks (lA G W wl)) : PK X (⟨nm, a, kp⟩ :: ks) (lA G W fun E σ h Q => wa E σ h fun x h1 => wl E σ h1 fun xs h2 => Q (x :: xs) h2) :=
  PK.imp (pk_cons ha hr) fun σ H Q ⟨σd, h, R, E, at_, w, p⟩ => ⟨σd, h, _, E, at_, w, fun dx h1 x H1 w1 rx rh1 f1 => ⟨σd, h1, _, E, at_.fm rh1 f1, w1, fun ds h2 xs H2 w2 rs rh2 f2 => p (dx :: ds) h2 (x :: xs) H2 w2 (repVs_cons (rx.fm rh1 f2) rs) rh2 (f1.trans f2)⟩⟩
theorem se_tup {x1} (ha : PA X es (lA G W wl)) : PE X (.Tuple es x1 pos) (lE G W fun E σ h Q => wl E σ h fun ds h1 => Fits ds.length ∧ Q (.tup ds) h1) :=
  PE.imp (pe_tup ha) fun σ H Q ⟨σd, h, R, E, at_, w, p⟩ => ⟨σd, h, _, E, at_, w, fun ds h1 xs H1 w1 rs rh1 f1 => ⟨by rw [rs.length]; exact w1.1, fun l n => (p.fm f1).tup rh1 w1.2 rs n⟩⟩
theorem se_lst (ha : PA X es (lA G W wl)) : PE X (.List es pos) (lE G W fun E σ h Q => wl E σ h fun ds h1 => Fits ds.length ∧ al (.lst ds) h1 Q) :=
  PE.imp (pe_lst ha) fun σ H Q ⟨σd, h, R, E, at_, w, p⟩ => ⟨σd, h, _, E, at_, w, fun ds h1 xs H1 w1 rs rh1 f1 => ⟨by rw [rs.length]; exact w1.1, fun l n => (p.fm f1).new rh1 w1.2 rs n⟩⟩
theorem so_none : PO X none (lO G W fun _ _ h Q => Q none h) := PO.imp po_none fun σ H Q ⟨σd, h, R, E, at_, w, p⟩ => p none h H w at_.r Fm.refl
theorem so_some (ha : PE X a (lE G W wa)) : PO X (some a) (lO G W fun E σ h Q => wa E σ h fun x h1 => match x with
    | .int i => Q (some i) h1
    | _ => False) :=
  PO.imp (po_some ha) fun σ H Q ⟨σd, h, R, E, at_, w, p⟩ => ⟨σd, h, _, E, at_, w, fun dx h1 x H1 w1 rx rh1 f1 => by
    cases dx with
    | int i => exact ⟨i, rx.int_inv, p (some i) h1 H1 w1 rh1 f1⟩
    | _ => exact w1.elim⟩
theorem se_sl {lo hi : Option Expr} {wo wp : DX → DS → MH → (Option Int → MH → Prop) → Prop} {p2 : Pos} (hK : X.K = G.K) (ha : PE X a (lE G W wa)) (hl : PO X lo (lO G W wo)) (hu : PO X hi (lO G W wp)) : PE X (.Subscript a (.Slice lo hi none p2) pos) (lE G W fun E σ h Q => wa E σ h fun x h1 => wo E σ h1 fun l h2 => wp E σ h2 fun u h3 => slD x l u h3 Q) :=
  PE.imp (pe_slice (sl_D hK) ha hl hu) fun σ H Q ⟨σd, h, R, E, at_, w, p⟩ => ⟨σd, h, _, E, at_, w, fun dx h1 x H1 w1 rx rh1 f1 => ⟨σd, h1, _, E, at_.fm rh1 f1, w1, fun l h2 H2 w2 rh2 f2 =>
    ⟨σd, h2, _, E, (at_.fm rh1 f1).fm rh2 f2, w2, fun u h3 H3 w3 rh3 f3 => ⟨dx, h3, R, (rx.fm rh1 f2).fm rh2 f3, rh3, w3, p.fm ((f1.trans f2).trans f3)⟩⟩⟩⟩
/-- a built-in by its name -/
theorem se_bi {es' : List Expr} {x : Str} {p : Pos} {f : List D → MH → (D → MH → Prop) → Prop} {T : String} (hv' : bootBuiltins x = some (.builtin T) ∨ bootBuiltins x = some (.type T)) (u : Value) (hv : bootBuiltins x = some u) (hcb : CallR X u (lBi G f)) (hg : Gl X x) (hm : X.mg x = none) (ha : PA X (a :: es) (lA G W wl)) (hn : x ≠ "__name__") (hdb : (x == ("__debug__" : Str)) = false)
    (he : starEach (a :: es) X.env = (false, eval a X.env) :: starEach es X.env) (hpl : (backTo pos (starEach es X.env)).any (·.1) = false) : PE X (.Call (.Name x p) (a :: es) [] pos) (lE G W fun E σ h Q => wl E σ h fun ds h1 => f ds h1 Q) := by
  have key : ∀ σ H Q, lE G W (fun E σ h Q => wl E σ h fun ds h1 => f ds h1 Q) σ H Q → tCB (lBi G f) (lA G W wl) σ H Q := fun σ H Q ⟨σd, h, R, E, at_, w, p⟩ =>
    ⟨σd, h, _, E, at_, w, fun ds h1 xs H1 w1 rs rh1 f1 => ⟨ds, h1, R, rs, rh1, w1, p.fm f1⟩⟩
  rcases hv' with z | z
  · rw [hv] at z; cases z
    exact PE.imp (pe_callB hcb hg hm hv ha hn hdb he hpl) key
  · rw [hv] at z; cases z
    exact PE.imp (pe_callTy hcb hg hm hv ha hn hdb he hpl) key
theorem se_met0 {o : Expr} {m : Mt} {name : Str} {apos cpos : Pos} (ok : Ok X G) (pa : PlainAttrs (mtT m)) (slot : Slot (mtT m) name (mtId m)) (hty : typeOf (.builtin (mtId m)) = pure (.type "method_descriptor")) (ho : PE X o (lE G W wa))
    (hbase : attributeBase o name X.env (eval o X.env) = eval o X.env) (hline : (apos.endLine == cpos.line) = true) : PE X (.Call (.Attribute o name apos) [] [] cpos) (lE G W fun E σ h Q => wa E σ h fun x h1 => mtTy m x h1 ∧ met m x [] h1 Q) :=
  PE.imp (pe_bm0 pa slot hty (met_D ok m) ho hbase hline) fun σ H Q ⟨σd, h, R, E, at_, w, p⟩ => ⟨σd, h, _, E, at_, w, fun dx h1 x H1 w1 rx rh1 f1 => ⟨met_tyV (X := X) rh1 rx w1.1, dx, [], h1, R, rx, repVs_nil, rh1, w1.2, p.fm f1⟩⟩
theorem se_met {o : Expr} {m : Mt} {name : Str} {apos cpos : Pos} (ok : Ok X G) (pa : PlainAttrs (mtT m)) (slot : Slot (mtT m) name (mtId m)) (hty : typeOf (.builtin (mtId m)) = pure (.type "method_descriptor")) (ho : PE X o (lE G W wa)) (ha : PA X (a :: es) (lA G W wl))
    (hbase : attributeBase o name X.env (eval o X.env) = eval o X.env)
    (hfew : ((backTo cpos (starEach (a :: es) X.env)).all (fun x => !x.1) && (backToKw cpos (keywordEach [] X.env)).all (fun x => x.1.isSome)
      && decide ((a :: es).length + ([] : List Keyword).length + (if ([] : List Keyword).isEmpty then 0 else 1) < 30)) = true)
    (hline : (apos.endLine == cpos.line) = true) (hs : starEach (a :: es) X.env = (false, eval a X.env) :: starEach es X.env) (hplain : (backTo cpos (starEach es X.env)).any (·.1) = false) :
    PE X (.Call (.Attribute o name apos) (a :: es) [] cpos) (lE G W fun E σ h Q => wa E σ h fun x h1 => mtTy m x h1 ∧ wl E σ h1 fun ds h2 => met m x ds h2 Q) :=
  PE.imp (pe_bm pa slot hty (met_D ok m) ho ha hbase hfew hline hs hplain) fun σ H Q ⟨σd, h, R, E, at_, w, p⟩ => ⟨σd, h, _, E, at_, w, fun dx h1 x H1 w1 rx rh1 f1 => ⟨met_tyV (X := X) rh1 rx w1.1,
    σd, h1, _, E, at_.fm rh1 f1, w1.2, fun ds h2 xs H2 w2 rs rh2 f2 => ⟨dx, ds, h2, R, rx.fm rh1 f2, rs, rh2, w2, p.fm (f1.trans f2)⟩⟩⟩
end
end DL
set_option Elab.async false
set_option linter.all false
set_option maxRecDepth 100000
set_option maxHeartbeats 1000000
/-! The D layer, 7: what is walked, targets, displays of dicts, comprehensions. -/
namespace DL
open PySem PySem.Spec PyProof.Rows L2

/-! ### what is walked -/
def iSeq (K : PySem.W.Frag) (te : TE) : TI := fun σ H R => te σ H fun x H1 =>
  (∃ a xs, x = .ref a ∧ SqL K H1 a xs ∧ R (Itl K a) H1) ∨ (∃ a xs, x = .ref a ∧ SqT K H1 a xs ∧ R (Itt K a) H1) ∨ ∃ z, x = .str z ∧ R (Its z) H1
theorem pi_seq {X : Cx} {tg e : Expr} {te : TE} (he : PE X e te) : PI X tg e (iSeq X.K te) := by
  refine ⟨fun pins s σ H R I h => ?_⟩
  refine thn (he.run pins s σ H _ I h) fun v s1 ⟨y, H1, I1, r1, q⟩ => ?_
  rcases q with ⟨a, xs, rfl, hq, q⟩ | ⟨a, xs, rfl, hq, q⟩ | ⟨z, rfl, q⟩
  · cases r1
    obtain ⟨its, rv, p, hz⟩ := I1.list hq
    exact wpAny_pyIter_list p.isList (pi_one (tk := s1.toks) I1 _ (turn_list a _) ⟨_, Heap.get?_push_size _ rfl, rfl, rfl⟩ q)
  · cases r1
    obtain ⟨its, rv, p, hz⟩ := I1.tuple hq
    exact wpAny_pyIter_tuple (show s1.heap.IsTuple a its.toArray from p) (pi_one (tk := s1.toks) I1 _ (turn_tuple a _) ⟨_, Heap.get?_push_size _ rfl, rfl, rfl⟩ q)
  · obtain ⟨t, rfl⟩ := r1
    cases ha : z.cps.all (· < 128)
    · exact wpAny_pyIter_wide ha (pi_one (tk := s1.toks) I1 _ (turn_str _ z t "str_iterator" (.inr rfl)) ⟨_, Heap.get?_push_size _ rfl, rfl, rfl⟩ q)
    · exact wpAny_pyIter_ascii ha (pi_one (tk := s1.toks) I1 _ (turn_str _ z t "str_ascii_iterator" (.inl rfl)) ⟨_, Heap.get?_push_size _ rfl, rfl, rfl⟩ q)

section
variable {G : Gr} {h0 : MH} {H0 : Hp} {K : PySem.W.Frag}
theorem sqL_det {H : Hp} {a : Addr} {xs vs : List V} (e : H a = some (.lst vs)) (hn : K.lookup a = none ∨ True) (q : Rd H a (.lst xs)) : xs = vs := by
  rcases q with q | ⟨ob, q⟩
  · rw [e] at q; cases q; rfl
  · rw [e] at q; cases q
/-- the list at a, unchanged -/
theorem it_list (rh : RepH G h0 H0) {a : Addr} {xs : List D} : ItRel G h0 H0 ⟨xs, fun h' => h' a = some (.lst xs)⟩ (Itl G.K a) := fun h H r f e => by
  obtain ⟨vs, g, rv⟩ := r.lst e
  refine ⟨fun i d ed => ?_, vs, .of g, Nat.le_of_eq rv.length⟩
  obtain ⟨v, ev, rd⟩ := rv.get ed
  refine ⟨⟨vs, v, .of g, ev⟩, fun x H' y => ?_⟩
  obtain ⟨rfl, y⟩ := y
  have := y vs (.of g)
  rw [ev] at this; cases this
  exact ⟨rd, r, Fm.refl⟩
theorem it_tup (rh : RepH G h0 H0) {a : Addr} {vs : List V} {xs : List D} (q : SqT G.K H0 a vs) (rv : RepVs G.K H0 xs vs) : ItRel G h0 H0 ⟨xs, fun _ => True⟩ (Itt G.K a) := fun h H r f _ => by
  have q' := f.t _ _ q
  have rv' := rv.mono f
  refine ⟨fun i d ed => ?_, vs, q', Nat.le_of_eq rv.length⟩
  obtain ⟨v, ev, rd⟩ := rv'.get ed
  refine ⟨⟨vs, v, q', ev⟩, fun x H' y => ?_⟩
  obtain ⟨rfl, y⟩ := y
  have := y vs q'
  rw [ev] at this; cases this
  exact ⟨rd, r, Fm.refl⟩
theorem it_scr (rh : RepH G h0 H0) {a : Addr} {vs : List V} {xs : List D} (q : FzL G.K H0 a vs) (rv : RepVs G.K H0 xs vs) : ItRel G h0 H0 ⟨xs, fun _ => True⟩ (Itl G.K a) := fun h H r f _ => by
  have q' := (f.l _ _ q).sq
  have rv' := rv.mono f
  refine ⟨fun i d ed => ?_, vs, q', Nat.le_of_eq rv.length⟩
  obtain ⟨v, ev, rd⟩ := rv'.get ed
  refine ⟨⟨vs, v, q', ev⟩, fun x H' y => ?_⟩
  obtain ⟨rfl, y⟩ := y
  have := y vs q'
  rw [ev] at this; cases this
  exact ⟨rd, r, Fm.refl⟩
theorem it_str {z : Str} : ItRel G h0 H0 ⟨z.cps.toList.map fun c => .str ⟨#[c]⟩, fun _ => True⟩ (Its z) := fun h H r f _ => by
  refine ⟨fun i d ed => ?_, by show z.cps.size ≤ _; simp⟩
  rw [List.getElem?_map] at ed
  cases e : z.cps.toList[i]? with
  | none => rw [e] at ed; cases ed
  | some c =>
    rw [e] at ed; cases ed
    have e' : z.cps[i]? = some c := by simpa using e
    refine ⟨(Array.getElem?_eq_some_iff.mp e').1, fun x H' y => ?_⟩
    obtain ⟨rfl, c', e2, rfl⟩ := y
    rw [e'] at e2; cases e2
    exact ⟨repV_str, r, Fm.refl⟩
theorem it_rng {lo : Int} {n : Nat} : ItRel G h0 H0 ⟨(List.range n).map fun (k : Nat) => .int (lo + k), fun _ => True⟩ (Itr lo n) := fun h H r f _ => by
  refine ⟨fun i d ed => ?_, by show n ≤ _; simp⟩
  rw [List.getElem?_map] at ed
  cases e : (List.range n)[i]? with
  | none => rw [e] at ed; cases ed
  | some c =>
    rw [e] at ed; cases ed
    obtain ⟨hi, e⟩ := List.getElem?_eq_some_iff.mp e
    simp at hi e; subst e
    · refine ⟨hi, fun x H' y => ?_⟩
      obtain ⟨rfl, rfl⟩ := y
      exact ⟨repV_int, r, Fm.refl⟩
theorem it_rngC {lo : Int} {n : Nat} : ItRel G h0 H0 ⟨(List.range n).map fun (k : Nat) => .int (lo - k), fun _ => True⟩ (Itc lo (-1) n) := fun h H r f _ => by
  refine ⟨fun i d ed => ?_, by show n ≤ _; simp⟩
  rw [List.getElem?_map] at ed
  cases e : (List.range n)[i]? with
  | none => rw [e] at ed; cases ed
  | some c =>
    rw [e] at ed; cases ed
    obtain ⟨hi, e⟩ := List.getElem?_eq_some_iff.mp e
    simp at hi e; subst e
    · refine ⟨hi, fun x H' y => ?_⟩
      obtain ⟨rfl, rfl⟩ := y
      have e2 : lo + (i : Int) * -1 = lo - i := by omega
      rw [e2]
      exact ⟨repV_int, r, Fm.refl⟩
theorem repPair {H : Hp} {h : MH} (r : RepH G h H) {x y : V} {dx dy : D} {T : Addr} (n : H T = none) (rx : RepV G.K H dx x) (ry : RepV G.K H dy y) :
    RepV G.K (L2.upd H T (.tup [x, y])) (.tup [dx, dy]) (.ref T) ∧ RepH G h (L2.upd H T (.tup [x, y])) ∧ Fm h H h (L2.upd H T (.tup [x, y])) :=
  ⟨RepV.tupNew n (repVs_cons rx (repVs_cons ry repVs_nil)), r.aside n, Fm.aside n⟩
theorem it_enm (rh : RepH G h0 H0) {a : Addr} {xs : List D} : ItRel G h0 H0 ⟨xs.zipIdx.map fun p => .tup [.int p.2, p.1], fun h' => h' a = some (.lst xs)⟩ (Ite G.K a) := fun h H r f e => by
  obtain ⟨vs, g, rv⟩ := r.lst e
  refine ⟨fun i d ed => ?_, vs, .of g, by simp [rv.length]⟩
  rw [List.getElem?_map, List.getElem?_zipIdx] at ed
  cases e2 : xs[i]? with
  | none => rw [e2] at ed; cases ed
  | some dx =>
    rw [e2] at ed; cases ed
    obtain ⟨v, ev, rd⟩ := rv.get e2
    refine ⟨⟨vs, v, .of g, ev⟩, fun x H' y => ?_⟩
    obtain ⟨T, x', rfl, n, rfl, y⟩ := y
    have := y vs (.of g)
    rw [ev] at this; cases this
    have e3 : (0 + i : Nat) = i := Nat.zero_add i
    simp only [e3]
    exact repPair r n repV_int rd
theorem zip_get {α β : Type} {xs : List α} {ys : List β} {i : Nat} {p : α × β} (e : (xs.zip ys)[i]? = some p) : xs[i]? = some p.1 ∧ ys[i]? = some p.2 := by
  rw [List.getElem?_zip_eq_some] at e
  exact e
theorem it_zipL (rh : RepH G h0 H0) {a b : Addr} {xs ys : List D} : ItRel G h0 H0 ⟨(xs.zip ys).map fun p => .tup [p.1, p.2], fun h' => h' a = some (.lst xs) ∧ h' b = some (.lst ys)⟩ (Itz G.K a b) := fun h H r f ⟨e, e'⟩ => by
  obtain ⟨vs, g, rv⟩ := r.lst e
  obtain ⟨us, g', rv'⟩ := r.lst e'
  refine ⟨fun i d ed => ?_, vs, us, .of g, .of g', by simp only [List.length_map, List.length_zip, rv.length, rv'.length]; omega⟩
  rw [List.getElem?_map] at ed
  cases e2 : (xs.zip ys)[i]? with
  | none => rw [e2] at ed; cases ed
  | some p =>
    rw [e2] at ed; cases ed
    obtain ⟨h1, h2⟩ := zip_get e2
    obtain ⟨v, ev, rd⟩ := rv.get h1
    obtain ⟨v', ev', rd'⟩ := rv'.get h2
    refine ⟨⟨vs, us, v, v', .of g, .of g', ev, ev'⟩, fun x H' y => ?_⟩
    obtain ⟨T, x1, x2, rfl, n, rfl, y1, y2⟩ := y
    have z1 := y1 vs (.of g)
    have z2 := y2 us (.of g')
    rw [ev] at z1; cases z1
    rw [ev'] at z2; cases z2
    exact repPair r n rd rd'
theorem it_zipT (rh : RepH G h0 H0) {a b : Addr} {xs ys : List D} {vs us : List V} (g : SqT G.K H0 a vs) (g' : SqT G.K H0 b us) (rv : RepVs G.K H0 xs vs) (rv' : RepVs G.K H0 ys us) : ItRel G h0 H0 ⟨(xs.zip ys).map fun p => .tup [p.1, p.2], fun _ => True⟩ (RZ.ItzT G.K a b) := fun h H r f _ => by
  have g := f.t _ _ g
  have g' := f.t _ _ g'
  have rv := rv.mono f
  have rv' := rv'.mono f
  refine ⟨fun i d ed => ?_, vs, us, g, g', by simp only [List.length_map, List.length_zip, rv.length, rv'.length]; omega⟩
  rw [List.getElem?_map] at ed
  cases e2 : (xs.zip ys)[i]? with
  | none => rw [e2] at ed; cases ed
  | some p =>
    rw [e2] at ed; cases ed
    obtain ⟨h1, h2⟩ := zip_get e2
    obtain ⟨v, ev, rd⟩ := rv.get h1
    obtain ⟨v', ev', rd'⟩ := rv'.get h2
    refine ⟨⟨vs, us, v, v', g, g', ev, ev'⟩, fun x H' y => ?_⟩
    obtain ⟨T, x1, x2, rfl, n, rfl, y1, y2⟩ := y
    have z1 := y1 vs g
    have z2 := y2 us g'
    rw [ev] at z1; cases z1
    rw [ev'] at z2; cases z2
    exact repPair r n rd rd'
theorem rev_get {α : Type} {xs : List α} {i : Nat} {d : α} (e : xs.reverse[i]? = some d) : i < xs.length ∧ xs[xs.length - 1 - i]? = some d := by
  have hi : i < xs.length := by
    have := (List.getElem?_eq_some_iff.mp e).1
    simpa using this
  rw [List.getElem?_reverse hi] at e
  exact ⟨hi, e⟩
theorem it_revL (rh : RepH G h0 H0) {a : Addr} {xs : List D} : ItRel G h0 H0 ⟨xs.reverse, fun h' => h' a = some (.lst xs)⟩ (Itv G.K a xs.length) := fun h H r f e => by
  obtain ⟨vs, g, rv⟩ := r.lst e
  refine ⟨fun i d ed => ?_, by show xs.length ≤ _; simp⟩
  obtain ⟨hi, ed⟩ := rev_get ed
  obtain ⟨v, ev, rd⟩ := rv.get ed
  refine ⟨⟨hi, vs, v, .of g, ev⟩, fun x H' y => ?_⟩
  obtain ⟨rfl, y⟩ := y
  have := y vs (.of g)
  rw [ev] at this; cases this
  exact ⟨rd, r, Fm.refl⟩
theorem it_revT (rh : RepH G h0 H0) {a : Addr} {vs : List V} {xs : List D} (q : SqT G.K H0 a vs) (rv : RepVs G.K H0 xs vs) : ItRel G h0 H0 ⟨xs.reverse, fun _ => True⟩ (RT.ItvT G.K a xs.length) := fun h H r f _ => by
  have q' := f.t _ _ q
  have rv' := rv.mono f
  refine ⟨fun i d ed => ?_, by show xs.length ≤ _; simp⟩
  obtain ⟨hi, ed⟩ := rev_get ed
  obtain ⟨v, ev, rd⟩ := rv'.get ed
  refine ⟨⟨hi, vs, v, q', ev⟩, fun x H' y => ?_⟩
  obtain ⟨rfl, y⟩ := y
  have := y vs q'
  rw [ev] at this; cases this
  exact ⟨rd, r, Fm.refl⟩
end
section
variable {X : Cx} {G : Gr} {W : WX} {e e2 tg : Expr} {p pos : Pos} {wa wb : WE} {wl : WL}
theorem si_of (hK : X.K = G.K) (he : PE X e (lE G W wa)) : PI X tg e (lI G W fun E σ h R => wa E σ h fun x h1 => walkD x h1 fun J => R J h1) :=
  PI.imp (pi_seq he) fun σ H Q ⟨σd, h, R, E, at_, w, p⟩ => ⟨σd, h, _, E, at_, w, fun dx h1 x H1 w1 rx rh1 f1 => by
    cases dx with
    | tup ds =>
      obtain ⟨a, vs, rfl, sa, ra⟩ := repV_tup.mp rx
      exact .inr (.inl ⟨a, vs, rfl, by rw [hK]; exact sa, by rw [hK]; exact p _ _ _ _ w1 (it_tup rh1 sa ra) rh1 f1⟩)
    | scr ds =>
      obtain ⟨a, vs, rfl, sa, ra⟩ := repV_scr.mp rx
      exact .inl ⟨a, vs, rfl, by rw [hK]; exact sa.sq, by rw [hK]; exact p _ _ _ _ w1 (it_scr rh1 sa ra) rh1 f1⟩
    | str z => exact .inr (.inr ⟨z, rx.str_inv, p _ _ _ _ w1 it_str rh1 f1⟩)
    | ref a =>
      obtain ⟨xs, ea, q⟩ := w1
      obtain ⟨vs, g, rv⟩ := rh1.lst ea
      exact .inl ⟨a, vs, rx.ref_inv, .of g, by rw [hK]; exact p _ _ _ _ q (it_list rh1) rh1 f1⟩
    | _ => exact w1.elim⟩

/-- range of any arguments -/
def iRngA (ta : TA) : TI := fun σ H R => ta σ H fun vs H1 =>
  (∃ j : Int, vs = [.int j] ∧ -(2 ^ 62) ≤ j ∧ j < 2 ^ 62 ∧ R (Itr 0 j.toNat) H1) ∨ (∃ i j : Int, vs = [.int i, .int j] ∧ (-(2 ^ 62) ≤ i ∧ i < 2 ^ 62 ∧ -(2 ^ 62) ≤ j ∧ j < 2 ^ 62) ∧ R (Itr i (j - i).toNat) H1) ∨
    ∃ (i j c : Int) (n : Nat), vs = [.int i, .int j, .int c] ∧ RgC i j c n ∧ R (Itc i c n) H1
theorem pi_rangeA {es : List Expr} {ta : TA} (hg : Gl X "range") (hm : X.mg "range" = none) (ha : PA X (e :: es) ta)
    (hs : starEach (e :: es) X.env = (false, eval e X.env) :: starEach es X.env) (hpl : (backTo pos (starEach es X.env)).any (·.1) = false) :
    PI X tg (.Call (.Name "range" p) (e :: es) [] pos) (iRngA ta) := by
  refine ⟨fun pins s σ H R I h => ?_⟩
  refine Call_ (ld_blt I hg hm boot_range (PyProof.Rows.callWith_type1 (thn (ha.run pos pins s σ H _ I h) fun us s1 ⟨vs, H1, I1, r1, q1⟩ => ?_) hs hpl))
  rcases q1 with ⟨j, rfl, q1, q2, q⟩ | ⟨i, j, rfl, ⟨q1, q2, q3, q4⟩, q⟩ | ⟨i, j, k, n, rfl, ⟨c0, c1, c2, c3⟩, q⟩
  · cases r1 with
    | cons r rr =>
      cases rr
      obtain ⟨t, rfl⟩ := r
      exact call_range_1 (range_it I1 (by omega) (by omega) q1 q2 (by simpa using q))
  · cases r1 with
    | cons r rr =>
      cases rr with
      | cons r' rr =>
        cases rr
        obtain ⟨t, rfl⟩ := r
        obtain ⟨t', rfl⟩ := r'
        exact call_range_2 (range_it I1 q1 q2 q3 q4 q)
  · cases r1 with
    | cons r rr =>
      cases rr with
      | cons r' rr =>
        cases rr with
        | cons r'' rr =>
          cases rr
          obtain ⟨t, rfl⟩ := r
          obtain ⟨t', rfl⟩ := r'
          obtain ⟨t'', rfl⟩ := r''
          refine call_range_3 c0 ?_ (.inl (PyProof.noPylong_small c1))
          refine wpAny_pyIter_range (IsRange.new ..) c2 ?_
          have I2 : Inv X pins σ H1 { s1 with heap := s1.heap.push { cls := .type "range", data := .fields #[.int i t, .int j t', .int k t''] } } := I1.kept (t' := s1.toks) fun b o e => Heap.get?_push_of_some _ e
          refine pi_one (tk := s1.toks) I2 _ (turn_rangeC _ i k n) ?_ q
          have e1 : i + ((0 : Nat) : Int) * k = i := by simp
          have e2 : (n : Int) - ((0 : Nat) : Int) = Builtin.Range.rangeSize i j k := by rw [c3]; simp
          show IsRangeIter _ _ (i + ((0 : Nat) : Int) * k) ((n : Int) - ((0 : Nat) : Int)) k
          rw [e1, e2]
          exact Heap.get?_push_size _ rfl
theorem RepVs.ints3 {K : PySem.W.Frag} {H : Hp} {a b c : Int} {vs : List V} (r : RepVs K H [.int a, .int b, .int c] vs) : vs = [.int a, .int b, .int c] := by
  obtain ⟨v, l, rfl, h1, r⟩ := r.cons_inv
  obtain ⟨v2, l, rfl, h2, r⟩ := r.cons_inv
  obtain ⟨v3, l, rfl, h3, r⟩ := r.cons_inv
  rw [h1.int_inv, h2.int_inv, h3.int_inv, r.nil_inv]
theorem si_rng {es : List Expr} (hg : Gl X "range") (hm : X.mg "range" = none) (ha : PA X (e :: es) (lA G W wl)) (hs : starEach (e :: es) X.env = (false, eval e X.env) :: starEach es X.env) (hpl : (backTo pos (starEach es X.env)).any (·.1) = false) :
    PI X tg (.Call (.Name "range" p) (e :: es) [] pos) (lI G W fun E σ h R => wl E σ h fun ds h1 => rngD ds fun J => R J h1) :=
  PI.imp (pi_rangeA hg hm ha hs hpl) fun σ H Q ⟨σd, h, R, E, at_, w, p⟩ => ⟨σd, h, _, E, at_, w, fun ds h1 xs H1 w1 rs rh1 f1 => by
    unfold rngD at w1
    split at w1
    · rename_i j
      obtain ⟨v, rfl, rv⟩ := rs.one
      refine .inl ⟨j, by rw [rv.int_inv], by omega, by omega, ?_⟩
      exact p ⟨(List.range j.toNat).map fun (k : Nat) => .int (0 + k), fun _ => True⟩ h1 (Itr 0 j.toNat) H1 (by simpa only [Int.zero_add] using w1.2) it_rng rh1 f1
    · rename_i i j
      obtain ⟨v, u, rfl, rv, ru⟩ := rs.two
      exact .inr (.inl ⟨i, j, by rw [rv.int_inv, ru.int_inv], by omega, p _ h1 (Itr i (j - i).toNat) H1 w1.2 it_rng rh1 f1⟩)
    · rename_i i j c
      obtain ⟨⟨b1, b2, b3, b4, rfl⟩, w2⟩ := w1
      exact .inr (.inr ⟨i, j, -1, (i - j).toNat, rs.ints3, RgC.neg (by omega) (by omega) (by omega) (by omega), p _ h1 (Itc i (-1) (i - j).toNat) H1 w2 it_rngC rh1 f1⟩)
    · exact w1.elim⟩
theorem si_zip {elts : List Expr} {kk : Nat} {tpos : Pos} (hK : X.K = G.K) (hg : Gl X "zip") (hm : X.mg "zip" = none) (ha : PE X e (lE G W wa)) (hb : PE X e2 (lE G W wb)) (hs : starEach [e, e2] X.env = (false, eval e X.env) :: starEach [e2] X.env) (hs2 : starEach [e2] X.env = (false, eval e2 X.env) :: starEach [] X.env)
    (hpl : (backTo pos (starEach [e2] X.env)).any (·.1) = false) : PI X (.Tuple elts kk tpos) (.Call (.Name "zip" p) [e, e2] [] pos) (lI G W fun E σ h R => wa E σ h fun x h1 => wb E σ h1 fun y h2 => zipD x y h2 fun J => R J h2) :=
  PI.imp (RZ.pi_zipA hg hm (pa_cons ha (pa_cons hb pa_nil hs2) hs) hs hpl) fun σ H Q ⟨σd, h, R, E, at_, w, p⟩ =>
    ⟨σd, h, _, E, at_, w, fun dx h1 x H1 w1 rx rh1 f1 => ⟨σd, h1, _, E, at_.fm rh1 f1, w1, fun dy h2 y H2 w2 ry rh2 f2 => by
      show ∃ a b xs ys, _
      have rx := rx.fm rh1 f2
      unfold zipD at w2
      split at w2
      · obtain ⟨a, vs, rfl, sa, ra⟩ := repV_tup.mp rx
        obtain ⟨b, us, rfl, sb, rb⟩ := repV_tup.mp ry
        exact ⟨a, b, vs, us, rfl, .inr ⟨by rw [hK]; exact sa, by rw [hK]; exact sb, by rw [hK]; exact p _ _ _ _ w2 (it_zipT rh2 sa sb ra rb) rh2 (f1.trans f2)⟩⟩
      · obtain ⟨xs, ys, e1, e2, q⟩ := w2
        obtain ⟨vs, g, _⟩ := rh2.lst e1
        obtain ⟨us, g', _⟩ := rh2.lst e2
        exact ⟨_, _, vs, us, by rw [rx.ref_inv, ry.ref_inv], .inl ⟨.of g, .of g', by rw [hK]; exact p _ _ _ _ q (it_zipL rh2) rh2 (f1.trans f2)⟩⟩
      · exact w2.elim⟩⟩
theorem si_enm {elts : List Expr} {kk : Nat} {tpos : Pos} (hK : X.K = G.K) (hg : Gl X "enumerate") (hm : X.mg "enumerate" = none) (ha : PE X e (lE G W wa)) (hs : starEach [e] X.env = [(false, eval e X.env)]) (hs2 : starEach [e] X.env = (false, eval e X.env) :: starEach [] X.env) :
    PI X (.Tuple elts kk tpos) (.Call (.Name "enumerate" p) [e] [] pos) (lI G W fun E σ h R => wa E σ h fun x h1 => enmD x h1 fun J => R J h1) :=
  PI.imp (pi_enum hg hm (pa_cons ha pa_nil hs2) hs) fun σ H Q ⟨σd, h, R, E, at_, w, p⟩ =>
    ⟨σd, h, _, E, at_, w, fun dx h1 x H1 w1 rx rh1 f1 => by
      show ∃ a xs, _
      unfold enmD at w1
      split at w1
      · obtain ⟨xs, e1, q⟩ := w1
        obtain ⟨vs, g, _⟩ := rh1.lst e1
        exact ⟨_, vs, by rw [rx.ref_inv], .of g, by rw [hK]; exact p _ _ _ _ q (it_enm rh1) rh1 f1⟩
      · exact w1.elim⟩
theorem si_rev (hK : X.K = G.K) (hg : Gl X "reversed") (hm : X.mg "reversed" = none) (ha : PE X e (lE G W wa)) (hs : starEach [e] X.env = (false, eval e X.env) :: starEach [] X.env) :
    PI X tg (.Call (.Name "reversed" p) [e] [] pos) (lI G W fun E σ h R => wa E σ h fun x h1 => revD x h1 fun J => R J h1) :=
  PI.imp (RT.pi_revA hg hm ha hs) fun σ H Q ⟨σd, h, R, E, at_, w, p⟩ =>
    ⟨σd, h, _, E, at_, w, fun dx h1 x H1 w1 rx rh1 f1 => by
      unfold revD at w1
      split at w1
      · obtain ⟨a, vs, rfl, sa, ra⟩ := repV_tup.mp rx
        exact ⟨a, vs, rfl, .inr ⟨by rw [hK]; exact sa, by rw [hK, ra.length]; exact p _ _ _ _ w1 (it_revT rh1 sa ra) rh1 f1⟩⟩
      · obtain ⟨xs, e1, q⟩ := w1
        obtain ⟨vs, g, rv⟩ := rh1.lst e1
        exact ⟨_, vs, rx.ref_inv, .inl ⟨.of g, by rw [hK, rv.length]; exact p _ _ _ _ q (it_revL rh1) rh1 f1⟩⟩
      · exact w1.elim⟩
end

/-! ### loops' targets -/
def gNms : List Nat → TGs
  | [] => gNil
  | i :: is => gCons (gName i) (gNms is)
def tgG (K : PySem.W.Frag) : Tg → TG
  | .nm i => gName i
  | .tp is => gTup K is.length (gNms is)
section
variable {G : Gr} {h : MH} {H : Hp} {σd : DS} {σ : L2.St}
theorem gNms_ok {Q : L2.St → Hp → Prop} : ∀ {is : List Nat} {ds : List D} {vs : List V} {σd : DS} {σ : L2.St}, ds.length = is.length → RepVs G.K H ds vs → RepS G.K H σd σ → (∀ σ', RepS G.K H (setAll σd is ds) σ' → Q σ' H) → gNms is vs σ H Q
  | [], [], vs, σd, σ, _, r, rs, k => by rw [r.nil_inv]; exact ⟨rfl, k σ rs⟩
  | [], _ :: _, _, _, _, l, _, _, _ => by cases l
  | _ :: _, [], _, _, _, l, _, _, _ => by cases l
  | i :: is, d :: ds, vs, σd, σ, l, r, rs, k => by
    obtain ⟨v, us, rfl, rv, r⟩ := r.cons_inv
    exact ⟨v, us, rfl, gNms_ok (Nat.succ.inj l) r (rs.set rv) k⟩
theorem tgG_ok {t : Tg} {d : D} {v : V} {P : DS → Prop} {Q : L2.St → Hp → Prop} (b : bindT t d σd P) (rv : RepV G.K H d v) (rs : RepS G.K H σd σ) (k : ∀ σd' σ', P σd' → RepS G.K H σd' σ' → Q σ' H) : tgG G.K t v σ H Q := by
  cases t with
  | nm i => exact k _ _ b (rs.set rv)
  | tp is =>
    cases d with
    | tup ds =>
      obtain ⟨a, vs, rfl, sa, ra⟩ := repV_tup.mp rv
      exact ⟨a, vs, rfl, sa, by rw [ra.length]; exact b.1, gNms_ok b.1 ra rs fun σ' r => k _ _ b.2 r⟩
    | _ => exact b.elim
end
def tgIn : Tg → List Nat → Bool
  | .nm i, vs => vs.contains i
  | .tp is, vs => is.all fun i => vs.contains i
theorem wipe_get {σ : L2.St} {i : Nat} : ∀ {vs : List Nat}, (wipe σ vs)[i]? = if i ∈ vs then (σ[i]?).map (fun _ => none) else σ[i]?
  | [] => by simp [wipe]
  | v :: vs => by
    unfold wipe
    by_cases hv : v = i
    · subst hv
      rw [if_pos List.mem_cons_self]
      by_cases hl : v < σ.length
      · rw [List.getElem?_set_self (by rw [wipe_length]; exact hl), List.getElem?_eq_getElem hl]; rfl
      · rw [List.getElem?_eq_none (by rw [List.length_set, wipe_length]; omega), List.getElem?_eq_none (by omega)]; rfl
    · rw [List.getElem?_set_ne hv, wipe_get]
      have : i ∈ v :: vs ↔ i ∈ vs := by simp [Ne.symm hv]
      simp only [this]
theorem wipe_set {σ : L2.St} {i : Nat} {x : Option V} {vs : List Nat} (hi : i ∈ vs) : wipe (σ.set i x) vs = wipe σ vs := by
  apply List.ext_getElem?
  intro j
  rw [wipe_get, wipe_get]
  by_cases hj : i = j
  · subst hj
    simp only [hi, if_true, List.getElem?_set_self']
    cases σ[i]? <;> rfl
  · rw [List.getElem?_set_ne hj]
theorem wipe_idem {σ : L2.St} {vs : List Nat} : wipe (wipe σ vs) vs = wipe σ vs := by
  apply List.ext_getElem?
  intro j
  rw [wipe_get, wipe_get]
  split
  · rw [Option.map_map]; rfl
  · rfl
theorem gNms_in {K : PySem.W.Frag} {ws : List Nat} {Q : L2.St → Hp → Prop} {H : Hp} : ∀ {is : List Nat} {vs : List V} {σ : L2.St}, (∀ i ∈ is, i ∈ ws) → gNms is vs σ H Q → gNms is vs σ H fun σ' H' => wipe σ' ws = wipe σ ws ∧ Q σ' H'
  | [], vs, σ, _, h => ⟨h.1, rfl, h.2⟩
  | i :: is, vs, σ, hi, ⟨v, r, e, q⟩ => ⟨v, r, e, by
    have q' := gNms_in (K := K) (fun j hj => hi j (List.mem_cons_of_mem _ hj)) q
    rw [wipe_set (hi i List.mem_cons_self)] at q'
    exact q'⟩
theorem tgG_in {K : PySem.W.Frag} {t : Tg} {ws : List Nat} {v : V} {σ : L2.St} {H : Hp} {Q : L2.St → Hp → Prop} (hi : tgIn t ws = true) (q : tgG K t v (wipe σ ws) H Q) : tgG K t v (wipe σ ws) H fun σ' H' => wipe σ' ws = wipe σ ws ∧ Q σ' H' := by
  cases t with
  | nm i => exact ⟨by rw [wipe_set (by simpa [tgIn] using hi), wipe_idem], q⟩
  | tp is =>
    obtain ⟨a, xs, e, s, l, q⟩ := q
    refine ⟨a, xs, e, s, l, ?_⟩
    have := gNms_in (K := K) (ws := ws) (fun i h => by simpa [tgIn] using (List.all_eq_true.mp hi) i h) q
    rw [wipe_idem] at this
    exact this
theorem RepS.wipe {K : PySem.W.Frag} {H : Hp} {σd : DS} {σ : L2.St} (r : RepS K H σd σ) : ∀ vs : List Nat, RepS K H (wipeD σd vs) (L2.wipe σ vs)
  | [] => r
  | v :: vs => by
    have q := RepS.wipe r vs
    unfold wipeD L2.wipe
    refine ⟨by rw [List.length_set, List.length_set]; exact q.1, fun i d e => ?_⟩
    by_cases hv : v = i
    · subst hv
      by_cases hl : v < (wipeD σd vs).length
      · rw [List.getElem?_set_self hl] at e; cases e
      · rw [List.getElem?_eq_none (by rw [List.length_set]; omega)] at e; cases e
    · rw [List.getElem?_set_ne hv] at e
      rw [List.getElem?_set_ne hv]
      exact q.2 i d e
end DL
set_option Elab.async false
set_option linter.all false
set_option maxRecDepth 100000
set_option maxHeartbeats 1000000
/-! The D layer, 8: displays of dicts, isinstance, comprehensions. -/
namespace DL
open PySem PySem.Spec PyProof.Rows L2

section
variable {G : Gr} {h h1 : MH} {H H1 : Hp}
/-- what stands aside of the small heap is written -/
theorem RepH.asideW {p : Addr} {o u : HO} (R : RepH G h H) (n : h p = none) (e : H p = some u) (wr : Wr u) : RepH G h (L2.upd H p o) := fun a x ea =>
  (R a x ea).stay (upd_ne fun z => by rw [z, n] at ea; cases ea) (pst_wr e wr) fun dx y z => ⟨by rw [upd_ne (fun q => by rw [q, e] at y; cases y; exact wr)]; exact y, z⟩
/-- .. and taken in -/
theorem RepH.takeIn {p : Addr} {o w : HO} {u : MO} (R : RepH G h H) (n : H p = some w) (wr : Wr w) (new : RepO G (up h p u) (L2.upd H p o) p u) : RepH G (up h p u) (L2.upd H p o) := R.write n wr new
theorem Fm.takeIn {p : Addr} {o : HO} {u : MO} (n : H p = none) (f : Fm h H h1 H1) : Fm h H (up h1 p u) (L2.upd H1 p o) := fun a x e q => by
  have ne : a ≠ p := fun z => by rw [z, n] at q; cases q
  obtain ⟨a1, a2⟩ := f a x e q
  exact ⟨by rw [up_ne ne]; exact a1, by rw [upd_ne ne]; exact a2⟩
theorem Fm.asideW {p : Addr} {o : HO} (n : H p = none) (f : Fm h H h1 H1) : Fm h H h1 (L2.upd H1 p o) := fun a x e q => by
  have ne : a ≠ p := fun z => by rw [z, n] at q; cases q
  obtain ⟨a1, a2⟩ := f a x e q
  exact ⟨a1, by rw [upd_ne ne]; exact a2⟩
/-- a list that stood aside is taken in -/
theorem RepH.takeLst {p : Addr} {vs : List V} {ds : List D} (R : RepH G h H) (e : H p = some (.lst vs)) (n : h p = none) (r : RepVs G.K H ds vs) : RepH G (up h p (.lst ds)) H := fun a x ea => by
  by_cases ha : a = p
  · subst ha; rw [up_same] at ea; cases ea; exact ⟨vs, e, r⟩
  · rw [up_ne ha] at ea
    refine (R a x ea).stay rfl ⟨fun _ _ q => q, fun _ _ q => q⟩ fun dx y z => ⟨y, ?_⟩
    rw [up_ne (fun q => by rw [q, e] at y; cases y)]; exact z
end

/-! ### {k: v, ..} -/
def mergeD (kvs more : List (Key × D)) : List (Key × D) := more.foldl (fun acc kv => putK acc kv.1 kv.2) kvs
theorem RepF.merge {K : PySem.W.Frag} {H : Hp} : ∀ {more : List (Key × D)} {mores : List (Key × V)} {kvs : List (Key × D)} {ks : List (Key × V)}, RepF K H more mores → RepF K H kvs ks → RepF K H (mergeD kvs more) (mergeK ks mores)
  | [], _, _, _, r, q => by rw [show _ = [] from r]; exact q
  | (k, d) :: more, _, kvs, ks, r, q => by
    obtain ⟨v, s, rfl, rv, r'⟩ := r
    show RepF K H (mergeD (DL.putK kvs k d) more) (mergeK (L2.putK ks k v) s)
    exact RepF.merge r' (q.put rv)
theorem mergeD_app : ∀ {more kvs : List (Key × D)}, (∀ p ∈ more, p.1 ∉ kvs.map (·.1)) → (more.map (·.1)).Nodup → mergeD kvs more = kvs ++ more
  | [], kvs, _, _ => (List.append_nil _).symm
  | (k, d) :: more, kvs, hn, nd => by
    have nk := hn (k, d) List.mem_cons_self
    have e : putK kvs k d = kvs ++ [(k, d)] := by
      unfold putK
      rw [if_neg]
      intro z
      obtain ⟨p, hp, e⟩ := List.any_eq_true.mp z
      exact nk (List.mem_map.mpr ⟨p, hp, of_decide_eq_true e⟩)
    show mergeD (putK kvs k d) more = _
    rw [e, mergeD_app, List.append_assoc] <;> try rfl
    · intro p hp z
      rw [List.map_append, List.mem_append] at z
      rcases z with z | z
      · exact hn p (List.mem_cons_of_mem _ hp) z
      · rw [List.map_cons, List.nodup_cons] at nd
        have : p.1 = k := by simpa using z
        exact nd.1 (List.mem_map.mpr ⟨p, hp, this⟩)
    · rw [List.map_cons, List.nodup_cons] at nd; exact nd.2
def SPP (X : Cx) (G : Gr) (W : WX) (pos : Pos) (ks : List Str) (keys : List (Option Expr)) (values : List Expr) (wl : WL) : Prop :=
  ∃ trs, PPs X pos keys values trs ∧ ∀ σ H (Q : List V → Hp → Prop) (Q' : List (V × V) → Hp → Prop), lA G W wl σ H Q → (∀ vs H1, Q vs H1 → Q' ((ks.zip vs).map (fun kv => (V.str kv.1, kv.2))) H1) → tPairs trs σ H Q'
section
variable {X : Cx} {G : Gr} {W : WX} {e : Expr} {pos : Pos} {wa wb : WE} {wl : WL}
theorem sp_nil : SPP X G W pos [] [] [] (fun _ _ h Q => Q [] h) := ⟨[], pps_nil, fun σ H Q Q' ⟨σd, h, R, E, at_, w, p⟩ f => f [] H (p [] h [] H w repVs_nil at_.r Fm.refl)⟩
theorem sp_cons {ks : List Str} {keys : List (Option Expr)} {values : List Expr} {k : Str} {j : Nat} {kp : Pos} (ha : PE X e (lE G W wa)) (hr : SPP X G W pos ks keys values wl) :
    SPP X G W pos (k :: ks) (some (.Constant (.str k) j kp) :: keys) (e :: values) (fun E σ h Q => wa E σ h fun x h1 => wl E σ h1 fun xs h2 => Q (x :: xs) h2) := by
  obtain ⟨trs, hp, hq⟩ := hr
  refine ⟨_, pps_cons pe_str ha hp, fun σ H Q Q' ⟨σd, h, R, E, at_, w, p⟩ f => ?_⟩
  refine ⟨σd, h, _, E, at_, w, fun dx h1 x H1 w1 rx rh1 f1 => ?_⟩
  exact hq σ H1 (fun vs H2 => Q (x :: vs) H2) _ ⟨σd, h1, _, E, at_.fm rh1 f1, w1, fun ds h2 xs H2 w2 rs rh2 f2 => p (dx :: ds) h2 (x :: xs) H2 w2 (repVs_cons (rx.fm rh1 f2) rs) rh2 (f1.trans f2)⟩ fun vs H2 q => f _ _ q
theorem repF_zip {K : PySem.W.Frag} {H : Hp} : ∀ {ks : List Str} {ds : List D} {vs : List V}, RepVs K H ds vs → RepF K H ((ks.map Sum.inr : List Key).zip ds) ((ks.map Sum.inr : List Key).zip vs)
  | [], _, _, _ => rfl
  | k :: ks, [], vs, r => by rw [r.nil_inv]; rfl
  | k :: ks, d :: ds, vs, r => by
    obtain ⟨v, us, rfl, rv, r⟩ := r.cons_inv
    exact ⟨v, _, rfl, rv, repF_zip r⟩
theorem zip_keys {α : Type} : ∀ {ks : List Key} {ds : List α}, ks.Nodup → ((ks.zip ds).map (·.1)).Nodup
  | [], _, _ => by simp
  | _ :: _, [], _ => by simp
  | k :: ks, d :: ds, nd => by
    rw [List.zip_cons_cons, List.map_cons, List.nodup_cons]
    refine ⟨fun z => ?_, zip_keys (List.nodup_cons.mp nd).2⟩
    obtain ⟨p, hp, e⟩ := List.mem_map.mp z
    exact (List.nodup_cons.mp nd).1 ((show p.1 = k from e) ▸ (List.of_mem_zip hp).1)
theorem zip_strs : ∀ (ks : List Str) (vs : List V), ((ks.map Sum.inr : List Key).zip vs).map (fun kv => (kV kv.1, kv.2)) = (ks.zip vs).map fun kv => (V.str kv.1, kv.2)
  | [], _ => rfl
  | _ :: _, [] => rfl
  | k :: ks, v :: vs => by
    exact congrArg ((V.str k, v) :: ·) (zip_strs ks vs)
theorem se_dsp {ks : List Str} {keys : List (Option Expr)} {values : List Expr} (h : SPP X G W pos ks keys values wl) (hall : keys.all (·.isSome) = true) (hl : keys.length = values.length) (h0 : keys ≠ []) (h15 : keys.length ≤ 15) (hk : ks.length = keys.length) (nd : ks.Nodup) :
    PE X (.Dict keys values pos) (lE G W fun E σ h Q => wl E σ h fun ds h1 => al (.dct ((ks.map Sum.inr).zip ds)) h1 Q) := by
  obtain ⟨trs, hp, hq⟩ := h
  refine PE.imp (pe_disp hp hall hl h0 h15) fun σ H Q ⟨σd, h, R, E, at_, w, p⟩ l n => ?_
  have na : h l = none := at_.r.free n
  have r1 : RepH G h (L2.upd H l (.dK [])) := at_.r.aside n
  have f0 : Fm h H h (L2.upd H l (.dK [])) := Fm.aside n
  refine hq σ _ (fun vs H2 => H2 l = some (.dK []) ∧ Q (.ref l) (L2.upd H2 l (.dK (mergeK [] ((ks.map Sum.inr : List Key).zip vs))))) _ ⟨σd, h, _, E, at_.fm r1 f0, w, fun ds h2 vs H2 w2 rs rh2 f2 => ?_⟩ fun vs H1 q => ?_
  · obtain ⟨n2, e2⟩ := f2 l _ na upd_same
    refine ⟨e2, ?_⟩
    have rf : RepF G.K H2 (mergeD [] ((ks.map Sum.inr : List Key).zip ds)) (mergeK [] ((ks.map Sum.inr : List Key).zip vs)) := RepF.merge (repF_zip rs) rfl
    rw [mergeD_app (fun p _ z => by cases z) (zip_keys (by
      refine (List.pairwise_map).mpr ?_
      exact nd.imp fun hne e => hne (Sum.inr.inj e))), List.nil_append] at rf
    refine p _ _ _ _ (w2 l n2) repV_ref (rh2.takeIn e2 trivial ⟨_, upd_same, rf.mono (pst_wr e2 trivial)⟩) ((f0.trans f2).takeIn n)
  · refine ⟨q.1, _, ?_, ?_, q.2⟩
    · exact (zip_strs ks vs).symm
    · rw [List.length_zip, List.length_map]; omega
theorem se_dsp0 : PE X (.Dict [] [] pos) (lE G W fun E σ h Q => al (.dct []) h Q) :=
  PE.imp pe_dnewK fun σ H Q ⟨σd, h, R, E, at_, w, p⟩ l n => p _ _ _ _ (w l (at_.r.free n)) repV_ref (at_.r.new n ⟨[], upd_same, rfl⟩) (Fm.new n)

/-! ### isinstance -/
def rIsD (G : Gr) (T : Value) (ts : List Ty) : List V → Hp → VK → Prop := fun xs H Q => ∃ dx x h P, xs = [x] ∧ RepV G.K H dx x ∧ RepH G h H ∧ isTys dx h ts P ∧ ∀ k, P k → Q (.bl k) H
end

/-! ### comprehensions -/
section
variable {X : Cx} {G : Gr}
abbrev W0 : WX := fun _ _ _ _ => False
abbrev E0 : DX := fun _ _ _ => False
theorem At.blk {W : WX} {E : DX} {σd : DS} {σ : L2.St} {h : MH} {H : Hp} (a : At G W E σd σ h H) (vs : List Nat) : At G W0 E0 (wipeD σd vs) (L2.wipe σ vs) h H :=
  ⟨a.s.wipe vs, a.r, fun _ _ _ _ _ _ z => z.elim⟩
theorem at0 {σd : DS} {σ : L2.St} {h : MH} {H : Hp} (s : RepS G.K H σd σ) (r : RepH G h H) : At G W0 E0 σd σ h H := ⟨s, r, fun _ _ _ _ _ _ z => z.elim⟩
variable {W : WX} {elt tg iter : Expr} {ifs : List Expr} {scope : Scope} {own : List (Str × Nat)} {pos : Pos} {wi : DX → DS → MH → (ItV → MH → Prop) → Prop} {wt : DX → DS → MH → (Bool → MH → Prop) → Prop} {we : WE} {t : Tg}
/-- one clause: the reading behind -/
theorem lc_read {K : PySem.W.Frag} (hK : K = G.K) {vs : List Nat} (hi : tgIn t vs = true) : ∀ σ H Q, lE G W (fun E σ h Q => wi E σ h fun J h1 => lcGo t J.ok (fun σ h P => wt E0 σ h P) (fun σ h P => we E0 σ h P) (wipeD σ vs) (fun acc h2 => al (.lst acc) h2 Q) J.its [] h1) σ H Q →
    tLc (lI G W wi) (tgG K t) (lT G W0 wt) (lE G W0 we) vs σ H Q := fun σ H Q ⟨σd, h, R, E, at_, w, p⟩ => by
  subst hK
  refine ⟨σd, h, _, E, at_, w, fun Jd h1 J H1 go ri rh1 f1 L nL => ?_⟩
  have at1 := (at_.fm rh1 f1).blk vs
  -- the state of a turn
  let S : Nat → MH → Hp → Prop := fun i h' H' => ∃ acc av, RepH G h' H' ∧ Fm h1 H1 h' H' ∧ h' L = none ∧ H' L = some (.lst av) ∧ RepVs G.K H' acc av ∧ i ≤ Jd.its.length ∧
    lcGo t Jd.ok (fun σ h P => wt E0 σ h P) (fun σ h P => we E0 σ h P) (wipeD σd vs) (fun acc h2 => al (.lst acc) h2 R) (Jd.its.drop i) acc h'
  refine ⟨fun i m H' => m = Jd.its.length - i ∧ ∃ h', S i h' H', ⟨Jd.its.length, by simp, h1, [], [], rh1.aside nL, Fm.aside nL, rh1.free nL, upd_same, repVs_nil, Nat.zero_le _, by simpa using go⟩, ?_⟩
  rintro i m H' ⟨rfl, h', acc, av, rh, fm, nl, el, rv, hi', go⟩
  have ok : Jd.ok h' := by
    cases e : Jd.its.drop i with
    | nil => rw [e] at go; exact go.1
    | cons d r => rw [e] at go; exact go.1
  obtain ⟨item, stop⟩ := ri h' H' rh (fm.pst rh1) ok
  by_cases hlt : i < Jd.its.length
  · rw [List.drop_eq_getElem_cons hlt] at go
    obtain ⟨_, go⟩ := go
    obtain ⟨jg, jy⟩ := item i _ (List.getElem?_eq_getElem hlt)
    refine .inr ⟨jg, fun H' => ∃ h', S (i + 1) h' H', fun H2 ⟨h2, s⟩ => ⟨Jd.its.length - (i + 1), by omega, rfl, h2, s⟩, fun x H2 y => ?_⟩
    obtain ⟨rx, rh2, f2⟩ := jy x H2 y
    obtain ⟨nl2, el2⟩ := f2 L _ nl el
    have fm2 := fm.trans f2
    have at2 := at1.fm rh2 fm2
    refine tgG_in hi (tgG_ok go rx at2.s fun σd3 σ3 go3 rs3 => ?_)
    refine ⟨σd3, h', _, E0, at0 rs3 rh2, go3, fun k h4 H4 go4 rh4 f4 => ?_⟩
    obtain ⟨nl4, el4⟩ := f4 L _ nl2 el2
    have rv4 := (rv.fm rh f2).fm rh2 f4
    cases k with
    | false => exact ⟨h4, acc, av, rh4, fm2.trans f4, nl4, el4, rv4, hlt, go4⟩
    | true =>
      refine ⟨σd3, h4, _, E0, (at0 rs3 rh2).fm rh4 f4, go4, fun d5 h5 v5 H5 go5 r5 rh5 f5 => ?_⟩
      obtain ⟨nl5, el5⟩ := f5 L _ nl4 el4
      have rv5 := rv4.fm rh4 f5
      have ps : Pst G.K H5 (L2.upd H5 L (.lst (av ++ [v5]))) := pst_wr el5 trivial
      refine ⟨av, el5, by rw [rv5.length]; exact go5.1, h5, acc ++ [d5], av ++ [v5], rh5.asideW nl5 el5 trivial, ((fm2.trans f4).trans f5).asideW nL, nl5, upd_same, ?_, hlt, go5.2⟩
      exact (rv5.mono ps).append (repVs_cons (r5.mono ps) repVs_nil)
  · have e : i = Jd.its.length := by omega
    subst e
    rw [List.drop_length] at go
    exact .inl ⟨stop, p _ _ _ _ (go.2 L nl) repV_ref (rh.takeLst el nl rv) (fun a o e q => by
      obtain ⟨e1, q1⟩ := f1 a o e q
      obtain ⟨e2, q2⟩ := fm a o e1 q1
      exact ⟨by rw [up_ne (ne_of_none q1 nL)]; exact e2, q2⟩)⟩

theorem se_lc {cd : Option Expr} (hK : X.K = G.K) (hc : X.calm = true) (hN : X.N.Nodup) (hi : PI X tg iter (lI G W wi)) (ok : BlkOk X.N X.env.scope scope own) (hin : tgIn t (own.map (·.2)) = true)
    (hg : ∀ (s : Shared) (H : Hp) (C : Addr) (cl : List (Str × Addr)) (fp : List Addr), PG (X.blk s H scope (compEnvC scope cl C X.env) fp) tg (tgG X.K t)) (ht : ∀ (s : Shared) (H : Hp) (C : Addr) (cl : List (Str × Addr)) (fp : List Addr), PTs (X.blk s H scope (compEnvC scope cl C X.env) fp) ifs (lT G W0 wt))
    (he : ∀ (s : Shared) (H : Hp) (C : Addr) (cl : List (Str × Addr)) (fp : List Addr), PE (X.blk s H scope (compEnvC scope cl C X.env) fp) elt (lE G W0 we)) (hs : ∀ x, foldedSetIterable iter X.env x = pure x) :
    PE X (.ListComp elt [⟨tg, iter, ifs, 0⟩] scope pos) (lE G W (fun E σ h Q => wi E σ h fun J h1 => lcGo t J.ok (fun σ h P => wt E0 σ h P) (fun σ h P => we E0 σ h P) (wipeD σ (own.map (·.2))) (fun acc h2 => al (.lst acc) h2 Q) J.its [] h1)) :=
  PE.imp (pe_lc hc hN hi ok hg ht he hs) (lc_read hK hin)
/-- two clauses -/
theorem lc2_read {K : PySem.W.Frag} (hK : K = G.K) {t1 : Tg} {wi1 : DX → DS → MH → (ItV → MH → Prop) → Prop} {wt1 : DX → DS → MH → (Bool → MH → Prop) → Prop} {vs vs1 : List Nat} (hi : tgIn t vs = true) (hi1 : tgIn t1 vs1 = true) : ∀ σ H Q, lE G W (fun E σ h Q => wi E σ h fun J h1 =>
      lcGo2 t J.ok (fun σ h P => wt E0 σ h P) (fun σ1 acc h2 K => wi1 E0 σ1 h2 fun J1 h3 => lcGo t1 J1.ok (fun σ h P => wt1 E0 σ h P) (fun σ h P => we E0 σ h P) (wipeD σ1 vs1) K J1.its acc h3)
        (wipeD σ vs) (fun acc h2 => al (.lst acc) h2 Q) J.its [] h1) σ H Q →
    tLc2 (lI G W wi) (tgG K t) (lT G W0 wt) (lI G W0 wi1) (tgG K t1) (lT G W0 wt1) (lE G W0 we) vs vs1 σ H Q := fun σ H Q ⟨σd, h, R, E, at_, w, p⟩ => by
  subst hK
  refine ⟨σd, h, _, E, at_, w, fun Jd h1 J H1 go ri rh1 f1 L nL => ?_⟩
  have at1 := (at_.fm rh1 f1).blk vs
  let GO := lcGo2 t Jd.ok (fun σ h P => wt E0 σ h P) (fun σ1 acc h2 K => wi1 E0 σ1 h2 fun J1 h3 => lcGo t1 J1.ok (fun σ h P => wt1 E0 σ h P) (fun σ h P => we E0 σ h P) (wipeD σ1 vs1) K J1.its acc h3)
        (wipeD σd vs) (fun acc h2 => al (.lst acc) h2 R)
  let A : MH → Hp → List D → Prop := fun h' H' acc => ∃ av, RepH G h' H' ∧ Fm h1 H1 h' H' ∧ h' L = none ∧ H' L = some (.lst av) ∧ RepVs G.K H' acc av
  let S : Nat → MH → Hp → Prop := fun i h' H' => ∃ acc, A h' H' acc ∧ i ≤ Jd.its.length ∧ GO (Jd.its.drop i) acc h'
  refine ⟨fun i m H' => m = Jd.its.length - i ∧ ∃ h', S i h' H', ⟨Jd.its.length, by simp, h1, [], ⟨[], rh1.aside nL, Fm.aside nL, rh1.free nL, upd_same, repVs_nil⟩, Nat.zero_le _, by simpa using go⟩, ?_⟩
  rintro i m H' ⟨rfl, h', acc, ⟨av, rh, fm, nl, el, rv⟩, hi', go⟩
  have ok : Jd.ok h' := by
    cases e : Jd.its.drop i with
    | nil => rw [e] at go; exact go.1
    | cons d r => rw [e] at go; exact go.1
  obtain ⟨item, stop⟩ := ri h' H' rh (fm.pst rh1) ok
  by_cases hlt : i < Jd.its.length
  · rw [List.drop_eq_getElem_cons hlt] at go
    obtain ⟨_, go⟩ := go
    obtain ⟨jg, jy⟩ := item i _ (List.getElem?_eq_getElem hlt)
    refine .inr ⟨jg, fun H' => ∃ h', S (i + 1) h' H', fun H2 ⟨h2, s⟩ => ⟨Jd.its.length - (i + 1), by omega, rfl, h2, s⟩, fun x H2 y => ?_⟩
    obtain ⟨rx, rh2, f2⟩ := jy x H2 y
    obtain ⟨nl2, el2⟩ := f2 L _ nl el
    have fm2 := fm.trans f2
    have at2 := at1.fm rh2 fm2
    refine tgG_in hi (tgG_ok go rx at2.s fun σd3 σ3 go3 rs3 => ?_)
    refine ⟨σd3, h', _, E0, at0 rs3 rh2, go3, fun k h4 H4 go4 rh4 f4 => ?_⟩
    obtain ⟨nl4, el4⟩ := f4 L _ nl2 el2
    have rv4 := (rv.fm rh f2).fm rh2 f4
    have fm4 := fm2.trans f4
    cases k with
    | false => exact ⟨h4, acc, ⟨av, rh4, fm4, nl4, el4, rv4⟩, hlt, go4⟩
    | true =>
      have at4 := (at0 rs3 rh2).fm rh4 f4
      refine ⟨σd3, h4, _, E0, at4, go4, fun Jd1 h5 J1 H5 go5 ri5 rh5 f5 => ?_⟩
      have at5 := (at4.fm rh5 f5).s.wipe vs1
      obtain ⟨nl5, el5⟩ := f5 L _ nl4 el4
      refine ⟨fun j m H' => m = Jd1.its.length - j ∧ ∃ h' acc, A h' H' acc ∧ Pst G.K H5 H' ∧ j ≤ Jd1.its.length ∧
        lcGo t1 Jd1.ok (fun σ h P => wt1 E0 σ h P) (fun σ h P => we E0 σ h P) (wipeD σd3 vs1) (GO (Jd.its.drop (i + 1))) (Jd1.its.drop j) acc h', ⟨Jd1.its.length, by simp, h5, acc, ⟨av, rh5, fm4.trans f5, nl5, el5, rv4.fm rh4 f5⟩, ⟨fun _ _ q => q, fun _ _ q => q⟩, Nat.zero_le _, by simpa using go5⟩, ?_⟩
      rintro j m H6 ⟨rfl, h6, acc6, ⟨av6, rh6, fm6, nl6, el6, rv6⟩, fj6, hj', go6⟩
      have ok6 : Jd1.ok h6 := by
        cases e : Jd1.its.drop j with
        | nil => rw [e] at go6; exact go6.1
        | cons d r => rw [e] at go6; exact go6.1
      obtain ⟨item6, stop6⟩ := ri5 h6 H6 rh6 fj6 ok6
      by_cases hlj : j < Jd1.its.length
      · rw [List.drop_eq_getElem_cons hlj] at go6
        obtain ⟨_, go6⟩ := go6
        obtain ⟨jg6, jy6⟩ := item6 j _ (List.getElem?_eq_getElem hlj)
        refine .inr ⟨jg6, fun H' => ∃ h' acc, A h' H' acc ∧ Pst G.K H5 H' ∧ j + 1 ≤ Jd1.its.length ∧
          lcGo t1 Jd1.ok (fun σ h P => wt1 E0 σ h P) (fun σ h P => we E0 σ h P) (wipeD σd3 vs1) (GO (Jd.its.drop (i + 1))) (Jd1.its.drop (j + 1)) acc h', fun H2 ⟨h2, acc2, s⟩ => ⟨Jd1.its.length - (j + 1), by omega, rfl, h2, acc2, s⟩, fun x H7 y => ?_⟩
        obtain ⟨rx7, rh7, f7⟩ := jy6 x H7 y
        obtain ⟨nl7, el7⟩ := f7 L _ nl6 el6
        refine tgG_in hi1 (tgG_ok go6 rx7 (at5.mono (fj6.trans (f7.pst rh6))) fun σd8 σ8 go8 rs8 => ?_)
        refine ⟨σd8, h6, _, E0, at0 rs8 rh7, go8, fun k h9 H9 go9 rh9 f9 => ?_⟩
        obtain ⟨nl9, el9⟩ := f9 L _ nl7 el7
        have rv9 := (rv6.fm rh6 f7).fm rh7 f9
        have fm9 := (fm6.trans f7).trans f9
        cases k with
        | false => exact ⟨h9, acc6, ⟨av6, rh9, fm9, nl9, el9, rv9⟩, (fj6.trans (f7.pst rh6)).trans (f9.pst rh7), hlj, go9⟩
        | true =>
          refine ⟨σd8, h9, _, E0, (at0 rs8 rh7).fm rh9 f9, go9, fun d10 h10 v10 H10 go10 r10 rh10 f10 => ?_⟩
          obtain ⟨nl10, el10⟩ := f10 L _ nl9 el9
          have rv10 := rv9.fm rh9 f10
          have ps : Pst G.K H10 (L2.upd H10 L (.lst (av6 ++ [v10]))) := pst_wr el10 trivial
          have fj : Pst G.K H5 (L2.upd H10 L (.lst (av6 ++ [v10]))) := (((fj6.trans (f7.pst rh6)).trans (f9.pst rh7)).trans (f10.pst rh9)).trans ps
          exact ⟨av6, el10, by rw [rv10.length]; exact go10.1, h10, acc6 ++ [d10], ⟨av6 ++ [v10], rh10.asideW nl10 el10 trivial, (fm9.trans f10).asideW nL, nl10, upd_same, (rv10.mono ps).append (repVs_cons (r10.mono ps) repVs_nil)⟩, fj, hlj, go10.2⟩
      · have e : j = Jd1.its.length := by omega
        subst e
        rw [List.drop_length] at go6
        exact .inl ⟨stop6, h6, acc6, ⟨av6, rh6, fm6, nl6, el6, rv6⟩, hlt, go6.2⟩
  · have e : i = Jd.its.length := by omega
    subst e
    rw [List.drop_length] at go
    exact .inl ⟨stop, p _ _ _ _ (go.2 L nl) repV_ref (rh.takeLst el nl rv) (fun a o e q => by
      obtain ⟨e1, q1⟩ := f1 a o e q
      obtain ⟨e2, q2⟩ := fm a o e1 q1
      exact ⟨by rw [up_ne (ne_of_none q1 nL)]; exact e2, q2⟩)⟩

theorem se_lc2 {cd cd1 : Option Expr} {tg1 iter1 : Expr} {ifs1 : List Expr} {vs1 : List Nat} {t1 : Tg} {wi1 : DX → DS → MH → (ItV → MH → Prop) → Prop} {wt1 : DX → DS → MH → (Bool → MH → Prop) → Prop} (hK : X.K = G.K) (hc : X.calm = true) (hN : X.N.Nodup) (hi : PI X tg iter (lI G W wi)) (ok : BlkOk X.N X.env.scope scope own) (hv : ∀ i ∈ vs1, i ∈ own.map (·.2)) (hin : tgIn t (own.map (·.2)) = true) (hin1 : tgIn t1 vs1 = true)
    (hg : ∀ (s : Shared) (H : Hp) (C : Addr) (cl : List (Str × Addr)) (fp : List Addr), PG (X.blk s H scope (compEnvC scope cl C X.env) fp) tg (tgG X.K t)) (ht : ∀ (s : Shared) (H : Hp) (C : Addr) (cl : List (Str × Addr)) (fp : List Addr), PTs (X.blk s H scope (compEnvC scope cl C X.env) fp) ifs (lT G W0 wt))
    (hi1 : ∀ (s : Shared) (H : Hp) (C : Addr) (cl : List (Str × Addr)) (fp : List Addr), PI (X.blk s H scope (compEnvC scope cl C X.env) fp) tg1 iter1 (lI G W0 wi1))
    (hg1 : ∀ (s : Shared) (H : Hp) (C : Addr) (cl : List (Str × Addr)) (fp : List Addr), PG (X.blk s H scope (compEnvC scope cl C X.env) fp) tg1 (tgG X.K t1)) (ht1 : ∀ (s : Shared) (H : Hp) (C : Addr) (cl : List (Str × Addr)) (fp : List Addr), PTs (X.blk s H scope (compEnvC scope cl C X.env) fp) ifs1 (lT G W0 wt1))
    (he : ∀ (s : Shared) (H : Hp) (C : Addr) (cl : List (Str × Addr)) (fp : List Addr), PE (X.blk s H scope (compEnvC scope cl C X.env) fp) elt (lE G W0 we)) (hs : ∀ x, foldedSetIterable iter X.env x = pure x) (hs1 : ∀ env x, foldedSetIterable iter1 env x = pure x) :
    PE X (.ListComp elt [⟨tg, iter, ifs, 0⟩, ⟨tg1, iter1, ifs1, 0⟩] scope pos) (lE G W (fun E σ h Q => wi E σ h fun J h1 =>
      lcGo2 t J.ok (fun σ h P => wt E0 σ h P) (fun σ1 acc h2 K => wi1 E0 σ1 h2 fun J1 h3 => lcGo t1 J1.ok (fun σ h P => wt1 E0 σ h P) (fun σ h P => we E0 σ h P) (wipeD σ1 vs1) K J1.its acc h3)
        (wipeD σ (own.map (·.2))) (fun acc h2 => al (.lst acc) h2 Q) J.its [] h1)) :=
  PE.imp (pe_lc2 hc hN hi ok hv hg ht hi1 hg1 ht1 he hs hs1) (lc2_read hK hin hin1)
theorem sts_none : PTs X [] (lT G W0 fun _ _ h Q => Q true h) := ⟨fun pins s σ H Q I ⟨σd, h, R, E, at_, w, p⟩ => pts_nil.run pins s σ H Q I (p true h H w at_.r Fm.refl)⟩
theorem sts_one {c : Expr} (hc : PT X c (lT G W0 wt)) : PTs X [c] (lT G W0 wt) := pts_one hc
end
end DL
set_option Elab.async false
set_option linter.all false
set_option maxRecDepth 100000
set_option maxHeartbeats 1000000
/-! The D layer, 9: statements. -/
namespace DL
open PySem PySem.Spec PyProof.Rows L2

structure AtS (G : Gr) (W : WX) (F : DS → DX) (σd : DS) (σ : L2.St) (h : MH) (H : Hp) : Prop where
  s : RepS G.K H σd σ
  r : RepH G h H
  x : ∀ c fs σd' h' cls dd σ' H', F σd' c fs h' → RepX G h' H' c fs cls dd → RepS G.K H' σd' σ' → RepH G h' H' → Fm h H h' H' → W cls dd σ' H'
def PostS (G : Gr) (h : MH) (H : Hp) (P : DS → MH → Prop) (Q : L2.St → Hp → Prop) : Prop := ∀ σd' h' σ' H', P σd' h' → RepS G.K H' σd' σ' → RepH G h' H' → Fm h H h' H' → Q σ' H'
structure EndR (G : Gr) (h : MH) (H : Hp) (Dn : En) (Q : Ends) : Prop where
  nx : PostS G h H Dn.nx Q.nx
  rt : Post G h H Dn.rt Q.rt
  bk : PostS G h H Dn.bk Q.bk
  ct : PostS G h H Dn.ct Q.ct
section
variable {G : Gr} {W : WX} {F : DS → DX} {σd σd1 : DS} {σ σ1 : L2.St} {h h1 : MH} {H H1 : Hp} {Dn : En} {Q : Ends}
theorem AtS.at (a : AtS G W F σd σ h H) : At G W (F σd) σd σ h H := ⟨a.s, a.r, fun c fs h' cls dd H' e rx rh f => a.x c fs σd h' cls dd σ H' e rx (a.s.fm a.r f) rh f⟩
theorem AtS.fm (a : AtS G W F σd σ h H) (r : RepH G h1 H1) (f : Fm h H h1 H1) : AtS G W F σd σ h1 H1 :=
  ⟨a.s.fm a.r f, r, fun c fs σd' h' cls dd σ' H' e rx rs rh g => a.x c fs σd' h' cls dd σ' H' e rx rs rh (f.trans g)⟩
theorem AtS.go (a : AtS G W F σd σ h H) (s : RepS G.K H1 σd1 σ1) (r : RepH G h1 H1) (f : Fm h H h1 H1) : AtS G W F σd1 σ1 h1 H1 :=
  ⟨s, r, fun c fs σd' h' cls dd σ' H' e rx rs rh g => a.x c fs σd' h' cls dd σ' H' e rx rs rh (f.trans g)⟩
theorem PostS.fm {P : DS → MH → Prop} {Q : L2.St → Hp → Prop} (p : PostS G h H P Q) (f : Fm h H h1 H1) : PostS G h1 H1 P Q := fun σd' h' σ' H' e rs rh g => p σd' h' σ' H' e rs rh (f.trans g)
theorem EndR.fm (p : EndR G h H Dn Q) (f : Fm h H h1 H1) : EndR G h1 H1 Dn Q := ⟨p.nx.fm f, p.rt.fm f, p.bk.fm f, p.ct.fm f⟩
end
abbrev WG := (DS → DX) → D → DS → MH → (DS → MH → Prop) → Prop
abbrev WGs := (DS → DX) → List D → DS → MH → (DS → MH → Prop) → Prop
abbrev WS := En → DS → MH → Prop
def lG (G : Gr) (W : WX) (w : WG) : TG := fun v σ H Q => ∃ d σd h P F, AtS G W F σd σ h H ∧ RepV G.K H d v ∧ w F d σd h P ∧ PostS G h H P Q
def lGs (G : Gr) (W : WX) (w : WGs) : TGs := fun vs σ H Q => ∃ ds σd h P F, AtS G W F σd σ h H ∧ RepVs G.K H ds vs ∧ w F ds σd h P ∧ PostS G h H P Q
def lS (G : Gr) (W : WX) (w : WS) : TS := fun Q σ H => ∃ σd h Dn, AtS G W (exAt Dn) σd σ h H ∧ w Dn σd h ∧ EndR G h H Dn Q

section
variable {X : Cx} {G : Gr} {W : WX} {e a b c tg : Expr} {es : List Expr} {pos : Pos} {st : Stmt} {rest body body2 : List Stmt} {wa wb : WE} {wl : WL} {wg : WG} {wgs : WGs} {ws wu : WS} {wt : DX → DS → MH → (Bool → MH → Prop) → Prop}
theorem PG.imp {t t' : TG} (p : PG X e t) (i : ∀ v σ H Q, t' v σ H Q → t v σ H Q) : PG X e t' := ⟨fun pins s σ H v u Q I r w => p.run pins s σ H v u Q I r (i _ _ _ _ w)⟩
theorem PGs.imp {t t' : TGs} (p : PGs X es t) (i : ∀ v σ H Q, t' v σ H Q → t v σ H Q) : PGs X es t' := ⟨fun pins s σ H v u Q I r w => p.run pins s σ H v u Q I r (i _ _ _ _ w)⟩
theorem PS.imp {t t' : TS} (p : PS X st t) (i : ∀ Q σ H, t' Q σ H → t Q σ H) : PS X st t' := ⟨fun pins s σ H Q I w => p.run pins s σ H Q I (i _ _ _ w)⟩
theorem PSs.imp {t t' : TS} (p : PSs X rest t) (i : ∀ Q σ H, t' Q σ H → t Q σ H) : PSs X rest t' := ⟨fun pins s σ H Q I w => p.run pins s σ H Q I (i _ _ _ w)⟩

/-! ### targets -/
theorem sg_nm {i : Nat} {x : Str} (hN : X.N.Nodup) (hi : X.N[i]? = some x) (hx : Loc X.env.scope x) (hf : X.fn x = true ∨ X.env.scope.names.lookup x = some .local) : PG X (.Name x pos) (lG G W fun _ d σ h P => P (σ.set i (some d)) h) :=
  PG.imp (pg_name hN hi hx hf) fun v σ H Q ⟨d, σd, h, P, F, at_, rv, w, p⟩ => p _ h _ H w (at_.s.set rv) at_.r Fm.refl
theorem sg_sub (ok : Ok X G) (ha : PE X a (lE G W wa)) (hb : PE X b (lE G W wb)) (hs : ∀ v, assign (.Subscript a b pos) X.env v = (do
      let ov ← holding [v] (eval a X.env)
      let iv ← holding [v, ov] (eval b X.env)
      standAt pos
      holding [v, ov, iv] (setItem ov iv v)
      release [v, ov, iv] [])) : PG X (.Subscript a b pos) (lG G W fun F d σ h P => wa (F σ) σ h fun x h1 => wb (F σ) σ h1 fun k h2 => setD x k d h2 fun h3 => P σ h3) :=
  PG.imp (pg_sub ha hb (set_D ok) hs) fun v σ H Q ⟨d, σd, h, P, F, at_, rv, w, p⟩ =>
    ⟨σd, h, _, _, at_.at, w, fun dx h1 x H1 w1 rx rh1 f1 => ⟨σd, h1, _, _, at_.at.fm rh1 f1, w1, fun dy h2 y H2 w2 ry rh2 f2 =>
      ⟨dx, dy, d, h2, _, rx.fm rh1 f2, ry, rv.fm at_.r (f1.trans f2), rh2, w2, fun h3 H3 w3 rh3 f3 => p σd h3 σ H3 w3 (at_.s.fm at_.r ((f1.trans f2).trans f3)) rh3 ((f1.trans f2).trans f3)⟩⟩⟩
theorem sgs_nil : PGs X [] (lGs G W fun _ ds σ h P => match ds with
    | [] => P σ h
    | _ => False) :=
  PGs.imp pgs_nil fun v σ H Q ⟨ds, σd, h, P, F, at_, rv, w, p⟩ => by
    cases ds with
    | nil => exact ⟨rv.nil_inv, p σd h σ H w at_.s at_.r Fm.refl⟩
    | cons d ds => exact w.elim
theorem sgs_cons (ha : PG X e (lG G W wg)) (hr : PGs X es (lGs G W wgs)) (hs : (assignEach (e :: es) X.env).map (·.2) = assign e X.env :: (assignEach es X.env).map (·.2)) : PGs X (e :: es) (lGs G W fun F ds σ h P => match ds with
    | [] => False
    | d :: ds => wg F d σ h fun σ1 h1 => wgs F ds σ1 h1 P) :=
  PGs.imp (pgs_cons ha hr hs) fun v σ H Q ⟨ds, σd, h, P, F, at_, rv, w, p⟩ => by
    cases ds with
    | nil => exact w.elim
    | cons d ds =>
      obtain ⟨x, xs, rfl, rx, rs⟩ := rv.cons_inv
      exact ⟨x, xs, rfl, d, σd, h, _, F, at_, rx, w, fun σd1 h1 σ1 H1 w1 s1 rh1 f1 => ⟨ds, σd1, h1, P, F, at_.go s1 rh1 f1, rs.fm at_.r f1, w1, p.fm f1⟩⟩
theorem sg_tup {k n : Nat} (hK : X.K = G.K) (hc : X.calm = true) (h : PGs X es (lGs G W wgs)) (hn : (assignEach es X.env).length = n) (hst : (assignEach es X.env).findIdx? (·.1) = none) : PG X (.Tuple es k pos) (lG G W fun F d σ h P => match d with
    | .tup ds => ds.length = n ∧ wgs F ds σ h P
    | _ => False) :=
  PG.imp (pg_tup hc h hn hst) fun v σ H Q ⟨d, σd, h, P, F, at_, rv, w, p⟩ => by
    cases d with
    | tup ds =>
      obtain ⟨a, vs, rfl, sa, ra⟩ := repV_tup.mp rv
      exact ⟨a, vs, rfl, by rw [hK]; exact sa, by rw [ra.length]; exact w.1, ds, σd, h, P, F, at_, ra, w.2, p⟩
    | _ => exact w.elim

/-! ### statements -/
theorem ss_nil : PSs X [] (lS G W fun Dn σ h => Dn.nx σ h) := PSs.imp pss_nil fun Q σ H ⟨σd, h, Dn, at_, w, p⟩ => p.nx σd h σ H w at_.s at_.r Fm.refl
theorem ss_cons (h1 : PS X st (lS G W ws)) (h2 : PSs X rest (lS G W wu)) : PSs X (st :: rest) (lS G W fun Dn σ h => ws { Dn with nx := fun σ' h' => wu Dn σ' h' } σ h) :=
  PSs.imp (pss_cons h1 h2) fun Q σ H ⟨σd, h, Dn, at_, w, p⟩ =>
    ⟨σd, h, { Dn with nx := fun σ' h' => wu Dn σ' h' }, ⟨at_.s, at_.r, at_.x⟩, w, ⟨fun σd1 h1 σ1 H1 w1 s1 r1 f1 => ⟨σd1, h1, Dn, at_.go s1 r1 f1, w1, p.fm f1⟩, p.rt, p.bk, p.ct⟩⟩
theorem ss_asg (he : PE X e (lE G W wa)) (hg : PG X tg (lG G W wg)) (hs : swapsWithSole [tg] e pos.line X.env = pure false) (hw : swappedStores [tg] e X.env = pure none) (h1 : (assignEach [tg] X.env).map (·.2) = [assign tg X.env]) :
    PS X (.Assign [tg] e pos) (lS G W fun Dn σ h => wa (exAt Dn σ) σ h fun d h1 => wg (exAt Dn) d σ h1 Dn.nx) :=
  PS.imp (ps_asg he hg hs hw h1) fun Q σ H ⟨σd, h, Dn, at_, w, p⟩ =>
    ⟨σd, h, _, _, at_.at, w, fun d h1 v H1 w1 rv r1 f1 => ⟨d, σd, h1, _, _, at_.fm r1 f1, rv, w1, p.nx.fm f1⟩⟩
/-- name = a comprehension, where the block takes the name in: the reading t1 of it is any that the lifted one implies -/
theorem asgC_read {i : Nat} {t1 : TE} (h : ∀ σ H Q, lE G W wa σ H Q → t1 σ H Q) : ∀ Q σ H, lS G W (fun Dn σ h => wa (exAt Dn σ) σ h fun d h1 => Dn.nx (σ.set i (some d)) h1) Q σ H → tAsg t1 (gName i) Q σ H := fun Q σ H ⟨σd, h', Dn, at_, w, p⟩ =>
  h _ _ _ ⟨σd, h', _, _, at_.at, w, fun d h1 v H1 w1 rv r1 f1 => p.nx _ h1 _ H1 w1 ((at_.s.fm at_.r f1).set rv) r1 f1⟩
theorem ss_par {i j : Nat} {x y : Str} {px py pt : Pos} {kt k2 pt2} (hc : X.calm = true) (hN : X.N.Nodup) (hi : X.N[i]? = some x) (hj : X.N[j]? = some y) (hij : i ≠ j)
    (hx : X.env.scope.names.lookup x = some .local) (hy : X.env.scope.names.lookup y = some .local) (ha : PA X [a, b] (lA G W wl))
    (hw : swappedStores [.Tuple [.Name x px, .Name y py] kt pt] (.Tuple [a, b] k2 pt2) X.env = pure (some [x, y])) (hs : swapsWithSole [.Tuple [.Name x px, .Name y py] kt pt] (.Tuple [a, b] k2 pt2) pos.line X.env = pure false) :
    PS X (.Assign [.Tuple [.Name x px, .Name y py] kt pt] (.Tuple [a, b] k2 pt2) pos) (lS G W fun Dn σ h => wl (exAt Dn σ) σ h fun ds h1 => ∃ d1 d2, ds = [d1, d2] ∧ Dn.nx ((σ.set i (some d1)).set j (some d2)) h1) :=
  PS.imp (ps_par hc hN hi hj hij hx hy ha hw hs) fun Q σ H ⟨σd, h, Dn, at_, w, p⟩ =>
    ⟨σd, h, _, _, at_.at, w, fun ds h1 vs H1 w1 rv r1 f1 => by
      obtain ⟨d1, d2, rfl, q⟩ := w1
      obtain ⟨v, u, rfl, rv, ru⟩ := rv.two
      exact ⟨v, u, rfl, p.nx _ h1 _ H1 q (((at_.s.fm at_.r f1).set rv).set ru) r1 f1⟩⟩
theorem ss_par3 {i j l : Nat} {x y z : Str} {px py pz pt : Pos} {kt k2 pt2} (hc : X.calm = true) (hN : X.N.Nodup) (hi : X.N[i]? = some x) (hj : X.N[j]? = some y) (hl : X.N[l]? = some z) (hij : i ≠ j) (hil : i ≠ l) (hjl : j ≠ l)
    (hx : X.env.scope.names.lookup x = some .local) (hy : X.env.scope.names.lookup y = some .local) (hz : X.env.scope.names.lookup z = some .local) (ha : PA X [a, b, c] (lA G W wl))
    (hw : swappedStores [.Tuple [.Name x px, .Name y py, .Name z pz] kt pt] (.Tuple [a, b, c] k2 pt2) X.env = pure (some [x, y, z])) (hs : swapsWithSole [.Tuple [.Name x px, .Name y py, .Name z pz] kt pt] (.Tuple [a, b, c] k2 pt2) pos.line X.env = pure false) :
    PS X (.Assign [.Tuple [.Name x px, .Name y py, .Name z pz] kt pt] (.Tuple [a, b, c] k2 pt2) pos) (lS G W fun Dn σ h => wl (exAt Dn σ) σ h fun ds h1 => ∃ d1 d2 d3, ds = [d1, d2, d3] ∧ Dn.nx (((σ.set i (some d1)).set j (some d2)).set l (some d3)) h1) :=
  PS.imp (ps_par3 hc hN hi hj hl hij hil hjl hx hy hz ha hw hs) fun Q σ H ⟨σd, h, Dn, at_, w, p⟩ =>
    ⟨σd, h, _, _, at_.at, w, fun ds h1 vs H1 w1 rv r1 f1 => by
      obtain ⟨d1, d2, d3, rfl, q⟩ := w1
      obtain ⟨v, us, rfl, rv1, rv⟩ := rv.cons_inv
      obtain ⟨v2, v3, rfl, rv2, rv3⟩ := rv.two
      exact ⟨v, v2, v3, rfl, p.nx _ h1 _ H1 q ((((at_.s.fm at_.r f1).set rv1).set rv2).set rv3) r1 f1⟩⟩
theorem ss_ex (he : PE X e (lE G W wa)) (hs : swapsWith e none pos.line X.env = pure false) : PS X (.Expr e pos) (lS G W fun Dn σ h => wa (exAt Dn σ) σ h fun _ h1 => Dn.nx σ h1) :=
  PS.imp (ps_expr he hs) fun Q σ H ⟨σd, h, Dn, at_, w, p⟩ => ⟨σd, h, _, _, at_.at, w, fun d h1 v H1 w1 rv r1 f1 => p.nx _ h1 _ H1 w1 (at_.s.fm at_.r f1) r1 f1⟩
theorem ss_ret (he : PE X e (lE G W wa)) : PS X (.Return (some e) pos) (lS G W fun Dn σ h => wa (exAt Dn σ) σ h Dn.rt) :=
  PS.imp (ps_ret he) fun Q σ H ⟨σd, h, Dn, at_, w, p⟩ => ⟨σd, h, _, _, at_.at, w, p.rt⟩
theorem ss_retN : PS X (.Return none pos) (lS G W fun Dn _ h => Dn.rt .non h) :=
  PS.imp ps_retN fun Q σ H ⟨σd, h, Dn, at_, w, p⟩ => p.rt.here at_.r w repV_non
theorem ss_ifs (hc : PT X c (lT G W wt)) (h1 : PSs X body (lS G W ws)) (h2 : PSs X body2 (lS G W wu)) : PS X (.If c body body2 pos) (lS G W fun Dn σ h => wt (exAt Dn σ) σ h fun k h1 => if k = true then ws Dn σ h1 else wu Dn σ h1) :=
  PS.imp (ps_if hc h1 h2) fun Q σ H ⟨σd, h, Dn, at_, w, p⟩ => ⟨σd, h, _, _, at_.at, w, fun k h1 H1 w1 r1 f1 => by
    cases k with
    | true => exact ⟨σd, h1, Dn, at_.fm r1 f1, w1, p.fm f1⟩
    | false => exact ⟨σd, h1, Dn, at_.fm r1 f1, w1, p.fm f1⟩⟩
theorem ss_brk : PS X (.Break pos) (lS G W fun Dn σ h => Dn.bk σ h) := PS.imp ps_break fun Q σ H ⟨σd, h, Dn, at_, w, p⟩ => p.bk σd h σ H w at_.s at_.r Fm.refl
theorem ss_cnt : PS X (.Continue pos) (lS G W fun Dn σ h => Dn.ct σ h) := PS.imp ps_continue fun Q σ H ⟨σd, h, Dn, at_, w, p⟩ => p.ct σd h σ H w at_.s at_.r Fm.refl
theorem ss_pas : PS X (.Pass pos) (lS G W fun Dn σ h => Dn.nx σ h) := PS.imp ps_pass fun Q σ H ⟨σd, h, Dn, at_, w, p⟩ => p.nx σd h σ H w at_.s at_.r Fm.refl
theorem ss_doc {x j pos pos'} : PS X (.Expr (.Constant (.str x) j pos) pos') (lS G W fun Dn σ h => Dn.nx σ h) := PS.imp ps_doc fun Q σ H ⟨σd, h, Dn, at_, w, p⟩ => p.nx σd h σ H w at_.s at_.r Fm.refl
/-- op= -/
theorem ip_D (op : Operator) : PIp X op (lR2 G (augD op)) := by
  intro pins s σ H x y v u Q I r1 r2 ⟨dx, dy, h, R, rx, ry, rh, w, p⟩
  unfold augD at w
  split at w
  · rw [rx.int_inv] at r1; rw [ry.int_inv] at r2; exact iop_add pins s σ H _ _ v u Q I r1 r2 ⟨_, _, rfl, rfl, p.here rh w repV_int⟩
  · rw [rx.str_inv] at r1; rw [ry.str_inv] at r2; exact iop_add_str pins s σ H _ _ v u Q I r1 r2 ⟨_, _, rfl, rfl, w.1, p.here rh w.2 repV_str⟩
  · rw [rx.int_inv] at r1; rw [ry.int_inv] at r2; exact iop_sub pins s σ H _ _ v u Q I r1 r2 ⟨_, _, rfl, rfl, p.here rh w repV_int⟩
  · rw [rx.int_inv] at r1; rw [ry.int_inv] at r2; exact iop_mul pins s σ H _ _ v u Q I r1 r2 ⟨_, _, rfl, rfl, .inl w.1, p.here rh w.2 repV_int⟩
  · exact w.elim
theorem ss_aug {i : Nat} {x : Str} {op : Operator} {pos' : Pos} (hN : X.N.Nodup) (hi : X.N[i]? = some x) (hx : Loc X.env.scope x) (hf : X.fn x = true ∨ X.env.scope.names.lookup x = some .local) (he : PE X e (lE G W wa)) :
    PS X (.AugAssign (.Name x pos') op e pos) (lS G W fun Dn σ h => ∃ x, σ[i]? = some (some x) ∧ wa (exAt Dn σ) σ h fun y h1 => augD op x y h1 fun z h2 => Dn.nx (σ.set i (some z)) h2) :=
  PS.imp (ps_aug hN hi hx he (ip_D (G := G) op) hf) fun Q σ H ⟨σd, h, Dn, at_, ⟨dx, ex, w⟩, p⟩ => by
    obtain ⟨v, ev, rv⟩ := at_.s.2 i dx ex
    exact ⟨v, ev, σd, h, _, _, at_.at, w, fun dy h1 y H1 w1 ry r1 f1 => ⟨dx, dy, h1, _, rv.fm at_.r f1, ry, r1, w1, fun dz h2 z H2 w2 rz r2 f2 => p.nx _ h2 _ H2 w2 ((at_.s.fm at_.r (f1.trans f2)).set rz) r2 (f1.trans f2)⟩⟩
/-! ### loops -/
theorem ss_for {iter : Expr} {t : Tg} {wi : DX → DS → MH → (ItV → MH → Prop) → Prop} (hK : X.K = G.K) (hp : PassesOwn (model X.prog X.w) X.A X.env X.xe) (hc : X.calm = true) (hi : PI X tg iter (lI G W wi)) (hg : PG X tg (tgG X.K t)) (hb : PSs X body (lS G W ws)) (hs : ∀ x, foldedSetIterable iter X.env x = pure x) :
    PS X (.For tg iter body [] pos) (lS G W fun Dn σ h => wi (exAt Dn σ) σ h fun J h1 => forGo t J.ok ws Dn J.its σ h1) :=
  PS.imp (ps_for hp hc hi hg hb hs) fun Q σ H ⟨σd, h, Dn, at_, w, p⟩ => by
    rw [hK]
    refine ⟨σd, h, _, _, at_.at, w, fun Jd h1 J H1 go ri r1 f1 => ?_⟩
    have at1 := at_.fm r1 f1
    have p1 := p.fm f1
    let S : Nat → L2.St → MH → Hp → Prop := fun i σ' h' H' => ∃ σd', RepS G.K H' σd' σ' ∧ RepH G h' H' ∧ Fm h1 H1 h' H' ∧ i ≤ Jd.its.length ∧ forGo t Jd.ok ws Dn (Jd.its.drop i) σd' h'
    refine ⟨fun i m σ' H' => m = Jd.its.length - i ∧ ∃ h', S i σ' h' H', ⟨Jd.its.length, by simp, h1, σd, at1.s, r1, Fm.refl, Nat.zero_le _, by simpa using go⟩, ?_⟩
    rintro i m σ2 H2 ⟨rfl, h2, σd2, rs2, r2, f2, hi2, go2⟩
    have ok : Jd.ok h2 := by
      cases e : Jd.its.drop i with
      | nil => rw [e] at go2; exact go2.1
      | cons d r => rw [e] at go2; exact go2.1
    obtain ⟨item, stop⟩ := ri h2 H2 r2 (f2.pst r1) ok
    by_cases hlt : i < Jd.its.length
    · rw [List.drop_eq_getElem_cons hlt] at go2
      obtain ⟨_, go2⟩ := go2
      obtain ⟨jg, jy⟩ := item i _ (List.getElem?_eq_getElem hlt)
      refine .inr ⟨jg, fun σ' H' => ∃ h', S (i + 1) σ' h' H', fun σ' H' ⟨h', s⟩ => ⟨Jd.its.length - (i + 1), by omega, rfl, h', s⟩, fun x H3 y => ?_⟩
      obtain ⟨rx, r3, f3⟩ := jy x H3 y
      refine tgG_ok go2 rx (rs2.fm r2 f3) fun σd4 σ4 go4 rs4 => ?_
      have f13 := f2.trans f3
      have again : PostS G h2 H3 (forGo t Jd.ok ws Dn (Jd.its.drop (i + 1))) (fun σ' H' => ∃ h', S (i + 1) σ' h' H') := fun σd' h' σ' H' w' s' r' f' => ⟨h', σd', s', r', f13.trans f', hlt, w'⟩
      exact ⟨σd4, h2, { Dn with nx := forGo t Jd.ok ws Dn (Jd.its.drop (i + 1)), ct := forGo t Jd.ok ws Dn (Jd.its.drop (i + 1)), bk := Dn.nx }, (at1.go (σ1 := σ4) rs4 r3 f13), go4, ⟨again, p1.rt.fm f13, p1.nx.fm f13, again⟩⟩
    · have e : i = Jd.its.length := by omega
      subst e
      rw [List.drop_length] at go2
      exact .inl ⟨stop, p1.nx σd2 h2 σ2 H2 go2.2 rs2 r2 f2⟩
theorem ss_whl (hp : PassesOwn (model X.prog X.w) X.A X.env X.xe) (hc : PT X c (lT G W wt)) (hb : PSs X body (lS G W ws)) :
    PS X (.While c body [] pos) (lS G W fun Dn σ h => whlGo (fun σ h P => wt (exAt Dn σ) σ h P) ws Dn σ h) :=
  PS.imp (ps_while hp hc hb) fun Q σ H ⟨σd, h, Dn, at_, ⟨Wd, ⟨m0, w0⟩, turn⟩, p⟩ => by
    refine ⟨fun m σ' H' => ∃ σd' h', RepS G.K H' σd' σ' ∧ RepH G h' H' ∧ Fm h H h' H' ∧ Wd m σd' h', ⟨m0, σd, h, at_.s, at_.r, Fm.refl, w0⟩, ?_⟩
    rintro m σ2 H2 ⟨σd2, h2, rs2, r2, f2, w2⟩
    have at2 : AtS G W (exAt Dn) σd2 σ2 h2 H2 := at_.go rs2 r2 f2
    have p2 := p.fm f2
    refine ⟨σd2, h2, _, _, at2.at, turn m σd2 h2 w2, fun k h3 H3 w3 r3 f3 => ?_⟩
    cases k with
    | false => exact p2.nx _ h3 _ H3 w3 (rs2.fm r2 f3) r3 f3
    | true =>
      refine ⟨fun σ' H' => ∃ m', m' < m ∧ ∃ σd' h', RepS G.K H' σd' σ' ∧ RepH G h' H' ∧ Fm h H h' H' ∧ Wd m' σd' h', fun σ' H' z => z, ?_⟩
      have again : PostS G h3 H3 (fun σ' h' => ∃ m', m' < m ∧ Wd m' σ' h') (fun σ' H' => ∃ m', m' < m ∧ ∃ σd' h', RepS G.K H' σd' σ' ∧ RepH G h' H' ∧ Fm h H h' H' ∧ Wd m' σd' h') := fun σd' h' σ' H' ⟨m', hm, w'⟩ s' r' f' => ⟨m', hm, σd', h', s', r', (f2.trans f3).trans f', w'⟩
      exact ⟨σd2, h3, { Dn with nx := fun σ' h' => ∃ m', m' < m ∧ Wd m' σ' h', ct := fun σ' h' => ∃ m', m' < m ∧ Wd m' σ' h', bk := Dn.nx }, at2.fm r3 f3, w3, ⟨again, p2.rt.fm f3, p2.nx.fm f3, again⟩⟩
end
end DL
set_option Elab.async false
set_option linter.all false
set_option maxRecDepth 100000
set_option maxHeartbeats 1000000
/-! The D layer, 10: calls. -/
namespace DL
open PySem PySem.Spec PyProof.Rows L2

/-- a def's promise, where nothing guards -/
structure FnG (P : Program) (w : World) (K : PySem.W.Frag) (mg : Str → Option Value) (base : Heap) (k : Nat) (f : Addr) (fd : FuncData) (ps : List Str) (sp : Sp) : Prop where
  len : ∀ vs H Q E, sp vs H Q E → vs.length = ps.length
  run : ∀ (A : Around) (outer : List Env) (s : Shared) (H : Hp) (args : Args) (us : List Value) (vs : List V) (Q : VK) (E : XK), Room k A → A.guards = some [] → Env0 P w K mg base A outer s H → BindsTo s fd args (ps.zip us) → Vals vs us → sp vs H Q E →
    codeAny (model P w) A (.call (.ref f) args) (CR (L2.CX P w) outer P w H s Q E) s
section
variable {P : Program} {w : World} {K : PySem.W.Frag} {mg : Str → Option Value} {base : Heap}
theorem fn_ofG {k : Nat} {f : Addr} {name qual : Str} {params : Arguments} {body : List Stmt} {scope : Scope} {dV kV doc pm cdv ct oc : Value} {an od : Option Addr}
    {osl : Array (Option Value)} {N ps : List Str} {sp : Sp} (lk : K.lookup f = some ⟨oc, od, .func (PySem.W.fnOf name qual params body scope dV kV doc pm an cdv ct), osl⟩) (hcd : PySem.W.codeIn K cdv qual = true) (S : FnScope N ps scope)
    (len : ∀ vs H Q E, sp vs H Q E → vs.length = ps.length)
    (hbody : ∀ (A : Around) (outer : List Env) (s : Shared) (H : Hp) (vs : List V) (Q : VK) (E : XK), Room k (A.deeper (envOfC qual scope s.heap.objs.size f cdv)) → A.guards = some [] → sp vs H Q E →
      ∃ t, PSs (cxOf (L2.CX P w) P w K mg base N qual scope f cdv A outer s H E) body t ∧ t { nx := fun _ H' => Q .non H', rt := Q } (start N vs) H) :
    FnG P w K mg base (k + 1) f (PySem.W.fnOf name qual params body scope dV kV doc pm an cdv ct) ps sp := by
  refine ⟨len, fun A outer s H args us vs Q E hr hgd e0 hb r hsp => ?_⟩
  have hl := len _ _ _ _ hsp
  have KX : K.In s.heap := e0.mod.kin.keeps fun b o e => (e0.bs b o e).1
  have lim : s.heap.NoLimit := e0.mod.nolimit.keeps fun b o e => (e0.bs b o e).1
  have hkind : ∀ y ∈ ps.zip us, scope.names.lookup y.1 = some .local ∨ (scope.names.lookup y.1 = some .cell ∧ ((cellsFrom (s.heap.objs.size + 1) scope.names []).lookup y.1).isSome = true) := fun ⟨n, v⟩ hy => by
    rcases S.par n (List.of_mem_zip hy).1 with q | q
    · exact .inl q
    · exact .inr ⟨q, PySem.W.cellsFrom_some _ _ _ (.inl q)⟩
  refine codeAny_call_function hr.depth (KX _ _ lk) rfl S.co S.gen rfl (PySem.W.codeRec_of KX hcd) (hb _ _ _ _ ?_)
  refine wpAny_newFunctionEnv_cells S.kind hkind fun env he s1 x => ?_
  subst he
  refine ⟨lim.keeps x.toInCall.keep, codeAny_func ?_⟩
  obtain ⟨t, ht, hq⟩ := hbody A outer s H vs Q E (hr.deeper _) hgd hsp
  have I : Inv (cxOf (L2.CX P w) P w K mg base N qual scope f cdv A outer s H E) [] (start N vs) H s1 := inv_start S hr.hd e0 hl r x
  refine wpAny_mono (ht.run [] s1 (start N vs) H _ I hq) (fun fl s' hs => ?_) fun e s' hs => hs
  have fin : ∀ {σ' : L2.St} {H' : Hp} {v : V} {u : Value}, Inv (cxOf (L2.CX P w) P w K mg base N qual scope f cdv A outer s H E) [] σ' H' s' → RelV v u → Q v H' → CE outer P w H s Q u s' :=
    fun {σ' H' v u} J rv q => ⟨v, H', J.os, J.bare, J.base, J.hok, rv, q⟩
  cases fl with
  | ret u =>
    obtain ⟨v, σ', H', J, rv, q⟩ := hs
    exact fin J rv q
  | next =>
    obtain ⟨σ', H', J, q⟩ := hs
    exact fin (v := V.non) (u := Value.none) J rfl q
  | brk =>
    obtain ⟨_, _, _, q⟩ := hs
    exact False.elim q
  | cont =>
    obtain ⟨_, _, _, q⟩ := hs
    exact False.elim q
theorem FunD.okG {x qual : Str} {params : Arguments} {body : List Stmt} {scope : Scope} {dvs : List V} {kws : List (Str × V)} {f : Addr} {fd : FuncData} {N ps : List Str} {k : Nat} {sp : Sp} (F : FunD K x qual params body scope dvs kws f fd) (S : FnScope N ps scope) (len : ∀ vs H Q E, sp vs H Q E → vs.length = ps.length)
    (hbody : ∀ (cdv : Value) (A : Around) (outer : List Env) (s : Shared) (H : Hp) (vs : List V) (Q : VK) (E : XK), Room k (A.deeper (envOfC qual scope s.heap.objs.size f cdv)) → A.guards = some [] → sp vs H Q E →
      ∃ t, PSs (cxOf (L2.CX P w) P w K mg base N qual scope f cdv A outer s H E) body t ∧ t { nx := fun _ H' => Q .non H', rt := Q } (start N vs) H) : FnG P w K mg base (k + 1) f fd ps sp := by
  obtain ⟨oc, od, dV, kV, doc, pm, an, cdv, ct, osl, rfl, lk, hcd, _, _⟩ := F.ex
  exact fn_ofG lk hcd S len fun A outer s H vs Q E hr hg hsp => hbody cdv A outer s H vs Q E hr hg hsp
end

/-- what a call's exception must do -/
def PostE (G : Gr) (h : MH) (H : Hp) (Ex : DX) (E : XK) : Prop := ∀ c fs h' cls dd H', Ex c fs h' → RepX G h' H' c fs cls dd → RepH G h' H' → Fm h H h' H' → E cls dd H'
def spG (G : Gr) (Φ : Fns) (f : Nat) : Sp := fun vs H Q E => ∃ ds h R Ex, RepVs G.K H ds vs ∧ RepH G h H ∧ Φ f ds h R Ex ∧ Post G h H R Q ∧ PostE G h H Ex E
/-- how a def is called: n values, keywords ks; arr: each parameter's value -/
structure Pat where
  x : Str
  f : Nat
  n : Nat
  ks : List Str
  arr : List (Nat ⊕ D)
structure PatOk (P : Program) (w : World) (K : PySem.W.Frag) (mg : Str → Option Value) (base : Heap) (G : Gr) (Φ : Fns) (k : Nat) (p : Pat) : Prop where
  ex : ∃ (a : Addr) (fd : FuncData) (ps : List Str) (g : List Value → List Value → List Value) (gV : List V → List V → List V), mg p.x = some (.ref a) ∧ PySem.W.keepIn K (.ref a) = true ∧ FnG P w K mg base k a fd ps (spG G Φ p.f) ∧ KBn K fd ps p.n p.ks g gV ∧
    ∀ H ds vs es zs, RepVs K H ds vs → RepVs K H es zs → ds.length = p.n → es.length = p.ks.length → RepVs K H (arrOf (ds ++ es) p.arr) (gV vs zs)
section
variable {X : Cx} {G : Gr} {W : WX} {Φ : Fns} {p : Pat} {k : Nat}
theorem run_pat {pins : List (Addr × Obj)} {σ : L2.St} {H : Hp} {s : Shared} {Q : VK} {us ws : List Value} {vs zs : List V} {ds es : List D} {σd : DS} {h : MH} {R : D → MH → Prop} {E : DX} {a : Addr} {fd : FuncData} {ps : List Str} {g : List Value → List Value → List Value} {gV : List V → List V → List V}
    (ok : Ok X G) (tk : Takes X W) (F : FnG X.prog X.w X.K X.mg X.base k a fd ps (spG G Φ p.f)) (B : KBn X.K fd ps p.n p.ks g gV) (hr : Room k X.A)
    (arr : ∀ H ds vs es zs, RepVs X.K H ds vs → RepVs X.K H es zs → ds.length = p.n → es.length = p.ks.length → RepVs X.K H (arrOf (ds ++ es) p.arr) (gV vs zs))
    (I : Inv X pins σ H s) (r : Vals vs us) (rz : Vals zs ws) (rd : RepVs G.K H ds vs) (re : RepVs G.K H es zs) (l1 : ds.length = p.n) (l2 : es.length = p.ks.length) (at_ : At G W E σd σ h H) (w : Φ p.f (arrOf (ds ++ es) p.arr) h R E) (po : Post G h H R Q) :
    wpAny (model X.prog X.w) X.A (call (.ref a) us (p.ks.zip ws)) (EP X pins σ Q) X.xe s := by
  have r2 := B.rel r rz
  have ra := arr H ds vs es zs (by rw [ok.k]; exact rd) (by rw [ok.k]; exact re) l1 l2
  rw [ok.k] at ra
  have sp : spG G Φ p.f (gV vs zs) H Q (L2.WE W σ) := ⟨_, h, R, E, ra, at_.r, w, po, fun c fs h' cls dd H' e rx rh f => at_.x c fs h' cls dd H' e rx rh f⟩
  refine wpAny_call (codeAny_mono (F.run X.A X.stack s H ⟨us, p.ks.zip ws⟩ (g us ws) (gV vs zs) Q (L2.WE W σ) hr ok.gd I.env0 (B.to s us ws I.kIn (by rw [← r.length, rd.length]; exact l1) (by rw [← rz.length, re.length]; exact l2)) r2 sp) fun r s' hq => ?_)
  cases r with
  | error e => exact passAt tk σ pins H s e s' I hq
  | ok fl =>
    cases fl with
    | ret u => exact I.after hq
    | next => exact False.elim hq
    | brk => exact False.elim hq
    | cont => exact False.elim hq
variable {e : Expr} {es : List Expr} {kws : List Keyword} {q pos : Pos} {wl wk : WL}
/-- f(e, .., k = v, ..) -/
theorem se_callk (ok : Ok X G) (tk : Takes X W) (hp : PatOk X.prog X.w X.K X.mg X.base G Φ k p) (hr : Room k X.A) (hg : Gl X p.x)
    (ha : PA X (e :: es) (lA G W wl)) (hkw : PK X kws (lA G W wk))
    (hall : (backToKw pos (keywordEach kws X.env)).all (·.1.isSome) = true) (hks : (backToKw pos (keywordEach kws X.env)).filterMap (·.1) = p.ks)
    (hdb : (p.x == ("__debug__" : Str)) = false) (he : starEach (e :: es) X.env = (false, eval e X.env) :: starEach es X.env)
    (hpl : ((backTo pos (starEach (e :: es) X.env)).any (·.1) || (backToKw pos (keywordEach kws X.env)).any (·.1.isNone)) = false) :
    PE X (.Call (.Name p.x q) (e :: es) kws pos) (lE G W fun E σ h Q => wl E σ h fun ds h1 => wk E σ h1 fun ks h2 => (ds.length = p.n ∧ ks.length = p.ks.length) ∧ Φ p.f (arrOf (ds ++ ks) p.arr) h2 Q E) := by
  obtain ⟨a, fd, ps, g, gV, hmg, hk, F, B, arr⟩ := hp.ex
  refine ⟨fun pins s σ H Q I ⟨σd, h, R, E, at_, w, po⟩ => ?_⟩
  refine wpAny_Call_Name_kw (ld_glob I hg hmg ?_ hdb)
  refine PySem.W.callWith_KW (h₀ := X.base) I.ok.mod.kin hk hall (thn (ha.run pos pins s σ H
    (fun vs H1 => ∃ ds h1, RepVs G.K H1 ds vs ∧ RepH G h1 H1 ∧ Fm h H h1 H1 ∧ wk E σd h1 fun ks h2 => (ds.length = p.n ∧ ks.length = p.ks.length) ∧ Φ p.f (arrOf (ds ++ ks) p.arr) h2 R E) I ⟨σd, h, _, E, at_, w, fun ds h1 vs H1 w1 rd rh1 f1 => ⟨ds, h1, rd, rh1, f1, w1⟩⟩) fun us s1 ⟨vs, H1, I1, r, ds, h1, rd, rh1, f1, w1⟩ => ?_) hpl he
  refine thn (hkw.run pos pins s1 σ H1 (fun zs H2 => ∃ es h2, RepVs G.K H2 es zs ∧ RepH G h2 H2 ∧ Fm h1 H1 h2 H2 ∧ (ds.length = p.n ∧ es.length = p.ks.length) ∧ Φ p.f (arrOf (ds ++ es) p.arr) h2 R E) I1 ⟨σd, h1, _, E, at_.fm rh1 f1, w1, fun es h2 zs H2 w2 re rh2 f2 => ⟨es, h2, re, rh2, f2, w2⟩⟩)
    fun ws s2 ⟨zs, H2, I2, rz, es, h2, re, rh2, f2, l, w2⟩ => ⟨I2.kIn, ?_⟩
  rw [hks]
  exact run_pat ok tk F B hr arr I2 r rz (rd.fm rh1 f2) re l.1 l.2 ((at_.fm rh1 f1).fm rh2 f2) w2 (po.fm (f1.trans f2))
/-- f(e, ..), every parameter written -/
theorem se_call (ok : Ok X G) (tk : Takes X W) (hp : PatOk X.prog X.w X.K X.mg X.base G Φ k p) (hr : Room k X.A) (hg : Gl X p.x) (hk0 : p.ks = []) (har : ∀ ds : List D, ds.length = p.n → arrOf ds p.arr = ds)
    (ha : PA X (e :: es) (lA G W wl)) (hdb : (p.x == ("__debug__" : Str)) = false) (he : starEach (e :: es) X.env = (false, eval e X.env) :: starEach es X.env)
    (hpl : (backTo pos (starEach es X.env)).any (·.1) = false) :
    PE X (.Call (.Name p.x q) (e :: es) [] pos) (lE G W fun E σ h Q => wl E σ h fun ds h1 => ds.length = p.n ∧ Φ p.f ds h1 Q E) := by
  obtain ⟨a, fd, ps, g, gV, hmg, hk, F, B, arr⟩ := hp.ex
  refine ⟨fun pins s σ H Q I ⟨σd, h, R, E, at_, w, po⟩ => ?_⟩
  refine wpAny_Call_Name_kw (ld_glob I hg hmg ?_ hdb)
  refine PySem.W.callWith_K (h₀ := X.base) I.ok.mod.kin hk (thn (ha.run pos pins s σ H
    (fun vs H1 => ∃ ds h1, RepVs G.K H1 ds vs ∧ RepH G h1 H1 ∧ Fm h H h1 H1 ∧ ds.length = p.n ∧ Φ p.f ds h1 R E) I ⟨σd, h, _, E, at_, w, fun ds h1 vs H1 w1 rd rh1 f1 => ⟨ds, h1, rd, rh1, f1, w1⟩⟩) fun us s1 ⟨vs, H1, I1, r, ds, h1, rd, rh1, f1, l1, w1⟩ => ⟨I1.kIn, ?_⟩) he hpl
  have w2 : Φ p.f (arrOf (ds ++ []) p.arr) h1 R E := by rw [List.append_nil, har ds l1]; exact w1
  have q := run_pat (ws := []) (zs := []) (es := []) ok tk F B hr arr I1 r .nil rd repVs_nil l1 (by rw [hk0]; rfl) (at_.fm rh1 f1) w2 (po.fm f1)
  rw [hk0] at q
  exact q
end
end DL
set_option Elab.async false
set_option linter.all false
set_option maxRecDepth 100000
set_option maxHeartbeats 1000000
/-! The D layer, 11: the syntax laid beside the program's. -/
namespace DL
open PySem PySem.Spec PyProof.Rows L2

/-! ### what is seen of an expression -/
def nostar : Expr → Bool
  | .Starred _ _ => false
  | _ => true
def noslice : Expr → Bool
  | .Slice _ _ _ _ => false
  | _ => true
def noset : Expr → Bool
  | .Set _ _ _ => false
  | _ => true
def nocall : Expr → Bool
  | .Call _ [] [] _ => false
  | _ => true
def plainT : Expr → Bool
  | .UnaryOp .Not _ _ => false
  | .BoolOp _ _ _ => false
  | .IfExp _ _ _ _ => false
  | .Compare _ _ _ _ => false
  | _ => true
def nocomp : Expr → Bool
  | .ListComp _ _ _ _ => false
  | .SetComp _ _ _ _ => false
  | .DictComp _ _ _ _ _ => false
  | _ => true
def noname : Expr → Bool
  | .Name _ _ => false
  | _ => true
def notup : Expr → Bool
  | .Tuple _ _ _ => false
  | .List _ _ => false
  | _ => true
theorem starEach_cons {e : Expr} {es : List Expr} {env : Env} (h : nostar e = true) : starEach (e :: es) env = (false, eval e env) :: starEach es env := by
  cases e <;> first | rfl | cases h
theorem plain_any {pos : Pos} {env : Env} : ∀ {es : List Expr}, es.all nostar = true → (backTo pos (starEach es env)).any (·.1) = false
  | [], _ => rfl
  | e :: es, h => by
    have h1 := List.all_cons ▸ h
    rw [Bool.and_eq_true] at h1
    rw [starEach_cons h1.1]
    show (false || (backTo pos (starEach es env)).any (·.1)) = false
    rw [plain_any h1.2] <;> rfl
theorem plain_all {pos : Pos} {env : Env} : ∀ {es : List Expr}, es.all nostar = true → (backTo pos (starEach es env)).all (fun x => !x.1) = true
  | [], _ => rfl
  | e :: es, h => by
    have h1 := List.all_cons ▸ h
    rw [Bool.and_eq_true] at h1
    rw [starEach_cons h1.1]
    show (true && (backTo pos (starEach es env)).all (fun x => !x.1)) = true
    rw [plain_all h1.2] <;> rfl
theorem plainIx {b : Expr} (h : noslice b = true) : PlainIx b := by
  cases b <;> first | (intro o i; rfl) | cases h
theorem assign_sub {a b : Expr} {pos : Pos} {env : Env} (h : noslice b = true) : ∀ v, assign (.Subscript a b pos) env v = (do
      let ov ← holding [v] (eval a env)
      let iv ← holding [v, ov] (eval b env)
      standAt pos
      holding [v, ov, iv] (setItem ov iv v)
      release [v, ov, iv] []) := by
  cases b <;> first | (intro v; rfl) | cases h
theorem isTrue_of {a : Expr} {env : Env} (h : plainT a = true) : ∀ whole, isTrue a env whole = (do let v ← whole; standAt a.pos; holding [v] (truthy v)) := by
  cases a <;> first | (intro w; rfl) | cases h | skip
  case UnaryOp op x p => cases op <;> first | (intro w; rfl) | cases h
theorem folded_of {e : Expr} {env : Env} (h : noset e = true) : ∀ x, foldedSetIterable e env x = pure x := by
  cases e <;> first | (intro w; rfl) | cases h
theorem behind_of {op : CmpOp} {b : Expr} (h : noset b = true) : behindInMarks op b = false := by
  cases b <;> first | rfl | cases h
theorem base_of {o : Expr} {name : Str} {env : Env} (h : nocall o = true) (w : Sem Value) : attributeBase o name env w = w := by
  cases o <;> first | rfl | skip
  case Call f as ks p =>
    cases as with
    | nil => cases ks with
      | nil => cases h
      | cons _ _ => cases f <;> rfl
    | cons _ _ => cases f <;> rfl
theorem swaps_of {e : Expr} {t : Option Expr} {l : Nat} {env : Env} (h : nocomp e = true) : swapsWith e t l env = pure false := by
  cases e <;> first | rfl | cases h
theorem swaps_of2 {e t : Expr} {l : Nat} {env : Env} (h : noname t = true) : swapsWith e (some t) l env = pure false := by
  cases t <;> first | (cases e <;> rfl) | (cases h; done)
theorem stores_of {e t : Expr} {env : Env} (h : notup t = true) : swappedStores [t] e env = pure none := by
  cases t <;> first | (cases e <;> rfl) | (cases h; done)
theorem stores_of2 {e t : Expr} {env : Env} (h : notup e = true) : swappedStores [t] e env = pure none := by
  cases e <;> first | (cases t <;> rfl) | (cases h; done)
theorem assignEach_one {t : Expr} {env : Env} {ts : List Expr} (h : nostar t = true) : (assignEach (t :: ts) env).map (·.2) = assign t env :: (assignEach ts env).map (·.2) := by
  cases t <;> first | rfl | cases h
theorem assignEach_len {env : Env} : ∀ {ts : List Expr}, (assignEach ts env).length = ts.length
  | [] => rfl
  | t :: ts => by
    have e := assignEach_len (env := env) (ts := ts)
    cases t <;> exact congrArg Nat.succ e
theorem assignEach_nostar {env : Env} : ∀ {ts : List Expr}, ts.all nostar = true → (assignEach ts env).findIdx? (·.1) = none
  | [], _ => rfl
  | t :: ts, h => by
    have h1 := List.all_cons ▸ h
    rw [Bool.and_eq_true] at h1
    have e := assignEach_nostar (env := env) h1.2
    have e2 : assignEach (t :: ts) env = (false, assign t env) :: assignEach ts env := by
      have := h1.1
      cases t <;> first | rfl | cases this
    rw [e2, List.findIdx?_cons, e] <;> rfl
theorem kws_ok {pos : Pos} {env : Env} : ∀ {kws : List Keyword} {ks : List Str}, kws.map (·.arg) = ks.map some → (backToKw pos (keywordEach kws env)).all (·.1.isSome) = true ∧ (backToKw pos (keywordEach kws env)).filterMap (·.1) = ks ∧ (backToKw pos (keywordEach kws env)).any (·.1.isNone) = false
  | [], [], _ => ⟨rfl, rfl, rfl⟩
  | [], _ :: _, h => by cases h
  | _ :: _, [], h => by cases h
  | ⟨nm, e, p⟩ :: kws, k :: ks, h => by
    rw [List.map_cons, List.map_cons] at h
    obtain ⟨h1, h2⟩ := List.cons.inj h
    have h1 : nm = some k := h1
    subst h1
    obtain ⟨a, b, c⟩ := kws_ok (pos := pos) (env := env) h2
    refine ⟨?_, ?_, ?_⟩
    · show (true && (backToKw pos (keywordEach kws env)).all (·.1.isSome)) = true
      rw [a] <;> rfl
    · show k :: (backToKw pos (keywordEach kws env)).filterMap (·.1) = _
      rw [b]
    · show (false || (backToKw pos (keywordEach kws env)).any (·.1.isNone)) = false
      rw [c] <;> rfl

/-! ### two or three names at once -/
/-- the names are stored from the right -/
def parC (vs : List Expr) : Bool := vs.all nostar && !(vs.all (foldedForSure 8)) && !(vs.all (constantsAlone 8))
theorem star_no {e : Expr} (h : nostar e = true) {f : Expr → Bool} (hf : ∀ e, f e = !nostar e) : f e = false := by rw [hf, h] <;> rfl
theorem stores_par {x y : Str} {px py pt : Pos} {kt : Nat} {a b : Expr} {k2 : Nat} {pt2 : Pos} {env : Env} (hk : env.scope.kind = .function) (hx : env.scope.names.lookup x = some .local) (hy : env.scope.names.lookup y = some .local) (hl : py.line = px.line) (hxy : x ≠ y)
    (hp : parC [a, b] = true) : swappedStores [.Tuple [.Name x px, .Name y py] kt pt] (.Tuple [a, b] k2 pt2) env = pure (some [x, y]) := by
  unfold parC at hp
  simp only [Bool.and_eq_true, Bool.not_eq_true'] at hp
  obtain ⟨⟨h1, h2⟩, h3⟩ := hp
  simp only [List.all_cons, List.all_nil, Bool.and_true, Bool.and_eq_true] at h1
  have kx : env.kindOf x = some .local := hx
  have ky : env.kindOf y = some .local := hy
  have hb : env.blockKind = .function := by unfold Env.blockKind; rw [hk]; rfl
  have ed : [x, y].eraseDups = [x, y] := by
    simp [List.eraseDups_cons, hxy, Ne.symm hxy]
  unfold swappedStores
  simp only [List.length_cons, List.length_nil, hb, h2, h3, List.head?_cons, Option.map_some, Option.getD_some, Expr.pos, List.filterMap_cons, kx, ky, hl, beq_self_eq_true, Bool.and_self, if_true, List.filterMap_nil, ed]
  refine (if_neg (by decide)).trans ((if_neg ?_).trans rfl)
  intro z
  simp only [List.any_cons, List.any_nil, Bool.or_false, Bool.or_eq_true] at z
  rcases z with z | z
  · have := h1.1; cases a <;> first | (cases z; done) | (cases this; done)
  · have := h1.2; cases b <;> first | (cases z; done) | (cases this; done)
theorem stores_par3 {x y z : Str} {px py pz pt : Pos} {kt : Nat} {a b c : Expr} {k2 : Nat} {pt2 : Pos} {env : Env} (hk : env.scope.kind = .function) (hx : env.scope.names.lookup x = some .local) (hy : env.scope.names.lookup y = some .local) (hz : env.scope.names.lookup z = some .local) (hl : py.line = px.line) (hl2 : pz.line = px.line) (hxy : x ≠ y) (hxz : x ≠ z) (hyz : y ≠ z)
    (hp : parC [a, b, c] = true) : swappedStores [.Tuple [.Name x px, .Name y py, .Name z pz] kt pt] (.Tuple [a, b, c] k2 pt2) env = pure (some [x, y, z]) := by
  unfold parC at hp
  simp only [Bool.and_eq_true, Bool.not_eq_true'] at hp
  obtain ⟨⟨h1, h2⟩, h3⟩ := hp
  simp only [List.all_cons, List.all_nil, Bool.and_true, Bool.and_eq_true] at h1
  have kx : env.kindOf x = some .local := hx
  have ky : env.kindOf y = some .local := hy
  have kz : env.kindOf z = some .local := hz
  have hb : env.blockKind = .function := by unfold Env.blockKind; rw [hk]; rfl
  have ed : [x, y, z].eraseDups = [x, y, z] := by
    simp [List.eraseDups_cons, hxy, Ne.symm hxy, hxz, Ne.symm hxz, hyz, Ne.symm hyz]
  unfold swappedStores
  simp only [List.length_cons, List.length_nil, hb, h2, h3, List.head?_cons, Option.map_some, Option.getD_some, Expr.pos, List.filterMap_cons, kx, ky, kz, hl, hl2, beq_self_eq_true, Bool.and_self, if_true, List.filterMap_nil, ed]
  refine (if_neg (by decide)).trans ((if_neg ?_).trans rfl)
  intro z
  simp only [List.any_cons, List.any_nil, Bool.or_false, Bool.or_eq_true] at z
  rcases z with z | z | z
  · have := h1.1; cases a <;> first | (cases z; done) | (cases this; done)
  · have := h1.2.1; cases b <;> first | (cases z; done) | (cases this; done)
  · have := h1.2.2; cases c <;> first | (cases z; done) | (cases this; done)

def notLoc (sc : Scope) : Expr → Bool
  | .Name x _ => !decide (sc.names.lookup x = some .local)
  | _ => true
theorem filterMap_lt {α β : Type} {f : α → Option β} : ∀ {l : List α}, (∃ x ∈ l, f x = none) → (l.filterMap f).length < l.length
  | [], ⟨_, h, _⟩ => nomatch h
  | a :: l, ⟨x, hx, e⟩ => by
    have le := List.length_filterMap_le f l
    rw [List.filterMap_cons]
    rcases List.mem_cons.mp hx with rfl | hx
    · rw [e, List.length_cons]
      show (l.filterMap f).length < _
      omega
    · have ih := filterMap_lt (f := f) ⟨x, hx, e⟩
      cases f a with
      | none => show (l.filterMap f).length < _; rw [List.length_cons]; omega
      | some b => show (b :: l.filterMap f).length < _; rw [List.length_cons, List.length_cons]; omega
theorem stores_none {ts vs : List Expr} {k1 k2 : Nat} {p1 p2 : Pos} {env : Env} (h : (ts.any (notLoc env.scope) || vs.all (foldedForSure 8)) = true) : swappedStores [.Tuple ts k1 p1] (.Tuple vs k2 p2) env = pure none := by
  unfold swappedStores
  dsimp only
  split
  · rfl
  split
  · rfl
  split
  · rfl
  · rename_i hn
    split
    · rfl
    · rename_i hf
      exfalso
      rw [Bool.or_eq_true] at h
      rcases h with h | h
      · apply hn
        obtain ⟨x, hx, e⟩ := List.any_eq_true.mp h
        rw [Bool.or_eq_true]
        left
        refine bne_iff_ne.mpr (Nat.ne_of_lt (filterMap_lt ⟨x, hx, ?_⟩))
        cases x <;> try rfl
        rename_i id pos
        have : env.kindOf id ≠ some .local := by
          have z : (!decide (env.scope.names.lookup id = some .local)) = true := e
          have z2 : ¬ env.scope.names.lookup id = some .local := by simpa using z
          exact z2
        show (if (env.kindOf id == some .local && _) = true then _ else none) = none
        rw [if_neg]
        intro z
        rw [Bool.and_eq_true] at z
        exact this (eq_of_beq z.1)
      · exact hf h
end DL
set_option Elab.async false
set_option linter.all false
set_option maxRecDepth 100000
set_option maxHeartbeats 2000000
/-! The D layer, 12: the checker of expressions, and that it is right. -/
namespace DL
open PySem PySem.Spec PyProof.Rows L2

/-- what a text is read under -/
structure Ctx where
  N : List Str
  sc : Scope
  top : Bool
  pats : List Pat
  cI : List (Str × Int)
  cS : List (Str × Str)
  cF : List Str
def Ctx.blk (c : Ctx) (sc : Scope) : Ctx := { c with sc := relS sc c.sc, top := false }
structure Hy (X : Cx) (G : Gr) (W : WX) (Φ : Fns) (k : Nat) (c : Ctx) : Prop where
  ok : Ok X G
  hc : X.calm = true
  N : X.N = c.N
  sc : X.env.scope = c.sc
  fnT : c.top = true → ∀ x, X.fn x = true
  tk : Takes X W
  room : Room k X.A
  cF : ∀ x ∈ c.cF, X.mg x = none
  cI : ∀ p ∈ c.cI, ∃ u, X.mg p.1 = some u ∧ RelV (.int p.2) u
  cS : ∀ p ∈ c.cS, ∃ u, X.mg p.1 = some u ∧ RelV (.str p.2) u
  pats : ∀ p ∈ c.pats, PatOk X.prog X.w X.K X.mg X.base G Φ k p
theorem Hy.blk {X : Cx} {G : Gr} {W : WX} {Φ : Fns} {k : Nat} {c : Ctx} (y : Hy X G W Φ k c) (scope : Scope) (s : Shared) (H : Hp) (C : Addr) (cl : List (Str × Addr)) (fp : List Addr) : Hy (X.blk s H scope (compEnvC scope cl C X.env) fp) G W0 Φ k (c.blk scope) where
  ok := ⟨y.ok.k, y.ok.nd, y.ok.gd, y.ok.hu, y.ok.sy⟩
  hc := y.hc
  N := y.N
  sc := by
    show relabel scope X.env = relS scope c.sc
    rw [← y.sc]
    rfl
  fnT := fun z => by cases z
  tk := fun u s' x => by
    obtain ⟨a, B, sI, pins, σ, H, cls, d, h1, h2, h3, h4, h5, h6, h7, h8, w⟩ := x
    exact w.elim
  room := y.room
  cF := y.cF
  cI := y.cI
  cS := y.cS
  pats := y.pats

def visC (c : Ctx) (x : Str) : Bool := match c.sc.names.lookup x with
  | some .local => true
  | some .cell => true
  | some .free => true
  | _ => false
def glC (c : Ctx) (x : Str) : Bool := decide (c.sc.names.lookup x = some .globalImplicit) && !(x == ("__debug__" : Str))
def freeC (c : Ctx) (x : Str) : Bool := glC c x && c.cF.contains x && !(x == ("__name__" : Str))
def biN : Bi → Str
  | .len => "len" | .abs => "abs" | .min => "min" | .max => "max" | .sum => "sum" | .all => "all" | .any => "any" | .sorted => "sorted" | .list => "list" | .tuple => "tuple" | .str => "str" | .int => "int" | .repr => "repr"
def mtN : Mt → Str
  | .append => "append" | .extend => "extend" | .pop => "pop" | .get => "get" | .join => "join" | .split => "split" | .startswith => "startswith" | .index => "index" | .insert => "insert" | .reverse => "reverse" | .partition => "partition"
def tyS : Ty → Str
  | .int => "int" | .bool => "bool" | .str => "str" | .list => "list" | .tuple => "tuple" | .dict => "dict" | .non => "NoneType"
/-- a class by its name -/
def tyC (c : Ctx) (t : Ty) : Expr → Bool
  | .Name x _ => decide (t ≠ .non) && decide (x = tyS t) && freeC c x
  | _ => false
def tysC (c : Ctx) : List Ty → List Expr → Bool
  | [], [] => true
  | t :: ts, e :: es => tyC c t e && tysC c ts es
  | _, _ => false
def argC (es : List Expr) : Bool := es.all nostar && decide (es.length < 30)
def eqLR : List (Nat ⊕ D) → List (Nat ⊕ D) → Bool
  | [], [] => true
  | .inl i :: r, .inl j :: s => decide (i = j) && eqLR r s
  | .inr (.int i) :: r, .inr (.int j) :: s => decide (i = j) && eqLR r s
  | .inr (.str i) :: r, .inr (.str j) :: s => decide (i = j) && eqLR r s
  | .inr (.bl i) :: r, .inr (.bl j) :: s => decide (i = j) && eqLR r s
  | .inr .non :: r, .inr .non :: s => eqLR r s
  | _, _ => false
theorem eqLR_ok : ∀ {a b : List (Nat ⊕ D)}, eqLR a b = true → a = b
  | [], b, h => by cases b <;> first | rfl | cases h
  | x :: r, [], h => by
    cases x with
    | inl _ => cases h
    | inr d => cases d <;> cases h
  | x :: r, y :: s, h => by
    unfold eqLR at h
    split at h
    · rename_i e1 e2; cases e1
    · rename_i e1 e2; cases e1; cases e2
      simp only [Bool.and_eq_true, decide_eq_true_eq] at h
      rw [h.1, eqLR_ok h.2]
    · rename_i e1 e2; cases e1; cases e2
      simp only [Bool.and_eq_true, decide_eq_true_eq] at h
      rw [h.1, eqLR_ok h.2]
    · rename_i e1 e2; cases e1; cases e2
      simp only [Bool.and_eq_true, decide_eq_true_eq] at h
      rw [h.1, eqLR_ok h.2]
    · rename_i e1 e2; cases e1; cases e2
      simp only [Bool.and_eq_true, decide_eq_true_eq] at h
      rw [h.1, eqLR_ok h.2]
    · rename_i e1 e2; cases e1; cases e2
      rw [eqLR_ok h]
    · cases h
/-- arr takes the values as they come -/
def idArr : Nat → List (Nat ⊕ D) → Nat → Bool
  | _, [], n => decide (n = 0)
  | i, .inl j :: r, n + 1 => decide (i = j) && idArr (i + 1) r n
  | _, _, _ => false
theorem idArr_ok : ∀ {arr : List (Nat ⊕ D)} {i n : Nat} {ds : List D}, idArr i arr n = true → ds.length = i + n → arrOf ds arr = ds.drop i
  | [], i, n, ds, h, l => by
    have : n = 0 := by simpa [idArr] using h
    subst this
    rw [List.drop_eq_nil_of_le (by omega)] <;> rfl
  | .inl j :: r, i, n, ds, h, l => by
    cases n with
    | zero => cases h
    | succ n =>
      simp only [idArr, Bool.and_eq_true, decide_eq_true_eq] at h
      obtain ⟨rfl, h⟩ := h
      have q := idArr_ok (ds := ds) h (by omega)
      show ds.getD i .non :: arrOf ds r = _
      rw [q, List.drop_eq_getElem_cons (by omega : i < ds.length), List.getD_eq_getElem?_getD, List.getElem?_eq_getElem (by omega : i < ds.length)] <;> rfl
  | .inr d :: r, i, n, ds, h, l => by cases n <;> cases h
def okPat (p : Pat) : Bool := !(p.x == ("__debug__" : Str))
def callC (c : Ctx) (x : Str) (f n : Nat) : Bool := glC c x && c.pats.any fun p => decide (p.x = x) && decide (p.f = f) && decide (p.n = n) && decide (p.ks = []) && idArr 0 p.arr n
def callkC (c : Ctx) (x : Str) (f n m : Nat) (arr : List (Nat ⊕ D)) (kws : List Keyword) : Bool := glC c x && c.pats.any fun p => decide (p.x = x) && decide (p.f = f) && decide (p.n = n) && decide (p.ks.length = m) && eqLR p.arr arr && decide (kws.map (·.arg) = p.ks.map some)
def ownOf (N : List Str) (vs : List Nat) : List (Str × Nat) := vs.map fun v => (N.getD v "", v)
theorem ownOf_snd (N : List Str) : ∀ vs : List Nat, (ownOf N vs).map (·.2) = vs
  | [] => rfl
  | v :: vs => by
    show v :: (ownOf N vs).map (·.2) = _
    rw [ownOf_snd N vs]
/-- a loop's target -/
def nmC (c : Ctx) (i : Nat) : Expr → Bool
  | .Name x _ => decide (c.N[i]? = some x) && (match c.sc.names.lookup x with
    | some .local => true
    | some .cell => c.top
    | _ => false)
  | _ => false
def nmsC (c : Ctx) : List Nat → List Expr → Bool
  | [], [] => true
  | i :: is, e :: es => nmC c i e && nmsC c is es
  | _, _ => false
def tgC (c : Ctx) : Tg → Expr → Bool
  | .nm i, e => nmC c i e
  | .tp is, .Tuple es _ _ => nmsC c is es
  | _, _ => false
def istup : Expr → Bool
  | .Tuple _ _ _ => true
  | _ => false

mutual
def ckE (c : Ctx) : Ex → Expr → Bool
  | .var i, e => (match e with
    | .Name x _ => decide (c.N[i]? = some x) && visC c x && !(x == ("__debug__" : Str)) && !(x == ("__classdict__" : Str))
    | _ => false)
  | .cst d, e => (match d, e with
    | .int i, .Constant (.int j) _ _ => decide (i = j)
    | .bl i, .Constant (.bool j) _ _ => decide (i = j)
    | .non, .Constant .none _ _ => true
    | .str i, .Constant (.str j) _ _ => decide (i = j)
    | .int i, .Name x _ => glC c x && decide ((x, i) ∈ c.cI)
    | .str i, .Name x _ => glC c x && decide ((x, i) ∈ c.cS)
    | _, _ => false)
  | .bin op a b, e => (match e with
    | .BinOp x o y _ => decide (op = o) && ckE c a x && ckE c b y
    | _ => false)
  | .neg a, e => (match e with
    | .UnaryOp .USub x _ => ckE c a x
    | _ => false)
  | .not a, e => (match e with
    | .UnaryOp .Not x _ => ckE c a x
    | _ => false)
  | .and a b, e => (match e with
    | .BoolOp .And (x :: y :: r) p => ckE c a x && (match r with
      | [] => ckE c b y
      | z :: r => ckE c b (.BoolOp .And (y :: z :: r) p))
    | _ => false)
  | .or a b, e => (match e with
    | .BoolOp .Or (x :: y :: r) p => ckE c a x && (match r with
      | [] => ckE c b y
      | z :: r => ckE c b (.BoolOp .Or (y :: z :: r) p))
    | _ => false)
  | .ite t a b, e => (match e with
    | .IfExp z x y _ => ckT c t z && ckE c a x && ckE c b y
    | _ => false)
  | .cmp op a b, e => (match e with
    | .Compare x [o] [y] _ => decide (op = o) && noset y && ckE c a x && ckE c b y
    | _ => false)
  | .chn op op' a b d, e => (match e with
    | .Compare x [o, o'] [y, z] _ => decide (op = o) && decide (op' = o') && noset z && ckE c a x && ckE c b y && ckE c d z
    | _ => false)
  | .tup es, e => (match e with
    | .Tuple xs _ _ => xs.all nostar && ckEs c es xs
    | _ => false)
  | .lst es, e => (match e with
    | .List xs _ => xs.all nostar && ckEs c es xs
    | _ => false)
  | .dsp ks es, e => (match e with
    | .Dict keys vs _ => decide (ks.length ≤ 15) && decide ks.Nodup && ckD c ks es keys vs
    | _ => false)
  | .ix a i, e => (match e with
    | .Subscript x y _ => noslice y && ckE c a x && ckE c i y
    | _ => false)
  | .sl a lo hi, e => (match e with
    | .Subscript x (.Slice l u none _) _ => ckE c a x && ckO c lo l && ckO c hi u
    | _ => false)
  | .call f es, e => (match e with
    | .Call (.Name x _) (y :: ys) [] _ => argC (y :: ys) && callC c x f es.length && ckEs c es (y :: ys)
    | _ => false)
  | .callk f es kes arr, e => (match e with
    | .Call (.Name x _) (y :: ys) kws _ => argC (y :: ys) && callkC c x f es.length kes.length arr kws && ckEs c es (y :: ys) && ckK c kes kws
    | _ => false)
  | .bi b es, e => (match e with
    | .Call (.Name x _) (y :: ys) [] _ => argC (y :: ys) && decide (x = biN b) && freeC c x && ckEs c es (y :: ys)
    | _ => false)
  | .isi a ts, e => (match e with
    | .Call (.Name x _) [y, z] [] _ => decide (x = "isinstance") && freeC c x && nostar y && ckE c a y && (match z, ts with
      | .Name _ _, [t] => tyC c t z
      | .Tuple zs _ _, ts => tysC c ts zs && decide (zs.length ≤ 10)
      | _, _ => false)
    | _ => false)
  | .met m o es, e => (match e with
    | .Call (.Attribute x nm ap) ys [] cp => decide (nm = mtN m) && nocall x && decide (ap.endLine = cp.line) && argC ys && ckE c o x && ckEs c es ys
    | _ => false)
  | .lc el t it cd vs, e => (match e with
    | .ListComp x [⟨tg, i, ifs, 0⟩] scope _ => blkC c.N c.sc scope (ownOf c.N vs) && tgIn t vs && noset i && tgC (c.blk scope) t tg && ckI c it tg i && ckE (c.blk scope) el x && ckC (c.blk scope) cd ifs
    | _ => false)
  | .lc2 el t it cd t1 it1 cd1 vs vs1, e => (match e with
    | .ListComp x [⟨tg, i, ifs, 0⟩, ⟨tg1, i1, ifs1, 0⟩] scope _ => blkC c.N c.sc scope (ownOf c.N vs) && tgIn t vs && tgIn t1 vs1 && (vs1.all fun v => vs.contains v) && noset i && noset i1 && tgC (c.blk scope) t tg && tgC (c.blk scope) t1 tg1 && ckI c it tg i && ckI (c.blk scope) it1 tg1 i1 &&
        ckE (c.blk scope) el x && ckC (c.blk scope) cd ifs && ckC (c.blk scope) cd1 ifs1
    | _ => false)
def ckT (c : Ctx) : Te → Expr → Bool
  | .val a, e => plainT e && ckE c a e
  | .not a, e => (match e with
    | .UnaryOp .Not x _ => ckT c a x
    | _ => false)
  | .and a b, e => (match e with
    | .BoolOp .And (x :: y :: r) p => ckT c a x && (match r with
      | [] => ckT c b y
      | z :: r => ckT c b (.BoolOp .And (y :: z :: r) p))
    | _ => false)
  | .or a b, e => (match e with
    | .BoolOp .Or (x :: y :: r) p => ckT c a x && (match r with
      | [] => ckT c b y
      | z :: r => ckT c b (.BoolOp .Or (y :: z :: r) p))
    | _ => false)
  | .cmp op a b, e => (match e with
    | .Compare x [o] [y] _ => decide (op = o) && noset y && ckE c a x && ckE c b y
    | _ => false)
  | .chn op op' a b d, e => (match e with
    | .Compare x [o, o'] [y, z] _ => decide (op = o) && decide (op' = o') && noset z && ckE c a x && ckE c b y && ckE c d z
    | _ => false)
def ckEs (c : Ctx) : List Ex → List Expr → Bool
  | [], [] => true
  | a :: as, x :: xs => ckE c a x && ckEs c as xs
  | _, _ => false
def ckK (c : Ctx) : List Ex → List Keyword → Bool
  | [], [] => true
  | a :: as, ⟨_, x, _⟩ :: xs => ckE c a x && ckK c as xs
  | _, _ => false
def ckD (c : Ctx) : List Str → List Ex → List (Option Expr) → List Expr → Bool
  | [], [], [], [] => true
  | k :: ks, a :: as, some (.Constant (.str k') _ _) :: keys, x :: xs => decide (k = k') && ckE c a x && ckD c ks as keys xs
  | _, _, _, _ => false
def ckO (c : Ctx) : Option Ex → Option Expr → Bool
  | none, none => true
  | some a, some x => ckE c a x
  | _, _ => false
def ckC (c : Ctx) : Option Te → List Expr → Bool
  | none, [] => true
  | some a, [x] => ckT c a x
  | _, _ => false
def ckI (c : Ctx) : It' → Expr → Expr → Bool
  | .of a, _, e => ckE c a e
  | .rng es, _, e => (match e with
    | .Call (.Name x _) (y :: ys) [] _ => decide (x = "range") && freeC c x && argC (y :: ys) && ckEs c es (y :: ys)
    | _ => false)
  | .zip a b, tg, e => (match e with
    | .Call (.Name x _) [y, z] [] _ => istup tg && decide (x = "zip") && freeC c x && argC [y, z] && ckE c a y && ckE c b z
    | _ => false)
  | .enm a, tg, e => (match e with
    | .Call (.Name x _) [y] [] _ => istup tg && decide (x = "enumerate") && freeC c x && argC [y] && ckE c a y
    | _ => false)
  | .rev a, _, e => (match e with
    | .Call (.Name x _) [y] [] _ => decide (x = "reversed") && freeC c x && argC [y] && ckE c a y
    | _ => false)
end
end DL
set_option Elab.async false
set_option linter.all false
set_option maxRecDepth 100000
set_option maxHeartbeats 4000000
/-! The D layer, 13: the checker of expressions is right. -/
namespace DL
open PySem PySem.Spec PyProof.Rows L2

theorem mt_slot (m : Mt) : Slot (mtT m) (mtN m) (mtId m) := by
  cases m
  · exact PySem.F.slot_list_append
  · exact PySem.F.slot_list_extend
  · exact PySem.F.slot_list_pop
  · exact PySem.F.slot_dict_get
  · exact PySem.F.slot_str_join
  · exact PySem.F.slot_str_split
  · exact PySem.F.slot_str_startswith
  · exact PySem.F.slot_list_index
  · exact PySem.F.slot_list_insert
  · exact PySem.F.slot_list_reverse
  · exact PySem.F.slot_str_partition
theorem mt_type (m : Mt) : typeOf (.builtin (mtId m)) = pure (.type "method_descriptor") := by
  cases m
  · exact PySem.F.type_list_append
  · exact PySem.F.type_list_extend
  · exact PySem.F.type_list_pop
  · exact PySem.F.type_dict_get
  · exact PySem.F.type_str_join
  · exact PySem.F.type_str_split
  · exact PySem.F.type_str_startswith
  · exact PySem.F.type_list_index
  · exact PySem.F.type_list_insert
  · exact PySem.F.type_list_reverse
  · exact PySem.F.type_str_partition
theorem mt_plain (m : Mt) : PlainAttrs (mtT m) := by
  cases m <;> first | exact PySem.F.plainAttrs_list | exact PySem.F.plainAttrs_dict | exact PySem.F.plainAttrs_str
theorem bi_boot (b : Bi) : bootBuiltins (biN b) = some (biV b) ∧ ∃ T, bootBuiltins (biN b) = some (.builtin T) ∨ bootBuiltins (biN b) = some (.type T) := by
  have key : bootBuiltins (biN b) = some (biV b) := by cases b <;> decide +kernel
  refine ⟨key, ?_⟩
  rw [key]
  cases b <;> first | exact ⟨_, .inl rfl⟩ | exact ⟨_, .inr rfl⟩
theorem ty_boot (t : Ty) (h : t ≠ .non) : bootBuiltins (tyS t) = some (.type (tyN t)) := by
  cases t <;> first | decide +kernel | exact absurd rfl h

section
variable {X : Cx} {G : Gr} {W : WX} {Φ : Fns} {k : Nat} {c : Ctx}
theorem gl_of (y : Hy X G W Φ k c) {x : Str} (h : glC c x = true) : Gl X x ∧ (x == ("__debug__" : Str)) = false := by
  unfold glC at h
  simp only [Bool.and_eq_true, decide_eq_true_eq, Bool.not_eq_true'] at h
  exact ⟨by show X.env.scope.names.lookup x = _; rw [y.sc]; exact h.1, h.2⟩
theorem free_of (y : Hy X G W Φ k c) {x : Str} (h : freeC c x = true) : Gl X x ∧ (x == ("__debug__" : Str)) = false ∧ X.mg x = none ∧ x ≠ "__name__" := by
  unfold freeC at h
  simp only [Bool.and_eq_true, Bool.not_eq_true'] at h
  obtain ⟨⟨h1, h2⟩, h3⟩ := h
  obtain ⟨a, b⟩ := gl_of y h1
  refine ⟨a, b, y.cF x (List.contains_iff_mem.mp h2), fun e => ?_⟩
  rw [e] at h3; exact absurd h3 (by decide)
theorem vis_of (y : Hy X G W Φ k c) {x : Str} (h : visC c x = true) : Vis X.env.scope x := by
  unfold visC at h
  unfold Vis
  rw [y.sc]
  split at h <;> first | exact .inl ‹_› | exact .inr (.inl ‹_›) | exact .inr (.inr ‹_›) | cases h
theorem nm_of (y : Hy X G W Φ k c) {i : Nat} {e : Expr} (h : nmC c i e = true) : ∃ x p, e = .Name x p ∧ X.N[i]? = some x ∧ Loc X.env.scope x ∧ (X.fn x = true ∨ X.env.scope.names.lookup x = some .local) := by
  unfold nmC at h
  split at h
  · rename_i x p
    simp only [Bool.and_eq_true, decide_eq_true_eq] at h
    obtain ⟨h1, h2⟩ := h
    refine ⟨x, p, rfl, by rw [y.N]; exact h1, ?_⟩
    rw [y.sc]
    split at h2
    · exact ⟨.inl ‹_›, .inr ‹_›⟩
    · exact ⟨.inr ‹_›, .inl (y.fnT h2 x)⟩
    · cases h2
  · cases h
theorem nms_of (y : Hy X G W Φ k c) : ∀ {is : List Nat} {es : List Expr}, nmsC c is es = true → PGs X es (gNms is) ∧ es.all nostar = true ∧ es.length = is.length
  | [], [], _ => ⟨pgs_nil, rfl, rfl⟩
  | [], _ :: _, h => by cases h
  | _ :: _, [], h => by cases h
  | i :: is, e :: es, h => by
    have h : (nmC c i e && nmsC c is es) = true := h
    rw [Bool.and_eq_true] at h
    obtain ⟨x, p, rfl, h1, h2, h3⟩ := nm_of y h.1
    obtain ⟨q1, q2, q3⟩ := nms_of y h.2
    exact ⟨pgs_cons (pg_name y.ok.nd h1 h2 h3) q1 rfl, by rw [List.all_cons, q2]; rfl, congrArg Nat.succ q3⟩
theorem tg_of (y : Hy X G W Φ k c) {t : Tg} {e : Expr} (h : tgC c t e = true) : PG X e (tgG X.K t) := by
  unfold tgC at h
  split at h
  · obtain ⟨x, p, rfl, h1, h2, h3⟩ := nm_of y h
    exact pg_name y.ok.nd h1 h2 h3
  · obtain ⟨q1, q2, q3⟩ := nms_of y h
    exact pg_tup y.hc q1 (by rw [assignEach_len]; exact q3) (assignEach_nostar q2)
  · cases h
theorem ty_of (y : Hy X G W Φ k c) {t : Ty} {e : Expr} (h : tyC c t e = true) : t ≠ .non ∧ PE X e (tC (.ty (tyN t))) ∧ nostar e = true := by
  unfold tyC at h
  split at h
  · simp only [Bool.and_eq_true, decide_eq_true_eq] at h
    obtain ⟨⟨h1, rfl⟩, h3⟩ := h
    obtain ⟨a, b, d, e⟩ := free_of y h3
    exact ⟨h1, pe_bltn a d (ty_boot t h1) rfl e b, rfl⟩
  · cases h
def tCs : List Ty → TA
  | [] => tNil
  | t :: ts => tCons (tC (.ty (tyN t))) (tCs ts)
theorem tCs_eq {σ : L2.St} {H : Hp} {Q : List V → Hp → Prop} : ∀ ts : List Ty, Q (ts.map fun t => V.ty (tyN t)) H → tCs ts σ H Q
  | [], h => h
  | t :: ts, h => tCs_eq (Q := fun xs H2 => Q (.ty (tyN t) :: xs) H2) ts h
theorem tys_of (y : Hy X G W Φ k c) : ∀ {ts : List Ty} {es : List Expr}, tysC c ts es = true → (∀ t, t ∈ ts → t ≠ .non) ∧ PA X es (tCs ts) ∧ es.all nostar = true ∧ es.length = ts.length
  | [], [], _ => ⟨fun _ z => (nomatch z), pa_nil, rfl, rfl⟩
  | [], _ :: _, h => by cases h
  | _ :: _, [], h => by cases h
  | t :: ts, e :: es, h => by
    have h : (tyC c t e && tysC c ts es) = true := h
    rw [Bool.and_eq_true] at h
    obtain ⟨a1, a2, a3⟩ := ty_of y h.1
    obtain ⟨b1, b2, b3, b4⟩ := tys_of y h.2
    refine ⟨fun u hu => ?_, pa_cons a2 b2 (starEach_cons a3), by rw [List.all_cons, a3, b3]; rfl, congrArg Nat.succ b4⟩
    rcases List.mem_cons.mp hu with rfl | hu
    · exact a1
    · exact b1 u hu
theorem clsV_all : ∀ ts : List Ty, Paired ClsV (ts.map fun t => V.ty (tyN t)) (ts.map fun t => Value.type (tyN t))
  | [] => .nil
  | t :: ts => .cons (.ty _) (clsV_all ts)
/-- isinstance, one class -/
theorem se_isi1 (y : Hy X G W Φ k c) {a z : Expr} {t : Ty} {p pos : Pos} {wa : WE} (hx : freeC c "isinstance" = true) (ha : PE X a (lE G W wa)) (hs : nostar a = true) (hz : tyC c t z = true) :
    PE X (.Call (.Name "isinstance" p) [a, z] [] pos) (lE G W fun E σ h Q => wa E σ h fun x h1 => isTys x h1 [t] fun k => Q (.bl k) h1) := by
  obtain ⟨g1, g2, g3, g4⟩ := free_of y hx
  obtain ⟨z1, z2, z3⟩ := ty_of y hz
  refine PE.imp (pe_callB call_isi g1 g3 boot_isinstance (pa_cons ha (pa_cons z2 pa_nil (starEach_cons z3)) (starEach_cons hs)) g4 g2 (starEach_cons hs) (plain_any (by simp [z3]))) fun σ H Q ⟨σd, h, R, E, at_, w, po⟩ => ⟨σd, h, _, E, at_, w, fun dx h1 x H1 w1 rx rh1 f1 => ?_⟩
  obtain ⟨kk, ty, q⟩ := kind_rep rh1 rx w1
  refine ⟨x, .ty (tyN t), _, _, subTy kk t, rfl, .ty _, by rw [y.ok.k]; exact ty, by rw [y.ok.k]; exact kit_ty (kitB_of kk t z1), ?_⟩
  have q : R (.bl ([t].any (subTy kk))) h1 := q
  rw [show [t].any (subTy kk) = subTy kk t by simp] at q
  exact (po.fm f1).here rh1 q repV_bl
theorem se_isiT (y : Hy X G W Φ k c) {a : Expr} {zs : List Expr} {ts : List Ty} {p pos tp : Pos} {n : Nat} {wa : WE} (hx : freeC c "isinstance" = true) (ha : PE X a (lE G W wa)) (hs : nostar a = true) (hz : tysC c ts zs = true) (hl : zs.length ≤ 10) :
    PE X (.Call (.Name "isinstance" p) [a, .Tuple zs n tp] [] pos) (lE G W fun E σ h Q => wa E σ h fun x h1 => isTys x h1 ts fun k => Q (.bl k) h1) := by
  obtain ⟨g1, g2, g3, g4⟩ := free_of y hx
  obtain ⟨z1, z2, z3, z4⟩ := tys_of y hz
  refine PE.imp (pe_callB call_isiT g1 g3 boot_isinstance (pa_cons ha (pa_cons (pe_tup z2) pa_nil rfl) (starEach_cons hs)) g4 g2 (starEach_cons hs) rfl) fun σ H Q ⟨σd, h, R, E, at_, w, po⟩ => ⟨σd, h, _, E, at_, w, fun dx h1 x H1 w1 rx rh1 f1 => ?_⟩
  refine tCs_eq ts ⟨?_, fun l nl => ?_⟩
  · rw [List.length_map, ← z4, sizeLine_eq]; omega
  · have f2 : Fm h1 H1 h1 (L2.upd H1 l (.tup (ts.map fun t => V.ty (tyN t)))) := Fm.aside nl
    have rh2 := rh1.aside (o := .tup (ts.map fun t => V.ty (tyN t))) nl
    obtain ⟨kk, ty, q⟩ := kind_rep rh2 (rx.fm rh1 f2) w1
    exact ⟨x, l, _, _, _, ts.any (subTy kk), rfl, upd_same, clsV_all ts, by rw [y.ok.k]; exact ty, kitAny_of kk ts z1, (po.fm (f1.trans f2)).here rh2 q repV_bl⟩
end

theorem arg_of {es : List Expr} (h : argC es = true) : es.all nostar = true ∧ es.length < 30 := by
  unfold argC at h
  simpa only [Bool.and_eq_true, decide_eq_true_eq] using h
theorem all_tail {e : Expr} {es : List Expr} (h : (e :: es).all nostar = true) : nostar e = true ∧ es.all nostar = true := by
  simpa only [List.all_cons, Bool.and_eq_true] using h
theorem mem_any {α : Type} {p : α → Bool} {l : List α} (h : l.any p = true) : ∃ x ∈ l, p x = true := List.any_eq_true.mp h

mutual
theorem ckE_ok {G : Gr} {Φ : Fns} {k : Nat} : ∀ (ex : Ex) (X : Cx) (W : WX) (c : Ctx) (e : Expr), Hy X G W Φ k c → ckE c ex e = true → PE X e (lE G W fun E => wpE Φ E ex)
  | .var i, X, W, c, e, y, h => by
    unfold ckE at h
    split at h
    · simp only [Bool.and_eq_true, decide_eq_true_eq, Bool.not_eq_true'] at h
      obtain ⟨⟨⟨h1, h2⟩, h3⟩, h4⟩ := h
      exact se_var (by rw [y.N]; exact h1) (vis_of y h2) h3 h4
    · cases h
  | .cst d, X, W, c, e, y, h => by
    unfold ckE at h
    split at h
    · rw [of_decide_eq_true h]; exact se_cst pe_int fun _ => repV_int
    · rw [of_decide_eq_true h]; exact se_cst pe_bl fun _ => repV_bl
    · exact se_cst pe_non fun _ => repV_non
    · rw [of_decide_eq_true h]; exact se_cst pe_str fun _ => repV_str
    · simp only [Bool.and_eq_true, decide_eq_true_eq] at h
      obtain ⟨g1, g2⟩ := gl_of y h.1
      obtain ⟨u, hu, r⟩ := y.cI _ h.2
      exact se_cst (pe_glob g1 hu r g2) fun _ => repV_int
    · simp only [Bool.and_eq_true, decide_eq_true_eq] at h
      obtain ⟨g1, g2⟩ := gl_of y h.1
      obtain ⟨u, hu, r⟩ := y.cS _ h.2
      exact se_cst (pe_glob g1 hu r g2) fun _ => repV_str
    · cases h
  | .bin op a b, X, W, c, e, y, h => by
    unfold ckE at h
    split at h
    · simp only [Bool.and_eq_true, decide_eq_true_eq] at h
      obtain ⟨⟨rfl, h1⟩, h2⟩ := h
      exact se_op (op_binD y.ok.k op) (ckE_ok a X W c _ y h1) (ckE_ok b X W c _ y h2)
    · cases h
  | .neg a, X, W, c, e, y, h => by
    unfold ckE at h
    split at h
    · exact se_neg (ckE_ok a X W c _ y h)
    · cases h
  | .not a, X, W, c, e, y, h => by
    unfold ckE at h
    split at h
    · exact se_not y.ok.k (ckE_ok a X W c _ y h)
    · cases h
  | .and a b, X, W, c, e, y, h => by
    unfold ckE at h
    split at h
    · rename_i x1 x2 r p
      rw [Bool.and_eq_true] at h
      refine se_and y.ok.k (ckE_ok a X W c _ y h.1) ?_
      cases r with
      | nil => exact pe_one (ckE_ok b X W c _ y h.2)
      | cons z r => exact ckE_ok b X W c _ y h.2
    · cases h
  | .or a b, X, W, c, e, y, h => by
    unfold ckE at h
    split at h
    · rename_i x1 x2 r p
      rw [Bool.and_eq_true] at h
      refine se_or y.ok.k (ckE_ok a X W c _ y h.1) ?_
      cases r with
      | nil => exact pe_one (ckE_ok b X W c _ y h.2)
      | cons z r => exact ckE_ok b X W c _ y h.2
    · cases h
  | .ite t a b, X, W, c, e, y, h => by
    unfold ckE at h
    split at h
    · simp only [Bool.and_eq_true] at h
      exact se_ite (ckT_ok t X W c _ y h.1.1).1 (ckE_ok a X W c _ y h.1.2) (ckE_ok b X W c _ y h.2)
    · cases h
  | .cmp op a b, X, W, c, e, y, h => by
    unfold ckE at h
    split at h
    · simp only [Bool.and_eq_true, decide_eq_true_eq] at h
      obtain ⟨⟨⟨rfl, h0⟩, h1⟩, h2⟩ := h
      exact se_cmp y.ok (ckE_ok a X W c _ y h1) (ckE_ok b X W c _ y h2) (behind_of h0)
    · cases h
  | .chn op op' a b d, X, W, c, e, y, h => by
    unfold ckE at h
    split at h
    · simp only [Bool.and_eq_true, decide_eq_true_eq] at h
      obtain ⟨⟨⟨⟨⟨rfl, rfl⟩, h0⟩, h1⟩, h2⟩, h3⟩ := h
      exact se_chn y.ok (ckE_ok a X W c _ y h1) (ckE_ok b X W c _ y h2) (ckE_ok d X W c _ y h3) (behind_of (op := op') h0)
    · cases h
  | .tup es, X, W, c, e, y, h => by
    unfold ckE at h
    split at h
    · rw [Bool.and_eq_true] at h
      exact se_tup (ckEs_ok es X W c _ y h.1 h.2)
    · cases h
  | .lst es, X, W, c, e, y, h => by
    unfold ckE at h
    split at h
    · rw [Bool.and_eq_true] at h
      exact se_lst (ckEs_ok es X W c _ y h.1 h.2)
    · cases h
  | .dsp ks es, X, W, c, e, y, h => by
    unfold ckE at h
    split at h
    · rename_i keys vs p
      simp only [Bool.and_eq_true, decide_eq_true_eq] at h
      obtain ⟨⟨h1, h2⟩, h3⟩ := h
      obtain ⟨a1, a2, a3, a4⟩ := ckD_ok es X W c p ks keys vs y h3
      by_cases h0 : keys = []
      · subst h0
        have : vs = [] := List.eq_nil_of_length_eq_zero a3.symm
        subst this
        have : ks = [] := List.eq_nil_of_length_eq_zero a4
        subst this
        cases es with
        | nil => exact se_dsp0
        | cons _ _ => cases h3
      · exact se_dsp a1 a2 a3 h0 (by rw [← a4]; exact h1) a4 h2
    · cases h
  | .ix a i, X, W, c, e, y, h => by
    unfold ckE at h
    split at h
    · simp only [Bool.and_eq_true] at h
      exact se_ix (ix_D y.ok) (ckE_ok a X W c _ y h.1.2) (ckE_ok i X W c _ y h.2) (plainIx h.1.1)
    · cases h
  | .sl a lo hi, X, W, c, e, y, h => by
    unfold ckE at h
    split at h
    · simp only [Bool.and_eq_true] at h
      exact se_sl y.ok.k (ckE_ok a X W c _ y h.1.1) (ckO_ok lo X W c _ y h.1.2) (ckO_ok hi X W c _ y h.2)
    · cases h
  | .call f es, X, W, c, e, y, h => by
    unfold ckE at h
    split at h
    · rename_i x qp z0 zs p0
      simp only [Bool.and_eq_true] at h
      obtain ⟨⟨h1, h2⟩, h3⟩ := h
      obtain ⟨a1, a2⟩ := arg_of h1
      unfold callC at h2
      rw [Bool.and_eq_true] at h2
      obtain ⟨p, hp, q⟩ := mem_any h2.2
      simp only [Bool.and_eq_true, decide_eq_true_eq] at q
      obtain ⟨⟨⟨⟨rfl, rfl⟩, q3⟩, q4⟩, q5⟩ := q
      obtain ⟨g1, g2⟩ := gl_of y h2.1
      have := se_call (W := W) (q := qp) (pos := p0) y.ok y.tk (y.pats p hp) y.room g1 q4 (fun ds l => by rw [idArr_ok (i := 0) (n := es.length) (ds := ds) q5 (by omega)]; rfl) (ckEs_ok es X W c _ y a1 h3) g2 (starEach_cons (all_tail a1).1) (plain_any (all_tail a1).2)
      rw [q3] at this
      exact this
    · cases h
  | .callk f es kes arr, X, W, c, e, y, h => by
    unfold ckE at h
    split at h
    · rename_i x qp z0 zs kws p0
      simp only [Bool.and_eq_true] at h
      obtain ⟨⟨⟨h1, h2⟩, h3⟩, h4⟩ := h
      obtain ⟨a1, a2⟩ := arg_of h1
      unfold callkC at h2
      rw [Bool.and_eq_true] at h2
      obtain ⟨p, hp, q⟩ := mem_any h2.2
      simp only [Bool.and_eq_true, decide_eq_true_eq] at q
      obtain ⟨⟨⟨⟨⟨rfl, rfl⟩, q3⟩, q4⟩, q5⟩, q6⟩ := q
      obtain ⟨g1, g2⟩ := gl_of y h2.1
      obtain ⟨k1, k2, k3⟩ := kws_ok (pos := p0) (env := X.env) q6
      have := se_callk (W := W) (q := qp) (pos := p0) y.ok y.tk (y.pats p hp) y.room g1 (ckEs_ok es X W c _ y a1 h3) (ckK_ok kes X W c _ y h4) k1 k2 g2 (starEach_cons (all_tail a1).1) (by rw [plain_any a1, k3]; rfl)
      rw [q3, q4, eqLR_ok q5] at this
      exact this
    · cases h
  | .bi b es, X, W, c, e, y, h => by
    unfold ckE at h
    split at h
    · simp only [Bool.and_eq_true, decide_eq_true_eq] at h
      obtain ⟨⟨⟨h1, rfl⟩, h2⟩, h3⟩ := h
      obtain ⟨a1, a2⟩ := arg_of h1
      obtain ⟨g1, g2, g3, g4⟩ := free_of y h2
      obtain ⟨b1, T, b2⟩ := bi_boot b
      exact se_bi (es' := []) b2 _ b1 (bi_D y.ok y.hc b) g1 g3 (ckEs_ok es X W c _ y a1 h3) g4 g2 (starEach_cons (all_tail a1).1) (plain_any (all_tail a1).2)
    · cases h
  | .isi a ts, X, W, c, e, y, h => by
    unfold ckE at h
    split at h
    · simp only [Bool.and_eq_true, decide_eq_true_eq] at h
      obtain ⟨⟨⟨⟨rfl, h1⟩, h2⟩, h3⟩, h4⟩ := h
      split at h4
      · exact se_isi1 y h1 (ckE_ok a X W c _ y h3) h2 h4
      · rw [Bool.and_eq_true, decide_eq_true_eq] at h4
        exact se_isiT y h1 (ckE_ok a X W c _ y h3) h2 h4.1 h4.2
      · cases h4
    · cases h
  | .met m o es, X, W, c, e, y, h => by
    unfold ckE at h
    split at h
    · rename_i x nm ap ys cp
      simp only [Bool.and_eq_true, decide_eq_true_eq] at h
      obtain ⟨⟨⟨⟨⟨rfl, h1⟩, h2⟩, h3⟩, h4⟩, h5⟩ := h
      obtain ⟨a1, a2⟩ := arg_of h3
      cases ys with
      | nil =>
        cases es with
        | nil => exact se_met0 y.ok (mt_plain m) (mt_slot m) (mt_type m) (ckE_ok o X W c _ y h4) (base_of h1 _) (by rw [h2]; exact beq_self_eq_true _)
        | cons _ _ => cases h5
      | cons z ys =>
        refine se_met y.ok (mt_plain m) (mt_slot m) (mt_type m) (ckE_ok o X W c _ y h4) (ckEs_ok es X W c _ y a1 h5) (base_of h1 _) ?_ (by rw [h2]; exact beq_self_eq_true _) (starEach_cons (all_tail a1).1) (plain_any (all_tail a1).2)
        rw [plain_all a1]
        show (true && true && decide ((z :: ys).length + 0 + 0 < 30)) = true
        rw [decide_eq_true (by omega)] <;> rfl
    · cases h
  | .lc el t it cd vs, X, W, c, e, y, h => by
    unfold ckE at h
    split at h
    · rename_i x tg i ifs scope p
      simp only [Bool.and_eq_true] at h
      obtain ⟨⟨⟨⟨⟨⟨h1, h2⟩, h3⟩, h4⟩, h5⟩, h6⟩, h7⟩ := h
      have hb : BlkOk X.N X.env.scope scope (ownOf c.N vs) := by rw [y.N, y.sc]; exact blkOk_by h1
      have := se_lc (cd := none) (pos := p) (W := W) y.ok.k y.hc y.ok.nd (ckI_ok it X W c tg i y h5) hb (t := t) (by rw [ownOf_snd]; exact h2) (fun s H C cl fp => tg_of (y.blk scope s H C cl fp) h4) (fun s H C cl fp => ckC_ok cd _ (c.blk scope) ifs (y.blk scope s H C cl fp) h7)
        (fun s H C cl fp => ckE_ok el _ W0 (c.blk scope) x (y.blk scope s H C cl fp) h6) (folded_of h3)
      rw [ownOf_snd] at this
      exact this
    · cases h
  | .lc2 el t it cd t1 it1 cd1 vs vs1, X, W, c, e, y, h => by
    unfold ckE at h
    split at h
    · rename_i x tg i ifs tg1 i1 ifs1 scope p
      simp only [Bool.and_eq_true] at h
      obtain ⟨⟨⟨⟨⟨⟨⟨⟨⟨⟨⟨⟨h1, h2⟩, h3⟩, h4⟩, h5⟩, h6⟩, h7⟩, h8⟩, h9⟩, h10⟩, h11⟩, h12⟩, h13⟩ := h
      have hb : BlkOk X.N X.env.scope scope (ownOf c.N vs) := by rw [y.N, y.sc]; exact blkOk_by h1
      have := se_lc2 (cd := none) (cd1 := none) (pos := p) (W := W) y.ok.k y.hc y.ok.nd (ckI_ok it X W c tg i y h9) hb (t := t) (t1 := t1) (vs1 := vs1) (by rw [ownOf_snd]; exact fun v hv => by simpa using List.all_eq_true.mp h4 v hv) (by rw [ownOf_snd]; exact h2) h3 (fun s H C cl fp => tg_of (y.blk scope s H C cl fp) h7) (fun s H C cl fp => ckC_ok cd _ (c.blk scope) ifs (y.blk scope s H C cl fp) h12)
        (fun s H C cl fp => ckI_ok it1 _ W0 (c.blk scope) tg1 i1 (y.blk scope s H C cl fp) h10) (fun s H C cl fp => tg_of (y.blk scope s H C cl fp) h8) (fun s H C cl fp => ckC_ok cd1 _ (c.blk scope) ifs1 (y.blk scope s H C cl fp) h13)
        (fun s H C cl fp => ckE_ok el _ W0 (c.blk scope) x (y.blk scope s H C cl fp) h11) (folded_of h5) (fun _ => folded_of h6)
      rw [ownOf_snd] at this
      exact this
    · cases h
theorem ckT_ok {G : Gr} {Φ : Fns} {k : Nat} : ∀ (t : Te) (X : Cx) (W : WX) (c : Ctx) (e : Expr), Hy X G W Φ k c → ckT c t e = true → PT X e (lT G W fun E => wpT Φ E t) ∧ ((∃ op l p, e = .BoolOp op l p) → PW X e (lT G W fun E => wpT Φ E t))
  | .val a, X, W, c, e, y, h => by
    unfold ckT at h
    rw [Bool.and_eq_true] at h
    refine ⟨st_val y.ok.k (ckE_ok a X W c _ y h.2) (isTrue_of h.1), ?_⟩
    rintro ⟨op, l, p, rfl⟩
    cases h.1
  | .not a, X, W, c, e, y, h => by
    unfold ckT at h
    split at h
    · exact ⟨st_not (ckT_ok a X W c _ y h).1, fun ⟨_, _, _, z⟩ => by cases z⟩
    · cases h
  | .and a b, X, W, c, e, y, h => by
    unfold ckT at h
    split at h
    · rename_i x1 x2 r p
      rw [Bool.and_eq_true] at h
      have key : PW X (.BoolOp .And (x1 :: x2 :: r) p) (lT G W fun E => wpT Φ E (.and a b)) := by
        refine sw_and (ckT_ok a X W c _ y h.1).1 ?_
        cases r with
        | nil => exact pw_and1 (ckT_ok b X W c _ y h.2).1
        | cons z r => exact (ckT_ok b X W c _ y h.2).2 ⟨_, _, _, rfl⟩
      exact ⟨key.pt, fun _ => key⟩
    · cases h
  | .or a b, X, W, c, e, y, h => by
    unfold ckT at h
    split at h
    · rename_i x1 x2 r p
      rw [Bool.and_eq_true] at h
      have key : PW X (.BoolOp .Or (x1 :: x2 :: r) p) (lT G W fun E => wpT Φ E (.or a b)) := by
        refine sw_or (ckT_ok a X W c _ y h.1).1 ?_
        cases r with
        | nil => exact pw_or1 (ckT_ok b X W c _ y h.2).1
        | cons z r => exact (ckT_ok b X W c _ y h.2).2 ⟨_, _, _, rfl⟩
      exact ⟨key.pt, fun _ => key⟩
    · cases h
  | .cmp op a b, X, W, c, e, y, h => by
    unfold ckT at h
    split at h
    · simp only [Bool.and_eq_true, decide_eq_true_eq] at h
      obtain ⟨⟨⟨rfl, h0⟩, h1⟩, h2⟩ := h
      exact ⟨st_cmp y.ok (ckE_ok a X W c _ y h1) (ckE_ok b X W c _ y h2) (behind_of h0), fun ⟨_, _, _, z⟩ => by cases z⟩
    · cases h
  | .chn op op' a b d, X, W, c, e, y, h => by
    unfold ckT at h
    split at h
    · simp only [Bool.and_eq_true, decide_eq_true_eq] at h
      obtain ⟨⟨⟨⟨⟨rfl, rfl⟩, h0⟩, h1⟩, h2⟩, h3⟩ := h
      exact ⟨st_chn y.ok (ckE_ok a X W c _ y h1) (ckE_ok b X W c _ y h2) (ckE_ok d X W c _ y h3) (behind_of (op := op') h0), fun ⟨_, _, _, z⟩ => by cases z⟩
    · cases h
theorem ckEs_ok {G : Gr} {Φ : Fns} {k : Nat} : ∀ (es : List Ex) (X : Cx) (W : WX) (c : Ctx) (xs : List Expr), Hy X G W Φ k c → xs.all nostar = true → ckEs c es xs = true → PA X xs (lA G W fun E => wpEs Φ E es)
  | [], X, W, c, xs, y, hs, h => by
    cases xs with
    | nil => exact sa_nil
    | cons _ _ => cases h
  | a :: as, X, W, c, xs, y, hs, h => by
    cases xs with
    | nil => cases h
    | cons x xs =>
      have h : (ckE c a x && ckEs c as xs) = true := h
      rw [Bool.and_eq_true] at h
      exact sa_cons (ckE_ok a X W c x y h.1) (ckEs_ok as X W c xs y (all_tail hs).2 h.2) (starEach_cons (all_tail hs).1)
theorem ckK_ok {G : Gr} {Φ : Fns} {k : Nat} : ∀ (es : List Ex) (X : Cx) (W : WX) (c : Ctx) (xs : List Keyword), Hy X G W Φ k c → ckK c es xs = true → PK X xs (lA G W fun E => wpEs Φ E es)
  | [], X, W, c, xs, y, h => by
    cases xs with
    | nil => exact sk_nil
    | cons _ _ => cases h
  | a :: as, X, W, c, xs, y, h => by
    cases xs with
    | nil => cases h
    | cons x xs =>
      obtain ⟨nm, x, p⟩ := x
      have h : (ckE c a x && ckK c as xs) = true := h
      rw [Bool.and_eq_true] at h
      exact sk_cons (ckE_ok a X W c x y h.1) (ckK_ok as X W c xs y h.2)
theorem ckD_ok {G : Gr} {Φ : Fns} {k : Nat} : ∀ (es : List Ex) (X : Cx) (W : WX) (c : Ctx) (p : Pos) (ks : List Str) (keys : List (Option Expr)) (xs : List Expr), Hy X G W Φ k c → ckD c ks es keys xs = true → SPP X G W p ks keys xs (fun E => wpEs Φ E es) ∧ keys.all (·.isSome) = true ∧ keys.length = xs.length ∧ ks.length = keys.length
  | [], X, W, c, p, ks, keys, xs, y, h => by
    unfold ckD at h
    split at h
    · exact ⟨sp_nil, rfl, rfl, rfl⟩
    · rename_i e; cases e
    · cases h
  | a :: as, X, W, c, p, ks, keys, xs, y, h => by
    unfold ckD at h
    split at h
    · rename_i e; cases e
    · rename_i e1
      cases e1
      simp only [Bool.and_eq_true, decide_eq_true_eq] at h
      obtain ⟨⟨rfl, h1⟩, h2⟩ := h
      obtain ⟨a1, a2, a3, a4⟩ := ckD_ok as X W c p _ _ _ y h2
      exact ⟨sp_cons (ckE_ok a X W c _ y h1) a1, by rw [List.all_cons, a2] <;> rfl, congrArg Nat.succ a3, congrArg Nat.succ a4⟩
    · cases h
theorem ckO_ok {G : Gr} {Φ : Fns} {k : Nat} : ∀ (o : Option Ex) (X : Cx) (W : WX) (c : Ctx) (x : Option Expr), Hy X G W Φ k c → ckO c o x = true → PO X x (lO G W fun E => wpO Φ E o)
  | none, X, W, c, x, y, h => by
    cases x with
    | none => exact so_none
    | some _ => cases h
  | some a, X, W, c, x, y, h => by
    cases x with
    | none => cases h
    | some x => exact so_some (ckE_ok a X W c x y h)
theorem ckC_ok {G : Gr} {Φ : Fns} {k : Nat} : ∀ (o : Option Te) (X : Cx) (c : Ctx) (xs : List Expr), Hy X G W0 Φ k c → ckC c o xs = true → PTs X xs (lT G W0 fun E σ h Q => wpC Φ o σ h Q)
  | none, X, c, xs, y, h => by
    cases xs with
    | nil => exact sts_none
    | cons _ _ => cases h
  | some a, X, c, xs, y, h => by
    match xs, h with
    | [x], h =>
      have p := (ckT_ok a X W0 c x y h).1
      refine sts_one (PT.imp p fun σ H Q ⟨σd, h, R, E, at_, w, po⟩ => ⟨σd, h, R, E0, at0 at_.s at_.r, w, po⟩)
theorem ckI_ok {G : Gr} {Φ : Fns} {k : Nat} : ∀ (it : It') (X : Cx) (W : WX) (c : Ctx) (tg e : Expr), Hy X G W Φ k c → ckI c it tg e = true → PI X tg e (lI G W fun E => wpI Φ E it)
  | .of a, X, W, c, tg, e, y, h => si_of y.ok.k (ckE_ok a X W c e y h)
  | .rng es, X, W, c, tg, e, y, h => by
    unfold ckI at h
    split at h
    · simp only [Bool.and_eq_true, decide_eq_true_eq] at h
      obtain ⟨⟨⟨rfl, h1⟩, h2⟩, h3⟩ := h
      obtain ⟨a1, a2⟩ := arg_of h2
      obtain ⟨g1, g2, g3, g4⟩ := free_of y h1
      exact si_rng g1 g3 (ckEs_ok es X W c _ y a1 h3) (starEach_cons (all_tail a1).1) (plain_any (all_tail a1).2)
    · cases h
  | .zip a b, X, W, c, tg, e, y, h => by
    unfold ckI at h
    split at h
    · simp only [Bool.and_eq_true, decide_eq_true_eq] at h
      obtain ⟨⟨⟨⟨⟨h0, rfl⟩, h1⟩, h2⟩, h3⟩, h4⟩ := h
      obtain ⟨a1, a2⟩ := arg_of h2
      obtain ⟨g1, g2, g3, g4⟩ := free_of y h1
      cases tg with
      | Tuple elts kk tp => exact si_zip y.ok.k g1 g3 (ckE_ok a X W c _ y h3) (ckE_ok b X W c _ y h4) (starEach_cons (all_tail a1).1) (starEach_cons (all_tail (all_tail a1).2).1) (plain_any (all_tail a1).2)
      | _ => cases h0
    · cases h
  | .enm a, X, W, c, tg, e, y, h => by
    unfold ckI at h
    split at h
    · simp only [Bool.and_eq_true, decide_eq_true_eq] at h
      obtain ⟨⟨⟨⟨h0, rfl⟩, h1⟩, h2⟩, h3⟩ := h
      obtain ⟨a1, a2⟩ := arg_of h2
      obtain ⟨g1, g2, g3, g4⟩ := free_of y h1
      cases tg with
      | Tuple elts kk tp => exact si_enm y.ok.k g1 g3 (ckE_ok a X W c _ y h3) (starEach_cons (all_tail a1).1) (starEach_cons (all_tail a1).1)
      | _ => cases h0
    · cases h
  | .rev a, X, W, c, tg, e, y, h => by
    unfold ckI at h
    split at h
    · simp only [Bool.and_eq_true, decide_eq_true_eq] at h
      obtain ⟨⟨⟨rfl, h1⟩, h2⟩, h3⟩ := h
      obtain ⟨a1, a2⟩ := arg_of h2
      obtain ⟨g1, g2, g3, g4⟩ := free_of y h1
      exact si_rev y.ok.k g1 g3 (ckE_ok a X W c _ y h3) (starEach_cons (all_tail a1).1)
    · cases h
end
end DL
set_option Elab.async false
set_option linter.all false
set_option maxRecDepth 100000
set_option maxHeartbeats 4000000
/-! The D layer, 14: the checker of statements and defs; the levels. -/
namespace DL
open PySem PySem.Spec PyProof.Rows L2

mutual
def ckLv (c : Ctx) : Lv → Expr → Bool
  | .nm i, e => nmC c i e
  | .sub o i, e => (match e with
    | .Subscript a b _ => noslice b && ckE c o a && ckE c i b
    | _ => false)
  | .tup ls, e => (match e with
    | .Tuple es _ _ => es.all nostar && ckLvs c ls es
    | _ => false)
  | _, _ => false
def ckLvs (c : Ctx) : List Lv → List Expr → Bool
  | [], [] => true
  | l :: ls, e :: es => ckLv c l e && ckLvs c ls es
  | _, _ => false
end
def locC (c : Ctx) (i : Nat) (x : Str) : Bool := decide (c.N[i]? = some x) && decide (c.sc.names.lookup x = some .local)
def kindC (c : Ctx) : Bool := match c.sc.kind with
  | .function => true
  | _ => false
/-- two, three names from a display -/
def par2 (c : Ctx) : Lv → Ex → Expr → Expr → Bool
  | .tup [.nm i, .nm j], .tup [a, b], .Tuple [.Name x px, .Name y py] _ _, .Tuple [u, v] _ _ =>
    kindC c && locC c i x && locC c j y && decide (i ≠ j) && decide (x ≠ y) && decide (py.line = px.line) && parC [u, v] && ckE c a u && ckE c b v
  | _, _, _, _ => false
def par3 (c : Ctx) : Lv → Ex → Expr → Expr → Bool
  | .tup [.nm i, .nm j, .nm l], .tup [a, b, d], .Tuple [.Name x px, .Name y py, .Name z pz] _ _, .Tuple [u, v, w] _ _ =>
    kindC c && locC c i x && locC c j y && locC c l z && decide (i ≠ j) && decide (i ≠ l) && decide (j ≠ l) && decide (x ≠ y) && decide (x ≠ z) && decide (y ≠ z) && decide (py.line = px.line) && decide (pz.line = px.line) && parC [u, v, w] && ckE c a u && ckE c b v && ckE c d w
  | _, _, _, _ => false
/-- a display on both sides, stored as it comes -/
def parN (c : Ctx) : Expr → Expr → Bool
  | .Tuple ts _ _, .Tuple vs _ _ => ts.any (notLoc c.sc) || vs.all (foldedForSure 8)
  | _, _ => false
/-- name = comprehension, the block taking the name in -/
def setC (c : Ctx) : Lv → Ex → Expr → Expr → Bool
  | .nm i, .lc el t it cd vs, .Name x px, .ListComp e gs scope pos => kindC c && locC c i x && decide (px.line = pos.line) && !(scope.names.any fun (n, k) => n == x && (k == .local || k == .cell)) && ckE c (.lc el t it cd vs) (.ListComp e gs scope pos)
  | .nm i, .lc2 el t it cd t1 it1 cd1 vs vs1, .Name x px, .ListComp e gs scope pos => kindC c && locC c i x && decide (px.line = pos.line) && !(scope.names.any fun (n, k) => n == x && (k == .local || k == .cell)) && ckE c (.lc2 el t it cd t1 it1 cd1 vs vs1) (.ListComp e gs scope pos)
  | _, _, _, _ => false
mutual
def ckS (c : Ctx) : Sm → Stmt → Bool
  | .asg l e, s => (match s with
    | .Assign [t] v pos => par2 c l e t v || par3 c l e t v || setC c l e t v || ((nocomp v || noname t) && (notup t || notup v || parN c t v) && nostar t && ckLv c l t && ckE c e v)
    | _ => false)
  | .aug i op e, s => (match s with
    | .AugAssign t o v _ => decide (op = o) && nmC c i t && ckE c e v
    | _ => false)
  | .ex e, s => (match s with
    | .Expr v _ => nocomp v && ckE c e v
    | _ => false)
  | .ret e, s => (match s with
    | .Return (some v) _ => ckE c e v
    | _ => false)
  | .retN, s => (match s with
    | .Return none _ => true
    | _ => false)
  | .ifs t a b, s => (match s with
    | .If z x y _ => ckT c t z && ckB c a x && ckB c b y
    | _ => false)
  | .for t it b, s => (match s with
    | .For tg i x [] _ => tgC c t tg && noset i && ckI c it tg i && ckB c b x
    | _ => false)
  | .whl t b, s => (match s with
    | .While z x [] _ => ckT c t z && ckB c b x
    | _ => false)
  | .brk, s => (match s with
    | .Break _ => true
    | _ => false)
  | .cnt, s => (match s with
    | .Continue _ => true
    | _ => false)
  | .pas, s => (match s with
    | .Pass _ => true
    | .Expr (.Constant (.str _) _ _) _ => true
    | _ => false)
  | .rai _ _, _ => false
def ckB (c : Ctx) : List Sm → List Stmt → Bool
  | [], [] => true
  | s :: r, t :: ts => ckS c s t && ckB c r ts
  | _, _ => false
end

theorem imp_lS {G : Gr} {W : WX} {ws wu : WS} (h : ∀ Dn σ h, wu Dn σ h → ws Dn σ h) : ∀ Q σ H, lS G W wu Q σ H → lS G W ws Q σ H := fun Q σ H ⟨σd, h', Dn, at_, w, p⟩ => ⟨σd, h', Dn, at_, h _ _ _ w, p⟩
section
variable {X : Cx} {G : Gr} {W : WX} {Φ : Fns} {k : Nat} {c : Ctx}
theorem loc_of (y : Hy X G W Φ k c) {i : Nat} {x : Str} (h : locC c i x = true) : X.N[i]? = some x ∧ X.env.scope.names.lookup x = some .local := by
  unfold locC at h
  simp only [Bool.and_eq_true, decide_eq_true_eq] at h
  rw [y.N, y.sc]; exact h
theorem kind_of (y : Hy X G W Φ k c) (h : kindC c = true) : X.env.scope.kind = .function := by
  unfold kindC at h
  rw [y.sc]
  split at h
  · assumption
  · cases h
mutual
theorem ckLv_ok : ∀ (l : Lv) (e : Expr), Hy X G W Φ k c → ckLv c l e = true → PG X e (lG G W fun F => wpLv Φ F l)
  | .nm i, e, y, h => by
    unfold ckLv at h
    obtain ⟨x, p, rfl, h1, h2, h3⟩ := nm_of y h
    exact sg_nm y.ok.nd h1 h2 h3
  | .sub o i, e, y, h => by
    unfold ckLv at h
    split at h
    · simp only [Bool.and_eq_true] at h
      exact sg_sub y.ok (ckE_ok o X W c _ y h.1.2) (ckE_ok i X W c _ y h.2) (assign_sub h.1.1)
    · cases h
  | .tup ls, e, y, h => by
    unfold ckLv at h
    split at h
    · rw [Bool.and_eq_true] at h
      obtain ⟨h1, h2⟩ := h
      obtain ⟨q, l⟩ := ckLvs_ok ls _ y h1 h2
      exact sg_tup (n := ls.length) y.ok.k y.hc q (by rw [assignEach_len]; exact l) (assignEach_nostar h1)
    · cases h
  | .fld o f, e, y, h => by unfold ckLv at h; cases h
  | .star is r, e, y, h => by unfold ckLv at h; cases h
theorem ckLvs_ok : ∀ (ls : List Lv) (es : List Expr), Hy X G W Φ k c → es.all nostar = true → ckLvs c ls es = true → PGs X es (lGs G W fun F => wpLvs Φ F ls) ∧ es.length = ls.length
  | [], es, y, hs, h => by
    cases es with
    | nil => exact ⟨PGs.imp sgs_nil fun v σ H Q ⟨ds, σd, h, P, F, at_, rv, w, p⟩ => ⟨ds, σd, h, P, F, at_, rv, by
        cases ds with
        | nil => exact w
        | cons d ds => exact w.elim, p⟩, rfl⟩
    | cons _ _ => cases h
  | l :: ls, es, y, hs, h => by
    cases es with
    | nil => cases h
    | cons e es =>
      have h : (ckLv c l e && ckLvs c ls es) = true := h
      rw [Bool.and_eq_true] at h
      obtain ⟨q, n⟩ := ckLvs_ok ls es y (all_tail hs).2 h.2
      refine ⟨PGs.imp (sgs_cons (ckLv_ok l e y h.1) q (assignEach_one (all_tail hs).1)) fun v σ H Q ⟨ds, σd, h, P, F, at_, rv, w, p⟩ => ⟨ds, σd, h, P, F, at_, rv, by
        cases ds with
        | nil => exact w
        | cons d ds => exact w, p⟩, congrArg Nat.succ n⟩
end

/-- two names: whatever follows -/
theorem ss_par' {a b : Expr} {wl : WL} {pos : Pos} {i j : Nat} {x y : Str} {px py pt : Pos} {kt k2 pt2} {K : En → List D → DS → MH → Prop} (hK : ∀ Dn ds σ h, K Dn ds σ h → ∃ d1 d2, ds = [d1, d2] ∧ Dn.nx ((σ.set i (some d1)).set j (some d2)) h) (hc : X.calm = true) (hN : X.N.Nodup) (hi : X.N[i]? = some x) (hj : X.N[j]? = some y) (hij : i ≠ j)
    (hx : X.env.scope.names.lookup x = some .local) (hy : X.env.scope.names.lookup y = some .local) (ha : PA X [a, b] (lA G W wl))
    (hw : swappedStores [.Tuple [.Name x px, .Name y py] kt pt] (.Tuple [a, b] k2 pt2) X.env = pure (some [x, y])) :
    PS X (.Assign [.Tuple [.Name x px, .Name y py] kt pt] (.Tuple [a, b] k2 pt2) pos) (lS G W fun Dn σ h => wl (exAt Dn σ) σ h fun ds h1 => K Dn ds σ h1) :=
  PS.imp (ps_par hc hN hi hj hij hx hy ha hw rfl) fun Q σ H ⟨σd, h, Dn, at_, w, p⟩ =>
    ⟨σd, h, _, _, at_.at, w, fun ds h1 vs H1 w1 rv r1 f1 => by
      obtain ⟨d1, d2, rfl, q⟩ := hK _ _ _ _ w1
      obtain ⟨v, u, rfl, rv, ru⟩ := rv.two
      exact ⟨v, u, rfl, p.nx _ h1 _ H1 q (((at_.s.fm at_.r f1).set rv).set ru) r1 f1⟩⟩
theorem ss_par3' {a b d : Expr} {wl : WL} {pos : Pos} {i j l : Nat} {x y z : Str} {px py pz pt : Pos} {kt k2 pt2} {K : En → List D → DS → MH → Prop} (hK : ∀ Dn ds σ h, K Dn ds σ h → ∃ d1 d2 d3, ds = [d1, d2, d3] ∧ Dn.nx (((σ.set i (some d1)).set j (some d2)).set l (some d3)) h) (hc : X.calm = true) (hN : X.N.Nodup) (hi : X.N[i]? = some x) (hj : X.N[j]? = some y) (hl : X.N[l]? = some z) (hij : i ≠ j) (hil : i ≠ l) (hjl : j ≠ l)
    (hx : X.env.scope.names.lookup x = some .local) (hy : X.env.scope.names.lookup y = some .local) (hz : X.env.scope.names.lookup z = some .local) (ha : PA X [a, b, d] (lA G W wl))
    (hw : swappedStores [.Tuple [.Name x px, .Name y py, .Name z pz] kt pt] (.Tuple [a, b, d] k2 pt2) X.env = pure (some [x, y, z])) :
    PS X (.Assign [.Tuple [.Name x px, .Name y py, .Name z pz] kt pt] (.Tuple [a, b, d] k2 pt2) pos) (lS G W fun Dn σ h => wl (exAt Dn σ) σ h fun ds h1 => K Dn ds σ h1) :=
  PS.imp (ps_par3 hc hN hi hj hl hij hil hjl hx hy hz ha hw rfl) fun Q σ H ⟨σd, h, Dn, at_, w, p⟩ =>
    ⟨σd, h, _, _, at_.at, w, fun ds h1 vs H1 w1 rv r1 f1 => by
      obtain ⟨d1, d2, d3, rfl, q⟩ := hK _ _ _ _ w1
      obtain ⟨v, us, rfl, rv1, rv⟩ := rv.cons_inv
      obtain ⟨v2, v3, rfl, rv2, rv3⟩ := rv.two
      exact ⟨v, v2, v3, rfl, p.nx _ h1 _ H1 q ((((at_.s.fm at_.r f1).set rv1).set rv2).set rv3) r1 f1⟩⟩
theorem par2_ok (y : Hy X G W Φ k c) {l : Lv} {e : Ex} {t v : Expr} {pos : Pos} (h : par2 c l e t v = true) : PS X (.Assign [t] v pos) (lS G W (wpS Φ (.asg l e))) := by
  unfold par2 at h
  split at h
  · rename_i i j a b x px z py kt pt u v k2 pt2
    simp only [Bool.and_eq_true, decide_eq_true_eq] at h
    obtain ⟨⟨⟨⟨⟨⟨⟨⟨h0, h1⟩, h2⟩, h3⟩, h4⟩, h5⟩, h6⟩, h7⟩, h8⟩ := h
    obtain ⟨x1, x2⟩ := loc_of y h1
    obtain ⟨z1, z2⟩ := loc_of y h2
    have hs : [u, v].all nostar = true := by
      unfold parC at h6
      simp only [Bool.and_eq_true] at h6
      exact h6.1.1
    refine ss_par' (K := fun Dn ds σ h1 => Fits ds.length ∧ (ds.length = 2 ∧ wpLvs Φ (exAt Dn) [.nm i, .nm j] ds σ h1 Dn.nx)) (fun Dn ds σ h ⟨_, l, w⟩ => ?_) y.hc y.ok.nd x1 z1 h3 x2 z2 (ckEs_ok [a, b] X W c [u, v] y hs (by show (ckE c a u && (ckE c b v && true)) = true; rw [h7, h8] <;> rfl)) (stores_par (kind_of y h0) x2 z2 h5 h4 h6)
    match ds, l with
    | [d1, d2], _ => exact ⟨d1, d2, rfl, w⟩
  · cases h
theorem par3_ok (y : Hy X G W Φ k c) {l : Lv} {e : Ex} {t v : Expr} {pos : Pos} (h : par3 c l e t v = true) : PS X (.Assign [t] v pos) (lS G W (wpS Φ (.asg l e))) := by
  unfold par3 at h
  split at h
  · rename_i i j l a b d x px z py q pz kt pt u v w k2 pt2
    simp only [Bool.and_eq_true, decide_eq_true_eq] at h
    obtain ⟨⟨⟨⟨⟨⟨⟨⟨⟨⟨⟨⟨⟨⟨⟨h0, h1⟩, h2⟩, h3⟩, h4⟩, h5⟩, h6⟩, h7⟩, h8⟩, h9⟩, h10⟩, h11⟩, h12⟩, h13⟩, h14⟩, h15⟩ := h
    obtain ⟨x1, x2⟩ := loc_of y h1
    obtain ⟨z1, z2⟩ := loc_of y h2
    obtain ⟨q1, q2⟩ := loc_of y h3
    have hs : [u, v, w].all nostar = true := by
      unfold parC at h12
      simp only [Bool.and_eq_true] at h12
      exact h12.1.1
    refine ss_par3' (K := fun Dn ds σ h1 => Fits ds.length ∧ (ds.length = 3 ∧ wpLvs Φ (exAt Dn) [.nm i, .nm j, .nm l] ds σ h1 Dn.nx)) (fun Dn ds σ h ⟨_, l, w⟩ => ?_) y.hc y.ok.nd x1 z1 q1 h4 h5 h6 x2 z2 q2 (ckEs_ok [a, b, d] X W c [u, v, w] y hs (by show (ckE c a u && (ckE c b v && (ckE c d w && true))) = true; rw [h13, h14, h15] <;> rfl)) (stores_par3 (kind_of y h0) x2 z2 q2 h10 h11 h7 h8 h9 h12)
    match ds, l with
    | [d1, d2, d3], _ => exact ⟨d1, d2, d3, rfl, w⟩
  · cases h
theorem setC_ok (y : Hy X G W Φ k c) {l : Lv} {e : Ex} {t v : Expr} {pos : Pos} (h : setC c l e t v = true) : PS X (.Assign [t] v pos) (lS G W (wpS Φ (.asg l e))) := by
  unfold setC at h
  split at h
  · rename_i i0 el tt it cd vs x px e gs scope p
    simp only [Bool.and_eq_true, decide_eq_true_eq, Bool.not_eq_true'] at h
    obtain ⟨⟨⟨⟨h0, hl⟩, hp⟩, ha⟩, h⟩ := h
    obtain ⟨x1, x2⟩ := loc_of y hl
    have hsw := fun gs l => sw_true (elt := e) (gs := gs) (scope := scope) (pos := p) (py := px) (l := l) (kind_of y h0) x2 (by rw [hp]; exact beq_self_eq_true _) ha
    unfold ckE at h
    split at h
    · rename_i x' tg i ifs scope' p' e1
      cases e1
      simp only [Bool.and_eq_true] at h
      obtain ⟨⟨⟨⟨⟨⟨h1, h2⟩, h3⟩, h4⟩, h5⟩, h6⟩, h7⟩ := h
      have hb : BlkOk X.N X.env.scope scope (ownOf c.N vs) := by rw [y.N, y.sc]; exact blkOk_by h1
      have := ps_setLc (g := tgG X.K tt) (spos := pos) y.hc y.ok.nd x1 x2 (hsw _ _) (ckI_ok it X W c tg i y h5) hb (fun s H C cl fp => tg_of (y.blk scope s H C cl fp) h4) (fun s H C cl fp => ckC_ok cd _ (c.blk scope) ifs (y.blk scope s H C cl fp) h7)
        (fun s H C cl fp => ckE_ok el _ W0 (c.blk scope) _ (y.blk scope s H C cl fp) h6) (folded_of h3)
      rw [ownOf_snd] at this
      exact PS.imp this (asgC_read (wa := fun E => wpE Φ E (.lc el tt it cd vs)) (lc_read (wi := fun E => wpI Φ E it) (wt := fun E σ h Q => wpC Φ cd σ h Q) (we := fun E => wpE Φ E el) y.ok.k h2))
    · cases h
  · rename_i i0 el tt it cd t1 it1 cd1 vs vs1 x px e gs scope p
    simp only [Bool.and_eq_true, decide_eq_true_eq, Bool.not_eq_true'] at h
    obtain ⟨⟨⟨⟨h0, hl⟩, hp⟩, ha⟩, h⟩ := h
    obtain ⟨x1, x2⟩ := loc_of y hl
    have hsw := fun gs l => sw_true (elt := e) (gs := gs) (scope := scope) (pos := p) (py := px) (l := l) (kind_of y h0) x2 (by rw [hp]; exact beq_self_eq_true _) ha
    unfold ckE at h
    split at h
    · rename_i x' tg i ifs tg1 i1 ifs1 scope' p' e1
      cases e1
      simp only [Bool.and_eq_true] at h
      obtain ⟨⟨⟨⟨⟨⟨⟨⟨⟨⟨⟨⟨h1, h2⟩, h3⟩, h4⟩, h5⟩, h6⟩, h7⟩, h8⟩, h9⟩, h10⟩, h11⟩, h12⟩, h13⟩ := h
      have hb : BlkOk X.N X.env.scope scope (ownOf c.N vs) := by rw [y.N, y.sc]; exact blkOk_by h1
      have := ps_setLc2 (g := tgG X.K tt) (g1 := tgG X.K t1) (spos := pos) (vs1 := vs1) y.hc y.ok.nd x1 x2 (hsw _ _) (ckI_ok it X W c tg i y h9) hb (by rw [ownOf_snd]; exact fun v hv => by simpa using List.all_eq_true.mp h4 v hv) (fun s H C cl fp => tg_of (y.blk scope s H C cl fp) h7) (fun s H C cl fp => ckC_ok cd _ (c.blk scope) ifs (y.blk scope s H C cl fp) h12)
        (fun s H C cl fp => ckI_ok it1 _ W0 (c.blk scope) tg1 i1 (y.blk scope s H C cl fp) h10) (fun s H C cl fp => tg_of (y.blk scope s H C cl fp) h8) (fun s H C cl fp => ckC_ok cd1 _ (c.blk scope) ifs1 (y.blk scope s H C cl fp) h13)
        (fun s H C cl fp => ckE_ok el _ W0 (c.blk scope) _ (y.blk scope s H C cl fp) h11) (folded_of h5) (fun _ => folded_of h6)
      rw [ownOf_snd] at this
      exact PS.imp this (asgC_read (wa := fun E => wpE Φ E (.lc2 el tt it cd t1 it1 cd1 vs vs1)) (lc2_read (wi := fun E => wpI Φ E it) (wt := fun E σ h Q => wpC Φ cd σ h Q) (wi1 := fun E => wpI Φ E it1) (wt1 := fun E σ h Q => wpC Φ cd1 σ h Q) (we := fun E => wpE Φ E el) y.ok.k h2 h3))
    · cases h
  · cases h
mutual
theorem ckS_ok : ∀ (s : Sm) (st : Stmt), Hy X G W Φ k c → PassesOwn (model X.prog X.w) X.A X.env X.xe → ckS c s st = true → PS X st (lS G W (wpS Φ s))
  | .asg l e, st, y, hp, h => by
    unfold ckS at h
    split at h
    · rename_i t v pos
      simp only [Bool.or_eq_true, Bool.and_eq_true] at h
      rcases h with ((h | h) | h) | ⟨⟨⟨⟨h1, h2⟩, h3⟩, h4⟩, h5⟩
      · exact par2_ok y h
      · exact par3_ok y h
      · exact setC_ok y h
      · refine ss_asg (ckE_ok e X W c v y h5) (ckLv_ok l t y h4) ?_ ?_ (assignEach_one h3)
        · show swapsWith v (some t) pos.line X.env = pure false
          rcases h1 with h1 | h1
          · exact swaps_of h1
          · exact swaps_of2 h1
        · rcases h2 with (h2 | h2) | h2
          · exact stores_of h2
          · exact stores_of2 h2
          · unfold parN at h2
            split at h2
            · exact stores_none (by rw [y.sc]; exact h2)
            · cases h2
    · cases h
  | .aug i op e, st, y, hp, h => by
    unfold ckS at h
    split at h
    · simp only [Bool.and_eq_true, decide_eq_true_eq] at h
      obtain ⟨⟨rfl, h1⟩, h2⟩ := h
      obtain ⟨x, p, rfl, n1, n2, n3⟩ := nm_of y h1
      exact ss_aug y.ok.nd n1 n2 n3 (ckE_ok e X W c _ y h2)
    · cases h
  | .ex e, st, y, hp, h => by
    unfold ckS at h
    split at h
    · rw [Bool.and_eq_true] at h
      exact ss_ex (ckE_ok e X W c _ y h.2) (swaps_of h.1)
    · cases h
  | .ret e, st, y, hp, h => by
    unfold ckS at h
    split at h
    · exact ss_ret (ckE_ok e X W c _ y h)
    · cases h
  | .retN, st, y, hp, h => by
    unfold ckS at h
    split at h
    · exact ss_retN
    · cases h
  | .ifs t a b, st, y, hp, h => by
    unfold ckS at h
    split at h
    · simp only [Bool.and_eq_true] at h
      exact ss_ifs (ckT_ok t X W c _ y h.1.1).1 (ckB_ok a _ y hp h.1.2) (ckB_ok b _ y hp h.2)
    · cases h
  | .for t it b, st, y, hp, h => by
    unfold ckS at h
    split at h
    · simp only [Bool.and_eq_true] at h
      obtain ⟨⟨⟨h1, h2⟩, h3⟩, h4⟩ := h
      exact ss_for y.ok.k hp y.hc (ckI_ok it X W c _ _ y h3) (tg_of y h1) (ckB_ok b _ y hp h4) (folded_of h2)
    · cases h
  | .whl t b, st, y, hp, h => by
    unfold ckS at h
    split at h
    · rw [Bool.and_eq_true] at h
      exact ss_whl hp (ckT_ok t X W c _ y h.1).1 (ckB_ok b _ y hp h.2)
    · cases h
  | .brk, st, y, hp, h => by
    unfold ckS at h
    split at h
    · exact ss_brk
    · cases h
  | .cnt, st, y, hp, h => by
    unfold ckS at h
    split at h
    · exact ss_cnt
    · cases h
  | .pas, st, y, hp, h => by
    unfold ckS at h
    split at h
    · exact ss_pas
    · exact ss_doc
    · cases h
  | .rai _ _, st, y, hp, h => by unfold ckS at h; cases h
theorem ckB_ok : ∀ (b : List Sm) (sts : List Stmt), Hy X G W Φ k c → PassesOwn (model X.prog X.w) X.A X.env X.xe → ckB c b sts = true → PSs X sts (lS G W (wpB Φ b))
  | [], sts, y, hp, h => by
    cases sts with
    | nil => exact ss_nil
    | cons _ _ => cases h
  | s :: r, sts, y, hp, h => by
    cases sts with
    | nil => cases h
    | cons t ts =>
      have h : (ckS c s t && ckB c r ts) = true := h
      rw [Bool.and_eq_true] at h
      exact ss_cons (ws := wpS Φ s) (wu := wpB Φ r) (ckS_ok s t y hp h.1) (ckB_ok r ts y hp h.2)
end
end
end DL
set_option Elab.async false
set_option linter.all false
set_option maxRecDepth 100000
set_option maxHeartbeats 4000000
/-! The D layer, 15: defs by levels; the law's end; the Hook. -/
namespace DL
open PySem PySem.Spec PyProof.Rows L2

/-- a def of the program, and its slots -/
structure Row where
  x : Str
  qual : Str
  params : Arguments
  body : List Stmt
  sc : Scope
  N : List Str
  ps : List Str
def scC (N ps : List Str) (sc : Scope) : Bool :=
  (match sc.kind with
  | .function => true
  | _ => false) && !sc.isCoroutine && !sc.isGenerator && decide N.Nodup && decide (N.take ps.length = ps) && (ps.all fun x => match sc.names.lookup x with
    | some .local => true
    | some .cell => true
    | _ => false) && (sc.names.all fun y => match y.2 with
    | .free => false
    | _ => true)
theorem scC_ok {N ps : List Str} {sc : Scope} (h : scC N ps sc = true) : FnScope N ps sc := by
  unfold scC at h
  simp only [Bool.and_eq_true, decide_eq_true_eq, Bool.not_eq_true', List.all_eq_true] at h
  obtain ⟨⟨⟨⟨⟨⟨h1, h2⟩, h3⟩, h4⟩, h5⟩, h6⟩, h7⟩ := h
  refine ⟨?_, h2, h3, h4, h5, fun x hx => ?_, fun y hy e => ?_⟩
  · split at h1
    · assumption
    · cases h1
  · have q := h6 x hx
    split at q
    · exact .inl ‹_›
    · exact .inr ‹_›
    · cases q
  · have q := h7 y hy
    rw [e] at q
    cases q
def rowC (c : Ctx) (r : Row) (f : Fn) : Bool := decide (r.ps.length = f.ar) && decide (r.N.length = f.n) && scC r.N r.ps r.sc && ckB { c with N := r.N, sc := r.sc, top := true } f.body r.body
def rowsC (c : Ctx) : List Row → List Fn → Bool
  | [], [] => true
  | r :: rs, f :: fs => rowC c r f && rowsC c rs fs
  | _, _ => false
theorem rowsC_at {c : Ctx} : ∀ {rs : List Row} {fs : List Fn} {i : Nat} {r : Row}, rowsC c rs fs = true → rs[i]? = some r → ∃ f, fs[i]? = some f ∧ rowC c r f = true
  | [], _, _, _, _, e => by simp at e
  | _ :: _, [], _, _, h, _ => by cases h
  | r :: rs, f :: fs, i, r', h, e => by
    have h : (rowC c r f && rowsC c rs fs) = true := h
    rw [Bool.and_eq_true] at h
    cases i with
    | zero => simp at e; subst e; exact ⟨f, rfl, h.1⟩
    | succ i => exact rowsC_at (i := i) h.2 (by simpa using e)

/-- what the module's heap gives: the facts by names, the defs, how they are called -/
structure Facts (K : PySem.W.Frag) (mg : Str → Option Value) (c : Ctx) (rows : List Row) : Prop where
  cF : ∀ x ∈ c.cF, mg x = none
  cI : ∀ p ∈ c.cI, ∃ u, mg p.1 = some u ∧ RelV (.int p.2) u
  cS : ∀ p ∈ c.cS, ∃ u, mg p.1 = some u ∧ RelV (.str p.2) u
  pats : ∀ p ∈ c.pats, ∃ (r : Row) (a : Addr) (fd : FuncData) (dvs : List V) (kws : List (Str × V)) (g : List Value → List Value → List Value) (gV : List V → List V → List V), rows[p.f]? = some r ∧ mg p.x = some (.ref a) ∧
    FunD K r.x r.qual r.params r.body r.sc dvs kws a fd ∧ KBn K fd r.ps p.n p.ks g gV ∧ ∀ H ds vs es zs, RepVs K H ds vs → RepVs K H es zs → ds.length = p.n → es.length = p.ks.length → RepVs K H (arrOf (ds ++ es) p.arr) (gV vs zs)

theorem PsRep {K : PySem.W.Frag} {H : Hp} {ds : List D} {vs : List V} (r : RepVs K H ds vs) (m : Nat) : RepS K H (ds.map some ++ List.replicate m none) (vs.map some ++ List.replicate m none) := by
  refine ⟨by simp [r.length], fun i d e => ?_⟩
  by_cases hi : i < ds.length
  · rw [List.getElem?_append_left (by simpa using hi), List.getElem?_map] at e
    cases q : ds[i]? with
    | none => rw [q] at e; cases e
    | some d' =>
      rw [q] at e
      obtain ⟨v, hv, rv⟩ := r.get q
      have : d' = d := by simpa using e
      subst this
      refine ⟨v, ?_, rv⟩
      rw [List.getElem?_append_left (by rw [List.length_map, r.length]; exact hi), List.getElem?_map, hv] <;> rfl
  · rw [List.getElem?_append_right (by simpa using hi), List.getElem?_replicate] at e
    split at e <;> cases e
section
variable {P : Program} {w : World} {G : Gr} {mg : Str → Option Value} {base : Heap} {c : Ctx} {rows : List Row} {prog : List Fn}
theorem level (hsy : ∃ o, base.get? sysModules = some o ∧ o.cls = .type "dict") (S : Facts G.K mg c rows) (hck : rowsC c rows prog = true) : ∀ (d i : Nat) (r : Row), rows[i]? = some r → ∀ (f : Addr) (fd : FuncData) (dvs : List V) (kws : List (Str × V)),
    FunD G.K r.x r.qual r.params r.body r.sc dvs kws f fd → FnG P w G.K mg base d f fd r.ps (spG G (Ph prog d) i)
  | 0, i, r, hi, f, fd, dvs, kws, F => ⟨fun vs H Q E ⟨_, _, _, _, _, _, z, _⟩ => z.elim, fun A outer s H args us vs Q E _ _ _ _ _ ⟨_, _, _, _, _, _, z, _⟩ => z.elim⟩
  | d + 1, i, r, hi, f, fd, dvs, kws, F => by
    obtain ⟨fn, hf, ck⟩ := rowsC_at hck hi
    unfold rowC at ck
    simp only [Bool.and_eq_true, decide_eq_true_eq] at ck
    obtain ⟨⟨⟨c1, c2⟩, c3⟩, c4⟩ := ck
    have sc := scC_ok c3
    have len : ∀ vs H Q E, spG G (Ph prog (d + 1)) i vs H Q E → vs.length = r.ps.length := fun vs H Q E ⟨ds, h, R, Ex, rv, _, ⟨fn', hf', l, _⟩, _⟩ => by
      rw [hf] at hf'; cases hf'
      rw [rv.length, l, c1]
    refine FunD.okG F sc len fun cdv A outer s H vs Q E hr hgd ⟨ds, h, R, Ex, rv, rh, ⟨fn', hf', l, wp⟩, po, pe⟩ => ?_
    rw [hf] at hf'; cases hf'
    have hun : (A.deeper (envOfC r.qual r.sc s.heap.objs.size f cdv)).units + 100 < cLine := by have := hr.un; omega
    have tk : Takes (cxOf (L2.CX P w) P w G.K mg base r.N r.qual r.sc f cdv A outer s H E) (fun cls dd _ H' => E cls dd H') := takes_of rfl rfl rfl rfl
    have hp : PassesOwn (model P w) (A.deeper (envOfC r.qual r.sc s.heap.objs.size f cdv)) (envOfC r.qual r.sc s.heap.objs.size f cdv) (cxOf (L2.CX P w) P w G.K mg base r.N r.qual r.sc f cdv A outer s H E).xe := PassesOwn.leaving
    have y : Hy (cxOf (L2.CX P w) P w G.K mg base r.N r.qual r.sc f cdv A outer s H E) G (fun cls dd _ H' => E cls dd H') (Ph prog d) d { c with N := r.N, sc := r.sc, top := true } :=
      ⟨⟨rfl, sc.nd, hgd, hun, hsy⟩, rfl, rfl, rfl, fun _ _ => rfl, tk, hr, S.cF, S.cI, S.cS, fun p hp => by
        obtain ⟨r', a, fd', dvs', kws', g, gV, q1, q2, q3, q4, q5⟩ := S.pats p hp
        exact ⟨a, fd', r'.ps, g, gV, q2, q3.kp, level hsy S hck d p.f r' q1 a fd' dvs' kws' q3, q4, q5⟩⟩
    refine ⟨_, ckB_ok fn.body r.body y hp c4, ?_⟩
    have e1 : L2.start r.N vs = vs.map some ++ List.replicate (fn.n - fn.ar) none := by
      unfold L2.start
      rw [c2, rv.length, l]
    refine ⟨_, h, ⟨fun _ h' => R .non h', R, fun _ _ => False, fun _ _ => False, fun c fs _ h' => Ex c fs h'⟩, ⟨?_, rh, fun c fs σd' h' cls dd σ' H' e rx rs rh' fm => pe c fs h' cls dd H' e rx rh' fm⟩, wp, ⟨fun σd' h' σ' H' q rs rh' fm => po _ _ _ _ q repV_non rh' fm, po, fun _ _ _ _ z => z.elim, fun _ _ _ _ z => z.elim⟩⟩
    rw [e1]
    exact PsRep rv _
end

/-! ### the law's end -/
theorem callerA_guards : callerA.guards = some [] := rfl
/-- the law's promise at the heap behind the top -/
theorem law_callG {P : Program} {w : World} {K : PySem.W.Frag} {mg mb : Str → Option Value} {k : Nat} {fa a : Addr} {fd : FuncData} {x : Str} {sp : Sp} {s₁ : Shared} {vs : List Value} {ns : List Int}
    (KX : K.In s₁.heap) (hns : s₁.heap.Ns mainGlobals mg) (hb : s₁.heap.Ns builtinsNs mb) (hbb : ∀ x : Str, x ≠ "__name__" → mb x = bootBuiltins x) (hlim : s₁.heap.NoLimit) (hg : s₁.gens = #[])
    (ha : s₁.heap.get? a = some { cls := .type "list", data := .seq vs.toArray }) (hi : IntsAre vs ns) (hl : ns.length ≤ sizeLine) (hr : Room k callerA)
    (hsy : ∃ o, s₁.heap.get? sysModules = some o ∧ o.cls = .type "dict")
    (F : ∀ base : Heap, (∃ o, base.get? sysModules = some o ∧ o.cls = .type "dict") → FnG P w K mg base k fa fd [x] sp) (hbind : ∀ (s : Shared) (u : Value), BindsTo s fd ⟨[u], []⟩ [(x, u)])
    (hsp : ∀ H : Hp, FzL K H a (ns.map V.int) → sp [.ref a] H (fun v _ => v = .bl true) fun _ _ _ => False) :
    codeAny (model P w) callerA (.call (.ref fa) ⟨[.ref a], []⟩) (fun r s' => r = .ok (.ret (.bool true)) ∧ OldK s₁.heap s'.heap ∧ s'.os = s₁.os ∧ AllBare s'.gens) s₁ := by
  have rv := vals_ints hi
  have lenV := hi.length
  have core : ∀ H : Hp, Only H → FzL K H a (ns.map V.int) → HOk P w H s₁.heap → (∀ b, H b ≠ none → b = a) → (H a ≠ none → K.lookup a = none) →
      codeAny (model P w) callerA (.call (.ref fa) ⟨[.ref a], []⟩) (fun r s' => r = .ok (.ret (.bool true)) ∧ OldK s₁.heap s'.heap ∧ s'.os = s₁.os ∧ AllBare s'.gens) s₁ := by
    intro H hO hS hok hA hK
    have base_of : ∀ {b : Addr} {o : Obj}, s₁.heap.get? b = some o → H b = none → (hidT s₁.heap H).get? b = some o := fun e n => hidT_get e n
    have noA : ∀ {b : Addr} {o : Obj}, s₁.heap.get? b = some o → o.cls ≠ .type "list" → H b = none := fun {b o} e d => by
      cases q : H b with
      | none => rfl
      | some u =>
        have e' : b = a := hA b (by rw [q]; simp)
        subst e'
        rw [ha] at e; cases e
        exact absurd rfl d
    have noD : ∀ {b : Addr} {o : Obj} {es : Array DictEntry} {ep : Nat}, s₁.heap.get? b = some o → o.data = .dict es ep → H b = none := fun {b o es ep} e d => by
      cases q : H b with
      | none => rfl
      | some u =>
        have e' : b = a := hA b (by rw [q]; simp)
        subst e'
        rw [ha] at e; cases e
        have d' : Data.seq vs.toArray _ = Data.dict es ep := d
        cases d'
    have nsK : ∀ {b : Addr} {m : Str → Option Value}, s₁.heap.Ns b m → (hidT s₁.heap H).Ns b m := fun {b m} ⟨o, es, ep, e, d, r⟩ => ⟨o, es, ep, base_of e (noD e d), d, r⟩
    have hKb : K.In (hidT s₁.heap H) := fun b o e => base_of (KX b o e) (by
      cases q : H b with
      | none => rfl
      | some u =>
        have e' : b = a := hA b (by rw [q]; simp)
        subst e'
        rw [hK (by rw [q]; simp)] at e; cases e)
    have hM : Mod K mg (hidT s₁.heap H) := ⟨hKb, nsK hns, ⟨mb, nsK hb, hbb⟩, let ⟨mc, h1, h2⟩ := hlim; ⟨mc, nsK h1, h2⟩⟩
    have e0 : Env0 P w K mg (hidT s₁.heap H) callerA [] s₁ H := ⟨rfl, hM, fun b o e => of_hidT e, Nat.le_of_eq (hidT_size _ _), trivial, fun b hb => absurd (show b ∈ ([] : List Addr) from hb) (by simp), hok, .of_eq hg⟩
    have hsy' : ∃ o, (hidT s₁.heap H).get? sysModules = some o ∧ o.cls = .type "dict" := by
      obtain ⟨o, e, q⟩ := hsy
      exact ⟨o, base_of e (noA e (by rw [q]; decide)), q⟩
    refine codeAny_mono ((F _ hsy').run callerA [] s₁ H ⟨[.ref a], []⟩ [.ref a] [.ref a] _ _ hr callerA_guards e0 (hbind s₁ (.ref a)) (.cons rfl .nil) (hsp H hS)) fun r s' h => ?_
    cases r with
    | error e =>
      obtain ⟨_, _, _, _, _, _, _, _, _, _, _, _, z⟩ := h
      exact z.elim
    | ok fl =>
      cases fl with
      | next => exact False.elim h
      | brk => exact False.elim h
      | cont => exact False.elim h
      | ret u =>
        obtain ⟨v, H', os, bare, un, hok', r', q⟩ := h
        have q' : v = .bl true := q
        subst q'
        obtain rfl : u = Value.bool true := r'
        refine ⟨rfl, OldK.of_keep fun b o e => ?_, os, bare⟩
        cases q : H b with
        | none => exact un.keep b o e q (by intro z; exact absurd (show b ∈ ([] : List Addr) from z) (by simp)) (by simp)
        | some u =>
          rcases hO b with z | ⟨ob, xs, z⟩
          · rw [q] at z; cases z
          · have z2 := un.frzs b ob _ z
            obtain ⟨e1, _⟩ := hok b _ z
            obtain ⟨e2, _⟩ := hok' b _ z2
            rw [e] at e1; cases e1
            exact e2
  cases hk : K.lookup a with
  | some o =>
    have e := KX a o hk
    rw [ha] at e
    cases e
    refine core (fun _ => none) (fun _ => .inl rfl) (.inr ⟨_, vs.toArray, _, hk, rfl, rfl, rfl, by rw [List.size_toArray, lenV]; exact hl, by simpa using rv⟩) (fun b u z => by have z' : (none : Option HO) = some u := z; cases z') (fun b z => absurd rfl z) fun z => absurd rfl z
  | none =>
    refine core (fun b => if b = a then some (.frz { cls := .type "list", data := .seq vs.toArray } (.lst (ns.map V.int))) else none) (fun b => ?_) (.inl ⟨{ cls := .type "list", data := .seq vs.toArray }, if_pos rfl⟩) (fun b u z => ?_) (fun b z => ?_) fun _ => hk
    · by_cases hb : b = a
      · exact .inr ⟨_, _, if_pos hb⟩
      · exact .inl (if_neg hb)
    · by_cases hb : b = a
      · have z' := (if_pos hb).symm.trans z
        cases z'
        subst hb
        exact ⟨ha, by rw [List.length_map]; exact hl, vs, _, rv, ha⟩
      · have z' := (if_neg hb).symm.trans z
        cases z'
    · by_cases hb : b = a
      · exact hb
      · exact absurd (if_neg hb) z

def isDict : Option Obj → Bool
  | some ⟨.type c, _, _, _⟩ => decide (c = "dict")
  | _ => false
theorem isDict_ok {o : Option Obj} (h : isDict o = true) : ∃ b, o = some b ∧ b.cls = .type "dict" := by
  unfold isDict at h
  split at h
  · exact ⟨_, rfl, congrArg Value.type (of_decide_eq_true h)⟩
  · cases h
/-- the facts by names, and that sys.modules stands -/
def hookS (n : Nat) (fa : List He.Fa) (fn : List He.DefD) : PySem.W.Hook where
  α := He.AlD × Bool
  obs := fun s => (He.obsDG n fa fn s.heap.get?, isDict (s.heap.get? sysModules))
  val := fun _ => (He.valD fn, true)
  says := fun _ h => (∃ K : PySem.W.Frag, K.In h ∧ He.SaysD fa fn K) ∧ ∃ o, h.get? sysModules = some o ∧ o.cls = .type "dict"
  of := fun _ s e => ⟨⟨_, He.frG_in, congrArg Prod.fst e⟩, isDict_ok (congrArg Prod.snd e)⟩
  keeps := fun _ _ _ ⟨⟨K, hK, c⟩, o, e, q⟩ k => ⟨⟨K, PySem.W.Frag.In.keeps hK k, c⟩, o, k _ _ e, q⟩
def obS (n : Nat) (fa : List He.Fa) (fn : List He.DefD) (s : PySem.W.SharedT) : He.AlD × Bool := (He.obsDG n fa fn (HandSHeadRun.getT s), isDict (HandSHeadRun.getT s sysModules))
theorem obS_eq {n : Nat} {fa : List He.Fa} {fn : List He.DefD} (s : PySem.W.SharedT) : obS n fa fn s = (hookS n fa fn).obs s.abs := by
  have e : HandSHeadRun.getT s = s.abs.heap.get? := funext (HandSHeadRun.getT_eq s)
  unfold obS
  rw [e] <;> rfl
/-- a law whose script holds ints, by the D layer -/
theorem walk_ofD {l : PySem.W.OpenLaw} {n k i : Nat} {q : Program} {loose : List Str} {XP : (Str → Option Value) → Heap → Prop} {fa : List He.Fa} {fn : List He.DefD} {m : Nat} {dr : DefRec} {c : Ctx} {rows : List Row} {prog : List Fn} {r : Row} {dvs : PySem.W.Frag → List V} {kws : PySem.W.Frag → List (Str × V)}
    (hn : l.most = some n) (hn2 : n ≤ sizeLine) (hdf : dr.params.defaults = []) (hr : Room k callerA) (hck : rowsC c rows prog = true) (hi : rows[i]? = some r) (hx : r.ps = [("script" : Str)])
    (hF : ∀ (K : PySem.W.Frag) (mg : Str → Option Value) (h : Heap), K.In h → h.Ns mainGlobals mg → He.SaysD fa fn K → Facts K mg c rows ∧ ∃ (a : Addr) (fd : FuncData), mg dr.name = some (.ref a) ∧ FunD K r.x r.qual r.params r.body r.sc (dvs K) (kws K) a fd ∧ ∀ (s : Shared) (u : Value), BindsTo s fd ⟨[u], []⟩ [(("script" : Str), u)])
    (law : ∀ ns : List Int, ns.length ≤ n → Ph prog k i [.scr (ns.map D.int)] (fun _ => none) (fun v _ => v = .bl true) (fun _ _ _ => False)) :
    PySem.W.WalkO q loose XP (hookS m fa fn).says l.row.toRowW dr [] (fun f vs => PySem.call f vs) := by
  refine Att.attach_call hn hdf fun w s₀ s₁ mg mb fa' o pm cd doc a vs ns Gd Y ho hd hcd hmg hobj hints hlen hg => ?_
  obtain ⟨⟨K, KX, says⟩, hsy⟩ := Y
  obtain ⟨S, a', fd, e1, F, hb⟩ := hF K mg _ KX Gd.T.g says
  rw [hmg] at e1
  cases e1
  refine law_callG (k := k) (fd := fd) (x := "script") (sp := spG ⟨K, fun _ => 0⟩ (Ph prog k) i) KX Gd.T.g Gd.T.b Gd.T.builtins Gd.T.nolimit hg hobj hints (Nat.le_trans hlen hn2) hr hsy (fun base hs => ?_) hb fun H hS => ?_
  · have q := level (P := l.prog) (w := w) (G := ⟨K, fun _ => 0⟩) (base := base) hs S hck k i r hi fa' fd (dvs K) (kws K) F
    rw [hx] at q
    exact q
  · refine ⟨[.scr (ns.map D.int)], fun _ => none, fun v _ => v = .bl true, fun _ _ _ => False, ?_, (show RepH ⟨K, fun _ => 0⟩ (fun _ => none) H from fun _ _ z => nomatch z), law ns hlen, (show Post ⟨K, fun _ => 0⟩ (fun _ => none) H (fun v _ => v = .bl true) (fun v _ => v = .bl true) from fun d h' v H' e rv _ _ => by
      rw [e] at rv
      exact rv.bl_inv), (show PostE ⟨K, fun _ => 0⟩ (fun _ => none) H (fun _ _ _ => False) (fun _ _ _ => False) from fun _ _ _ _ _ _ z => z.elim)⟩
    · refine repVs_cons (repV_scr.mpr ⟨a, _, rfl, hS, ?_⟩) repVs_nil
      have : ∀ ns : List Int, RepVs K H (ns.map D.int) (ns.map V.int) := fun ns => by
        induction ns with
        | nil => exact repVs_nil
        | cons x xs ih => exact repVs_cons repV_int ih
      exact this ns
end DL
set_option Elab.async false
set_option linter.all false
set_option maxRecDepth 100000
set_option maxHeartbeats 4000000
/-! The D layer, 16: how defs are called. -/
namespace DL
open PySem PySem.Spec PyProof.Rows L2

def pick {α : Type} (us its ws : List α) : Nat × Nat → Option α
  | (0, i) => us[i]?
  | (1, i) => its[i]?
  | (_, i) => ws[i]?
def gA {α : Type} (src : List (Nat × Nat)) (us its ws : List α) : List α := src.filterMap (pick us its ws)
theorem vals_opt {vs : List V} {us : List Value} (r : Vals vs us) (i : Nat) : (vs[i]? = none ∧ us[i]? = none) ∨ ∃ v u, vs[i]? = some v ∧ us[i]? = some u ∧ RelV v u := by
  cases e : vs[i]? with
  | none => exact .inl ⟨rfl, r.none_of e⟩
  | some v => obtain ⟨u, h1, h2⟩ := r.get e; exact .inr ⟨v, u, rfl, h1, h2⟩
theorem gA_vals {vs ds zs : List V} {us its ws : List Value} (r1 : Vals vs us) (r2 : Vals ds its) (r3 : Vals zs ws) : ∀ src : List (Nat × Nat), Vals (gA src vs ds zs) (gA src us its ws)
  | [] => .nil
  | q :: src => by
    have ih := gA_vals r1 r2 r3 src
    have key : (pick vs ds zs q = none ∧ pick us its ws q = none) ∨ ∃ v u, pick vs ds zs q = some v ∧ pick us its ws q = some u ∧ RelV v u := by
      obtain ⟨a, i⟩ := q
      match a with
      | 0 => exact vals_opt r1 i
      | 1 => exact vals_opt r2 i
      | n + 2 => exact vals_opt r3 i
    unfold gA at ih ⊢
    rcases key with ⟨e1, e2⟩ | ⟨v, u, e1, e2, r⟩
    · rw [List.filterMap_cons, List.filterMap_cons, e1, e2]; exact ih
    · rw [List.filterMap_cons, List.filterMap_cons, e1, e2]; exact .cons r ih
/-- a default as a value -/
def dvD : He.Dv → Option D
  | .non => some .non
  | .bl b => some (.bl b)
  | .int i => some (.int i)
  | .str x => some (.str x)
  | _ => none
theorem dvD_rep {K : PySem.W.Frag} {H : Hp} {d : He.Dv} {x : D} (h : dvD d = some x) : RepV K H x (d.v K) := by
  cases d <;> first | (cases h; exact repV_non) | (cases h; exact repV_bl) | (cases h; exact repV_int) | (cases h; exact repV_str) | cases h
def arrC (n m : Nat) (dfl : List He.Dv) : List (Nat × Nat) → List (Nat ⊕ D) → Bool
  | [], [] => true
  | (0, i) :: s, .inl j :: r => decide (i = j) && decide (i < n) && arrC n m dfl s r
  | (1, i) :: s, .inr d :: r => (match dfl[i]? with
    | some v => (match dvD v with
      | some x => eqLR [.inr x] [.inr d]
      | none => false)
    | none => false) && arrC n m dfl s r
  | (2, i) :: s, .inl j :: r => decide (n + i = j) && decide (i < m) && arrC n m dfl s r
  | _, _ => false
theorem arr_ok {K : PySem.W.Frag} {H : Hp} {n m : Nat} {dfl : List He.Dv} {ds es : List D} {vs zs : List V} (rd : RepVs K H ds vs) (re : RepVs K H es zs) (l1 : ds.length = n) (l2 : es.length = m) : ∀ (src : List (Nat × Nat)) (arr : List (Nat ⊕ D)), arrC n m dfl src arr = true →
    RepVs K H (arrOf (ds ++ es) arr) (gA src vs (dfl.map (He.Dv.v K)) zs)
  | src, arr, h => by
    unfold arrC at h
    split at h
    · exact repVs_nil
    · rename_i i s j r
      simp only [Bool.and_eq_true, decide_eq_true_eq] at h
      obtain ⟨⟨rfl, hl⟩, h⟩ := h
      have ih := arr_ok rd re l1 l2 s r h
      have ed : ds[i]? = some ds[i] := List.getElem?_eq_getElem (by omega)
      obtain ⟨v, ev, rv⟩ := rd.get ed
      have e1 : gA ((0, i) :: s) vs (dfl.map (He.Dv.v K)) zs = v :: gA s vs (dfl.map (He.Dv.v K)) zs := by
        unfold gA
        rw [List.filterMap_cons, show pick vs (dfl.map (He.Dv.v K)) zs (0, i) = some v from ev]
      have e2 : (ds ++ es).getD i .non = ds[i] := by
        rw [List.getD_eq_getElem?_getD, List.getElem?_append_left (by omega), ed] <;> rfl
      rw [e1]
      show RepVs K H ((ds ++ es).getD i .non :: _) _
      rw [e2]
      exact repVs_cons rv ih
    · rename_i i s d r
      rw [Bool.and_eq_true] at h
      have ih := arr_ok rd re l1 l2 s r h.2
      have h1 := h.1
      split at h1
      · rename_i v ev
        split at h1
        · rename_i x ex
          have := eqLR_ok h1
          simp only [List.cons.injEq, Sum.inr.injEq, and_true] at this
          subst this
          have e1 : gA ((1, i) :: s) vs (dfl.map (He.Dv.v K)) zs = v.v K :: gA s vs (dfl.map (He.Dv.v K)) zs := by
            unfold gA
            rw [List.filterMap_cons, show pick vs (dfl.map (He.Dv.v K)) zs (1, i) = some (v.v K) from by show (dfl.map (He.Dv.v K))[i]? = _; rw [List.getElem?_map, ev] <;> rfl]
          rw [e1]
          exact repVs_cons (dvD_rep ex) ih
        · cases h1
      · cases h1
    · rename_i i s j r
      simp only [Bool.and_eq_true, decide_eq_true_eq] at h
      obtain ⟨⟨rfl, hl⟩, h⟩ := h
      have ih := arr_ok rd re l1 l2 s r h
      have ed : es[i]? = some es[i] := List.getElem?_eq_getElem (by omega)
      obtain ⟨v, ev, rv⟩ := re.get ed
      have e1 : gA ((2, i) :: s) vs (dfl.map (He.Dv.v K)) zs = v :: gA s vs (dfl.map (He.Dv.v K)) zs := by
        unfold gA
        rw [List.filterMap_cons, show pick vs (dfl.map (He.Dv.v K)) zs (2, i) = some v from ev]
      have e2 : (ds ++ es).getD (n + i) .non = es[i] := by
        rw [List.getD_eq_getElem?_getD, List.getElem?_append_right (by omega), show n + i - ds.length = i from by omega, ed] <;> rfl
      rw [e1]
      show RepVs K H ((ds ++ es).getD (n + i) .non :: _) _
      rw [e2]
      exact repVs_cons rv ih
    · cases h
/-- a pattern's facts, of whatever heap -/
def PB (rows : List Row) (r : Row) (d : He.DefD) (p : Pat) : Prop := rows[p.f]? = some r ∧ ∀ (K : PySem.W.Frag) (a : Addr) (fd : FuncData), FunD K r.x r.qual r.params r.body r.sc (d.dvs K) (d.kws K) a fd → ∃ (g : List Value → List Value → List Value) (gV : List V → List V → List V), KBn K fd r.ps p.n p.ks g gV ∧
  ∀ H ds vs es zs, RepVs K H ds vs → RepVs K H es zs → ds.length = p.n → es.length = p.ks.length → RepVs K H (arrOf (ds ++ es) p.arr) (gV vs zs)
/-- every parameter is written, there are no defaults -/
theorem pb_plain {rows : List Row} {r : Row} {d : He.DefD} {p : Pat} (h0 : rows[p.f]? = some r) (hd : d.dfl = []) (hk : p.ks = []) (hn : p.n = r.ps.length) (ha : idArr 0 p.arr p.n = true)
    (h : ∀ (kV doc pm : Value) (an : Option Addr) (cdv ct : Value) (us : List Value), us.length = r.ps.length → bindArgs (PySem.W.fnOf r.x r.qual r.params r.body r.sc .none kV doc pm an cdv ct) ⟨us, []⟩ = pure (r.ps.zip us)) : PB rows r d p := ⟨h0, fun K a fd F => by
  have e : d.dvs K = [] := by unfold He.DefD.dvs; rw [hd] <;> rfl
  rw [e] at F
  have b := F.bindsN (ps := r.ps) h
  refine ⟨fun us _ => us, fun vs _ => vs, ⟨fun s us ws X l1 l2 => ?_, fun r1 _ => r1⟩, fun H ds vs es zs rd re l1 l2 => ?_⟩
  · have q := b s us X (by rw [List.append_nil, l1, hn])
    rw [List.append_nil] at q
    rw [hk]
    exact q
  · have z : es = [] := List.eq_nil_of_length_eq_zero (by rw [l2, hk]; rfl)
    rw [z, List.append_nil, idArr_ok (i := 0) (n := p.n) (ds := ds) ha (by omega)]
    exact rd⟩
theorem pb_dfl {rows : List Row} {r : Row} {d : He.DefD} {p : Pat} (src : List (Nat × Nat)) (h0 : rows[p.f]? = some r) (hd : d.dfl ≠ []) (ha : arrC p.n p.ks.length d.dfl src p.arr = true)
    (h : ∀ (T : Addr) (kV doc pm : Value) (an : Option Addr) (cdv ct : Value) (us its ws : List Value), us.length = p.n → its.length = d.dfl.length → ws.length = p.ks.length →
      ∃ k, bindArgs (PySem.W.fnOf r.x r.qual r.params r.body r.sc (.ref T) kV doc pm an cdv ct) ⟨us, p.ks.zip ws⟩ = seqItems? (.ref T) >>= k ∧ k (some its.toArray) = pure (r.ps.zip (gA src us its ws))) : PB rows r d p := ⟨h0, fun K a fd F => by
  have e : d.dvs K ≠ [] := by unfold He.DefD.dvs; exact fun z => hd (List.map_eq_nil_iff.mp z)
  have el : (d.dvs K).length = d.dfl.length := by unfold He.DefD.dvs; rw [List.length_map]
  obtain ⟨its, kb⟩ := F.kbindsD (ps := r.ps) p.n p.ks (gA src) e (fun r1 r2 r3 => gA_vals r1 r2 r3 src) (fun T kV doc pm an cdv ct us its ws l1 l2 l3 => h T kV doc pm an cdv ct us its ws l1 (l2.trans el) l3)
  exact ⟨_, _, kb, fun H ds vs es zs rd re l1 l2 => arr_ok rd re l1 l2 src p.arr ha⟩⟩

/-! ### the facts, from what the Hook says -/
def faOf (names cF : List Str) (cI : List (Str × Int)) (cS : List (Str × Str)) : List He.Fa := names.map .glo ++ (cF.map .free ++ (cI.map (fun p => .int p.1 p.2) ++ cS.map fun p => .str p.1 p.2))
/-- one pattern, all that is seen of it -/
structure PC' (fn : List He.DefD) (names : List Str) (rows : List Row) (p : Pat) : Prop where
  ex : ∃ d r, fn[p.f]? = some d ∧ p.x ∈ names ∧ d.at_ = (p.x, none) ∧ r.x = d.name ∧ r.qual = d.qual ∧ r.params = d.params ∧ r.body = d.body ∧ r.sc = d.scope ∧ PB rows r d p
theorem all_nil {α : Type} {P : α → Prop} : ∀ x ∈ ([] : List α), P x := fun _ h => nomatch h
theorem all_cons {α : Type} {P : α → Prop} {a : α} {l : List α} (h : P a) (t : ∀ x ∈ l, P x) : ∀ x ∈ a :: l, P x := fun x hx => by
  rcases List.mem_cons.mp hx with rfl | hx
  · exact h
  · exact t x hx
theorem facts_ok {names : List Str} {fn : List He.DefD} {K : PySem.W.Frag} {h : Heap} {mg : Str → Option Value} {c : Ctx} {rows : List Row} (X : K.In h) (Gd : h.Ns mainGlobals mg) (says : He.SaysD (faOf names c.cF c.cI c.cS) fn K)
    (hP : ∀ p ∈ c.pats, PC' fn names rows p) : Facts K mg c rows := by
  have fact : ∀ f : He.Fa, f ∈ faOf names c.cF c.cI c.cS → f.ok K = true := fun f hf => by
    obtain ⟨i, hi⟩ := List.getElem?_of_mem hf
    exact says.fact i hi
  unfold faOf at fact
  refine ⟨fun x hx => He.free_ok X Gd (fact _ ?_), fun p hp => ?_, fun p hp => ?_, fun p hp => ?_⟩
  · exact List.mem_append_right _ (List.mem_append_left _ (List.mem_map.mpr ⟨x, hx, rfl⟩))
  · obtain ⟨t, e⟩ := He.int_ok X Gd (fact (.int p.1 p.2) (List.mem_append_right _ (List.mem_append_right _ (List.mem_append_left _ (List.mem_map.mpr ⟨p, hp, rfl⟩)))))
    exact ⟨_, e, t, rfl⟩
  · obtain ⟨t, e⟩ := He.str_ok X Gd (fact (.str p.1 p.2) (List.mem_append_right _ (List.mem_append_right _ (List.mem_append_right _ (List.mem_map.mpr ⟨p, hp, rfl⟩)))))
    exact ⟨_, e, t, rfl⟩
  · obtain ⟨d, r, e1, e2, e3, q1, q2, q3, q4, q5, pb⟩ := (hP p hp).ex
    obtain ⟨fd, F⟩ := says.def_ p.f e1
    rw [← q1, ← q2, ← q3, ← q4, ← q5] at F
    obtain ⟨h0, kb⟩ := pb
    obtain ⟨g, gV, k1, k2⟩ := kb K _ fd F
    refine ⟨r, He.fAd K d.at_, fd, d.dvs K, d.kws K, g, gV, h0, ?_, F, k1, k2⟩
    rw [e3]
    exact He.glo_ok X Gd (fact (.glo p.x) (List.mem_append_left _ (List.mem_map.mpr ⟨_, e2, rfl⟩)))
end DL
set_option Elab.async false
set_option linter.all false
set_option maxRecDepth 100000
set_option maxHeartbeats 1000000
/-! The D layer's rules for proofs, 1. -/
namespace DL
open PySem L2
section
variable {Φ : Fns} {E : DX} {σ : DS} {h : MH} {Q : D → MH → Prop} {P : Bool → MH → Prop}
@[simp] theorem wpE_var {i : Nat} : wpE Φ E (.var i) σ h Q = ∃ d, σ[i]? = some (some d) ∧ Q d h := rfl
@[simp] theorem wpE_cst {d : D} : wpE Φ E (.cst d) σ h Q = Q d h := rfl
@[simp] theorem wpE_bin {op : Operator} {a b : Ex} : wpE Φ E (.bin op a b) σ h Q = wpE Φ E a σ h fun x h1 => wpE Φ E b σ h1 fun y h2 => bop op x y h2 Q := rfl
def negD (x : D) (h : MH) (Q : D → MH → Prop) : Prop := match x with
  | .int i => Q (.int (-i)) h
  | _ => False
@[simp] theorem negD_int {i : Int} : negD (.int i) h Q = Q (.int (-i)) h := rfl
@[simp] theorem wpE_neg {a : Ex} : wpE Φ E (.neg a) σ h Q = wpE Φ E a σ h fun x h1 => negD x h1 Q := rfl
@[simp] theorem wpE_not {a : Ex} : wpE Φ E (.not a) σ h Q = wpE Φ E a σ h fun x h1 => tru x h1 fun k => Q (.bl (!k)) h1 := rfl
@[simp] theorem wpE_and {a b : Ex} : wpE Φ E (.and a b) σ h Q = wpE Φ E a σ h fun x h1 => tru x h1 fun k => if k = true then wpE Φ E b σ h1 Q else Q x h1 := rfl
@[simp] theorem wpE_or {a b : Ex} : wpE Φ E (.or a b) σ h Q = wpE Φ E a σ h fun x h1 => tru x h1 fun k => if k = true then Q x h1 else wpE Φ E b σ h1 Q := rfl
@[simp] theorem wpE_ite {c : Te} {a b : Ex} : wpE Φ E (.ite c a b) σ h Q = wpT Φ E c σ h fun k h1 => if k = true then wpE Φ E a σ h1 Q else wpE Φ E b σ h1 Q := rfl
@[simp] theorem wpE_cmp {op : CmpOp} {a b : Ex} : wpE Φ E (.cmp op a b) σ h Q = wpE Φ E a σ h fun x h1 => wpE Φ E b σ h1 fun y h2 => cop op x y h2 fun k => Q (.bl k) h2 := rfl
@[simp] theorem wpE_chn {op op' : CmpOp} {a b c : Ex} : wpE Φ E (.chn op op' a b c) σ h Q = wpE Φ E a σ h fun x h1 => wpE Φ E b σ h1 fun y h2 => cop op x y h2 fun k =>
      if k = true then wpE Φ E c σ h2 fun z h3 => cop op' y z h3 fun k' => Q (.bl k') h3 else Q (.bl false) h2 := rfl
@[simp] theorem wpE_tup {es : List Ex} : wpE Φ E (.tup es) σ h Q = wpEs Φ E es σ h fun ds h1 => Fits ds.length ∧ Q (.tup ds) h1 := rfl
@[simp] theorem wpE_lst {es : List Ex} : wpE Φ E (.lst es) σ h Q = wpEs Φ E es σ h fun ds h1 => Fits ds.length ∧ al (.lst ds) h1 Q := rfl
@[simp] theorem wpE_dsp {ks : List Str} {es : List Ex} : wpE Φ E (.dsp ks es) σ h Q = wpEs Φ E es σ h fun ds h1 => al (.dct ((ks.map Sum.inr).zip ds)) h1 Q := rfl
@[simp] theorem wpE_ix {a i : Ex} : wpE Φ E (.ix a i) σ h Q = wpE Φ E a σ h fun x h1 => wpE Φ E i σ h1 fun y h2 => ixD x y h2 Q := rfl
@[simp] theorem wpE_sl {a : Ex} {lo hi : Option Ex} : wpE Φ E (.sl a lo hi) σ h Q = wpE Φ E a σ h fun x h1 => wpO Φ E lo σ h1 fun l h2 => wpO Φ E hi σ h2 fun u h3 => slD x l u h3 Q := rfl
@[simp] theorem wpE_call {f : Nat} {es : List Ex} : wpE Φ E (.call f es) σ h Q = wpEs Φ E es σ h fun ds h1 => ds.length = es.length ∧ Φ f ds h1 Q E := rfl
@[simp] theorem wpE_callk {f : Nat} {es kes : List Ex} {arr : List (Nat ⊕ D)} : wpE Φ E (.callk f es kes arr) σ h Q = wpEs Φ E es σ h fun ds h1 => wpEs Φ E kes σ h1 fun ks h2 => (ds.length = es.length ∧ ks.length = kes.length) ∧ Φ f (arrOf (ds ++ ks) arr) h2 Q E := rfl
@[simp] theorem wpE_bi {b : Bi} {es : List Ex} : wpE Φ E (.bi b es) σ h Q = wpEs Φ E es σ h fun ds h1 => bi b ds h1 Q := rfl
@[simp] theorem wpE_isi {a : Ex} {ts : List Ty} : wpE Φ E (.isi a ts) σ h Q = wpE Φ E a σ h fun x h1 => isTys x h1 ts fun k => Q (.bl k) h1 := rfl
@[simp] theorem wpE_met {m : Mt} {o : Ex} {es : List Ex} : wpE Φ E (.met m o es) σ h Q = wpE Φ E o σ h fun x h1 => mtTy m x h1 ∧ wpEs Φ E es σ h1 fun ds h2 => met m x ds h2 Q := rfl
@[simp] theorem wpE_lc {el : Ex} {t : Tg} {it : It'} {cd : Option Te} {vs : List Nat} : wpE Φ E (.lc el t it cd vs) σ h Q = wpI Φ E it σ h fun J h1 => lcGo t J.ok (wpC Φ cd) (wpE Φ (fun _ _ _ => False) el) (wipeD σ vs) (fun acc h2 => al (.lst acc) h2 Q) J.its [] h1 := rfl
@[simp] theorem wpE_lc2 {el : Ex} {t : Tg} {it : It'} {cd : Option Te} {t1 : Tg} {it1 : It'} {cd1 : Option Te} {vs vs1 : List Nat} : wpE Φ E (.lc2 el t it cd t1 it1 cd1 vs vs1) σ h Q = wpI Φ E it σ h fun J h1 =>
      lcGo2 t J.ok (wpC Φ cd) (fun σ1 acc h2 K => wpI Φ (fun _ _ _ => False) it1 σ1 h2 fun J1 h3 => lcGo t1 J1.ok (wpC Φ cd1) (wpE Φ (fun _ _ _ => False) el) (wipeD σ1 vs1) K J1.its acc h3)
        (wipeD σ vs) (fun acc h2 => al (.lst acc) h2 Q) J.its [] h1 := rfl
@[simp] theorem wpT_not {a : Te} : wpT Φ E (.not a) σ h P = wpT Φ E a σ h fun k h1 => P (!k) h1 := rfl
@[simp] theorem wpT_and {a b : Te} : wpT Φ E (.and a b) σ h P = wpT Φ E a σ h fun k h1 => if k = true then wpT Φ E b σ h1 P else P false h1 := rfl
@[simp] theorem wpT_or {a b : Te} : wpT Φ E (.or a b) σ h P = wpT Φ E a σ h fun k h1 => if k = true then P true h1 else wpT Φ E b σ h1 P := rfl
@[simp] theorem wpT_cmp {op : CmpOp} {a b : Ex} : wpT Φ E (.cmp op a b) σ h P = wpE Φ E a σ h fun x h1 => wpE Φ E b σ h1 fun y h2 => cop op x y h2 fun k => P k h2 := rfl
@[simp] theorem wpT_chn {op op' : CmpOp} {a b c : Ex} : wpT Φ E (.chn op op' a b c) σ h P = wpE Φ E a σ h fun x h1 => wpE Φ E b σ h1 fun y h2 => cop op x y h2 fun k =>
      if k = true then wpE Φ E c σ h2 fun z h3 => cop op' y z h3 fun k' => P k' h3 else P false h2 := rfl
@[simp] theorem wpT_val {e : Ex} : wpT Φ E (.val e) σ h P = wpE Φ E e σ h fun x h1 => tru x h1 fun k => P k h1 := rfl
@[simp] theorem wpEs_nil {R : List D → MH → Prop} : wpEs Φ E [] σ h R = R [] h := rfl
@[simp] theorem wpEs_cons {e : Ex} {r : List Ex} {R : List D → MH → Prop} : wpEs Φ E (e :: r) σ h R = wpE Φ E e σ h fun x h1 => wpEs Φ E r σ h1 fun xs h2 => R (x :: xs) h2 := rfl
@[simp] theorem wpO_none {R : Option Int → MH → Prop} : wpO Φ E none σ h R = R none h := rfl
def intD (x : D) (h : MH) (R : Option Int → MH → Prop) : Prop := match x with
  | .int i => R (some i) h
  | _ => False
@[simp] theorem intD_int {i : Int} {R : Option Int → MH → Prop} : intD (.int i) h R = R (some i) h := rfl
@[simp] theorem wpO_some {e : Ex} {R : Option Int → MH → Prop} : wpO Φ E (some e) σ h R = wpE Φ E e σ h fun x h1 => intD x h1 R := rfl
@[simp] theorem wpC_none : wpC Φ none σ h P = P true h := rfl
@[simp] theorem wpC_some {t : Te} : wpC Φ (some t) σ h P = wpT Φ (fun _ _ _ => False) t σ h P := rfl
@[simp] theorem wpI_of {e : Ex} {R : ItV → MH → Prop} : wpI Φ E (.of e) σ h R = wpE Φ E e σ h fun x h1 => walkD x h1 fun J => R J h1 := rfl
@[simp] theorem wpI_rng {es : List Ex} {R : ItV → MH → Prop} : wpI Φ E (.rng es) σ h R = wpEs Φ E es σ h fun ds h1 => rngD ds fun J => R J h1 := rfl
@[simp] theorem wpI_zip {a b : Ex} {R : ItV → MH → Prop} : wpI Φ E (.zip a b) σ h R = wpE Φ E a σ h fun x h1 => wpE Φ E b σ h1 fun y h2 => zipD x y h2 fun J => R J h2 := rfl
@[simp] theorem wpI_enm {e : Ex} {R : ItV → MH → Prop} : wpI Φ E (.enm e) σ h R = wpE Φ E e σ h fun x h1 => enmD x h1 fun J => R J h1 := rfl
@[simp] theorem wpI_rev {e : Ex} {R : ItV → MH → Prop} : wpI Φ E (.rev e) σ h R = wpE Φ E e σ h fun x h1 => revD x h1 fun J => R J h1 := rfl
variable {F : DS → DX} {S : DS → MH → Prop}
@[simp] theorem wpLv_nm {i : Nat} {d : D} : wpLv Φ F (.nm i) d σ h S = S (σ.set i (some d)) h := rfl
@[simp] theorem wpLv_sub {o i : Ex} {d : D} : wpLv Φ F (.sub o i) d σ h S = wpE Φ (F σ) o σ h fun x h1 => wpE Φ (F σ) i σ h1 fun k h2 => setD x k d h2 fun h3 => S σ h3 := rfl
@[simp] theorem wpLv_tup {ls : List Lv} {ds : List D} : wpLv Φ F (.tup ls) (.tup ds) σ h S = (ds.length = ls.length ∧ wpLvs Φ F ls ds σ h S) := rfl
@[simp] theorem wpLvs_nil : wpLvs Φ F [] [] σ h S = S σ h := rfl
@[simp] theorem wpLvs_cons {l : Lv} {ls : List Lv} {d : D} {ds : List D} : wpLvs Φ F (l :: ls) (d :: ds) σ h S = wpLv Φ F l d σ h fun σ1 h1 => wpLvs Φ F ls ds σ1 h1 S := rfl
variable {Dn : En}
@[simp] theorem wpS_asg {l : Lv} {e : Ex} : wpS Φ (.asg l e) Dn σ h = wpE Φ (exAt Dn σ) e σ h fun d h1 => wpLv Φ (exAt Dn) l d σ h1 Dn.nx := rfl
@[simp] theorem wpS_aug {i : Nat} {op : Operator} {e : Ex} : wpS Φ (.aug i op e) Dn σ h = ∃ x, σ[i]? = some (some x) ∧ wpE Φ (exAt Dn σ) e σ h fun y h1 => augD op x y h1 fun z h2 => Dn.nx (σ.set i (some z)) h2 := rfl
@[simp] theorem wpS_ex {e : Ex} : wpS Φ (.ex e) Dn σ h = wpE Φ (exAt Dn σ) e σ h fun _ h1 => Dn.nx σ h1 := rfl
@[simp] theorem wpS_ret {e : Ex} : wpS Φ (.ret e) Dn σ h = wpE Φ (exAt Dn σ) e σ h Dn.rt := rfl
@[simp] theorem wpS_retN : wpS Φ .retN Dn σ h = Dn.rt .non h := rfl
@[simp] theorem wpS_ifs {c : Te} {a b : List Sm} : wpS Φ (.ifs c a b) Dn σ h = wpT Φ (exAt Dn σ) c σ h fun k h1 => if k = true then wpB Φ a Dn σ h1 else wpB Φ b Dn σ h1 := rfl
@[simp] theorem wpS_for {t : Tg} {it : It'} {b : List Sm} : wpS Φ (.for t it b) Dn σ h = wpI Φ (exAt Dn σ) it σ h fun J h1 => forGo t J.ok (wpB Φ b) Dn J.its σ h1 := rfl
@[simp] theorem wpS_whl {c : Te} {b : List Sm} : wpS Φ (.whl c b) Dn σ h = whlGo (fun σ h P => wpT Φ (exAt Dn σ) c σ h P) (wpB Φ b) Dn σ h := rfl
@[simp] theorem wpS_brk : wpS Φ .brk Dn σ h = Dn.bk σ h := rfl
@[simp] theorem wpS_cnt : wpS Φ .cnt Dn σ h = Dn.ct σ h := rfl
@[simp] theorem wpS_pas : wpS Φ .pas Dn σ h = Dn.nx σ h := rfl
@[simp] theorem wpB_nil : wpB Φ [] Dn σ h = Dn.nx σ h := rfl
/-- one statement, then the rest (not for simp) -/
theorem wpB_cons {s : Sm} {r : List Sm} : wpB Φ (s :: r) Dn σ h = wpS Φ s { Dn with nx := fun σ' h' => wpB Φ r Dn σ' h' } σ h := rfl
@[simp] theorem wpB_one {s : Sm} : wpB Φ [s] Dn σ h = wpS Φ s Dn σ h := rfl
end
/-- a call's goal -/
theorem ph_of {prog : List Fn} {d f : Nat} {fn : Fn} {ds : List D} {h : MH} {Q : D → MH → Prop} {E : DX} (e : prog[f]? = some fn) (l : ds.length = fn.ar)
    (w : wpB (Ph prog d) fn.body ⟨fun _ h' => Q .non h', Q, fun _ _ => False, fun _ _ => False, fun c fs _ h' => E c fs h'⟩ (ds.map some ++ List.replicate (fn.n - fn.ar) none) h) : Ph prog (d + 1) f ds h Q E := ⟨fn, e, l, w⟩

/-! ### operations at known values -/
section
variable {h : MH} {Q : D → MH → Prop} {P : Bool → Prop}
end
end DL
namespace DL
open PySem L2
section
variable {h : MH} {Q : D → MH → Prop} {P : Bool → Prop} {R : ItV → Prop}
@[simp] theorem bop_add_int {i j : Int} : bop .Add (.int i) (.int j) h Q = Q (.int (i + j)) h := rfl
@[simp] theorem bop_add_str {i j : Str} : bop .Add (.str i) (.str j) h Q = (Fits (i.length + j.length) ∧ Q (.str (i ++ j)) h) := rfl
@[simp] theorem bop_add_tup {i j : List D} : bop .Add (.tup i) (.tup j) h Q = (Fits (i.length + j.length) ∧ Q (.tup (i ++ j)) h) := rfl
@[simp] theorem bop_add_ref {a b : Addr} : bop .Add (.ref a) (.ref b) h Q = ∃ xs ys, h a = some (.lst xs) ∧ h b = some (.lst ys) ∧ Fits (xs.length + ys.length) ∧ al (.lst (xs ++ ys)) h Q := rfl
@[simp] theorem bop_sub_int {i j : Int} : bop .Sub (.int i) (.int j) h Q = Q (.int (i - j)) h := rfl
@[simp] theorem bop_mul_int {i j : Int} : bop .Mult (.int i) (.int j) h Q = (MulOk i j ∧ Q (.int (i * j)) h) := rfl
@[simp] theorem bop_mul_tup {i : List D} {k : Int} : bop .Mult (.tup i) (.int k) h Q = ((-(2 ^ 63) ≤ k ∧ k < 2 ^ 63) ∧ (k ≤ 1000 ∧ i.length ≤ 1000) ∧ Q (.tup (List.replicate k.toNat i).flatten) h) := rfl
@[simp] theorem bop_div_int {i j : Int} : bop .FloorDiv (.int i) (.int j) h Q = (DivOk j ∧ Q (.int (i / j)) h) := rfl
@[simp] theorem bop_mod_int {i j : Int} : bop .Mod (.int i) (.int j) h Q = (0 < j ∧ Q (.int (i % j)) h) := rfl
@[simp] theorem bop_pow_int {i j : Int} : bop .Pow (.int i) (.int j) h Q = ((0 ≤ j ∧ j ≤ 1000000 ∧ i.natAbs < 2 ^ 64) ∧ Q (.int (i ^ j.toNat)) h) := rfl
@[simp] theorem tru_bl {b : Bool} : tru (.bl b) h P = P b := rfl
@[simp] theorem tru_non : tru .non h P = P false := rfl
@[simp] theorem tru_int {i : Int} : tru (.int i) h P = P (i != 0) := rfl
@[simp] theorem cop_eq {x y : D} : cop .Eq x y h P = eqD x y h P := rfl
@[simp] theorem cop_ne {x y : D} : cop .NotEq x y h P = eqD x y h fun k => P (!k) := rfl
@[simp] theorem cop_lt {i j : Int} : cop .Lt (.int i) (.int j) h P = P (decide (i < j)) := rfl
@[simp] theorem cop_le {i j : Int} : cop .LtE (.int i) (.int j) h P = P (decide (i ≤ j)) := rfl
@[simp] theorem cop_gt {i j : Int} : cop .Gt (.int i) (.int j) h P = P (decide (j < i)) := rfl
@[simp] theorem cop_ge {i j : Int} : cop .GtE (.int i) (.int j) h P = P (decide (j ≤ i)) := rfl
@[simp] theorem cop_is {x y : D} : cop .Is x y h P = isOp x y P := rfl
@[simp] theorem cop_isnot {x y : D} : cop .IsNot x y h P = isOp x y fun k => P (!k) := rfl
@[simp] theorem cop_in {x y : D} : cop .In x y h P = inOp x y h P := rfl
@[simp] theorem cop_notin {x y : D} : cop .NotIn x y h P = inOp x y h fun k => P (!k) := rfl
@[simp] theorem isOp_bl {a b : Bool} : isOp (.bl a) (.bl b) P = P (decide (a = b)) := rfl
@[simp] theorem eqD_int {i j : Int} : eqD (.int i) (.int j) h P = P (decide (i = j)) := rfl
@[simp] theorem eqD_str {i j : Str} : eqD (.str i) (.str j) h P = P (decide (i = j)) := rfl
@[simp] theorem eqD_bl {i j : Bool} : eqD (.bl i) (.bl j) h P = P (decide (i = j)) := rfl
@[simp] theorem inOp_str {a b : Str} : inOp (.str a) (.str b) h P = P (subStr a b) := rfl
@[simp] theorem ixD_tup {ds : List D} {i : Int} : ixD (.tup ds) (.int i) h Q = ∃ d, atI ds i = some d ∧ Q d h := rfl
@[simp] theorem ixD_scr {ds : List D} {i : Int} : ixD (.scr ds) (.int i) h Q = ∃ d, atI ds i = some d ∧ Q d h := rfl
@[simp] theorem ixD_str {z : Str} {i : Int} : ixD (.str z) (.int i) h Q = (Fits z.length ∧ ∃ c, atI z.cps.toList i = some c ∧ Q (.str ⟨#[c]⟩) h) := rfl
@[simp] theorem slD_tup {ds : List D} {lo hi : Option Int} : slD (.tup ds) lo hi h Q = Q (.tup (cut ds lo hi)) h := rfl
@[simp] theorem slD_scr {ds : List D} {lo hi : Option Int} : slD (.scr ds) lo hi h Q = al (.lst (cut ds lo hi)) h Q := rfl
@[simp] theorem slD_str {z : Str} {lo hi : Option Int} : slD (.str z) lo hi h Q = (Fits z.length ∧ Q (.str ⟨(cut z.cps.toList lo hi).toArray⟩) h) := rfl
@[simp] theorem slD_ref {a : Addr} {lo hi : Option Int} : slD (.ref a) lo hi h Q = ∃ xs, h a = some (.lst xs) ∧ al (.lst (cut xs lo hi)) h Q := rfl
@[simp] theorem walkD_tup {ds : List D} : walkD (.tup ds) h R = R ⟨ds, fun _ => True⟩ := rfl
@[simp] theorem walkD_scr {ds : List D} : walkD (.scr ds) h R = R ⟨ds, fun _ => True⟩ := rfl
@[simp] theorem walkD_str {z : Str} : walkD (.str z) h R = R ⟨z.cps.toList.map fun c => .str ⟨#[c]⟩, fun _ => True⟩ := rfl
@[simp] theorem walkD_ref {a : Addr} : walkD (.ref a) h R = ∃ xs, h a = some (.lst xs) ∧ R ⟨xs, fun h' => h' a = some (.lst xs)⟩ := rfl
@[simp] theorem rngD1 {n : Int} : rngD [.int n] R = ((-(2 ^ 60) < n ∧ n < 2 ^ 60) ∧ R ⟨(List.range n.toNat).map fun (k : Nat) => .int k, fun _ => True⟩) := rfl
@[simp] theorem zipD_tup {a b : List D} : zipD (.tup a) (.tup b) h R = R ⟨(a.zip b).map fun p => .tup [p.1, p.2], fun _ => True⟩ := rfl
@[simp] theorem zipD_ref {a b : Addr} : zipD (.ref a) (.ref b) h R = ∃ xs ys, h a = some (.lst xs) ∧ h b = some (.lst ys) ∧ R ⟨(xs.zip ys).map fun p => .tup [p.1, p.2], fun h' => h' a = some (.lst xs) ∧ h' b = some (.lst ys)⟩ := rfl
@[simp] theorem bi_len_str {z : Str} : bi .len [.str z] h Q = (Fits z.length ∧ Q (.int z.length) h) := rfl
@[simp] theorem bi_len_tup {z : List D} : bi .len [.tup z] h Q = Q (.int z.length) h := rfl
@[simp] theorem bi_len_ref {a : Addr} : bi .len [.ref a] h Q = ∃ xs, h a = some (.lst xs) ∧ Q (.int xs.length) h := rfl
@[simp] theorem bi_len_scr {z : List D} : bi .len [.scr z] h Q = Q (.int z.length) h := rfl
@[simp] theorem bi_abs_int {i : Int} : bi .abs [.int i] h Q = Q (.int (if i < 0 then -i else i)) h := rfl
@[simp] theorem bi_max_int {i j : Int} : bi .max [.int i, .int j] h Q = Q (.int (if j > i then j else i)) h := rfl
@[simp] theorem bi_min_int {i j : Int} : bi .min [.int i, .int j] h Q = Q (.int (if j < i then j else i)) h := rfl
@[simp] theorem bi_sum_ref {a : Addr} : bi .sum [.ref a] h Q = ∃ ds ns, h a = some (.lst ds) ∧ intsOf ds = some ns ∧ Q (.int ns.sum) h := rfl
@[simp] theorem bi_all_ref {a : Addr} : bi .all [.ref a] h Q = ∃ ds ns, h a = some (.lst ds) ∧ blsOf ds = some ns ∧ Q (.bl (ns.all id)) h := rfl
@[simp] theorem bi_list_tup {ds : List D} : bi .list [.tup ds] h Q = al (.lst ds) h Q := rfl
@[simp] theorem bi_list_ref {a : Addr} : bi .list [.ref a] h Q = ∃ xs, h a = some (.lst xs) ∧ al (.lst xs) h Q := rfl
@[simp] theorem bi_tuple_ref {a : Addr} : bi .tuple [.ref a] h Q = ∃ xs, h a = some (.lst xs) ∧ Q (.tup xs) h := rfl
@[simp] theorem bi_str_int {i : Int} : bi .str [.int i] h Q = (i.natAbs.log2 < 1920 ∧ Q (.str (toString i)) h) := rfl
@[simp] theorem met_append {a : Addr} {y : D} : met .append (.ref a) [y] h Q = ∃ xs, h a = some (.lst xs) ∧ xs.length < sizeLine ∧ Q .non (up h a (.lst (xs ++ [y]))) := rfl
@[simp] theorem met_pop0 {a : Addr} : met .pop (.ref a) [] h Q = ∃ xs d, h a = some (.lst xs) ∧ xs[xs.length - 1]? = some d ∧ Q d (up h a (.lst xs.dropLast)) := rfl
@[simp] theorem mtTy_append {a : Addr} : mtTy .append (.ref a) h = ∃ xs, h a = some (.lst xs) := rfl
@[simp] theorem mtTy_extend {a : Addr} : mtTy .extend (.ref a) h = ∃ xs, h a = some (.lst xs) := rfl
@[simp] theorem mtTy_pop {a : Addr} : mtTy .pop (.ref a) h = ∃ xs, h a = some (.lst xs) := rfl
@[simp] theorem mtTy_get {a : Addr} : mtTy .get (.ref a) h = ∃ xs, h a = some (.dct xs) := rfl
@[simp] theorem mtTy_join {z : Str} : mtTy .join (.str z) h = True := rfl
variable {σ : DS} {S : DS → Prop}
@[simp] theorem bindT_nm {i : Nat} {d : D} : bindT (.nm i) d σ S = S (σ.set i (some d)) := rfl
@[simp] theorem bindT_tp {is : List Nat} {ds : List D} : bindT (.tp is) (.tup ds) σ S = (ds.length = is.length ∧ S (setAll σ is ds)) := rfl
@[simp] theorem setAll_nil {ds : List D} : setAll σ [] ds = σ := rfl
@[simp] theorem setAll_cons {i : Nat} {is : List Nat} {d : D} {ds : List D} : setAll σ (i :: is) (d :: ds) = setAll (σ.set i (some d)) is ds := rfl
@[simp] theorem wipeD_nil : wipeD σ [] = σ := rfl
@[simp] theorem wipeD_cons {v : Nat} {vs : List Nat} : wipeD σ (v :: vs) = (wipeD σ vs).set v none := rfl
@[simp] theorem arrOf_nil {ds : List D} : arrOf ds [] = [] := rfl
@[simp] theorem arrOf_inl {ds : List D} {i : Nat} {r : List (Nat ⊕ D)} : arrOf ds (.inl i :: r) = ds.getD i .non :: arrOf ds r := rfl
@[simp] theorem arrOf_inr {ds : List D} {d : D} {r : List (Nat ⊕ D)} : arrOf ds (.inr d :: r) = d :: arrOf ds r := rfl
theorem and_bl {k c : Bool} : (if k = true then Q (.bl c) h else Q (.bl k) h) = Q (.bl (k && c)) h := by cases k <;> rfl
theorem and_bl' {k c : Bool} : (if k = true then Q (.bl c) h else Q (.bl false) h) = Q (.bl (k && c)) h := by cases k <;> rfl
theorem or_bl {k c : Bool} : (if k = true then Q (.bl k) h else Q (.bl c) h) = Q (.bl (k || c)) h := by cases k <;> rfl
end

/-! ### kinds -/
/-- a reference holds a list or a dict -/
def Kd (h : MH) : D → Prop
  | .ref a => (∃ xs, h a = some (.lst xs)) ∨ ∃ kvs, h a = some (.dct kvs)
  | _ => True
def tyB : D → Ty
  | .non => .non | .bl _ => .bool | .int _ => .int | .str _ => .str | .tup _ => .tuple | .ref _ => .list | .scr _ => .list
theorem isTys_of {h : MH} {x : D} {ts : List Ty} {P : Bool → Prop} (k : Kd h x) (hl : ts.contains .list = false) (hd : ts.contains .dict = false) (p : P (ts.any (subTy (tyB x)))) : isTys x h ts P := by
  unfold isTys
  cases x with
  | ref a =>
    have e : ∀ t : Ty, t = .list ∨ t = .dict → ts.any (subTy t) = false := fun t ht => by
      rw [List.any_eq_false]
      intro u hu
      have h1 : u ≠ .list := fun z => by rw [z] at hu; rw [List.contains_iff_mem.mpr hu] at hl; cases hl
      have h2 : u ≠ .dict := fun z => by rw [z] at hu; rw [List.contains_iff_mem.mpr hu] at hd; cases hd
      rcases ht with rfl | rfl <;> (unfold subTy; simp [Ne.symm h1, Ne.symm h2])
    have e0 : P (ts.any (subTy .list)) := p
    rw [e .list (.inl rfl)] at e0
    rcases k with ⟨xs, g⟩ | ⟨xs, g⟩
    · exact .inl ⟨xs, g, p⟩
    · refine .inr ⟨xs, g, ?_⟩
      show P (ts.any (subTy .dict))
      rw [e .dict (.inr rfl)]; exact e0
  | _ => exact p

/-! ### loops -/
theorem for_rule {t : Tg} {ok : MH → Prop} {body : En → DS → MH → Prop} {Dn : En} (Inv : List D → DS → MH → Prop) (hok : ∀ r σ h, Inv r σ h → ok h) (hd : ∀ σ h, Inv [] σ h → Dn.nx σ h)
    (step : ∀ d r σ h (K : DS → MH → Prop), Inv (d :: r) σ h → (∀ σ' h', Inv r σ' h' → K σ' h') → bindT t d σ fun σ1 => body { Dn with nx := K, ct := K, bk := Dn.nx } σ1 h) : ∀ its σ h, Inv its σ h → forGo t ok body Dn its σ h
  | [], σ, h, i => ⟨hok _ _ _ i, hd _ _ i⟩
  | d :: r, σ, h, i => ⟨hok _ _ _ i, step d r σ h _ i fun σ' h' i' => for_rule Inv hok hd step r σ' h' i'⟩
theorem lc_rule {t : Tg} {ok : MH → Prop} {cd : DT} {elt : DE} {σ : DS} {K : List D → MH → Prop} (Inv : List D → List D → MH → Prop) (hok : ∀ r acc h, Inv r acc h → ok h) (hd : ∀ acc h, Inv [] acc h → K acc h)
    (step : ∀ d r acc h (N : List D → MH → Prop), Inv (d :: r) acc h → (∀ acc' h', Inv r acc' h' → N acc' h') → bindT t d σ fun σ1 => cd σ1 h fun k h1 =>
      if k = true then elt σ1 h1 fun x h2 => acc.length < sizeLine ∧ N (acc ++ [x]) h2 else N acc h1) : ∀ its acc h, Inv its acc h → lcGo t ok cd elt σ K its acc h
  | [], acc, h, i => ⟨hok _ _ _ i, hd _ _ i⟩
  | d :: r, acc, h, i => by
    refine ⟨hok _ _ _ i, step d r acc h (lcGo t ok cd elt σ K r) i fun acc' h' i' => lc_rule Inv hok hd step r acc' h' i'⟩
/-- a comprehension that leaves the heap -/
theorem lc_map {t : Tg} {ok : MH → Prop} {cd : DT} {elt : DE} {σ : DS} {K : List D → MH → Prop} {h : MH} (f : D → List D) (its : List D) (hok : ok h) (hz : its.length ≤ sizeLine)
    (step : ∀ d ∈ its, ∀ (acc : List D) (N : List D → MH → Prop), acc.length < sizeLine → N (acc ++ f d) h → bindT t d σ fun σ1 => cd σ1 h fun k h1 =>
      if k = true then elt σ1 h1 fun x h2 => acc.length < sizeLine ∧ N (acc ++ [x]) h2 else N acc h1) (hf : ∀ d ∈ its, (f d).length ≤ 1) (hd : K (its.flatMap f) h) : lcGo t ok cd elt σ K its [] h := by
  refine lc_rule (fun r acc h' => h' = h ∧ ∃ p, its = p ++ r ∧ acc = p.flatMap f) (fun r acc h' i => i.1 ▸ hok) (fun acc h' i => ?_) (fun d r acc h' N i hN => ?_) its [] h ⟨rfl, [], rfl, rfl⟩
  · obtain ⟨rfl, p, e, rfl⟩ := i
    rw [List.append_nil] at e
    subst e
    exact hd
  · obtain ⟨rfl, p, e, rfl⟩ := i
    have hm : d ∈ its := by rw [e]; exact List.mem_append_right _ List.mem_cons_self
    have hp : (p.flatMap f).length ≤ p.length := by
      have : ∀ q : List D, (∀ x ∈ q, (f x).length ≤ 1) → (q.flatMap f).length ≤ q.length := fun q => by
        induction q with
        | nil => intro _; simp
        | cons x q ih =>
          intro hq
          rw [List.flatMap_cons, List.length_append, List.length_cons]
          have h1 := hq x List.mem_cons_self
          have h2 := ih fun y hy => hq y (List.mem_cons_of_mem _ hy)
          omega
      exact this p fun x hx => hf x (by rw [e]; exact List.mem_append_left _ hx)
    have hl : p.length < its.length := by rw [e, List.length_append, List.length_cons]; omega
    refine step d hm _ _ (by omega) (hN _ _ ⟨rfl, p ++ [d], by rw [e, List.append_assoc]; rfl, ?_⟩)
    rw [List.flatMap_append, List.flatMap_cons, List.flatMap_nil, List.append_nil]
end DL
namespace DL
open PySem L2
/-! ### a heap that grows -/
def Gw (h h' : MH) : Prop := ∀ a o, h a = some o → h' a = some o
section
variable {h h1 h2 : MH}
theorem Gw.refl : Gw h h := fun _ _ e => e
theorem Gw.trans (f : Gw h h1) (g : Gw h1 h2) : Gw h h2 := fun a o e => g a o (f a o e)
theorem Gw.up {p : Addr} {o : MO} (n : h p = none) : Gw h (DL.up h p o) := fun a u e => (up_ne (fun z => by rw [z, n] at e; cases e)).trans e
/-- a newly made object may be written -/
theorem Gw.up2 {p : Addr} {o : MO} (f : Gw h h1) (n : h p = none) : Gw h (DL.up h1 p o) := fun a u e => (up_ne (fun z => by rw [z, n] at e; cases e)).trans (f a u e)
theorem Kd.gw {x : D} (f : Gw h h1) (k : Kd h x) : Kd h1 x := by
  cases x with
  | ref a =>
    rcases k with ⟨xs, e⟩ | ⟨xs, e⟩
    · exact .inl ⟨xs, f _ _ e⟩
    · exact .inr ⟨xs, f _ _ e⟩
  | _ => exact k
end
theorem bls_map : ∀ l : List Bool, blsOf (l.map D.bl) = some l
  | [] => rfl
  | b :: l => by simp [blsOf, bls_map l]
theorem ints_map : ∀ l : List Int, intsOf (l.map D.int) = some l
  | [] => rfl
  | b :: l => by simp [intsOf, ints_map l]
theorem strs_map : ∀ l : List Str, strsOf (l.map D.str) = some l
  | [] => rfl
  | b :: l => by simp [strsOf, strs_map l]
theorem flat_one {α : Type} (f : α → D) (l : List α) (g : D → List D) (w : α → D) (hg : ∀ a ∈ l, g (w a) = [f a]) : (l.map w).flatMap g = l.map f := by
  induction l with
  | nil => rfl
  | cons a l ih => rw [List.map_cons, List.flatMap_cons, hg a List.mem_cons_self, ih fun b hb => hg b (List.mem_cons_of_mem _ hb)]; rfl
end DL
namespace DL
theorem fits_le {n : Nat} (h : n ≤ 16777216) : Fits n := by
  unfold Fits
  rw [PySem.sizeLine_eq]
  exact h
end DL
namespace DL
open PySem L2
theorem ixN_nat (n k : Nat) : ixN n (k : Int) = if k < n then some k else none := by
  unfold ixN
  rw [if_pos (Int.natCast_nonneg k)]
  by_cases h : k < n
  · rw [if_pos (by omega), if_pos h, Int.toNat_natCast]
  · rw [if_neg (by omega), if_neg h]
@[simp] theorem atI_nat {α : Type} {ds : List α} {k : Nat} : atI ds (k : Int) = ds[k]? := by
  unfold atI
  rw [ixN_nat]
  split
  · rfl
  · rw [List.getElem?_eq_none (by omega)]; rfl
@[simp] theorem atI_lit {α : Type} {ds : List α} {k : Nat} : atI ds (no_index (OfNat.ofNat k : Int)) = ds[k]? := atI_nat (k := k)
@[simp] theorem atI_neg1 {α : Type} {ds : List α} : atI ds (-1) = ds[ds.length - 1]? := by
  unfold atI
  cases ds with
  | nil => rfl
  | cons a l =>
    have e : ixN (a :: l).length (-1) = some l.length := by
      unfold ixN
      rw [if_neg (by decide), if_pos (by rw [List.length_cons]; omega)]
      congr 1
      rw [List.length_cons]; omega
    rw [e] <;> rfl
end DL
namespace DL
@[simp] theorem up_self {h : MH} {a : PySem.Addr} {o : MO} : up h a o a = some o := up_same
@[simp] theorem al_eq {o : MO} {h : MH} {Q : D → MH → Prop} : al o h Q = ∀ p, h p = none → Q (.ref p) (up h p o) := rfl
end DL
namespace DL
open PySem L2
/-- a comprehension of pure values; the heap grows -/
theorem lc_mapG {t : Tg} {ok : MH → Prop} {cd : DT} {elt : DE} {σ : DS} {K : List D → MH → Prop} {h0 : MH} (f : D → List D) (its acc0 : List D) (hok : ∀ h, Gw h0 h → ok h) (hz : acc0.length + its.length ≤ sizeLine)
    (step : ∀ d ∈ its, ∀ (acc : List D) (h : MH) (N : List D → MH → Prop), acc.length < sizeLine → Gw h0 h → (∀ h', Gw h h' → N (acc ++ f d) h') → bindT t d σ fun σ1 => cd σ1 h fun k h1 =>
      if k = true then elt σ1 h1 fun x h2 => acc.length < sizeLine ∧ N (acc ++ [x]) h2 else N acc h1) (hf : ∀ d ∈ its, (f d).length ≤ 1) (hd : ∀ h', Gw h0 h' → K (acc0 ++ its.flatMap f) h') : lcGo t ok cd elt σ K its acc0 h0 := by
  refine lc_rule (fun r acc h' => Gw h0 h' ∧ ∃ p, its = p ++ r ∧ acc = acc0 ++ p.flatMap f) (fun r acc h' i => hok _ i.1) (fun acc h' i => ?_) (fun d r acc h' N i hN => ?_) its acc0 h0 ⟨.refl, [], rfl, by simp⟩
  · obtain ⟨g, p, e, rfl⟩ := i
    rw [List.append_nil] at e
    subst e
    exact hd _ g
  · obtain ⟨g, p, e, rfl⟩ := i
    have hm : d ∈ its := by rw [e]; exact List.mem_append_right _ List.mem_cons_self
    have hp : (p.flatMap f).length ≤ p.length := by
      have : ∀ q : List D, (∀ x ∈ q, (f x).length ≤ 1) → (q.flatMap f).length ≤ q.length := fun q => by
        induction q with
        | nil => intro _; simp
        | cons x q ih =>
          intro hq
          rw [List.flatMap_cons, List.length_append, List.length_cons]
          have h1 := hq x List.mem_cons_self
          have h2 := ih fun y hy => hq y (List.mem_cons_of_mem _ hy)
          omega
      exact this p fun x hx => hf x (by rw [e]; exact List.mem_append_left _ hx)
    have hl : p.length < its.length := by rw [e, List.length_append, List.length_cons]; omega
    refine step d hm _ _ _ (by rw [List.length_append]; omega) g fun h2 g2 => hN _ _ ⟨g.trans g2, p ++ [d], by rw [e, List.append_assoc]; rfl, ?_⟩
    rw [List.flatMap_append, List.flatMap_cons, List.flatMap_nil, List.append_nil, List.append_assoc]
/-- two clauses, all of every part -/
theorem lc2_map {t : Tg} {ok : MH → Prop} {cd : DT} {inn : DS → List D → MH → (List D → MH → Prop) → Prop} {σ : DS} {K : List D → MH → Prop} (f : D → List D) : ∀ (its acc : List D) (h0 : MH), (∀ h, ok h) → (acc ++ its.flatMap f).length ≤ sizeLine →
    (∀ d ∈ its, ∀ (acc : List D) (h : MH) (N : List D → MH → Prop), (acc ++ f d).length ≤ sizeLine → N (acc ++ f d) h → bindT t d σ fun σ1 => cd σ1 h fun k h1 => if k = true then inn σ1 acc h1 N else N acc h1) → K (acc ++ its.flatMap f) h0 → lcGo2 t ok cd inn σ K its acc h0
  | [], acc, h0, hok, hz, step, hd => ⟨hok _, by simpa using hd⟩
  | d :: r, acc, h0, hok, hz, step, hd => by
    rw [List.flatMap_cons, ← List.append_assoc] at hz hd
    exact ⟨hok _, step d List.mem_cons_self acc h0 _ (by rw [List.length_append] at hz; omega) (lc2_map f r (acc ++ f d) h0 hok hz (fun x hx => step x (List.mem_cons_of_mem _ hx)) hd)⟩
@[simp] theorem isTys_tup {ds : List D} {h : MH} {ts : List Ty} {P : Bool → Prop} : isTys (.tup ds) h ts P = P (ts.any (subTy .tuple)) := rfl
@[simp] theorem isTys_str {z : Str} {h : MH} {ts : List Ty} {P : Bool → Prop} : isTys (.str z) h ts P = P (ts.any (subTy .str)) := rfl
@[simp] theorem isTys_int {z : Int} {h : MH} {ts : List Ty} {P : Bool → Prop} : isTys (.int z) h ts P = P (ts.any (subTy .int)) := rfl
@[simp] theorem isTys_bl {z : Bool} {h : MH} {ts : List Ty} {P : Bool → Prop} : isTys (.bl z) h ts P = P (ts.any (subTy .bool)) := rfl
theorem cut_from {α : Type} (xs : List α) (k : Nat) : cut xs (some (k : Int)) none = xs.drop k := by
  unfold cut
  rw [HT.sIx_none, HT.sIx_nat, List.take_of_length_le (by rw [List.length_drop]; omega)]
  by_cases h : k ≤ xs.length
  · rw [Nat.min_eq_left h]
  · rw [Nat.min_eq_right (by omega), List.drop_length, List.drop_eq_nil_of_le (by omega)]
theorem cut_to {α : Type} (xs : List α) (k : Nat) : cut xs none (some (k : Int)) = xs.take k := by
  unfold cut
  rw [HT.sIx_none, HT.sIx_nat, List.drop_zero, Nat.sub_zero]
  by_cases h : k ≤ xs.length
  · rw [Nat.min_eq_left h]
  · rw [Nat.min_eq_right (by omega), List.take_length, List.take_of_length_le (by omega)]
end DL
namespace DL
theorem flat_pure {α β : Type} (f : α → β) : ∀ l : List α, (l.flatMap fun x => [f x]) = l.map f
  | [] => rfl
  | a :: l => by rw [List.flatMap_cons, flat_pure f l]; rfl
theorem bls_flat {α : Type} (f : α → Bool) (l : List α) : blsOf (l.flatMap fun x => [D.bl (f x)]) = some (l.map f) := by
  rw [flat_pure, show (fun x => D.bl (f x)) = D.bl ∘ f from rfl, ← List.map_map]; exact bls_map _
theorem ints_flat {α : Type} (f : α → Int) (l : List α) : intsOf (l.flatMap fun x => [D.int (f x)]) = some (l.map f) := by
  rw [flat_pure, show (fun x => D.int (f x)) = D.int ∘ f from rfl, ← List.map_map]; exact ints_map _
end DL
namespace DL
open PySem L2
/-- .. ahead of it acc0; the heap stays -/
theorem lc_mapA {t : Tg} {ok : MH → Prop} {cd : DT} {elt : DE} {σ : DS} {K : List D → MH → Prop} {h : MH} (f : D → List D) (its acc0 : List D) (hok : ok h) (hz : (acc0 ++ its.flatMap f).length ≤ sizeLine)
    (step : ∀ d ∈ its, ∀ (acc : List D) (N : List D → MH → Prop), (acc ++ f d).length ≤ sizeLine → N (acc ++ f d) h → bindT t d σ fun σ1 => cd σ1 h fun k h1 =>
      if k = true then elt σ1 h1 fun x h2 => acc.length < sizeLine ∧ N (acc ++ [x]) h2 else N acc h1) (hd : K (acc0 ++ its.flatMap f) h) : lcGo t ok cd elt σ K its acc0 h := by
  refine lc_rule (fun r acc h' => h' = h ∧ ∃ p, its = p ++ r ∧ acc = acc0 ++ p.flatMap f) (fun r acc h' i => i.1 ▸ hok) (fun acc h' i => ?_) (fun d r acc h' N i hN => ?_) its acc0 h ⟨rfl, [], rfl, by simp⟩
  · obtain ⟨rfl, p, e, rfl⟩ := i
    rw [List.append_nil] at e
    subst e
    exact hd
  · obtain ⟨rfl, p, e, rfl⟩ := i
    have hm : d ∈ its := by rw [e]; exact List.mem_append_right _ List.mem_cons_self
    refine step d hm _ _ ?_ (hN _ _ ⟨rfl, p ++ [d], by rw [e, List.append_assoc]; rfl, ?_⟩)
    · rw [e, List.flatMap_append, List.flatMap_cons] at hz
      simp only [List.length_append] at hz ⊢
      omega
    · rw [List.flatMap_append, List.flatMap_cons, List.flatMap_nil, List.append_nil, List.append_assoc]
/-- the parts of a tuple -/
def part : D → List D
  | .tup ds => ds
  | _ => []
end DL
set_option Elab.async false
set_option linter.all false
set_option maxRecDepth 100000
set_option maxHeartbeats 0
namespace LW
open PySem PySem.Spec PyProof.Rows L2 DL
/-- is_whole: 0 thing 1 low 2 high -/
def f_is_whole : Fn := ⟨3, 3,
  [.ret (.and (.isi (.var 0) [.int]) (.and (.not (.isi (.var 0) [.bool])) (.chn .LtE .LtE (.var 1) (.var 0) (.var 2))))]⟩
/-- is_word: 0 thing 1 sign -/
def f_is_word : Fn := ⟨2, 1,
  [.ret (.and (.isi (.var 0) [.str]) (.and (.chn .Lt .LtE (.cst (.int 0)) (.bi .len [.var 0]) (.cst (.int 8))) (.bi .all [.lc (.cmp .In (.var 1) (.cst (.str "abcdefghijklmnopqrstuvwxyz"))) (.nm 1) (.of (.var 0)) none [1]])))]⟩
/-- is_way: 0 thing -/
def f_is_way : Fn := ⟨1, 1,
  [.ret (.and (.callk 0 [.var 0] [] [.inl 0, .inr (.int (-1000000000000000000)), .inr (.int 1000000000000000000)]) (.cmp .In (.var 0) (.tup [.cst (.int 1), .neg (.cst (.int 1))])))]⟩
/-- last_of: 0 stretch 1 word 2 first 3 many 4 way -/
def f_last_of : Fn := ⟨5, 1,
  [.asg (.tup [.nm 1, .nm 2, .nm 3, .nm 4]) (.var 0),
   .ret (.bin .Add (.var 2) (.bin .Mult (.var 4) (.bin .Sub (.var 3) (.cst (.int 1)))))]⟩
/-- is_stretch: 0 thing -/
def f_is_stretch : Fn := ⟨1, 1,
  [.ifs (.or (.not (.val (.isi (.var 0) [.tuple]))) (.or (.cmp .NotEq (.bi .len [.var 0]) (.cst (.int 4))) (.or (.not (.val (.call 1 [.ix (.var 0) (.cst (.int 0))]))) (.not (.val (.call 2 [.ix (.var 0) (.cst (.int 3))]))))))
    [.ret (.cst (.bl false))]
    [],
   .ifs (.or (.not (.val (.callk 0 [.ix (.var 0) (.cst (.int 1))] [.cst (.int 0)] [.inl 0, .inl 1, .inr (.int 1000000000000000000)]))) (.not (.val (.callk 0 [.ix (.var 0) (.cst (.int 2))] [.cst (.int 1), .bin .Add (.cst (.int 1000000000000000000)) (.cst (.int 1))] [.inl 0, .inl 1, .inl 2]))))
    [.ret (.cst (.bl false))]
    [],
   .ret (.chn .LtE .LtE (.cst (.int 0)) (.call 3 [.var 0]) (.cst (.int 1000000000000000000)))]⟩
/-- is_row: 0 thing 1 one -/
def f_is_row : Fn := ⟨2, 1,
  [.ret (.and (.isi (.var 0) [.list, .tuple]) (.bi .all [.lc (.call 4 [.var 1]) (.nm 1) (.of (.var 0)) none [1]]))]⟩
/-- goes_on: 0 stretch 1 other 2 same -/
def f_goes_on : Fn := ⟨3, 2,
  [.asg (.nm 2) (.cmp .Eq (.tup [.ix (.var 0) (.cst (.int 0)), .ix (.var 0) (.cst (.int 3))]) (.tup [.ix (.var 1) (.cst (.int 0)), .ix (.var 1) (.cst (.int 3))])),
   .ret (.and (.var 2) (.cmp .Eq (.ix (.var 1) (.cst (.int 1))) (.bin .Add (.call 3 [.var 0]) (.ix (.var 0) (.cst (.int 3))))))]⟩
/-- joined: 0 row 1 found 2 stretch 3 word 4 first 5 many 6 way -/
def f_joined : Fn := ⟨7, 1,
  [.asg (.nm 1) (.lst []),
   .for (.nm 2) (.of (.var 0))
    [.ifs (.and (.cmp .NotEq (.var 1) (.lst [])) (.val (.call 6 [.ix (.var 1) (.neg (.cst (.int 1))), .var 2])))
      [.asg (.tup [.nm 3, .nm 4, .nm 5, .nm 6]) (.met .pop (.var 1) []),
       .asg (.nm 2) (.tup [.var 3, .var 4, .bin .Add (.var 5) (.ix (.var 2) (.cst (.int 2))), .var 6])]
      [],
     .ex (.met .append (.var 1) [.var 2])],
   .ret (.var 1)]⟩
/-- yards: 0 row 1 stretch -/
def f_yards : Fn := ⟨2, 1,
  [.ret (.bi .sum [.lc (.ix (.var 1) (.cst (.int 2))) (.nm 1) (.of (.var 0)) none [1]])]⟩
/-- spans: 0 standing 1 found 2 word 3 first 4 many 5 way 6 row 7 one 8 last -/
def f_spans : Fn := ⟨9, 1,
  [.asg (.nm 1) (.lst []),
   .for (.tp [2, 3, 4, 5]) (.of (.lc2 (.var 7) (.nm 6) (.of (.var 0)) none (.nm 7) (.of (.var 6)) none [6, 7] [7]))
    [.asg (.nm 8) (.call 3 [.tup [.var 2, .var 3, .var 4, .var 5]]),
     .ex (.met .append (.var 1) [.tup [.var 2, .bi .min [.var 3, .var 8], .bi .max [.var 3, .var 8]]])],
   .ret (.bi .sorted [.var 1])]⟩
/-- are_apart: 0 some 1 one 2 other -/
def f_are_apart : Fn := ⟨3, 1,
  [.ret (.bi .all [.lc (.or (.cmp .NotEq (.ix (.var 1) (.cst (.int 0))) (.ix (.var 2) (.cst (.int 0)))) (.cmp .Lt (.ix (.var 1) (.cst (.int 2))) (.ix (.var 2) (.cst (.int 1))))) (.tp [1, 2]) (.zip (.var 0) (.sl (.var 0) (some (.cst (.int 1))) none)) none [1, 2]])]⟩
/-- is_standing: 0 thing 1 row -/
def f_is_standing : Fn := ⟨2, 1,
  [.ifs (.or (.not (.val (.isi (.var 0) [.tuple]))) (.not (.chn .LtE .LtE (.cst (.int 2)) (.bi .len [.var 0]) (.cst (.int 6)))))
    [.ret (.cst (.bl false))]
    [],
   .ifs (.not (.val (.bi .all [.lc (.and (.isi (.var 1) [.tuple]) (.and (.call 5 [.var 1]) (.cmp .Eq (.bi .list [.var 1]) (.call 7 [.var 1])))) (.nm 1) (.of (.var 0)) none [1]])))
    [.ret (.cst (.bl false))]
    [],
   .ret (.and (.cmp .LtE (.bi .sum [.lc (.call 8 [.var 1]) (.nm 1) (.of (.var 0)) none [1]]) (.cst (.int 1000000000000000000))) (.call 10 [.call 9 [.var 0]]))]⟩
/-- _law_pen: 0 script -/
def f__law_pen : Fn := ⟨1, 1,
  [.ret (.dsp ["cells", "turn", "left"] [.bi .list [.sl (.var 0) none (some (.cst (.int 63)))], .cst (.int 0), .cst (.int 0)])]⟩
/-- _law_draw: 0 pen 1 many 2 digit 3 turn 4 cell 5 primes 6 prime 7 drawn -/
def f__law_draw : Fn := ⟨8, 2,
  [.ifs (.cmp .Gt (.ix (.var 0) (.cst (.str "left"))) (.cst (.int 0)))
    [.asg (.nm 2) (.bin .Mod (.ix (.var 0) (.cst (.str "left"))) (.var 1)),
     .asg (.sub (.var 0) (.cst (.str "left"))) (.bin .FloorDiv (.ix (.var 0) (.cst (.str "left"))) (.var 1)),
     .ret (.var 2)]
    [],
   .asg (.nm 3) (.ix (.var 0) (.cst (.str "turn"))),
   .asg (.sub (.var 0) (.cst (.str "turn"))) (.bin .Add (.var 3) (.cst (.int 1))),
   .asg (.nm 4) (.bin .Add (.bin .Mult (.cst (.int 31)) (.var 3)) (.cst (.int 11))),
   .ifs (.cmp .NotEq (.ix (.var 0) (.cst (.str "cells"))) (.lst []))
    [.asg (.nm 4) (.ix (.ix (.var 0) (.cst (.str "cells"))) (.bin .Mod (.var 3) (.bi .len [.ix (.var 0) (.cst (.str "cells"))])))]
    [],
   .ifs (.and (.cmp .Lt (.var 3) (.bi .len [.ix (.var 0) (.cst (.str "cells"))])) (.cmp .GtE (.bi .abs [.var 4]) (.bin .Pow (.cst (.int 10)) (.cst (.int 18)))))
    [.asg (.sub (.var 0) (.cst (.str "left"))) (.bin .FloorDiv (.bin .Sub (.bi .abs [.var 4]) (.bin .Pow (.cst (.int 10)) (.cst (.int 18)))) (.var 1)),
     .ret (.bin .Mod (.bin .Sub (.bi .abs [.var 4]) (.bin .Pow (.cst (.int 10)) (.cst (.int 18)))) (.var 1))]
    [],
   .asg (.nm 5) (.lst [.cst (.int 2147483647), .cst (.int 2147483629), .cst (.int 2147483587), .cst (.int 2147483579), .cst (.int 2147483563)]),
   .asg (.nm 6) (.ix (.var 5) (.bin .Mod (.var 3) (.cst (.int 5)))),
   .asg (.nm 7) (.bin .Mod (.bin .Add (.bin .Add (.bin .Mult (.bin .Mod (.var 4) (.var 6)) (.cst (.int 48271))) (.bin .Mult (.bin .Mult (.cst (.int 39373)) (.var 3)) (.var 3))) (.cst (.int 29))) (.var 6)),
   .asg (.nm 7) (.bin .Mod (.bin .Mult (.var 7) (.bin .Add (.var 7) (.cst (.int 69621)))) (.ix (.var 5) (.bin .Mod (.bin .Add (.var 3) (.cst (.int 2))) (.cst (.int 5))))),
   .ret (.bin .Mod (.bin .FloorDiv (.bin .Mod (.bin .Mult (.var 7) (.var 7)) (.cst (.int 2147483549))) (.cst (.int 64))) (.var 1))]⟩
/-- _law_pick: 0 pen 1 some -/
def f__law_pick : Fn := ⟨2, 2,
  [.ret (.ix (.var 1) (.call 13 [.var 0, .bi .len [.var 1]]))]⟩
/-- _law_great: 0 pen 1 figures 2 found 3 k -/
def f__law_great : Fn := ⟨4, 2,
  [.asg (.nm 2) (.cst (.int 0)),
   .for (.nm 3) (.rng [.var 1])
    [.asg (.nm 2) (.bin .Add (.bin .Mult (.cst (.int 10)) (.var 2)) (.call 13 [.var 0, .cst (.int 10)]))],
   .ret (.var 2)]⟩
/-- _law_words: 0 pen 1 many 2 letters 3 base 4 k 5 at 6 first 7 step -/
def f__law_words : Fn := ⟨8, 2,
  [.asg (.nm 2) (.cst (.str "abcdefghijklmnopqrstuvwxyz")),
   .asg (.nm 3) (.met .join (.cst (.str "")) [.lc (.call 14 [.var 0, .var 2]) (.nm 4) (.rng [.bin .Add (.cst (.int 1)) (.call 13 [.var 0, .cst (.int 8)])]) none [4]]),
   .asg (.tup [.nm 5, .nm 6]) (.tup [.call 13 [.var 0, .bi .len [.var 3]], .call 13 [.var 0, .cst (.int 26)]]),
   .asg (.nm 7) (.call 14 [.var 0, .lst [.cst (.int 1), .cst (.int 3), .cst (.int 5), .cst (.int 7), .cst (.int 9), .cst (.int 11), .cst (.int 15), .cst (.int 17), .cst (.int 19), .cst (.int 21), .cst (.int 23), .cst (.int 25)]]),
   .ret (.lc (.bin .Add (.bin .Add (.sl (.var 3) none (some (.var 5))) (.ix (.var 2) (.bin .Mod (.bin .Add (.var 6) (.bin .Mult (.var 7) (.var 4))) (.cst (.int 26))))) (.sl (.var 3) (some (.bin .Add (.var 5) (.cst (.int 1)))) none)) (.nm 4) (.rng [.var 1]) none [4])]⟩
/-- _law_turned_about: 0 pen 1 some 2 left 3 k -/
def f__law_turned_about : Fn := ⟨4, 2,
  [.asg (.nm 2) (.bi .list [.var 1]),
   .ret (.lc (.met .pop (.var 2) [.call 13 [.var 0, .bi .len [.var 2]]]) (.nm 3) (.rng [.bi .len [.var 2]]) none [3])]⟩
/-- _law_below: 0 pen 1 bound 2 kind -/
def f__law_below : Fn := ⟨3, 2,
  [.asg (.nm 2) (.call 13 [.var 0, .cst (.int 8)]),
   .ifs (.cmp .Eq (.var 2) (.cst (.int 0)))
    [.ret (.bi .min [.call 13 [.var 0, .cst (.int 9)], .bin .Sub (.var 1) (.cst (.int 1))])]
    [],
   .ifs (.cmp .Eq (.var 2) (.cst (.int 1)))
    [.ret (.bi .max [.cst (.int 0), .bin .Sub (.bin .Sub (.var 1) (.cst (.int 1))) (.call 13 [.var 0, .cst (.int 9)])])]
    [],
   .ret (.bin .Mod (.call 15 [.var 0, .bi .len [.bi .str [.var 1]]]) (.var 1))]⟩
/-- _law_yards: 0 row 1 found 2 word 3 first 4 many 5 way 6 k -/
def f__law_yards : Fn := ⟨7, 1,
  [.asg (.nm 1) (.lst []),
   .for (.tp [2, 3, 4, 5]) (.of (.var 0))
    [.ex (.met .extend (.var 1) [.lc (.tup [.var 2, .bin .Add (.var 3) (.bin .Mult (.var 5) (.var 6)), .var 5]) (.nm 6) (.rng [.var 4]) none [6]])],
   .ret (.var 1)]⟩
/-- _law_is_from: 0 thing 1 low 2 high -/
def f__law_is_from : Fn := ⟨3, 3,
  [.ret (.and (.isi (.var 0) [.int]) (.and (.not (.isi (.var 0) [.bool])) (.chn .LtE .LtE (.var 1) (.var 0) (.var 2))))]⟩
/-- _law_is_word: 0 thing 1 one -/
def f__law_is_word : Fn := ⟨2, 1,
  [.ifs (.or (.not (.val (.isi (.var 0) [.str]))) (.not (.chn .Lt .Lt (.cst (.int 0)) (.bi .len [.var 0]) (.cst (.int 9)))))
    [.ret (.cst (.bl false))]
    [],
   .ret (.cmp .Eq (.lc (.var 1) (.nm 1) (.of (.var 0)) (some (.cmp .NotIn (.var 1) (.cst (.str "abcdefghijklmnopqrstuvwxyz")))) [1]) (.lst []))]⟩
/-- _law_odd: 0 pen 1 some -/
def f__law_odd : Fn := ⟨2, 1,
  [.asg (.nm 1) (.lst [.cst .non, .cst (.bl true), .cst (.bl false), .cst (.int 0), .cst (.int 1), .neg (.cst (.int 1)), .cst (.int 5), .cst (.int 6), .cst (.int 9), .neg (.cst (.int 10)), .bin .Pow (.cst (.int 10)) (.cst (.int 18)), .bin .Add (.bin .Pow (.cst (.int 10)) (.cst (.int 18))) (.cst (.int 1)), .cst (.str ""), .cst (.str "a"), .cst (.str "A"), .cst (.str "wind"), .cst (.str "do"), .cst (.str "abcdefghi")]),
   .ret (.call 14 [.var 0, .bin .Add (.var 1) (.lst [.tup [], .lst [], .dsp [] [], .tup [.cst (.int 1)], .lst [.cst (.str "a")], .tup [.cst (.str "turn"), .cst (.int 0)], .cst (.str "a1"), .cst (.str "zzzzzzzz")])])]⟩
/-- _law_pile: 0 pen 1 words 2 spools 3 most 4 found 5 at 6 wide 7 k 8 word 9 many 10 way 11 first 12 stretch -/
def f__law_pile : Fn := ⟨13, 4,
  [.asg (.tup [.nm 4, .nm 5, .nm 6]) (.tup [.lc (.lst []) (.nm 7) (.rng [.var 2]) none [7], .dsp [] [], .cst (.int 4)]),
   .ifs (.cmp .Eq (.call 13 [.var 0, .cst (.int 6)]) (.cst (.int 0)))
    [.asg (.tup [.nm 3, .nm 6]) (.tup [.cst (.int 24), .cst (.int 1)])]
    [],
   .for (.nm 7) (.rng [.call 13 [.var 0, .bin .Add (.var 3) (.cst (.int 1))]])
    [.asg (.tup [.nm 8, .nm 9, .nm 10]) (.tup [.call 14 [.var 0, .var 1], .bin .Add (.cst (.int 1)) (.call 13 [.var 0, .var 6]), .call 14 [.var 0, .lst [.cst (.int 1), .neg (.cst (.int 1))]]]),
     .asg (.nm 11) (.met .get (.var 5) [.var 8, .call 13 [.var 0, .cst (.int 3)]]),
     .asg (.sub (.var 5) (.var 8)) (.bin .Add (.bin .Add (.var 11) (.var 9)) (.call 13 [.var 0, .cst (.int 2)])),
     .asg (.nm 12) (.ite (.cmp .Eq (.var 10) (.cst (.int 1))) (.tup [.var 8, .var 11, .var 9, .cst (.int 1)]) (.tup [.var 8, .bin .Sub (.bin .Add (.var 11) (.var 9)) (.cst (.int 1)), .var 9, .neg (.cst (.int 1))])),
     .ex (.met .append (.ix (.var 4) (.call 13 [.var 0, .var 2])) [.var 12])],
   .ret (.var 4)]⟩
/-- _law_form_of: 0 row 1 found 2 word 3 number 4 way 5 elder -/
def f__law_form_of : Fn := ⟨6, 1,
  [.asg (.nm 1) (.lst []),
   .for (.tp [2, 3, 4]) (.of (.var 0))
    [.ifs (.and (.cmp .NotEq (.var 1) (.lst [])) (.and (.cmp .Eq (.ix (.ix (.var 1) (.neg (.cst (.int 1)))) (.cst (.int 0))) (.var 2)) (.cmp .Eq (.ix (.ix (.var 1) (.neg (.cst (.int 1)))) (.cst (.int 3))) (.var 4))))
      [.asg (.nm 5) (.ix (.var 1) (.neg (.cst (.int 1)))),
       .ifs (.cmp .Eq (.var 3) (.bin .Add (.ix (.var 5) (.cst (.int 1))) (.bin .Mult (.ix (.var 5) (.cst (.int 2))) (.var 4))))
        [.asg (.sub (.var 1) (.neg (.cst (.int 1)))) (.tup [.var 2, .ix (.var 5) (.cst (.int 1)), .bin .Add (.ix (.var 5) (.cst (.int 2))) (.cst (.int 1)), .var 4]),
         .cnt]
        []]
      [],
     .ex (.met .append (.var 1) [.tup [.var 2, .var 3, .cst (.int 1), .var 4]])],
   .ret (.bi .tuple [.var 1])]⟩
/-- _law_dealt: 0 pen 1 stretches 2 spools 3 found 4 k 5 word 6 low 7 many 8 way 9 row 10 first -/
def f__law_dealt : Fn := ⟨11, 3,
  [.asg (.nm 3) (.lc (.lst []) (.nm 4) (.rng [.var 2]) none [4]),
   .for (.tp [5, 6, 7]) (.of (.call 17 [.var 0, .var 1]))
    [.asg (.nm 8) (.call 14 [.var 0, .lst [.cst (.int 1), .neg (.cst (.int 1))]]),
     .asg (.nm 9) (.ix (.var 3) (.call 13 [.var 0, .var 2])),
     .asg (.nm 10) (.ite (.cmp .Eq (.var 8) (.cst (.int 1))) (.var 6) (.bin .Sub (.bin .Add (.var 6) (.var 7)) (.cst (.int 1)))),
     .ifs (.and (.cmp .NotEq (.var 9) (.lst [])) (.and (.cmp .Eq (.ix (.ix (.var 9) (.neg (.cst (.int 1)))) (.cst (.int 0))) (.var 5)) (.and (.cmp .Eq (.ix (.ix (.var 9) (.neg (.cst (.int 1)))) (.cst (.int 3))) (.var 8)) (.cmp .Eq (.var 10) (.bin .Add (.ix (.ix (.var 9) (.neg (.cst (.int 1)))) (.cst (.int 1))) (.bin .Mult (.ix (.ix (.var 9) (.neg (.cst (.int 1)))) (.cst (.int 2))) (.var 8)))))))
      [.asg (.sub (.var 9) (.neg (.cst (.int 1)))) (.tup [.var 5, .ix (.ix (.var 9) (.neg (.cst (.int 1)))) (.cst (.int 1)), .bin .Add (.ix (.ix (.var 9) (.neg (.cst (.int 1)))) (.cst (.int 2))) (.var 7), .var 8])]
      [.ex (.met .append (.var 9) [.tup [.var 5, .var 10, .var 7, .var 8]])]],
   .ret (.bi .tuple [.lc (.bi .tuple [.var 9]) (.nm 9) (.of (.var 3)) none [9]])]⟩
/-- _law_great_stretches: 0 pen 1 words 2 found 3 at 4 most 5 k 6 word 7 many 8 low -/
def f__law_great_stretches : Fn := ⟨9, 2,
  [.asg (.tup [.nm 2, .nm 3, .nm 4]) (.tup [.lst [], .dsp [] [], .call 14 [.var 0, .lst [.cst (.int 8), .cst (.int 8), .cst (.int 8), .cst (.int 8), .cst (.int 17)]]]),
   .for (.nm 5) (.rng [.call 13 [.var 0, .var 4]])
    [.asg (.tup [.nm 6, .nm 7]) (.tup [.call 14 [.var 0, .var 1], .bin .Add (.cst (.int 1)) (.call 15 [.var 0, .call 14 [.var 0, .lst [.cst (.int 16), .cst (.int 12), .cst (.int 2), .cst (.int 1), .cst (.int 0)]]])]),
     .asg (.nm 8) (.bin .Add (.met .get (.var 3) [.var 6, .call 13 [.var 0, .cst (.int 9)]]) (.call 13 [.var 0, .cst (.int 2)])),
     .asg (.sub (.var 3) (.var 6)) (.bin .Add (.var 8) (.var 7)),
     .ex (.met .append (.var 2) [.tup [.var 6, .var 8, .var 7]])],
   .ret (.var 2)]⟩
/-- _law_great_standing: 0 pen 1 words -/
def f__law_great_standing : Fn := ⟨2, 2,
  [.ret (.call 25 [.var 0, .call 26 [.var 0, .var 1], .bin .Add (.cst (.int 2)) (.call 13 [.var 0, .cst (.int 5)])])]⟩
/-- _law_is_stretch: 0 thing 1 one 2 word 3 first 4 many 5 way 6 is_within -/
def f__law_is_stretch : Fn := ⟨7, 1,
  [.ifs (.or (.not (.val (.isi (.var 0) [.tuple]))) (.or (.cmp .NotEq (.bi .len [.var 0]) (.cst (.int 4))) (.not (.val (.call 21 [.ix (.var 0) (.cst (.int 0))])))))
    [.ret (.cst (.bl false))]
    [],
   .ifs (.cmp .NotEq (.lc (.var 1) (.nm 1) (.of (.sl (.var 0) (some (.cst (.int 1))) none)) (some (.not (.val (.call 20 [.var 1, .neg (.cst (.int 1)), .bin .Add (.bin .Pow (.cst (.int 10)) (.cst (.int 18))) (.cst (.int 1))])))) [1]) (.lst []))
    [.ret (.cst (.bl false))]
    [],
   .asg (.tup [.nm 2, .nm 3, .nm 4, .nm 5]) (.var 0),
   .asg (.nm 6) (.and (.chn .LtE .LtE (.cst (.int 0)) (.var 3) (.bin .Pow (.cst (.int 10)) (.cst (.int 18)))) (.chn .LtE .LtE (.cst (.int 0)) (.bin .Add (.var 3) (.bin .Mult (.var 5) (.bin .Sub (.var 4) (.cst (.int 1))))) (.bin .Pow (.cst (.int 10)) (.cst (.int 18))))),
   .ret (.and (.cmp .In (.var 5) (.tup [.cst (.int 1), .neg (.cst (.int 1))])) (.and (.cmp .Gt (.var 4) (.cst (.int 0))) (.var 6)))]⟩
/-- _law_is_form: 0 row 1 one 2 other -/
def f__law_is_form : Fn := ⟨3, 1,
  [.for (.tp [1, 2]) (.zip (.var 0) (.sl (.var 0) (some (.cst (.int 1))) none))
    [.ifs (.and (.cmp .Eq (.ix (.var 1) (.cst (.int 0))) (.ix (.var 2) (.cst (.int 0)))) (.and (.cmp .Eq (.ix (.var 1) (.cst (.int 3))) (.ix (.var 2) (.cst (.int 3)))) (.cmp .Eq (.ix (.var 2) (.cst (.int 1))) (.bin .Add (.ix (.var 1) (.cst (.int 1))) (.bin .Mult (.ix (.var 1) (.cst (.int 2))) (.ix (.var 1) (.cst (.int 3))))))))
      [.ret (.cst (.bl false))]
      []],
   .ret (.cst (.bl true))]⟩
/-- _law_is_standing: 0 thing 1 lines 2 row 3 one 4 word 5 first 6 many 7 way 8 other -/
def f__law_is_standing : Fn := ⟨9, 1,
  [.ifs (.or (.not (.val (.isi (.var 0) [.tuple]))) (.not (.chn .LtE .LtE (.cst (.int 2)) (.bi .len [.var 0]) (.cst (.int 6)))))
    [.ret (.cst (.bl false))]
    [],
   .asg (.nm 1) (.lst []),
   .for (.nm 2) (.of (.var 0))
    [.ifs (.or (.not (.val (.isi (.var 2) [.tuple]))) (.cmp .NotEq (.lc (.var 3) (.nm 3) (.of (.var 2)) (some (.not (.val (.call 28 [.var 3])))) [3]) (.lst [])))
      [.ret (.cst (.bl false))]
      [],
     .ifs (.not (.val (.call 29 [.var 2])))
      [.ret (.cst (.bl false))]
      [],
     .asg (.nm 1) (.bin .Add (.var 1) (.lc (.tup [.var 4, .bi .min [.var 5, .bin .Add (.var 5) (.bin .Mult (.var 7) (.bin .Sub (.var 6) (.cst (.int 1))))], .var 6]) (.tp [4, 5, 6, 7]) (.of (.var 2)) none [4, 5, 6, 7]))],
   .asg (.nm 1) (.bi .sorted [.var 1]),
   .ifs (.cmp .Gt (.bi .sum [.lc (.ix (.var 3) (.cst (.int 2))) (.nm 3) (.of (.var 1)) none [3]]) (.bin .Pow (.cst (.int 10)) (.cst (.int 18))))
    [.ret (.cst (.bl false))]
    [],
   .ret (.cmp .Eq (.lc (.var 3) (.tp [3, 8]) (.zip (.var 1) (.sl (.var 1) (some (.cst (.int 1))) none)) (some (.and (.cmp .Eq (.ix (.var 3) (.cst (.int 0))) (.ix (.var 8) (.cst (.int 0)))) (.cmp .Gt (.bin .Add (.ix (.var 3) (.cst (.int 1))) (.ix (.var 3) (.cst (.int 2)))) (.ix (.var 8) (.cst (.int 1)))))) [3, 8]) (.lst []))]⟩
/-- _law_bent_row: 0 pen 1 row 2 at 3 lot 4 word 5 first 6 many 7 way 8 last 9 parts 10 other 11 k -/
def f__law_bent_row : Fn := ⟨12, 2,
  [.ifs (.cmp .Eq (.var 1) (.tup []))
    [.ret (.call 14 [.var 0, .lst [.lst [], .tup [.cst (.str "a")], .tup [.tup [.cst (.str "a"), .cst (.int 0), .cst (.int 1), .cst (.int 1)]], .tup [.tup []], .cst .non, .tup [.tup [.cst (.str "a"), .cst (.int 0), .cst (.int 1)]]]])]
    [],
   .asg (.tup [.nm 2, .nm 3]) (.tup [.call 13 [.var 0, .bi .len [.var 1]], .call 13 [.var 0, .cst (.int 7)]]),
   .asg (.tup [.nm 4, .nm 5, .nm 6, .nm 7]) (.ix (.var 1) (.var 2)),
   .asg (.nm 8) (.bin .Add (.var 5) (.bin .Mult (.var 7) (.bin .Sub (.var 6) (.cst (.int 1))))),
   .ifs (.and (.cmp .Eq (.var 3) (.cst (.int 0))) (.cmp .Gt (.var 6) (.cst (.int 1))))
    [.asg (.nm 9) (.tup [.tup [.var 4, .var 5, .cst (.int 1), .var 7], .tup [.var 4, .bin .Add (.var 5) (.var 7), .bin .Sub (.var 6) (.cst (.int 1)), .var 7]]),
     .ret (.bin .Add (.bin .Add (.sl (.var 1) none (some (.var 2))) (.var 9)) (.sl (.var 1) (some (.bin .Add (.var 2) (.cst (.int 1)))) none))]
    [],
   .ifs (.cmp .Eq (.var 3) (.cst (.int 1)))
    [.asg (.nm 10) (.call 14 [.var 0, .lst [.var 5, .var 8, .bin .Add (.bi .min [.var 5, .var 8]) (.call 18 [.var 0, .var 6]), .bin .Add (.bi .max [.var 5, .var 8]) (.cst (.int 1))]]),
     .ret (.bin .Add (.var 1) (.tup [.tup [.var 4, .bi .min [.var 10, .bin .Pow (.cst (.int 10)) (.cst (.int 18))], .cst (.int 1), .call 14 [.var 0, .lst [.cst (.int 1), .neg (.cst (.int 1))]]]]))]
    [],
   .ifs (.cmp .Eq (.var 3) (.cst (.int 2)))
    [.ret (.bi .list [.var 1])]
    [],
   .ifs (.cmp .Eq (.var 3) (.cst (.int 3)))
    [.ret (.bin .Add (.bin .Add (.sl (.var 1) none (some (.var 2))) (.tup [.bi .list [.ix (.var 1) (.var 2)]])) (.sl (.var 1) (some (.bin .Add (.var 2) (.cst (.int 1)))) none))]
    [],
   .asg (.nm 11) (.call 13 [.var 0, .cst (.int 4)]),
   .asg (.nm 10) (.call 22 [.var 0]),
   .ifs (.and (.cmp .Gt (.var 3) (.cst (.int 4))) (.cmp .Gt (.var 11) (.cst (.int 0))))
    [.asg (.nm 10) (.bin .Add (.ix (.ix (.var 1) (.var 2)) (.var 11)) (.call 14 [.var 0, .lst [.cst (.int 1), .neg (.cst (.int 1)), .cst (.int 2)]]))]
    [],
   .ret (.bin .Add (.bin .Add (.sl (.var 1) none (some (.var 2))) (.tup [.bin .Add (.bin .Add (.sl (.ix (.var 1) (.var 2)) none (some (.var 11))) (.tup [.var 10])) (.sl (.ix (.var 1) (.var 2)) (some (.bin .Add (.var 11) (.cst (.int 1)))) none)])) (.sl (.var 1) (some (.bin .Add (.var 2) (.cst (.int 1)))) none))]⟩
/-- _law_bent: 0 pen 1 standing 2 at 3 lot -/
def f__law_bent : Fn := ⟨4, 2,
  [.asg (.tup [.nm 2, .nm 3]) (.tup [.call 13 [.var 0, .bi .len [.var 1]], .call 13 [.var 0, .cst (.int 9)]]),
   .ifs (.cmp .Lt (.var 3) (.cst (.int 5)))
    [.ret (.bin .Add (.bin .Add (.sl (.var 1) none (some (.var 2))) (.tup [.call 31 [.var 0, .ix (.var 1) (.var 2)]])) (.sl (.var 1) (some (.bin .Add (.var 2) (.cst (.int 1)))) none))]
    [],
   .ifs (.cmp .Eq (.var 3) (.cst (.int 5)))
    [.ret (.call 14 [.var 0, .lst [.bi .list [.var 1], .sl (.var 1) none (some (.cst (.int 1))), .call 22 [.var 0], .bin .Add (.var 1) (.bin .Mult (.tup [.tup []]) (.bin .Sub (.cst (.int 7)) (.bi .len [.var 1])))]])]
    [],
   .ifs (.cmp .Eq (.var 3) (.cst (.int 6)))
    [.ret (.bin .Add (.bin .Add (.sl (.var 1) none (some (.var 2))) (.tup [.ix (.var 1) (.cst (.int 0))])) (.sl (.var 1) (some (.bin .Add (.var 2) (.cst (.int 1)))) none))]
    [],
   .ret (.ite (.cmp .Eq (.var 3) (.cst (.int 7))) (.bin .Add (.bin .Add (.sl (.var 1) none (some (.var 2))) (.tup [.call 22 [.var 0]])) (.sl (.var 1) (some (.bin .Add (.var 2) (.cst (.int 1)))) none)) (.bin .Add (.var 1) (.bin .Mult (.tup [.tup []]) (.bin .Sub (.cst (.int 6)) (.bi .len [.var 1])))))]⟩
/-- law: 0 script 1 pen 2 turn 3 words 4 small 5 standing 6 row 7 great 8 thing 9 kept 10 told 11 bent 12 far 13 full 14 more -/
def f_law : Fn := ⟨15, 1,
  [.asg (.nm 1) (.call 12 [.var 0]),
   .for (.nm 2) (.rng [.cst (.int 6)])
    [.asg (.nm 3) (.call 16 [.var 1, .cst (.int 3)]),
     .asg (.nm 4) (.call 23 [.var 1, .var 3, .bin .Add (.cst (.int 2)) (.call 13 [.var 1, .cst (.int 5)]), .cst (.int 8)]),
     .asg (.nm 5) (.bi .tuple [.lc (.call 24 [.call 19 [.var 6]]) (.nm 6) (.of (.var 4)) none [6]]),
     .asg (.nm 7) (.call 27 [.var 1, .var 3]),
     .for (.nm 8) (.of (.lst [.var 5, .var 7, .call 32 [.var 1, .var 5], .call 32 [.var 1, .var 7], .call 22 [.var 1]]))
      [.asg (.nm 9) (.bi .repr [.var 8]),
       .asg (.nm 10) (.call 11 [.var 8]),
       .ifs (.or (.not (.val (.isi (.var 10) [.bool]))) (.or (.cmp .NotEq (.var 10) (.call 30 [.var 8])) (.cmp .NotEq (.bi .repr [.var 8]) (.var 9))))
        [.ret (.cst (.bl false))]
        [],
       .asg (.nm 11) (.ite (.and (.val (.isi (.var 8) [.tuple])) (.val (.call 30 [.var 8]))) (.call 32 [.var 1, .var 8]) (.var 8)),
       .ifs (.cmp .NotEq (.call 11 [.var 11]) (.call 30 [.var 11]))
        [.ret (.cst (.bl false))]
        []]],
   .asg (.nm 12) (.bin .Sub (.bin .Pow (.cst (.int 10)) (.cst (.int 18))) (.call 15 [.var 1, .cst (.int 17)])),
   .asg (.nm 13) (.tup [.tup [.tup [.cst (.str "a"), .var 12, .var 12, .neg (.cst (.int 1))]], .ite (.cmp .Lt (.var 12) (.bin .Pow (.cst (.int 10)) (.cst (.int 18)))) (.tup [.tup [.cst (.str "b"), .cst (.int 0), .bin .Sub (.bin .Pow (.cst (.int 10)) (.cst (.int 18))) (.var 12), .cst (.int 1)]]) (.tup [])]),
   .asg (.nm 14) (.bin .Add (.sl (.var 13) none (some (.cst (.int 1)))) (.tup [.bin .Add (.ix (.var 13) (.cst (.int 1))) (.tup [.tup [.cst (.str "c"), .cst (.int 7), .cst (.int 1), .cst (.int 1)]])])),
   .ifs (.or (.cmp .IsNot (.call 11 [.var 13]) (.cst (.bl true))) (.cmp .IsNot (.call 11 [.var 14]) (.cst (.bl false))))
    [.ret (.cst (.bl false))]
    [],
   .ret (.and (.cmp .Is (.call 11 [.tup [.tup [], .tup []]]) (.cst (.bl true))) (.cmp .Is (.call 11 [.tup [.tup []]]) (.cst (.bl false))))]⟩
def prog : List Fn := [f_is_whole, f_is_word, f_is_way, f_last_of, f_is_stretch, f_is_row, f_goes_on, f_joined, f_yards, f_spans, f_are_apart, f_is_standing, f__law_pen, f__law_draw, f__law_pick, f__law_great, f__law_words, f__law_turned_about, f__law_below, f__law_yards, f__law_is_from, f__law_is_word, f__law_odd, f__law_pile, f__law_form_of, f__law_dealt, f__law_great_stretches, f__law_great_standing, f__law_is_stretch, f__law_is_form, f__law_is_standing, f__law_bent_row, f__law_bent, f_law]
theorem at_is_whole : prog[0]? = some f_is_whole := rfl
theorem at_is_word : prog[1]? = some f_is_word := rfl
theorem at_is_way : prog[2]? = some f_is_way := rfl
theorem at_last_of : prog[3]? = some f_last_of := rfl
theorem at_is_stretch : prog[4]? = some f_is_stretch := rfl
theorem at_is_row : prog[5]? = some f_is_row := rfl
theorem at_goes_on : prog[6]? = some f_goes_on := rfl
theorem at_joined : prog[7]? = some f_joined := rfl
theorem at_yards : prog[8]? = some f_yards := rfl
theorem at_spans : prog[9]? = some f_spans := rfl
theorem at_are_apart : prog[10]? = some f_are_apart := rfl
theorem at_is_standing : prog[11]? = some f_is_standing := rfl
theorem at__law_pen : prog[12]? = some f__law_pen := rfl
theorem at__law_draw : prog[13]? = some f__law_draw := rfl
theorem at__law_pick : prog[14]? = some f__law_pick := rfl
theorem at__law_great : prog[15]? = some f__law_great := rfl
theorem at__law_words : prog[16]? = some f__law_words := rfl
theorem at__law_turned_about : prog[17]? = some f__law_turned_about := rfl
theorem at__law_below : prog[18]? = some f__law_below := rfl
theorem at__law_yards : prog[19]? = some f__law_yards := rfl
theorem at__law_is_from : prog[20]? = some f__law_is_from := rfl
theorem at__law_is_word : prog[21]? = some f__law_is_word := rfl
theorem at__law_odd : prog[22]? = some f__law_odd := rfl
theorem at__law_pile : prog[23]? = some f__law_pile := rfl
theorem at__law_form_of : prog[24]? = some f__law_form_of := rfl
theorem at__law_dealt : prog[25]? = some f__law_dealt := rfl
theorem at__law_great_stretches : prog[26]? = some f__law_great_stretches := rfl
theorem at__law_great_standing : prog[27]? = some f__law_great_standing := rfl
theorem at__law_is_stretch : prog[28]? = some f__law_is_stretch := rfl
theorem at__law_is_form : prog[29]? = some f__law_is_form := rfl
theorem at__law_is_standing : prog[30]? = some f__law_is_standing := rfl
theorem at__law_bent_row : prog[31]? = some f__law_bent_row := rfl
theorem at__law_bent : prog[32]? = some f__law_bent := rfl
theorem at_law : prog[33]? = some f_law := rfl
end LW
set_option Elab.async false
set_option linter.all false
set_option maxRecDepth 100000
set_option maxHeartbeats 0
namespace LW
open PySem PySem.Spec PyProof.Rows L2 DL
def top (i : Nat) : Stmt := PySem.Challenge.pw_spoolrounds_k75_what_is_a_standing.main.body.getD i (.Pass ⟨0, 0, 0, 0⟩)
def dd (i : Nat) (x : Str) (dfl : List He.Dv) : He.DefD := ⟨(x, none), x, x, defArgs (top i), defBody (top i), defScope (top i), dfl, []⟩
def d_is_whole : He.DefD := dd 4 "is_whole" [.int (-1000000000000000000), .int 1000000000000000000]
def d_is_word : He.DefD := dd 5 "is_word" []
def d_is_way : He.DefD := dd 6 "is_way" []
def d_last_of : He.DefD := dd 7 "last_of" []
def d_is_stretch : He.DefD := dd 8 "is_stretch" []
def d_is_row : He.DefD := dd 9 "is_row" []
def d_goes_on : He.DefD := dd 10 "goes_on" []
def d_joined : He.DefD := dd 11 "joined" []
def d_yards : He.DefD := dd 12 "yards" []
def d_spans : He.DefD := dd 16 "spans" []
def d_are_apart : He.DefD := dd 17 "are_apart" []
def d_is_standing : He.DefD := dd 18 "is_standing" []
def d__law_pen : He.DefD := dd 20 "_law_pen" []
def d__law_draw : He.DefD := dd 21 "_law_draw" []
def d__law_pick : He.DefD := dd 22 "_law_pick" []
def d__law_great : He.DefD := dd 23 "_law_great" []
def d__law_words : He.DefD := dd 24 "_law_words" []
def d__law_turned_about : He.DefD := dd 25 "_law_turned_about" []
def d__law_below : He.DefD := dd 26 "_law_below" []
def d__law_yards : He.DefD := dd 27 "_law_yards" []
def d__law_is_from : He.DefD := dd 28 "_law_is_from" []
def d__law_is_word : He.DefD := dd 29 "_law_is_word" []
def d__law_odd : He.DefD := dd 30 "_law_odd" []
def d__law_pile : He.DefD := dd 31 "_law_pile" []
def d__law_form_of : He.DefD := dd 32 "_law_form_of" []
def d__law_dealt : He.DefD := dd 33 "_law_dealt" []
def d__law_great_stretches : He.DefD := dd 34 "_law_great_stretches" []
def d__law_great_standing : He.DefD := dd 35 "_law_great_standing" []
def d__law_is_stretch : He.DefD := dd 36 "_law_is_stretch" []
def d__law_is_form : He.DefD := dd 37 "_law_is_form" []
def d__law_is_standing : He.DefD := dd 38 "_law_is_standing" []
def d__law_bent_row : He.DefD := dd 39 "_law_bent_row" []
def d__law_bent : He.DefD := dd 40 "_law_bent" []
def d_law : He.DefD := dd 41 "law" []
def fn : List He.DefD := [d_is_whole, d_is_word, d_is_way, d_last_of, d_is_stretch, d_is_row, d_goes_on, d_joined, d_yards, d_spans, d_are_apart, d_is_standing, d__law_pen, d__law_draw, d__law_pick, d__law_great, d__law_words, d__law_turned_about, d__law_below, d__law_yards, d__law_is_from, d__law_is_word, d__law_odd, d__law_pile, d__law_form_of, d__law_dealt, d__law_great_stretches, d__law_great_standing, d__law_is_stretch, d__law_is_form, d__law_is_standing, d__law_bent_row, d__law_bent, d_law]
def gnames0 : List Str := ["is_whole", "is_word", "is_way", "last_of", "is_stretch", "is_row", "goes_on", "joined", "yards", "spans", "are_apart", "is_standing"]
def gnames1 : List Str := ["_law_pen", "_law_draw", "_law_pick", "_law_great", "_law_words", "_law_turned_about", "_law_below", "_law_yards", "_law_is_from", "_law_is_word", "_law_odd", "_law_pile"]
def gnames2 : List Str := ["_law_form_of", "_law_dealt", "_law_great_stretches", "_law_great_standing", "_law_is_stretch", "_law_is_form", "_law_is_standing", "_law_bent_row", "_law_bent", "law"]
def gnames : List Str := gnames0 ++ gnames1 ++ gnames2
def nm0 : List Str := ["__name__", "LETTERS", "MOST_LETTERS", "MOST", "is_whole", "is_word", "is_way", "last_of", "is_stretch", "is_row", "goes_on", "joined"]
def nm1 : List Str := ["yards", "LEAST_SPOOLS", "MOST_SPOOLS", "spans", "are_apart", "is_standing", "_law_pen", "_law_draw", "_law_pick", "_law_great", "_law_words", "_law_turned_about"]
def nm2 : List Str := ["_law_below", "_law_yards", "_law_is_from", "_law_is_word", "_law_odd", "_law_pile", "_law_form_of", "_law_dealt", "_law_great_stretches", "_law_great_standing", "_law_is_stretch", "_law_is_form"]
def nm3 : List Str := ["_law_is_standing", "_law_bent_row", "_law_bent"]
def nm : List Str := nm0 ++ nm1 ++ nm2 ++ nm3
def rw (d : He.DefD) (N ps : List Str) : DL.Row := ⟨d.name, d.qual, d.params, d.body, d.scope, N, ps⟩
def r_is_whole : DL.Row := rw d_is_whole ["thing", "low", "high"] ["thing", "low", "high"]
def r_is_word : DL.Row := rw d_is_word ["thing", "sign"] ["thing"]
def r_is_way : DL.Row := rw d_is_way ["thing"] ["thing"]
def r_last_of : DL.Row := rw d_last_of ["stretch", "word", "first", "many", "way"] ["stretch"]
def r_is_stretch : DL.Row := rw d_is_stretch ["thing"] ["thing"]
def r_is_row : DL.Row := rw d_is_row ["thing", "one"] ["thing"]
def r_goes_on : DL.Row := rw d_goes_on ["stretch", "other", "same"] ["stretch", "other"]
def r_joined : DL.Row := rw d_joined ["row", "found", "stretch", "word", "first", "many", "way"] ["row"]
def r_yards : DL.Row := rw d_yards ["row", "stretch"] ["row"]
def r_spans : DL.Row := rw d_spans ["standing", "found", "word", "first", "many", "way", "row", "one", "last"] ["standing"]
def r_are_apart : DL.Row := rw d_are_apart ["some", "one", "other"] ["some"]
def r_is_standing : DL.Row := rw d_is_standing ["thing", "row"] ["thing"]
def r__law_pen : DL.Row := rw d__law_pen ["script"] ["script"]
def r__law_draw : DL.Row := rw d__law_draw ["pen", "many", "digit", "turn", "cell", "primes", "prime", "drawn"] ["pen", "many"]
def r__law_pick : DL.Row := rw d__law_pick ["pen", "some"] ["pen", "some"]
def r__law_great : DL.Row := rw d__law_great ["pen", "figures", "found", "k"] ["pen", "figures"]
def r__law_words : DL.Row := rw d__law_words ["pen", "many", "letters", "base", "k", "at", "first", "step"] ["pen", "many"]
def r__law_turned_about : DL.Row := rw d__law_turned_about ["pen", "some", "left", "k"] ["pen", "some"]
def r__law_below : DL.Row := rw d__law_below ["pen", "bound", "kind"] ["pen", "bound"]
def r__law_yards : DL.Row := rw d__law_yards ["row", "found", "word", "first", "many", "way", "k"] ["row"]
def r__law_is_from : DL.Row := rw d__law_is_from ["thing", "low", "high"] ["thing", "low", "high"]
def r__law_is_word : DL.Row := rw d__law_is_word ["thing", "one"] ["thing"]
def r__law_odd : DL.Row := rw d__law_odd ["pen", "some"] ["pen"]
def r__law_pile : DL.Row := rw d__law_pile ["pen", "words", "spools", "most", "found", "at", "wide", "k", "word", "many", "way", "first", "stretch"] ["pen", "words", "spools", "most"]
def r__law_form_of : DL.Row := rw d__law_form_of ["row", "found", "word", "number", "way", "elder"] ["row"]
def r__law_dealt : DL.Row := rw d__law_dealt ["pen", "stretches", "spools", "found", "k", "word", "low", "many", "way", "row", "first"] ["pen", "stretches", "spools"]
def r__law_great_stretches : DL.Row := rw d__law_great_stretches ["pen", "words", "found", "at", "most", "k", "word", "many", "low"] ["pen", "words"]
def r__law_great_standing : DL.Row := rw d__law_great_standing ["pen", "words"] ["pen", "words"]
def r__law_is_stretch : DL.Row := rw d__law_is_stretch ["thing", "one", "word", "first", "many", "way", "is_within"] ["thing"]
def r__law_is_form : DL.Row := rw d__law_is_form ["row", "one", "other"] ["row"]
def r__law_is_standing : DL.Row := rw d__law_is_standing ["thing", "lines", "row", "one", "word", "first", "many", "way", "other"] ["thing"]
def r__law_bent_row : DL.Row := rw d__law_bent_row ["pen", "row", "at", "lot", "word", "first", "many", "way", "last", "parts", "other", "k"] ["pen", "row"]
def r__law_bent : DL.Row := rw d__law_bent ["pen", "standing", "at", "lot"] ["pen", "standing"]
def r_law : DL.Row := rw d_law ["script", "pen", "turn", "words", "small", "standing", "row", "great", "thing", "kept", "told", "bent", "far", "full", "more"] ["script"]
def rows : List DL.Row := [r_is_whole, r_is_word, r_is_way, r_last_of, r_is_stretch, r_is_row, r_goes_on, r_joined, r_yards, r_spans, r_are_apart, r_is_standing, r__law_pen, r__law_draw, r__law_pick, r__law_great, r__law_words, r__law_turned_about, r__law_below, r__law_yards, r__law_is_from, r__law_is_word, r__law_odd, r__law_pile, r__law_form_of, r__law_dealt, r__law_great_stretches, r__law_great_standing, r__law_is_stretch, r__law_is_form, r__law_is_standing, r__law_bent_row, r__law_bent, r_law]
def p0 : Pat := ⟨"is_whole", 0, 1, [], [.inl 0, .inr (.int (-1000000000000000000)), .inr (.int 1000000000000000000)]⟩
def p1 : Pat := ⟨"is_way", 2, 1, [], [.inl 0]⟩
def p2 : Pat := ⟨"is_word", 1, 1, [], [.inl 0]⟩
def p3 : Pat := ⟨"is_whole", 0, 1, ["low", "high"], [.inl 0, .inl 1, .inl 2]⟩
def p4 : Pat := ⟨"is_whole", 0, 1, ["low"], [.inl 0, .inl 1, .inr (.int 1000000000000000000)]⟩
def p5 : Pat := ⟨"last_of", 3, 1, [], [.inl 0]⟩
def p6 : Pat := ⟨"is_stretch", 4, 1, [], [.inl 0]⟩
def p7 : Pat := ⟨"goes_on", 6, 2, [], [.inl 0, .inl 1]⟩
def p8 : Pat := ⟨"joined", 7, 1, [], [.inl 0]⟩
def p9 : Pat := ⟨"is_row", 5, 1, [], [.inl 0]⟩
def p10 : Pat := ⟨"are_apart", 10, 1, [], [.inl 0]⟩
def p11 : Pat := ⟨"spans", 9, 1, [], [.inl 0]⟩
def p12 : Pat := ⟨"yards", 8, 1, [], [.inl 0]⟩
def p13 : Pat := ⟨"_law_draw", 13, 2, [], [.inl 0, .inl 1]⟩
def p14 : Pat := ⟨"_law_pick", 14, 2, [], [.inl 0, .inl 1]⟩
def p15 : Pat := ⟨"_law_great", 15, 2, [], [.inl 0, .inl 1]⟩
def p16 : Pat := ⟨"_law_turned_about", 17, 2, [], [.inl 0, .inl 1]⟩
def p17 : Pat := ⟨"_law_dealt", 25, 3, [], [.inl 0, .inl 1, .inl 2]⟩
def p18 : Pat := ⟨"_law_great_stretches", 26, 2, [], [.inl 0, .inl 1]⟩
def p19 : Pat := ⟨"_law_is_word", 21, 1, [], [.inl 0]⟩
def p20 : Pat := ⟨"_law_is_from", 20, 3, [], [.inl 0, .inl 1, .inl 2]⟩
def p21 : Pat := ⟨"_law_is_stretch", 28, 1, [], [.inl 0]⟩
def p22 : Pat := ⟨"_law_is_form", 29, 1, [], [.inl 0]⟩
def p23 : Pat := ⟨"_law_below", 18, 2, [], [.inl 0, .inl 1]⟩
def p24 : Pat := ⟨"_law_odd", 22, 1, [], [.inl 0]⟩
def p25 : Pat := ⟨"_law_bent_row", 31, 2, [], [.inl 0, .inl 1]⟩
def p26 : Pat := ⟨"_law_pen", 12, 1, [], [.inl 0]⟩
def p27 : Pat := ⟨"_law_words", 16, 2, [], [.inl 0, .inl 1]⟩
def p28 : Pat := ⟨"_law_pile", 23, 4, [], [.inl 0, .inl 1, .inl 2, .inl 3]⟩
def p29 : Pat := ⟨"_law_form_of", 24, 1, [], [.inl 0]⟩
def p30 : Pat := ⟨"_law_yards", 19, 1, [], [.inl 0]⟩
def p31 : Pat := ⟨"_law_great_standing", 27, 2, [], [.inl 0, .inl 1]⟩
def p32 : Pat := ⟨"_law_bent", 32, 2, [], [.inl 0, .inl 1]⟩
def p33 : Pat := ⟨"is_standing", 11, 1, [], [.inl 0]⟩
def p34 : Pat := ⟨"_law_is_standing", 30, 1, [], [.inl 0]⟩
def pats : List Pat := [p0, p1, p2, p3, p4, p5, p6, p7, p8, p9, p10, p11, p12, p13, p14, p15, p16, p17, p18, p19, p20, p21, p22, p23, p24, p25, p26, p27, p28, p29, p30, p31, p32, p33, p34]
def cI : List (Str × Int) := [("MOST_LETTERS", 8), ("MOST", 1000000000000000000), ("LEAST_SPOOLS", 2), ("MOST_SPOOLS", 6)]
def cS : List (Str × Str) := [("LETTERS", "abcdefghijklmnopqrstuvwxyz")]
def cF : List Str := ["abs", "all", "bool", "int", "isinstance", "len", "list", "max", "min", "range", "repr", "sorted", "str", "sum", "tuple", "zip"]
def ctx : DL.Ctx := ⟨[], ⟨.function, [], false, false, []⟩, true, pats, cI, cS, cF⟩
def fa : List He.Fa := faOf gnames ctx.cF ctx.cI ctx.cS
theorem checked : rowsC ctx rows prog = true := by decide +kernel
theorem pb0 : PB rows r_is_whole d_is_whole p0 := pb_dfl [(0, 0), (1, 0), (1, 1)] rfl (List.cons_ne_nil _ _) (by decide +kernel) fun _ _ _ _ _ _ _ us its ws l1 l2 l3 => match us, its, ws, l1, l2, l3 with | [_], [_, _], [], _, _, _ => ⟨_, rfl, rfl⟩
theorem pb1 : PB rows r_is_way d_is_way p1 := pb_plain rfl rfl rfl rfl rfl fun _ _ _ _ _ _ us hl => match us, hl with | [_], _ => rfl
theorem pb2 : PB rows r_is_word d_is_word p2 := pb_plain rfl rfl rfl rfl rfl fun _ _ _ _ _ _ us hl => match us, hl with | [_], _ => rfl
theorem pb3 : PB rows r_is_whole d_is_whole p3 := pb_dfl [(0, 0), (2, 0), (2, 1)] rfl (List.cons_ne_nil _ _) (by decide +kernel) fun _ _ _ _ _ _ _ us its ws l1 l2 l3 => match us, its, ws, l1, l2, l3 with | [_], [_, _], [_, _], _, _, _ => ⟨_, rfl, rfl⟩
theorem pb4 : PB rows r_is_whole d_is_whole p4 := pb_dfl [(0, 0), (2, 0), (1, 1)] rfl (List.cons_ne_nil _ _) (by decide +kernel) fun _ _ _ _ _ _ _ us its ws l1 l2 l3 => match us, its, ws, l1, l2, l3 with | [_], [_, _], [_], _, _, _ => ⟨_, rfl, rfl⟩
theorem pb5 : PB rows r_last_of d_last_of p5 := pb_plain rfl rfl rfl rfl rfl fun _ _ _ _ _ _ us hl => match us, hl with | [_], _ => rfl
theorem pb6 : PB rows r_is_stretch d_is_stretch p6 := pb_plain rfl rfl rfl rfl rfl fun _ _ _ _ _ _ us hl => match us, hl with | [_], _ => rfl
theorem pb7 : PB rows r_goes_on d_goes_on p7 := pb_plain rfl rfl rfl rfl rfl fun _ _ _ _ _ _ us hl => match us, hl with | [_, _], _ => rfl
theorem pb8 : PB rows r_joined d_joined p8 := pb_plain rfl rfl rfl rfl rfl fun _ _ _ _ _ _ us hl => match us, hl with | [_], _ => rfl
theorem pb9 : PB rows r_is_row d_is_row p9 := pb_plain rfl rfl rfl rfl rfl fun _ _ _ _ _ _ us hl => match us, hl with | [_], _ => rfl
theorem pb10 : PB rows r_are_apart d_are_apart p10 := pb_plain rfl rfl rfl rfl rfl fun _ _ _ _ _ _ us hl => match us, hl with | [_], _ => rfl
theorem pb11 : PB rows r_spans d_spans p11 := pb_plain rfl rfl rfl rfl rfl fun _ _ _ _ _ _ us hl => match us, hl with | [_], _ => rfl
theorem pb12 : PB rows r_yards d_yards p12 := pb_plain rfl rfl rfl rfl rfl fun _ _ _ _ _ _ us hl => match us, hl with | [_], _ => rfl
theorem pb13 : PB rows r__law_draw d__law_draw p13 := pb_plain rfl rfl rfl rfl rfl fun _ _ _ _ _ _ us hl => match us, hl with | [_, _], _ => rfl
theorem pb14 : PB rows r__law_pick d__law_pick p14 := pb_plain rfl rfl rfl rfl rfl fun _ _ _ _ _ _ us hl => match us, hl with | [_, _], _ => rfl
theorem pb15 : PB rows r__law_great d__law_great p15 := pb_plain rfl rfl rfl rfl rfl fun _ _ _ _ _ _ us hl => match us, hl with | [_, _], _ => rfl
theorem pb16 : PB rows r__law_turned_about d__law_turned_about p16 := pb_plain rfl rfl rfl rfl rfl fun _ _ _ _ _ _ us hl => match us, hl with | [_, _], _ => rfl
theorem pb17 : PB rows r__law_dealt d__law_dealt p17 := pb_plain rfl rfl rfl rfl rfl fun _ _ _ _ _ _ us hl => match us, hl with | [_, _, _], _ => rfl
theorem pb18 : PB rows r__law_great_stretches d__law_great_stretches p18 := pb_plain rfl rfl rfl rfl rfl fun _ _ _ _ _ _ us hl => match us, hl with | [_, _], _ => rfl
theorem pb19 : PB rows r__law_is_word d__law_is_word p19 := pb_plain rfl rfl rfl rfl rfl fun _ _ _ _ _ _ us hl => match us, hl with | [_], _ => rfl
theorem pb20 : PB rows r__law_is_from d__law_is_from p20 := pb_plain rfl rfl rfl rfl rfl fun _ _ _ _ _ _ us hl => match us, hl with | [_, _, _], _ => rfl
theorem pb21 : PB rows r__law_is_stretch d__law_is_stretch p21 := pb_plain rfl rfl rfl rfl rfl fun _ _ _ _ _ _ us hl => match us, hl with | [_], _ => rfl
theorem pb22 : PB rows r__law_is_form d__law_is_form p22 := pb_plain rfl rfl rfl rfl rfl fun _ _ _ _ _ _ us hl => match us, hl with | [_], _ => rfl
theorem pb23 : PB rows r__law_below d__law_below p23 := pb_plain rfl rfl rfl rfl rfl fun _ _ _ _ _ _ us hl => match us, hl with | [_, _], _ => rfl
theorem pb24 : PB rows r__law_odd d__law_odd p24 := pb_plain rfl rfl rfl rfl rfl fun _ _ _ _ _ _ us hl => match us, hl with | [_], _ => rfl
theorem pb25 : PB rows r__law_bent_row d__law_bent_row p25 := pb_plain rfl rfl rfl rfl rfl fun _ _ _ _ _ _ us hl => match us, hl with | [_, _], _ => rfl
theorem pb26 : PB rows r__law_pen d__law_pen p26 := pb_plain rfl rfl rfl rfl rfl fun _ _ _ _ _ _ us hl => match us, hl with | [_], _ => rfl
theorem pb27 : PB rows r__law_words d__law_words p27 := pb_plain rfl rfl rfl rfl rfl fun _ _ _ _ _ _ us hl => match us, hl with | [_, _], _ => rfl
theorem pb28 : PB rows r__law_pile d__law_pile p28 := pb_plain rfl rfl rfl rfl rfl fun _ _ _ _ _ _ us hl => match us, hl with | [_, _, _, _], _ => rfl
theorem pb29 : PB rows r__law_form_of d__law_form_of p29 := pb_plain rfl rfl rfl rfl rfl fun _ _ _ _ _ _ us hl => match us, hl with | [_], _ => rfl
theorem pb30 : PB rows r__law_yards d__law_yards p30 := pb_plain rfl rfl rfl rfl rfl fun _ _ _ _ _ _ us hl => match us, hl with | [_], _ => rfl
theorem pb31 : PB rows r__law_great_standing d__law_great_standing p31 := pb_plain rfl rfl rfl rfl rfl fun _ _ _ _ _ _ us hl => match us, hl with | [_, _], _ => rfl
theorem pb32 : PB rows r__law_bent d__law_bent p32 := pb_plain rfl rfl rfl rfl rfl fun _ _ _ _ _ _ us hl => match us, hl with | [_, _], _ => rfl
theorem pb33 : PB rows r_is_standing d_is_standing p33 := pb_plain rfl rfl rfl rfl rfl fun _ _ _ _ _ _ us hl => match us, hl with | [_], _ => rfl
theorem pb34 : PB rows r__law_is_standing d__law_is_standing p34 := pb_plain rfl rfl rfl rfl rfl fun _ _ _ _ _ _ us hl => match us, hl with | [_], _ => rfl
theorem hP : ∀ p ∈ ctx.pats, PC' fn gnames rows p := all_cons ⟨d_is_whole, r_is_whole, rfl, by decide +kernel, rfl, rfl, rfl, rfl, rfl, rfl, pb0⟩ (
  all_cons ⟨d_is_way, r_is_way, rfl, by decide +kernel, rfl, rfl, rfl, rfl, rfl, rfl, pb1⟩ (
  all_cons ⟨d_is_word, r_is_word, rfl, by decide +kernel, rfl, rfl, rfl, rfl, rfl, rfl, pb2⟩ (
  all_cons ⟨d_is_whole, r_is_whole, rfl, by decide +kernel, rfl, rfl, rfl, rfl, rfl, rfl, pb3⟩ (
  all_cons ⟨d_is_whole, r_is_whole, rfl, by decide +kernel, rfl, rfl, rfl, rfl, rfl, rfl, pb4⟩ (
  all_cons ⟨d_last_of, r_last_of, rfl, by decide +kernel, rfl, rfl, rfl, rfl, rfl, rfl, pb5⟩ (
  all_cons ⟨d_is_stretch, r_is_stretch, rfl, by decide +kernel, rfl, rfl, rfl, rfl, rfl, rfl, pb6⟩ (
  all_cons ⟨d_goes_on, r_goes_on, rfl, by decide +kernel, rfl, rfl, rfl, rfl, rfl, rfl, pb7⟩ (
  all_cons ⟨d_joined, r_joined, rfl, by decide +kernel, rfl, rfl, rfl, rfl, rfl, rfl, pb8⟩ (
  all_cons ⟨d_is_row, r_is_row, rfl, by decide +kernel, rfl, rfl, rfl, rfl, rfl, rfl, pb9⟩ (
  all_cons ⟨d_are_apart, r_are_apart, rfl, by decide +kernel, rfl, rfl, rfl, rfl, rfl, rfl, pb10⟩ (
  all_cons ⟨d_spans, r_spans, rfl, by decide +kernel, rfl, rfl, rfl, rfl, rfl, rfl, pb11⟩ (
  all_cons ⟨d_yards, r_yards, rfl, by decide +kernel, rfl, rfl, rfl, rfl, rfl, rfl, pb12⟩ (
  all_cons ⟨d__law_draw, r__law_draw, rfl, by decide +kernel, rfl, rfl, rfl, rfl, rfl, rfl, pb13⟩ (
  all_cons ⟨d__law_pick, r__law_pick, rfl, by decide +kernel, rfl, rfl, rfl, rfl, rfl, rfl, pb14⟩ (
  all_cons ⟨d__law_great, r__law_great, rfl, by decide +kernel, rfl, rfl, rfl, rfl, rfl, rfl, pb15⟩ (
  all_cons ⟨d__law_turned_about, r__law_turned_about, rfl, by decide +kernel, rfl, rfl, rfl, rfl, rfl, rfl, pb16⟩ (
  all_cons ⟨d__law_dealt, r__law_dealt, rfl, by decide +kernel, rfl, rfl, rfl, rfl, rfl, rfl, pb17⟩ (
  all_cons ⟨d__law_great_stretches, r__law_great_stretches, rfl, by decide +kernel, rfl, rfl, rfl, rfl, rfl, rfl, pb18⟩ (
  all_cons ⟨d__law_is_word, r__law_is_word, rfl, by decide +kernel, rfl, rfl, rfl, rfl, rfl, rfl, pb19⟩ (
  all_cons ⟨d__law_is_from, r__law_is_from, rfl, by decide +kernel, rfl, rfl, rfl, rfl, rfl, rfl, pb20⟩ (
  all_cons ⟨d__law_is_stretch, r__law_is_stretch, rfl, by decide +kernel, rfl, rfl, rfl, rfl, rfl, rfl, pb21⟩ (
  all_cons ⟨d__law_is_form, r__law_is_form, rfl, by decide +kernel, rfl, rfl, rfl, rfl, rfl, rfl, pb22⟩ (
  all_cons ⟨d__law_below, r__law_below, rfl, by decide +kernel, rfl, rfl, rfl, rfl, rfl, rfl, pb23⟩ (
  all_cons ⟨d__law_odd, r__law_odd, rfl, by decide +kernel, rfl, rfl, rfl, rfl, rfl, rfl, pb24⟩ (
  all_cons ⟨d__law_bent_row, r__law_bent_row, rfl, by decide +kernel, rfl, rfl, rfl, rfl, rfl, rfl, pb25⟩ (
  all_cons ⟨d__law_pen, r__law_pen, rfl, by decide +kernel, rfl, rfl, rfl, rfl, rfl, rfl, pb26⟩ (
  all_cons ⟨d__law_words, r__law_words, rfl, by decide +kernel, rfl, rfl, rfl, rfl, rfl, rfl, pb27⟩ (
  all_cons ⟨d__law_pile, r__law_pile, rfl, by decide +kernel, rfl, rfl, rfl, rfl, rfl, rfl, pb28⟩ (
  all_cons ⟨d__law_form_of, r__law_form_of, rfl, by decide +kernel, rfl, rfl, rfl, rfl, rfl, rfl, pb29⟩ (
  all_cons ⟨d__law_yards, r__law_yards, rfl, by decide +kernel, rfl, rfl, rfl, rfl, rfl, rfl, pb30⟩ (
  all_cons ⟨d__law_great_standing, r__law_great_standing, rfl, by decide +kernel, rfl, rfl, rfl, rfl, rfl, rfl, pb31⟩ (
  all_cons ⟨d__law_bent, r__law_bent, rfl, by decide +kernel, rfl, rfl, rfl, rfl, rfl, rfl, pb32⟩ (
  all_cons ⟨d_is_standing, r_is_standing, rfl, by decide +kernel, rfl, rfl, rfl, rfl, rfl, rfl, pb33⟩ (
  all_cons ⟨d__law_is_standing, r__law_is_standing, rfl, by decide +kernel, rfl, rfl, rfl, rfl, rfl, rfl, pb34⟩ (all_nil)))))))))))))))))))))))))))))))))))
abbrev R : PySem.W.OpenRow := PySem.W.OpenLaw.row PySem.Challenge.rw_spoolrounds_k75_what_is_a_standing
abbrev hk : PySem.W.Hook := hookS 4 fa fn
def ob (s : PySem.W.SharedT) : He.AlD × Bool := obS 4 fa fn s
theorem run (w : World) : HandSHeadRun.RunEq R (PySem.W.view R.prog [41]) hk ob 4000 nm w := by
  intro os
  kernel_rfl
theorem facts (K : PySem.W.Frag) (mg : Str → Option Value) (h : Heap) (X : K.In h) (Gd : h.Ns mainGlobals mg) (says : He.SaysD fa fn K) : Facts K mg ctx rows ∧ ∃ (a : Addr) (fd : FuncData), mg "law" = some (.ref a) ∧ FunD K r_law.x r_law.qual r_law.params r_law.body r_law.sc (d_law.dvs K) (d_law.kws K) a fd ∧ ∀ (s : Shared) (u : Value), BindsTo s fd ⟨[u], []⟩ [(("script" : Str), u)] := by
  refine ⟨facts_ok X Gd says hP, ?_⟩
  obtain ⟨fd, F⟩ := says.def_ 33 (d := d_law) rfl
  refine ⟨_, fd, ?_, F, fun s u => ?_⟩
  · have q : He.Fa.ok K (.glo "law") = true := says.fact 33 rfl
    exact He.glo_ok X Gd q
  · exact FunD.bindsA (ps := ["script"]) F (fun _ _ _ _ _ _ us hl => match us, hl with | [_], _ => rfl) s [u] rfl
end LW
set_option Elab.async false
set_option linter.all false
set_option maxRecDepth 100000
set_option maxHeartbeats 1000000
namespace LW
open PySem L2 DL
/-! ### what the two tests ask for, plainly -/
abbrev M18 : Int := 1000000000000000000
def letters : Str := "abcdefghijklmnopqrstuvwxyz"
def isWh (lo hi : Int) : D → Bool
  | .int i => decide (lo ≤ i) && decide (i ≤ hi)
  | _ => false
def isWd : D → Bool
  | .str z => decide (0 < z.length) && (decide (z.length ≤ 8) && z.cps.toList.all fun c => subStr ⟨#[c]⟩ letters)
  | _ => false
def isWy : D → Bool
  | .int i => 1 == i || -1 == i
  | _ => false
/-! everything within is of a kind -/
mutual
def Wf (h : MH) : D → Prop
  | .ref a => Kd h (.ref a)
  | .str z => Fits z.length ∧ PyData.strOk z = true
  | .tup ds => ds.length ≤ 1000 ∧ Wfs h ds
  | .scr _ => False
  | .non => True
  | .bl _ => True
  | .int _ => True
def Wfs (h : MH) : List D → Prop
  | [] => True
  | d :: ds => Wf h d ∧ Wfs h ds
end
theorem Wf.kd {h : MH} {x : D} (w : Wf h x) : Kd h x := by
  cases x <;> first | trivial | exact w
theorem Wfs.mem {h : MH} : ∀ {ds : List D}, Wfs h ds → ∀ d ∈ ds, Wf h d
  | [], _, _, hd => nomatch hd
  | x :: ds, w, d, hd => by
    have w : Wf h x ∧ Wfs h ds := by simpa only [Wfs] using w
    rcases List.mem_cons.mp hd with rfl | hd
    · exact w.1
    · exact Wfs.mem w.2 d hd
theorem wfs_of {h : MH} : ∀ {ds : List D}, (∀ d ∈ ds, Wf h d) → Wfs h ds
  | [], _ => by simp only [Wfs]
  | x :: ds, w => by simp only [Wfs]; exact ⟨w x List.mem_cons_self, wfs_of fun d hd => w d (List.mem_cons_of_mem _ hd)⟩
theorem wf_tup {h : MH} {ds : List D} : Wf h (.tup ds) ↔ ds.length ≤ 1000 ∧ ∀ d ∈ ds, Wf h d := by
  simp only [Wf]
  exact ⟨fun w => ⟨w.1, w.2.mem⟩, fun w => ⟨w.1, wfs_of w.2⟩⟩
mutual
theorem Wf.gw {h h' : MH} (f : Gw h h') : ∀ {x : D}, Wf h x → Wf h' x
  | .ref a, w => by simp only [Wf] at w ⊢; exact w.gw f
  | .str _, w => w
  | .tup ds, w => by simp only [Wf] at w ⊢; exact ⟨w.1, Wfs.gw f w.2⟩
  | .scr _, w => w
  | .non, w => w
  | .bl _, w => w
  | .int _, w => w
theorem Wfs.gw {h h' : MH} (f : Gw h h') : ∀ {ds : List D}, Wfs h ds → Wfs h' ds
  | [], _ => by simp only [Wfs]
  | x :: ds, w => by
    simp only [Wfs] at w ⊢
    exact ⟨Wf.gw f w.1, Wfs.gw f w.2⟩
end
section
variable {d : Nat} {h : MH} {Q : D → MH → Prop} {E : DX}
theorem whole_ok {x : D} {lo hi : Int} (k : Kd h x) (q : Q (.bl (isWh lo hi x)) h) : Ph prog (d + 1) 0 [x, .int lo, .int hi] h Q E := by
  refine ph_of at_is_whole rfl ?_
  simp [f_is_whole]
  refine isTys_of k rfl rfl ?_
  cases x <;> simp [tyB, subTy] <;> try exact q
  rename_i i
  by_cases c : lo ≤ i <;> simpa [tyB, subTy, isWh, c] using q
theorem from_ok {x : D} {lo hi : Int} (k : Kd h x) (q : Q (.bl (isWh lo hi x)) h) : Ph prog (d + 1) 20 [x, .int lo, .int hi] h Q E := by
  refine ph_of at__law_is_from rfl ?_
  simp [f__law_is_from]
  refine isTys_of k rfl rfl ?_
  cases x <;> simp [tyB, subTy] <;> try exact q
  rename_i i
  by_cases c : lo ≤ i <;> simpa [tyB, subTy, isWh, c] using q
theorem word_ok {x : D} (w : Wf h x) (q : ∀ h', Gw h h' → Q (.bl (isWd x)) h') : Ph prog (d + 1) 1 [x] h Q E := by
  refine ph_of at_is_word rfl ?_
  simp [f_is_word]
  refine isTys_of w.kd rfl rfl ?_
  cases x <;> simp [tyB, subTy] <;> try exact q h .refl
  rename_i z
  refine ⟨w.1, ?_⟩
  by_cases c : 0 < z.length
  · by_cases c2 : z.length ≤ 8
    · simp [c, c2, show (z.length : Int) ≤ 8 by omega, show (0 : Int) < z.length by omega]
      refine lc_map (fun d => match d with
        | .str w => [.bl (subStr w letters)]
        | _ => []) _ trivial (by simp; exact w.1) (fun d hd acc N ha hN => ?_) (fun d hd => ?_) ?_
      · obtain ⟨c, _, rfl⟩ := List.mem_map.mp hd
        simp
        exact ⟨ha, hN⟩
      · obtain ⟨c, _, rfl⟩ := List.mem_map.mp hd
        simp
      · intro p hp
        refine ⟨_, by rw [flat_one (fun c => D.bl (subStr ⟨#[c]⟩ letters)) _ _ _ fun _ _ => rfl, ← Function.comp_def D.bl, ← List.map_map]; exact bls_map _, ?_⟩
        have key : ((z.cps.toList.map fun c => subStr ⟨#[c]⟩ letters).all id) = isWd (.str z) := by simp [isWd, c, c2, List.all_map]
        rw [key]
        exact q _ (Gw.up hp)
    · simp [c, c2, show ¬ (z.length : Int) ≤ 8 by omega, show (0 : Int) < z.length by omega]
      have := q h .refl
      simpa [isWd, c, c2] using this
  · have := q h .refl
    simp [c, show ¬ (0 : Int) < z.length by omega]
    simpa [isWd, c] using this
theorem way_ok {x : D} (k : Kd h x) (q : Q (.bl (isWy x)) h) : Ph prog (d + 2) 2 [x] h Q E := by
  refine ph_of at_is_way rfl ?_
  simp [f_is_way]
  refine whole_ok k ?_
  cases x <;> simp [isWh] <;> try exact q
  rename_i i
  by_cases c : -1000000000000000000 ≤ i
  · by_cases c2 : i ≤ 1000000000000000000
    · simp [c, c2]
      refine ⟨fits_le (by decide), rfl, rfl, ?_⟩
      simpa [inD, toV, isWy, eqV] using q
    · simp [c, c2]
      have : isWy (.int i) = false := by simp [isWy]; omega
      rw [this] at q; exact q
  · simp [c]
    have : isWy (.int i) = false := by simp [isWy]; omega
    rw [this] at q; exact q

theorem four {α : Type} {ds : List α} (h : ds.length = 4) : ∃ a b c e, ds = [a, b, c, e] := by
  match ds, h with
  | [a, b, c, e], _ => exact ⟨a, b, c, e, rfl⟩
def isSt : D → Bool
  | .tup [a, .int f, .int m, .int y] => isWd a && (isWy (.int y) && (isWh 0 M18 (.int f) && (isWh 1 (M18 + 1) (.int m) && (decide (0 ≤ f + y * (m - 1)) && decide (f + y * (m - 1) ≤ M18)))))
  | _ => false
theorem last_ok {a : D} {f m y : Int} (hm : MulOk y (m - 1)) (q : Q (.int (f + y * (m - 1))) h) : Ph prog (d + 1) 3 [.tup [a, .int f, .int m, .int y]] h Q E := by
  refine ph_of at_last_of rfl ?_
  simp only [f_last_of]
  rw [wpB_cons]
  simp
  exact ⟨hm, q⟩
theorem mul_way {y m : Int} (h : isWy (.int y) = true) : MulOk y m := by
  have : y = 1 ∨ y = -1 := by
    have h' : (1 == y || -1 == y) = true := h
    simp at h'
    omega
  rcases this with rfl | rfl <;> exact .inl (by decide)
theorem isWh_int {lo hi : Int} {x : D} (h : isWh lo hi x = true) : ∃ i, x = .int i ∧ lo ≤ i ∧ i ≤ hi := by
  cases x <;> simp [isWh] at h
  exact ⟨_, rfl, h⟩
theorem isWy_int {x : D} (h : isWy x = true) : ∃ i, x = .int i ∧ (i = 1 ∨ i = -1) := by
  cases x <;> simp [isWy] at h
  exact ⟨_, rfl, by omega⟩
theorem isWd_str {x : D} (h : isWd x = true) : ∃ z, x = .str z := by
  cases x <;> simp [isWd] at h
  exact ⟨_, rfl⟩
theorem isSt_no {a b c e : D} (h : isWd a = false ∨ isWy e = false ∨ isWh 0 M18 b = false ∨ isWh 1 (M18 + 1) c = false) : isSt (.tup [a, b, c, e]) = false := by
  cases b <;> try rfl
  cases c <;> try rfl
  cases e <;> try rfl
  rcases h with h | h | h | h <;> simp [isSt, h]
theorem stretch_ok {x : D} (w : Wf h x) (q : ∀ h', Gw h h' → Q (.bl (isSt x)) h') : Ph prog (d + 3) 4 [x] h Q E := by
  refine ph_of at_is_stretch rfl ?_
  simp only [f_is_stretch]
  rw [wpB_cons]
  simp
  refine isTys_of w.kd rfl rfl ?_
  cases x <;> simp [tyB, subTy] <;> try exact q h .refl
  rename_i ds
  by_cases hl : ds.length = 4
  · obtain ⟨a, b, c, e, rfl⟩ := four hl
    obtain ⟨_, w⟩ := wf_tup.mp w
    have wa := w a (by simp)
    have wb := w b (by simp)
    have wc := w c (by simp)
    have we := w e (by simp)
    simp
    refine word_ok (d := d + 1) wa fun h1 g1 => ?_
    cases ca : isWd a with
    | false => simp; rw [← isSt_no (b := b) (c := c) (e := e) (.inl ca)]; exact q h1 g1
    | true =>
      simp
      refine way_ok (d := d) (we.gw g1).kd ?_
      cases ce : isWy e with
      | false => simp; rw [← isSt_no (a := a) (b := b) (c := c) (.inr (.inl ce))]; exact q h1 g1
      | true =>
        simp
        rw [wpB_cons]
        simp
        refine whole_ok (d := d + 1) (wb.gw g1).kd ?_
        cases cb : isWh 0 1000000000000000000 b with
        | false => simp; rw [← isSt_no (a := a) (c := c) (e := e) (.inr (.inr (.inl cb)))]; exact q h1 g1
        | true =>
          simp
          refine whole_ok (d := d + 1) (wc.gw g1).kd ?_
          cases cc : isWh 1 1000000000000000001 c with
          | false => simp; rw [← isSt_no (a := a) (b := b) (e := e) (.inr (.inr (.inr cc)))]; exact q h1 g1
          | true =>
            simp
            obtain ⟨f, rfl, _⟩ := isWh_int cb
            obtain ⟨m, rfl, _⟩ := isWh_int cc
            obtain ⟨y, rfl, _⟩ := isWy_int ce
            refine last_ok (d := d + 1) (mul_way ce) ?_
            have e1 : isSt (.tup [a, .int f, .int m, .int y]) = (decide (0 ≤ f + y * (m - 1)) && decide (f + y * (m - 1) ≤ M18)) := by
              have cc' : isWh 1 (M18 + 1) (.int m) = true := cc
              have cb' : isWh 0 M18 (.int f) = true := cb
              simp [isSt, ca, ce, cb', cc']
            have qq := q h1 g1
            rw [e1] at qq
            by_cases c1 : 0 ≤ f + y * (m - 1) <;> simpa [c1] using qq
  · simp [hl, show ¬ (ds.length : Int) = 4 by omega]
    have : isSt (.tup ds) = false := by
      unfold isSt
      split
      · rename_i e; cases e; exact absurd rfl hl
      · rfl
    rw [← this]; exact q h .refl
end
end LW
set_option Elab.async false
set_option linter.all false
set_option maxRecDepth 100000
set_option maxHeartbeats 1000000
namespace LW
open PySem L2 DL
/-! ### stretches -/
structure S4 where
  w : Str
  f : Int
  m : Int
  y : Int
  deriving DecidableEq
def S4.d (s : S4) : D := .tup [.str s.w, .int s.f, .int s.m, .int s.y]
def S4.p (s : S4) : PyData := .tuple [.str s.w, .int s.f, .int s.m, .int s.y]
theorem S4.toP (s : S4) : toP s.d = s.p := by simp [S4.d, S4.p, DL.toP, toPs]
theorem S4.imm (s : S4) : imm s.d = true := by simp [S4.d, DL.imm, imms]
theorem S4.inj {s t : S4} (h : s.d = t.d) : s = t := by
  cases s; cases t
  simp [S4.d] at h
  simp [h]
structure S4.Ok (s : S4) : Prop where
  z : PyData.strOk s.w = true
  m1 : 1 ≤ s.m
  m2 : s.m ≤ M18 + 1
  y : s.y = 1 ∨ s.y = -1
  f1 : 0 ≤ s.f
  f2 : s.f ≤ M18
  l1 : 0 ≤ s.f + s.y * (s.m - 1)
  l2 : s.f + s.y * (s.m - 1) ≤ M18
theorem S4.Ok.mul {s : S4} (o : s.Ok) {k : Int} : DL.MulOk s.y k := by
  rcases o.y with e | e <;> rw [e] <;> exact .inl (by decide)
theorem isSt_S4 {h : MH} {x : D} (w : Wf h x) (e : isSt x = true) : ∃ s : S4, x = s.d ∧ s.Ok := by
  unfold isSt at e
  split at e
  · rename_i a f m y
    simp only [Bool.and_eq_true, decide_eq_true_eq] at e
    obtain ⟨e1, e2, e3, e4, e5, e6⟩ := e
    obtain ⟨z, rfl⟩ := isWd_str e1
    obtain ⟨_, w⟩ := wf_tup.mp w
    have wz : Wf h (.str z) := w _ List.mem_cons_self
    obtain ⟨i, ei, hy⟩ := isWy_int e2
    cases ei
    simp [isWh] at e3 e4
    exact ⟨⟨z, f, m, y⟩, rfl, wz.2, e4.1, e4.2, hy, e3.1, e3.2, e5, e6⟩
  · cases e
theorem all_S4 {h : MH} : ∀ {ds : List D}, (∀ d ∈ ds, Wf h d) → ds.all isSt = true → ∃ ss : List S4, ds = ss.map S4.d ∧ ∀ s ∈ ss, s.Ok
  | [], _, _ => ⟨[], rfl, fun _ z => nomatch z⟩
  | x :: ds, w, e => by
    rw [List.all_cons, Bool.and_eq_true] at e
    obtain ⟨s, rfl, o⟩ := isSt_S4 (w x List.mem_cons_self) e.1
    obtain ⟨ss, rfl, os⟩ := all_S4 (fun d hd => w d (List.mem_cons_of_mem _ hd)) e.2
    exact ⟨s :: ss, rfl, fun t ht => by
      rcases List.mem_cons.mp ht with rfl | ht
      · exact o
      · exact os t ht⟩
def S4.last (s : S4) : Int := s.f + s.y * (s.m - 1)
def S4.goes (a b : S4) : Bool := (a.w == b.w && a.y == b.y) && decide (b.f = a.last + a.y)
theorem shaped_tup2 {z : Str} {i : Int} (hz : PyData.strOk z = true) : SeqAt.shaped (.tuple [.str z, .int i]) = true := by
  simp [SeqAt.shaped, PyData.canLay0, PyData.canLayAll0, PyData.depth, PyData.depthAll, hz]
theorem shaped_S4 {s : S4} (hz : PyData.strOk s.w = true) : s.p.canLay0 = true ∧ s.p.depth = 1 := by
  simp [S4.p, PyData.canLay0, PyData.canLayAll0, PyData.depth, PyData.depthAll, hz]
section
variable {d : Nat} {h : MH} {Q : D → MH → Prop} {E : DX}
theorem deepEq_imm {x y : D} {P : Bool → Prop} (hx : imm x = true) (hy : imm y = true) (sx : SeqAt.shaped (toP x) = true) (sy : SeqAt.shaped (toP y) = true) (p : P (PyData.eqv (toP x) (toP y))) : deepEq x y h P := ⟨_, _, imm_den hx, imm_den hy, sx, sy, p⟩
theorem eqD_tup {a b : List D} {P : Bool → Prop} (hx : imms a = true) (hy : imms b = true) (sx : SeqAt.shaped (.tuple (toPs a)) = true) (sy : SeqAt.shaped (.tuple (toPs b)) = true) (p : P (PyData.eqvAll (toPs a) (toPs b))) : eqD (.tup a) (.tup b) h P :=
  deepEq_imm (x := .tup a) (y := .tup b) (by rw [DL.imm]; exact hx) (by rw [DL.imm]; exact hy) (by rw [toP]; exact sx) (by rw [toP]; exact sy) (by rw [toP, toP, PyData.eqv]; exact p)
theorem way_mul {y k : Int} (h : y = 1 ∨ y = -1) : DL.MulOk y k := by
  rcases h with rfl | rfl <;> exact .inl (by decide)
theorem goes_ok {a b : S4} (oa : PyData.strOk a.w = true) (wa : a.y = 1 ∨ a.y = -1) (ob : PyData.strOk b.w = true) (q : Q (.bl (a.goes b)) h) : Ph prog (d + 2) 6 [a.d, b.d] h Q E := by
  refine ph_of at_goes_on rfl ?_
  simp only [f_goes_on]
  rw [wpB_cons]
  simp [S4.d]
  refine ⟨fits_le (by decide), ?_⟩
  refine eqD_tup (by simp [imms, DL.imm]) (by simp [imms, DL.imm]) (by simp [toPs, toP]; exact shaped_tup2 oa) (by simp [toPs, toP]; exact shaped_tup2 ob) ?_
  simp [toP, toPs, PyData.eqv, PyData.eqvAll]
  cases c : (a.w == b.w && a.y == b.y) with
  | false => 
    have e : a.goes b = false := by simp [S4.goes, c]
    rw [e] at q
    simp at c
    by_cases c1 : a.w = b.w
    · simp [c1, c c1, q]
    · simp [c1, q]
  | true =>
    have e : a.goes b = decide (b.f = a.last + a.y) := by simp [S4.goes, c]
    rw [e] at q
    simp at c
    simp [c]
    refine last_ok (d := d) (by rw [← c.2]; exact way_mul wa) ?_
    simpa [S4.last, c] using q

end
/-! ### rows joined -/
def jn1 (found : List S4) (s : S4) : List S4 := match found.getLast? with
  | some l => if l.goes s = true then found.dropLast ++ [⟨l.w, l.f, l.m + s.m, l.y⟩] else found ++ [s]
  | none => [s]
def jn (ss : List S4) : List S4 := ss.foldl jn1 []
/-- nothing goes on -/
def form : List S4 → Bool
  | a :: b :: r => !a.goes b && form (b :: r)
  | _ => true
theorem jn1_len (found : List S4) (s : S4) : (jn1 found s).length ≤ found.length + 1 := by
  unfold jn1
  split
  · split
    · rename_i l e _
      rw [List.length_append, List.length_dropLast]
      simp
    · simp
  · simp
theorem foldl_jn_len : ∀ (ss found : List S4), (ss.foldl jn1 found).length ≤ found.length + ss.length
  | [], found => Nat.le_refl _
  | s :: ss, found => by
    have h1 := jn1_len found s
    have h2 := foldl_jn_len ss (jn1 found s)
    rw [List.foldl_cons, List.length_cons]; omega
theorem jn_form : ∀ (ss found : List S4) (l : S4), form (l :: ss) = true → ss.foldl jn1 (found ++ [l]) = found ++ l :: ss
  | [], found, l, _ => rfl
  | s :: ss, found, l, h => by
    have h : (!l.goes s && form (s :: ss)) = true := h
    rw [Bool.and_eq_true] at h
    have g : l.goes s = false := by simpa using h.1
    rw [List.foldl_cons]
    have e : jn1 (found ++ [l]) s = (found ++ [l]) ++ [s] := by
      unfold jn1
      rw [List.getLast?_concat]
      simp [g]
    rw [e, jn_form ss (found ++ [l]) s h.2, List.append_assoc] <;> rfl
theorem jn_noform : ∀ (ss found : List S4) (l : S4), form (l :: ss) = false → (ss.foldl jn1 (found ++ [l])).length < found.length + 1 + ss.length
  | [], found, l, h => by cases h
  | s :: ss, found, l, h => by
    have h : (!l.goes s && form (s :: ss)) = false := h
    rw [List.foldl_cons, List.length_cons]
    cases g : l.goes s with
    | true =>
      have e : (jn1 (found ++ [l]) s).length = found.length + 1 := by
        unfold jn1
        rw [List.getLast?_concat]
        simp [g]
      have := foldl_jn_len ss (jn1 (found ++ [l]) s)
      omega
    | false =>
      rw [g] at h
      have e : jn1 (found ++ [l]) s = (found ++ [l]) ++ [s] := by
        unfold jn1
        rw [List.getLast?_concat]
        simp [g]
      have := jn_noform ss (found ++ [l]) s (by simpa using h)
      rw [e]
      simp at this ⊢
      omega
theorem jn_eq (ss : List S4) : decide (ss = jn ss) = form ss := by
  cases ss with
  | nil => rfl
  | cons a ss =>
    have e0 : jn (a :: ss) = ss.foldl jn1 ([] ++ [a]) := rfl
    rw [e0]
    cases c : form (a :: ss) with
    | true => rw [jn_form ss [] a c]; simp
    | false =>
      have := jn_noform ss [] a c
      rw [decide_eq_false_iff_not]
      intro e
      rw [← e] at this
      simp at this
      omega
/-- what joined keeps: first good ones, texts that may be compared -/
def Good2 (l : List S4) : Prop := ∀ s ∈ l, PyData.strOk s.w = true ∧ (s.y = 1 ∨ s.y = -1)
theorem jn1_good {found : List S4} {s : S4} (f : Good2 found) (o : PyData.strOk s.w = true ∧ (s.y = 1 ∨ s.y = -1)) : Good2 (jn1 found s) := by
  unfold jn1
  intro t ht
  split at ht
  · rename_i l e
    have hl := f l (List.mem_of_getLast? e)
    split at ht
    · rcases List.mem_append.mp ht with ht | ht
      · exact f t (List.dropLast_subset _ ht)
      · rw [List.mem_singleton] at ht; subst ht; exact hl
    · rcases List.mem_append.mp ht with ht | ht
      · exact f t ht
      · rw [List.mem_singleton] at ht; subst ht; exact o
  · rw [List.mem_singleton] at ht; subst ht; exact o
theorem imms_S4 : ∀ l : List S4, imms (l.map S4.d) = true
  | [] => rfl
  | s :: l => by rw [List.map_cons, imms, S4.imm, imms_S4 l]; rfl
theorem toPs_S4 : ∀ l : List S4, toPs (l.map S4.d) = l.map S4.p
  | [] => rfl
  | s :: l => by rw [List.map_cons, toPs, S4.toP, toPs_S4 l]; rfl
theorem canLay_S4 : ∀ {l : List S4}, (∀ s ∈ l, PyData.strOk s.w = true) → PyData.canLayAll0 (l.map S4.p) = true ∧ PyData.depthAll (l.map S4.p) ≤ 1
  | [], _ => ⟨rfl, Nat.zero_le _⟩
  | s :: l, f => by
    obtain ⟨h1, h2⟩ := shaped_S4 (f s List.mem_cons_self)
    obtain ⟨h3, h4⟩ := canLay_S4 (l := l) fun t ht => f t (List.mem_cons_of_mem _ ht)
    rw [List.map_cons, PyData.canLayAll0, PyData.depthAll, h1, h2, h3]
    exact ⟨rfl, by omega⟩
theorem shaped_lst {l : List S4} (f : ∀ s ∈ l, PyData.strOk s.w = true) : SeqAt.shaped (.list (l.map S4.p)) = true := by
  obtain ⟨h1, h2⟩ := canLay_S4 f
  simp [SeqAt.shaped, PyData.canLay0, PyData.depth, h1]
  omega
theorem eqvAll_S4 : ∀ a b : List S4, PyData.eqvAll (a.map S4.p) (b.map S4.p) = decide (a = b)
  | [], [] => by simp [PyData.eqvAll]
  | [], _ :: _ => by simp [PyData.eqvAll]
  | _ :: _, [] => by simp [PyData.eqvAll]
  | x :: a, y :: b => by
    rw [List.map_cons, List.map_cons, PyData.eqvAll, eqvAll_S4 a b]
    have e : PyData.eqv x.p y.p = decide (x = y) := by
      cases x; cases y
      simp [S4.p, PyData.eqv, PyData.eqvAll]
      rw [Bool.eq_iff_iff]; simp [and_assoc]
    rw [e, ← Bool.decide_and]
    exact decide_eq_decide.mpr (by rw [List.cons.injEq])
theorem den_lst {h : MH} {a : Addr} {l : List S4} (e : h a = some (.lst (l.map S4.d))) : Den h (.ref a) (.list (l.map S4.p)) := by
  refine .lst e (by simp) fun i d t hd ht => ?_
  rw [List.getElem?_map] at hd ht
  cases q : l[i]? with
  | none => rw [q] at hd; cases hd
  | some s =>
    rw [q] at hd ht
    cases hd; cases ht
    have := imm_den (h := h) s.imm
    rw [s.toP] at this
    exact this
theorem eqD_lst {h : MH} {a b : Addr} {l m : List S4} {P : Bool → Prop} (ea : h a = some (.lst (l.map S4.d))) (eb : h b = some (.lst (m.map S4.d))) (fl : ∀ s ∈ l, PyData.strOk s.w = true) (fm : ∀ s ∈ m, PyData.strOk s.w = true) (p : P (decide (l = m))) : eqD (.ref a) (.ref b) h P := by
  refine Or.inl ?_
  refine ⟨_, _, den_lst ea, den_lst eb, shaped_lst fl, shaped_lst fm, ?_⟩
  rw [PyData.eqv, eqvAll_S4]
  exact p
end LW
set_option Elab.async false
set_option linter.all false
set_option maxRecDepth 100000
set_option maxHeartbeats 1000000
namespace LW
open PySem L2 DL
@[simp] theorem ixD_ref_int {a : Addr} {i : Int} {h : MH} {Q : D → MH → Prop} : ixD (.ref a) (.int i) h Q = ((∃ xs d, h a = some (.lst xs) ∧ atI xs i = some d ∧ Q d h) ∨ (∃ kvs d, h a = some (.dct kvs) ∧ getK kvs (.inl i) = some d ∧ Q d h)) := by
  apply propext
  constructor
  · rintro (⟨xs, j, d, e, r⟩ | ⟨kvs, k, d, e, r⟩)
    · cases e; exact .inl ⟨xs, d, r⟩
    · cases e; exact .inr ⟨kvs, d, r⟩
  · rintro (⟨xs, d, r⟩ | ⟨kvs, d, r⟩)
    · exact .inl ⟨xs, i, d, rfl, r⟩
    · exact .inr ⟨kvs, .inl i, d, rfl, r⟩
section
variable {d : Nat} {h : MH} {Q : D → MH → Prop} {E : DX}
theorem jn1_last {found : List S4} {l s : S4} (e : found.getLast? = some l) : jn1 found s = if l.goes s = true then found.dropLast ++ [⟨l.w, l.f, l.m + s.m, l.y⟩] else found ++ [s] := by
  unfold jn1
  rw [e]
theorem joined_ok {ss : List S4} (hz : ss.length ≤ 1000) (o : Good2 ss) (q : ∀ h' p, Gw h h' → h p = none → h' p = some (.lst ((jn ss).map S4.d)) → Q (.ref p) h') : Ph prog (d + 3) 7 [.tup (ss.map S4.d)] h Q E := by
  refine ph_of at_joined rfl ?_
  simp only [f_joined]
  rw [wpB_cons]
  simp
  refine ⟨fits_le (by decide), fun p hp => ?_⟩
  rw [wpB_cons]
  simp
  refine for_rule (fun r σ h' => ∃ done rest, ss = done ++ rest ∧ r = rest.map S4.d ∧ h' p = some (.lst ((done.foldl jn1 []).map S4.d)) ∧ Gw h h' ∧ ∃ a b c e f, σ = [some (.tup (ss.map S4.d)), some (.ref p), a, b, c, e, f])
    (fun _ _ _ _ => trivial) (fun σ h' ⟨done, rest, e1, e2, e3, g, a, b, c, e, f, e4⟩ => ?_) (fun dd r σ h' K ⟨done, rest, e1, e2, e3, g, a, b, c, e, f, e4⟩ hK => ?_) _ _ _ ⟨[], ss, rfl, rfl, up_same, Gw.up hp, none, none, none, none, none, rfl⟩
  · have : rest = [] := by simpa using e2.symm
    subst this
    rw [List.append_nil] at e1
    subst e1 e4
    simp
    exact q h' p g hp e3
  · cases rest with
    | nil => cases e2
    | cons s rest =>
      rw [List.map_cons] at e2
      cases e2
      subst e4
      have os : PyData.strOk s.w = true ∧ (s.y = 1 ∨ s.y = -1) := o s (by rw [e1]; simp)
      have od : Good2 (done.foldl jn1 []) := by
        have : ∀ (l found : List S4), Good2 found → (∀ t ∈ l, PyData.strOk t.w = true ∧ (t.y = 1 ∨ t.y = -1)) → Good2 (l.foldl jn1 found) := fun l => by
          induction l with
          | nil => intro found f _; exact f
          | cons t l ih => intro found f ht; exact ih _ (jn1_good f (ht t List.mem_cons_self)) fun u hu => ht u (List.mem_cons_of_mem _ hu)
        exact this done [] (fun _ z => nomatch z) fun t ht => o t (by rw [e1]; exact List.mem_append_left _ ht)
      have ll : (done.foldl jn1 []).length ≤ done.length := by
        have := foldl_jn_len done []
        simpa using this
      have dl : done.length < 1000 := by rw [e1] at hz; simp at hz; omega
      generalize hf : done.foldl jn1 [] = found at e3 od ll
      have nxt : (done ++ [s]).foldl jn1 [] = jn1 found s := by rw [List.foldl_append, hf] <;> rfl
      simp
      rw [wpB_cons]
      simp
      refine ⟨fits_le (by decide), fun qq hq => ?_⟩
      have np : p ≠ qq := fun z => by rw [z, hq] at e3; cases e3
      have e3' : up h' qq (.lst []) p = some (.lst (found.map S4.d)) := (up_ne np).trans e3
      have g' : Gw h' (up h' qq (.lst [])) := Gw.up hq
      refine eqD_lst (m := []) e3' up_same (fun t ht => (od t ht).1) (fun _ z => nomatch z) ?_
      have fin : ∀ (h2 : MH) (a b c e : Option D) (t : S4) (fd : List S4), fd ++ [t] = jn1 found s → Gw h h2 → h2 p = some (.lst (fd.map S4.d)) → wpB (Ph prog (d + 2)) [.ex (.met .append (.var 1) [.var 2])] { nx := K, rt := Q, bk := fun σ' h' => wpB (Ph prog (d + 2)) [Sm.ret (Ex.var 1)] { nx := fun x h' => Q D.non h', rt := Q, bk := fun x x_1 => False, ct := fun x x_1 => False, ex := fun c fs x h' => E c fs h' } σ' h', ct := K, ex := fun c fs x h' => E c fs h' } [some (.tup (ss.map S4.d)), some (.ref p), some t.d, a, b, c, e] h2 := fun h2 a b c e t fd et g2 e5 => by
        simp [e5]
        refine ⟨by
          have := jn1_len found s
          rw [← et] at this
          simp at this
          rw [sizeLine_eq]; omega, ?_⟩
        refine hK _ _ ⟨done ++ [s], rest, by rw [e1]; simp, rfl, ?_, g2.up2 hp, _, _, _, _, _, rfl⟩
        rw [nxt, ← et, up_same]
        simp
      cases hl : found.getLast? with
      | none =>
        have : found = [] := List.getLast?_eq_none_iff.mp hl
        subst this
        simp
        have z := fin _ b c e f s [] (by simp [jn1]) (g.trans g') e3'
        simpa using z
      | some l =>
        have hne : found ≠ [] := fun z => by rw [z] at hl; cases hl
        have ol := od l (List.mem_of_getLast? hl)
        have hlast : found[found.length - 1]? = some l := by rw [← List.getLast?_eq_getElem?]; exact hl
        simp [hne, e3', List.getElem?_map, hlast]
        refine goes_ok (d := d) ol.1 ol.2 os.1 ?_
        have ej := jn1_last (s := s) hl
        cases gs : l.goes s with
        | false =>
          simp
          rw [gs] at ej
          have z := fin _ b c e f s found (by rw [ej]; rfl) (g.trans g') e3'
          simpa using z
        | true =>
          rw [gs] at ej
          simp
          rw [wpB_cons]
          simp [e3', List.getElem?_map, hlast]
          simp [S4.d]
          refine ⟨fits_le (by decide), by rw [sizeLine_eq]; omega, hK _ _ ⟨done ++ [s], rest, by rw [e1]; simp, rfl, ?_, ((g.trans g').up2 hp).up2 hp, _, _, _, _, _, rfl⟩⟩
          rw [nxt, ej]
          simp [S4.d, List.map_dropLast]
theorem yards_ok {ss : List S4} (hz : ss.length ≤ 1000) (q : ∀ h', Gw h h' → Q (.int (ss.map S4.m).sum) h') : Ph prog (d + 1) 8 [.tup (ss.map S4.d)] h Q E := by
  refine ph_of at_yards rfl ?_
  simp [f_yards]
  refine lc_map (fun d => match d with
    | .tup [_, _, m, _] => [m]
    | _ => []) _ trivial (by rw [List.length_map, sizeLine_eq]; omega) (fun d hd acc N ha hN => ?_) (fun d hd => ?_) ?_
  · obtain ⟨s, _, rfl⟩ := List.mem_map.mp hd
    simp [S4.d]
    exact ⟨ha, hN⟩
  · obtain ⟨s, _, rfl⟩ := List.mem_map.mp hd
    simp [S4.d]
  · intro p hp
    refine ⟨_, by rw [flat_one (fun s => D.int s.m) _ _ _ fun _ _ => rfl, show (fun s : S4 => D.int s.m) = D.int ∘ S4.m from rfl, ← List.map_map]; exact ints_map _, ?_⟩
    exact q _ (Gw.up hp)
end
end LW
set_option Elab.async false
set_option linter.all false
set_option maxRecDepth 100000
set_option maxHeartbeats 1000000
namespace LW
open PySem L2 DL
def toS : D → S4
  | .tup [.str w, .int f, .int m, .int y] => ⟨w, f, m, y⟩
  | _ => ⟨"", 0, 0, 0⟩
theorem toS_d (s : S4) : toS s.d = s := rfl
def rowOK : D → Bool
  | .tup ds => ds.all isSt && form (ds.map toS)
  | _ => false
def rowD (ss : List S4) : D := .tup (ss.map S4.d)
structure RowOk (ss : List S4) : Prop where
  len : ss.length ≤ 1000
  ok : ∀ s ∈ ss, s.Ok
  fm : form ss = true
  st : (ss.map S4.d).all isSt = true
theorem rowOK_ss {h : MH} {x : D} (w : Wf h x) (e : rowOK x = true) : ∃ ss, x = rowD ss ∧ RowOk ss := by
  unfold rowOK at e
  split at e
  · rename_i ds
    rw [Bool.and_eq_true] at e
    obtain ⟨hl, w⟩ := wf_tup.mp w
    obtain ⟨ss, rfl, o⟩ := all_S4 w e.1
    have e2 := e.2
    rw [List.map_map, show toS ∘ S4.d = id from rfl, List.map_id] at e2
    exact ⟨ss, rfl, by simpa using hl, o, e2, e.1⟩
  · cases e
theorem Good2.of {ss : List S4} (o : ∀ s ∈ ss, s.Ok) : Good2 ss := fun s hs => ⟨(o s hs).z, (o s hs).y⟩
section
variable {d : Nat} {h : MH} {Q : D → MH → Prop} {E : DX}
theorem row_ok {ds : List D} (w : Wf h (.tup ds)) (q : ∀ h', Gw h h' → Q (.bl (ds.all isSt)) h') : Ph prog (d + 4) 5 [.tup ds] h Q E := by
  refine ph_of at_is_row rfl ?_
  simp [f_is_row, subTy]
  obtain ⟨hl, w⟩ := wf_tup.mp w
  refine lc_mapG (fun x => [.bl (isSt x)]) ds [] (fun _ _ => trivial) (by rw [sizeLine_eq]; simp; omega) (fun x hx acc h1 N ha g hN => ?_) (fun _ _ => by simp) fun h1 g => ?_
  · simp
    refine stretch_ok (d := d) ((w x hx).gw g) fun h2 g2 => ?_
    exact ⟨ha, hN _ g2⟩
  · intro p hp
    refine ⟨_, bls_flat isSt ds, ?_⟩
    rw [List.all_map]
    exact q _ (g.trans (Gw.up hp))
end
/-! ### spans -/
structure S3 where
  w : Str
  lo : Int
  hi : Int
def S3.d (s : S3) : D := .tup [.str s.w, .int s.lo, .int s.hi]
def S3.p (s : S3) : PyData := .tuple [.str s.w, .int s.lo, .int s.hi]
def S4.span (s : S4) : S3 := ⟨s.w, if s.last < s.f then s.last else s.f, if s.last > s.f then s.last else s.f⟩
theorem S3.toP (s : S3) : toP s.d = s.p := by simp [S3.d, S3.p, DL.toP, toPs]
theorem S3.imm (s : S3) : imm s.d = true := by simp [S3.d, DL.imm, imms]
theorem imms_S3 : ∀ l : List S3, imms (l.map S3.d) = true
  | [] => rfl
  | s :: l => by rw [List.map_cons, imms, S3.imm, imms_S3 l]; rfl
theorem sort_S3 (l : List S3) (h : MH) (Q : D → MH → Prop) {a : Addr} (e : h a = some (.lst (l.map S3.d))) (q : ∀ p, h p = none → Q (.ref p) (up h p (.lst ((l.mergeSort (PySem.W.dataLe false S3.p)).map S3.d)))) : bi .sorted [.ref a] h Q := by
  refine ⟨_, e, imms_S3 l, ?_, ?_, fun x hx => ?_, fun p hp => ?_⟩
  · rw [List.map_map, show DL.toP ∘ S3.d = S3.p from funext S3.toP]
    exact PySem.W.AllAlike.of fun a b => by simp [S3.p, PySem.W.alike, PySem.W.alikeAll]
  · rw [List.map_map, show DL.toP ∘ S3.d = S3.p from funext S3.toP]
    exact PySem.W.Sortable.tuples fun b => ⟨_, _, rfl⟩
  · obtain ⟨s, _, rfl⟩ := List.mem_map.mp hx
    rw [S3.toP]
    simp [S3.p, PyData.depth, PyData.depthAll]
  · have e2 : (l.map S3.d).mergeSort (PySem.W.dataLe false DL.toP) = (l.mergeSort (PySem.W.dataLe false S3.p)).map S3.d := by
      symm
      refine List.map_mergeSort fun a _ b _ => ?_
      rw [PySem.W.dataLe_eq, PySem.W.dataLe_eq]
      show (!PySem.W.dataLt _ _) = (!PySem.W.dataLt _ _)
      rw [S3.toP, S3.toP]
    rw [e2]
    exact q p hp
theorem part_rows : ∀ sss : List (List S4), (sss.map rowD).flatMap part = sss.flatten.map S4.d
  | [] => rfl
  | a :: l => by rw [List.map_cons, List.flatMap_cons, part_rows l, List.flatten_cons, List.map_append]; rfl
section
variable {d : Nat} {h : MH} {Q : D → MH → Prop} {E : DX}
theorem spans_ok {sss : List (List S4)} (hl : sss.flatten.length ≤ 100000) (o : ∀ ss ∈ sss, ∀ s ∈ ss, s.y = 1 ∨ s.y = -1) (q : ∀ h' p, Gw h h' → h' p = some (.lst (((sss.flatten.map S4.span).mergeSort (PySem.W.dataLe false S3.p)).map S3.d)) → Q (.ref p) h') :
    Ph prog (d + 2) 9 [.tup (sss.map rowD)] h Q E := by
  refine ph_of at_spans rfl ?_
  simp only [f_spans]
  rw [wpB_cons]
  simp
  refine ⟨fits_le (by decide), fun p hp => ?_⟩
  rw [wpB_cons]
  simp
  have ef := part_rows sss
  refine lc2_map part (sss.map rowD) [] _ (fun _ => trivial) (by rw [List.nil_append, ef, List.length_map, sizeLine_eq]; omega) (fun x hx acc h1 N ha hN => ?_) ?_
  · obtain ⟨ss, _, rfl⟩ := List.mem_map.mp hx
    simp [rowD]
    refine lc_mapA (fun x => [x]) (ss.map S4.d) acc trivial ?_ (fun x hx acc N ha hN => ?_) ?_
    · simpa [rowD, part] using ha
    · simp at ha ⊢
      exact ⟨by omega, hN⟩
    · simpa [rowD, part] using hN
  · rw [List.nil_append, ef]
    intro p2 hp2
    have np : p2 ≠ p := fun z => by rw [z, up_self] at hp2; cases hp2
    have g0 : Gw h (up (up h p (.lst [])) p2 (.lst (sss.flatten.map S4.d))) := (Gw.up hp).trans (Gw.up hp2)
    refine for_rule (fun r σ h' => ∃ done rest, sss.flatten = done ++ rest ∧ r = rest.map S4.d ∧ h' p = some (.lst ((done.map S4.span).map S3.d)) ∧ h' p2 = some (.lst (sss.flatten.map S4.d)) ∧ Gw h h' ∧ ∃ a b c e f g k, σ = [some (.tup (sss.map rowD)), some (.ref p), a, b, c, e, f, g, k])
      (fun _ _ _ ⟨_, _, _, _, _, e, _⟩ => e) (fun σ h' ⟨done, rest, e1, e2, e3, e4, g, a, b, c, e, f, g1, k, e5⟩ => ?_) (fun dd r σ h' K ⟨done, rest, e1, e2, e3, e4, g, a, b, c, e, f, g1, k, e5⟩ hK => ?_) _ _ _ ⟨[], sss.flatten, rfl, rfl, (up_ne (Ne.symm np)).trans up_same, up_same, g0, _, _, _, _, _, _, _, rfl⟩
    · have : rest = [] := by simpa using e2.symm
      subst this
      rw [List.append_nil] at e1
      subst e5
      simp
      rw [← e1] at e3
      exact sort_S3 _ h' Q e3 fun p3 hp3 => q _ p3 (g.trans (Gw.up hp3)) up_same
    · cases rest with
      | nil => cases e2
      | cons s rest =>
        rw [List.map_cons] at e2
        cases e2
        subst e5
        have hw : s.y = 1 ∨ s.y = -1 := by
          have : s ∈ sss.flatten := by rw [e1]; simp
          obtain ⟨ss, h1, h2⟩ := List.mem_flatten.mp this
          exact o ss h1 s h2
        have dl : done.length < 100000 := by rw [e1] at hl; simp at hl; omega
        simp [S4.d]
        rw [wpB_cons]
        simp
        refine ⟨fits_le (by decide), last_ok (d := d) (way_mul hw) ?_⟩
        simp [e3]
        refine ⟨fits_le (by decide), by rw [sizeLine_eq]; omega, hK _ _ ⟨done ++ [s], rest, by rw [e1]; simp, rfl, ?_, (up_ne np).trans e4, g.up2 hp, _, _, _, _, _, _, _, rfl⟩⟩
        simp [S4.span, S3.d, S4.last]
        by_cases c : s.f + s.y * (s.m - 1) < s.f <;> simp [c]
end
end LW
set_option Elab.async false
set_option linter.all false
set_option maxRecDepth 100000
set_option maxHeartbeats 1000000
namespace LW
open PySem L2 DL
def ap1 (a b : S3) : Bool := !decide (a.w = b.w) || decide (a.hi < b.lo)
def aps (l : List S3) : Bool := (l.zip (l.drop 1)).all fun p => ap1 p.1 p.2
theorem zip_ds {α : Type} (f : α → D) (l m : List α) : (((l.map f).zip (m.map f)).map fun p => D.tup [p.1, p.2]) = (l.zip m).map fun p => .tup [f p.1, f p.2] := by
  rw [List.zip_map, List.map_map]; rfl
section
variable {d : Nat} {h : MH} {Q : D → MH → Prop} {E : DX}
theorem apart_ok {a : Addr} {l : List S3} (ea : h a = some (.lst (l.map S3.d))) (hl : l.length ≤ 100000) (q : ∀ h', Gw h h' → Q (.bl (aps l)) h') : Ph prog (d + 1) 10 [.ref a] h Q E := by
  refine ph_of at_are_apart rfl ?_
  simp [f_are_apart, ea]
  intro p hp
  have np : a ≠ p := fun z => by rw [z, hp] at ea; cases ea
  refine ⟨_, (up_ne np).trans ea, ?_⟩
  rw [show (1 : Int) = ((1 : Nat) : Int) from rfl, cut_from, ← List.map_drop, zip_ds]
  refine lc_map (fun x => match x with
    | .tup [.tup [.str w, _, .int hi], .tup [.str w', .int lo', _]] => [.bl (!decide (w = w') || decide (hi < lo'))]
    | _ => []) _ ⟨(up_ne np).trans ea, by simp⟩ (by rw [List.length_map, List.length_zip, sizeLine_eq]; omega) (fun x hx acc N ha hN => ?_) (fun x hx => ?_) ?_
  · obtain ⟨⟨x, y⟩, _, rfl⟩ := List.mem_map.mp hx
    simp [S3.d] at hN ⊢
    by_cases c : x.w = y.w <;> simp [c] at hN ⊢ <;> exact ⟨ha, hN⟩
  · obtain ⟨⟨x, y⟩, _, rfl⟩ := List.mem_map.mp hx
    simp [S3.d]
  · intro p2 hp2
    refine ⟨_, by rw [flat_one (fun p => D.bl (ap1 p.1 p.2)) _ _ _ fun _ _ => rfl, show (fun p : S3 × S3 => D.bl (ap1 p.1 p.2)) = D.bl ∘ fun p => ap1 p.1 p.2 from rfl, ← List.map_map]; exact bls_map _, ?_⟩
    rw [List.all_map]
    exact q _ ((Gw.up hp).trans (Gw.up hp2))
def total (sss : List (List S4)) : Int := (sss.flatten.map S4.m).sum
def sspans (l : List S4) : List S3 := (l.map S4.span).mergeSort (PySem.W.dataLe false S3.p)
def stand : D → Bool
  | .tup rows => decide (2 ≤ rows.length) && (decide (rows.length ≤ 6) && (rows.all rowOK && (decide ((((rows.flatMap part).map toS).map S4.m).sum ≤ M18) && aps (sspans ((rows.flatMap part).map toS)))))
  | _ => false
theorem map_toS (sss : List (List S4)) : (((sss.map rowD).flatMap part).map toS) = sss.flatten := by
  rw [part_rows, List.map_map, show toS ∘ S4.d = id from rfl, List.map_id]
theorem rows_ss {h : MH} : ∀ {rows : List D}, (∀ r ∈ rows, Wf h r) → rows.all rowOK = true → ∃ sss : List (List S4), rows = sss.map rowD ∧ ∀ ss ∈ sss, RowOk ss
  | [], _, _ => ⟨[], rfl, fun _ z => nomatch z⟩
  | x :: rows, w, e => by
    rw [List.all_cons, Bool.and_eq_true] at e
    obtain ⟨ss, rfl, o⟩ := rowOK_ss (w x List.mem_cons_self) e.1
    obtain ⟨sss, rfl, os⟩ := rows_ss (fun r hr => w r (List.mem_cons_of_mem _ hr)) e.2
    exact ⟨ss :: sss, rfl, fun t ht => by
      rcases List.mem_cons.mp ht with rfl | ht
      · exact o
      · exact os t ht⟩
theorem flat_len : ∀ {sss : List (List S4)}, (∀ ss ∈ sss, RowOk ss) → sss.flatten.length ≤ 1000 * sss.length
  | [], _ => by simp
  | a :: l, o => by
    rw [List.flatten_cons, List.length_append, List.length_cons]
    have h1 := (o a List.mem_cons_self).len
    have h2 := flat_len (sss := l) fun s hs => o s (List.mem_cons_of_mem _ hs)
    omega
/-- one row looked at -/
theorem rowtest {x : D} (w : Wf h x) {R : D → MH → Prop} {F : DX} (q : ∀ h', Gw h h' → R (.bl (rowOK x)) h') :
    isTys x h [.tuple] fun k => tru (.bl k) h fun k => if k = true then Ph prog (d + 4) 5 [x] h (fun y h1 => tru y h1 fun k => if k = true then bi .list [x] h1 fun a h2 => Ph prog (d + 4) 7 [x] h2 (fun b h3 => eqD a b h3 fun k => R (.bl k) h3) F else R y h1) F else R (.bl k) h := by
  refine isTys_of w.kd rfl rfl ?_
  cases x <;> simp [tyB, subTy] <;> try exact q h .refl
  rename_i ds
  refine row_ok (d := d) w fun h1 g1 => ?_
  cases c : ds.all isSt with
  | false =>
    have : rowOK (.tup ds) = false := by simp [rowOK, c]
    simp
    rw [← this]; exact q h1 g1
  | true =>
    simp
    obtain ⟨hl, w⟩ := wf_tup.mp w
    obtain ⟨ss, rfl, o⟩ := all_S4 w c
    intro p hp
    have g2 : Gw h1 (up h1 p (.lst (ss.map S4.d))) := Gw.up hp
    refine joined_ok (d := d + 1) (by simpa using hl) (Good2.of o) fun h3 p3 g3 n3 e3 => ?_
    have ep : h3 p = some (.lst (ss.map S4.d)) := g3 _ _ up_same
    refine eqD_lst ep e3 (fun s hs => (o s hs).z) ?_ ?_
    · have : Good2 (jn ss) := by
        have : ∀ (l found : List S4), Good2 found → (∀ t ∈ l, PyData.strOk t.w = true ∧ (t.y = 1 ∨ t.y = -1)) → Good2 (l.foldl jn1 found) := fun l => by
          induction l with
          | nil => intro found f _; exact f
          | cons t l ih => intro found f ht; exact ih _ (jn1_good f (ht t List.mem_cons_self)) fun u hu => ht u (List.mem_cons_of_mem _ hu)
        exact this ss [] (fun _ z => nomatch z) fun t ht => ⟨(o t ht).z, (o t ht).y⟩
      exact fun s hs => (this s hs).1
    · rw [jn_eq]
      have : rowOK (.tup (ss.map S4.d)) = form ss := by
        have e : (ss.map S4.d).map toS = ss := by rw [List.map_map, show toS ∘ S4.d = id from rfl, List.map_id]
        simp only [rowOK, c, e, Bool.true_and]
      rw [← this]
      exact q h3 ((g1.trans g2).trans g3)

theorem sum_rows : ∀ sss : List (List S4), ((sss.map rowD).map fun r => (((part r).map toS).map S4.m).sum).sum = (sss.flatten.map S4.m).sum
  | [] => rfl
  | a :: l => by
    rw [List.map_cons, List.map_cons, List.sum_cons, sum_rows l, List.flatten_cons, List.map_append, List.sum_append]
    congr 1
    show (((a.map S4.d).map toS).map S4.m).sum = (a.map S4.m).sum
    rw [List.map_map (f := S4.d), show toS ∘ S4.d = id from rfl, List.map_id]
theorem standing_ok {x : D} (w : Wf h x) (q : ∀ h', Gw h h' → Q (.bl (stand x)) h') : Ph prog (d + 5) 11 [x] h Q E := by
  refine ph_of at_is_standing rfl ?_
  simp only [f_is_standing]
  rw [wpB_cons]
  simp
  refine isTys_of w.kd rfl rfl ?_
  cases x <;> simp [tyB, subTy] <;> try exact q h .refl
  rename_i rows
  have no : stand (.tup rows) = (decide (2 ≤ rows.length) && (decide (rows.length ≤ 6) && (rows.all rowOK && (decide ((((rows.flatMap part).map toS).map S4.m).sum ≤ M18) && aps (sspans ((rows.flatMap part).map toS)))))) := rfl
  have q0 := q h .refl
  rw [no] at q0
  by_cases c1 : 2 ≤ rows.length
  · by_cases c2 : rows.length ≤ 6
    · simp [show (2 : Int) ≤ (rows.length : Int) by omega, show (rows.length : Int) ≤ 6 by omega]
      rw [wpB_cons]
      simp
      obtain ⟨_, wr⟩ := wf_tup.mp w
      refine lc_mapG (fun r => [.bl (rowOK r)]) rows [] (fun _ _ => trivial) (by rw [sizeLine_eq]; simp; omega) (fun r hr acc h1 N ha g hN => ?_) (fun _ _ => by simp) fun h1 g1 => ?_
      · simp
        exact rowtest (d := d) (R := fun v h2 => acc.length < sizeLine ∧ N (acc ++ [v]) h2) ((wr r hr).gw g) fun h2 g2 => ⟨ha, hN h2 g2⟩
      · intro p hp
        refine ⟨_, bls_flat rowOK rows, ?_⟩
        have g2 : Gw h (up h1 p (.lst ([] ++ rows.flatMap fun r => [.bl (rowOK r)]))) := g1.trans (Gw.up hp)
        generalize up h1 p (.lst ([] ++ rows.flatMap fun r => [.bl (rowOK r)])) = h2 at g2 ⊢
        cases c3 : rows.all rowOK with
        | false =>
          have hm : false ∈ rows.map rowOK := by
            obtain ⟨r, hr, e⟩ := List.all_eq_false.mp c3
            exact List.mem_map.mpr ⟨r, hr, by simpa using e⟩
          rw [if_pos hm]
          have := q h2 g2
          rw [no, c3] at this
          simpa using this
        | true =>
          have hm : false ∉ rows.map rowOK := fun z => by
            obtain ⟨r, hr, e⟩ := List.mem_map.mp z
            have := List.all_eq_true.mp c3 r hr
            rw [e] at this; cases this
          rw [if_neg hm]
          obtain ⟨sss, rfl, os⟩ := rows_ss wr c3
          have fl := flat_len os
          have fl2 : sss.flatten.length ≤ 6000 := by simp at c2; omega
          refine lc_mapG (fun r => [.int (((part r).map toS).map S4.m).sum]) (sss.map rowD) [] (fun _ _ => trivial) (by rw [sizeLine_eq]; simp at c2 ⊢; omega) (fun r hr acc h3 N ha g hN => ?_) (fun _ _ => by simp) fun h3 g3 => ?_
          · obtain ⟨ss, hs, rfl⟩ := List.mem_map.mp hr
            simp
            refine yards_ok (d := d + 3) (os ss hs).len fun h4 g4 => ⟨ha, ?_⟩
            have := hN h4 g4
            have e : (part (rowD ss)).map toS = ss := by show (ss.map S4.d).map toS = ss; rw [List.map_map, show toS ∘ S4.d = id from rfl, List.map_id]
            rw [e] at this
            exact this
          · intro p2 hp2
            refine ⟨_, ints_flat (fun r => (((part r).map toS).map S4.m).sum) (sss.map rowD), ?_⟩
            rw [sum_rows sss]
            have g4 : Gw h2 (up h3 p2 (.lst ([] ++ (sss.map rowD).flatMap fun r => [.int (((part r).map toS).map S4.m).sum]))) := g3.trans (Gw.up hp2)
            generalize up h3 p2 (.lst ([] ++ (sss.map rowD).flatMap fun r => [.int (((part r).map toS).map S4.m).sum])) = h4 at g4 ⊢
            rw [c3, map_toS] at no
            generalize (sss.flatten.map S4.m).sum = T at no ⊢
            simp only [List.length_map] at c1 c2 no
            rw [decide_eq_true c1, decide_eq_true c2] at no
            by_cases c4 : T ≤ 1000000000000000000
            · rw [if_pos c4]
              refine spans_ok (d := d + 2) (by omega) (fun ss hs s h => ((os ss hs).ok s h).y) fun h5 p5 g5 e5 => ?_
              refine apart_ok (d := d + 3) e5 (by rw [List.length_mergeSort, List.length_map]; omega) fun h6 g6 => ?_
              have := q h6 (((g2.trans g4).trans g5).trans g6)
              rw [no, show decide (T ≤ M18) = true from decide_eq_true c4] at this
              exact this
            · rw [if_neg c4, decide_eq_false c4]
              have := q h4 (g2.trans g4)
              rw [no, show decide (T ≤ M18) = false from decide_eq_false c4] at this
              exact this
    · simp [c2] at q0
      simp [show (2 : Int) ≤ (rows.length : Int) by omega, show ¬ (rows.length : Int) ≤ 6 by omega]
      exact q0
  · simp [c1] at q0
    simp [show ¬ (2 : Int) ≤ (rows.length : Int) by omega]
    exact q0
end
end LW
set_option Elab.async false
set_option linter.all false
set_option maxRecDepth 100000
set_option maxHeartbeats 1000000
namespace LW
open PySem L2 DL
theorem eqD_emp {h : MH} {a b : Addr} {xs : List D} {P : Bool → Prop} (ea : h a = some (.lst xs)) (eb : h b = some (.lst [])) (p : P xs.isEmpty) : eqD (.ref a) (.ref b) h P := by
  cases xs with
  | nil => exact eqD_lst (l := []) (m := []) ea eb (fun _ z => nomatch z) (fun _ z => nomatch z) p
  | cons x xs => exact Or.inr ⟨_, _, ea, eb, by simp, p⟩
def keep (c : D → Bool) (x : D) : List D := if c x = true then [] else [x]
theorem keep_len (c : D → Bool) (x : D) : (keep c x).length ≤ 1 := by unfold keep; split <;> simp
theorem keep_all (c : D → Bool) : ∀ l : List D, (l.flatMap (keep c)).isEmpty = l.all c
  | [] => rfl
  | x :: l => by
    rw [List.flatMap_cons, List.all_cons, ← keep_all c l]
    unfold keep
    cases c x <;> simp
section
variable {d : Nat} {h : MH} {Q : D → MH → Prop} {E : DX}
theorem lword_ok {x : D} (w : Wf h x) (q : ∀ h', Gw h h' → Q (.bl (isWd x)) h') : Ph prog (d + 1) 21 [x] h Q E := by
  refine ph_of at__law_is_word rfl ?_
  simp only [f__law_is_word]
  rw [wpB_cons]
  simp
  refine isTys_of w.kd rfl rfl ?_
  cases x <;> simp [tyB, subTy] <;> try exact q h .refl
  rename_i z
  refine ⟨w.1, ?_⟩
  by_cases c : 0 < z.length
  · by_cases c2 : z.length < 9
    · simp [c, c2, show (z.length : Int) < 9 by omega, show (0 : Int) < z.length by omega]
      refine lc_mapG (keep fun d => match d with
        | .str w => subStr w letters
        | _ => false) _ [] (fun _ _ => trivial) (by simp; exact w.1) (fun d hd acc h1 N ha g hN => ?_) (fun d hd => keep_len _ _) fun h1 g1 => ?_
      · obtain ⟨c, _, rfl⟩ := List.mem_map.mp hd
        have this := hN h1 .refl
        simp [keep] at this ⊢
        change (if subStr ⟨#[c]⟩ letters = true then _ else _)
        cases e : subStr ⟨#[c]⟩ letters <;> simp [e] at this ⊢
        · exact ⟨ha, this⟩
        · exact this
      · intro p hp
        refine ⟨fits_le (by decide), fun p2 hp2 => ?_⟩
        have np : p ≠ p2 := fun z => by rw [← z, up_self] at hp2; cases hp2
        refine eqD_emp ((up_ne np).trans up_same) up_same ?_
        rw [List.nil_append, keep_all]
        have key : (z.cps.toList.map fun c => D.str ⟨#[c]⟩).all (fun d => match d with
          | .str w => subStr w letters
          | _ => false) = isWd (.str z) := by simp [isWd, c, show z.length ≤ 8 by omega, List.all_map]
        rw [key]
        exact q _ ((g1.trans (Gw.up hp)).trans (Gw.up hp2))
    · simp [c, c2, show ¬ (z.length : Int) < 9 by omega, show (0 : Int) < z.length by omega]
      have := q h .refl
      simpa [isWd, c, show ¬ z.length ≤ 8 by omega] using this
  · have := q h .refl
    simp [c, show ¬ (0 : Int) < z.length by omega]
    simpa [isWd, c] using this

theorem in_way {y : Int} {h : MH} {P : Bool → Prop} (p : P (isWy (.int y))) : inOp (.int y) (.tup [.int 1, .int (-1)]) h P := ⟨rfl, rfl, by simpa [inD, toV, isWy, eqV] using p⟩
theorem isSt_ints {a b c e : D} (h : isSt (.tup [a, b, c, e]) = true) : isWh (-1) (M18 + 1) b = true ∧ isWh (-1) (M18 + 1) c = true ∧ isWh (-1) (M18 + 1) e = true := by
  unfold isSt at h
  split at h
  · rename_i a' f m y e1
    cases e1
    simp only [Bool.and_eq_true, decide_eq_true_eq] at h
    obtain ⟨_, h2, h3, h4, _⟩ := h
    obtain ⟨y', ey, hy⟩ := isWy_int h2
    cases ey
    obtain ⟨f', ef, hf⟩ := isWh_int h3
    cases ef
    obtain ⟨m', em, hm⟩ := isWh_int h4
    cases em
    simp [isWh, M18] at hf hm ⊢
    omega
  · cases h
theorem lstretch_ok {x : D} (w : Wf h x) (q : ∀ h', Gw h h' → Q (.bl (isSt x)) h') : Ph prog (d + 2) 28 [x] h Q E := by
  refine ph_of at__law_is_stretch rfl ?_
  simp only [f__law_is_stretch]
  rw [wpB_cons]
  simp
  refine isTys_of w.kd rfl rfl ?_
  cases x <;> simp [tyB, subTy] <;> try exact q h .refl
  rename_i ds
  by_cases hl : ds.length = 4
  · obtain ⟨a, b, c, e, rfl⟩ := four hl
    obtain ⟨_, w⟩ := wf_tup.mp w
    have wa := w a (by simp)
    have wb := w b (by simp)
    have wc := w c (by simp)
    have we := w e (by simp)
    simp
    refine lword_ok (d := d) wa fun h1 g1 => ?_
    cases ca : isWd a with
    | false => simp; rw [← isSt_no (b := b) (c := c) (e := e) (.inl ca)]; exact q h1 g1
    | true =>
      simp
      rw [wpB_cons]
      simp
      rw [show (1 : Int) = ((1 : Nat) : Int) from rfl, cut_from]
      refine lc_mapG (keep (isWh (-1) (M18 + 1))) [b, c, e] [] (fun _ _ => trivial) (by simp [sizeLine_eq]) (fun x hx acc h2 N ha g hN => ?_) (fun d hd => keep_len _ _) fun h2 g2 => ?_
      · have wx : Wf h2 x := by
          rcases List.mem_cons.mp hx with rfl | hx
          · exact (wb.gw g1).gw g
          rcases List.mem_cons.mp hx with rfl | hx
          · exact (wc.gw g1).gw g
          rcases List.mem_cons.mp hx with rfl | hx
          · exact (we.gw g1).gw g
          · cases hx
        simp
        refine from_ok (d := d) wx.kd ?_
        have := hN h2 .refl
        simp [keep] at this ⊢
        change (if isWh (-1) (M18 + 1) x = true then _ else _)
        cases ex : isWh (-1) (M18 + 1) x <;> simp [ex] at this ⊢
        · exact ⟨ha, this⟩
        · exact this
      · intro p hp
        refine ⟨fits_le (by decide), fun p2 hp2 => ?_⟩
        have np : p ≠ p2 := fun z => by rw [← z, up_self] at hp2; cases hp2
        refine eqD_emp ((up_ne np).trans up_same) up_same ?_
        rw [List.nil_append, keep_all]
        have g3 := ((g1.trans g2).trans (Gw.up hp (o := .lst ([] ++ [b, c, e].flatMap (keep (isWh (-1) (M18 + 1))))))).trans (Gw.up hp2 (o := .lst []))
        rw [List.nil_append] at g3
        generalize up (up h2 p _) p2 _ = h3 at g3 ⊢
        cases c0 : [b, c, e].all (isWh (-1) (M18 + 1)) with
        | false =>
          simp
          have : isSt (.tup [a, b, c, e]) = false := by
            cases c9 : isSt (.tup [a, b, c, e]) with
            | false => rfl
            | true =>
              obtain ⟨i1, i2, i3⟩ := isSt_ints c9
              simp [i1, i2, i3] at c0
          rw [← this]; exact q h3 g3
        | true =>
          simp at c0
          obtain ⟨f, rfl, f1, f2⟩ := isWh_int c0.1
          obtain ⟨m, rfl, m1, m2⟩ := isWh_int c0.2.1
          obtain ⟨y, rfl, y1, y2⟩ := isWh_int c0.2.2
          simp
          rw [wpB_cons]
          simp
          rw [wpB_cons]
          simp
          have qq := q h3 g3
          have e : isSt (.tup [a, .int f, .int m, .int y]) = (isWy (.int y) && (decide (0 ≤ f) && (decide (f ≤ 1000000000000000000) && (decide (0 < m) && (decide (0 ≤ f + y * (m - 1)) && decide (f + y * (m - 1) ≤ 1000000000000000000)))))) := by
            have : decide (1 ≤ m) = decide (0 < m) := decide_eq_decide.mpr (by omega)
            have m2' : decide (m ≤ M18 + 1) = true := decide_eq_true m2
            simp [isSt, ca, isWh, m2', this, Bool.and_assoc]
          rw [e] at qq
          have mo : DL.MulOk y (m - 1) := .inl (by simp [M18] at y1 y2; omega)
          by_cases b1 : 0 ≤ f <;> by_cases b2 : f ≤ 1000000000000000000 <;> by_cases b3 : 0 ≤ f + y * (m - 1) <;> simp [b1, b2, b3] at qq ⊢ <;>
            (try refine ⟨mo, ?_⟩) <;> refine ⟨fits_le (by decide), in_way ?_⟩ <;>
            (cases b6 : isWy (.int y) <;> by_cases b5 : 0 < m <;> simp [b5, b6] at qq ⊢ <;> exact qq)
  · simp [hl, show ¬ (ds.length : Int) = 4 by omega]
    have : isSt (.tup ds) = false := by
      unfold isSt
      split
      · rename_i e; cases e; exact absurd rfl hl
      · rfl
    rw [← this]; exact q h .refl

theorem form_zip : ∀ ss : List S4, form ss = (ss.zip (ss.drop 1)).all fun p => !p.1.goes p.2
  | [] => rfl
  | [a] => rfl
  | a :: b :: r => by
    have h := form_zip (b :: r)
    show (!a.goes b && form (b :: r)) = (!a.goes b && ((b :: r).zip r).all fun p => !p.1.goes p.2)
    rw [h] <;> rfl
theorem goes_eq (a b : S4) : a.goes b = (decide (a.w = b.w) && (decide (a.y = b.y) && decide (b.f = a.f + a.m * a.y))) := by
  unfold S4.goes S4.last
  have e : a.f + a.y * (a.m - 1) + a.y = a.f + a.m * a.y := by
    rw [Int.mul_sub, Int.mul_one, Int.mul_comm a.m a.y]; omega
  rw [e, Bool.eq_iff_iff]
  simp [and_assoc]
theorem lform_ok {ss : List S4} (hl : ss.length ≤ 1000) (o : ∀ s ∈ ss, s.Ok) (q : Q (.bl (form ss)) h) : Ph prog (d + 1) 29 [rowD ss] h Q E := by
  refine ph_of at__law_is_form rfl ?_
  simp only [f__law_is_form]
  rw [wpB_cons]
  simp [rowD]
  rw [show (1 : Int) = ((1 : Nat) : Int) from rfl, cut_from, ← List.map_drop, zip_ds]
  refine for_rule (fun r σ h' => h' = h ∧ ∃ done rest, ss.zip (ss.drop 1) = done ++ rest ∧ r = rest.map (fun p => .tup [S4.d p.1, S4.d p.2]) ∧ (done.all fun p => !p.1.goes p.2) = true ∧ ∃ a b, σ = [some (.tup (ss.map S4.d)), a, b])
    (fun _ _ _ _ => trivial) (fun σ h' ⟨e0, done, rest, e1, e2, e3, a, b, e4⟩ => ?_) (fun dd r σ h' K ⟨e0, done, rest, e1, e2, e3, a, b, e4⟩ hK => ?_) _ _ _ ⟨rfl, [], _, rfl, rfl, rfl, none, none, rfl⟩
  · have : rest = [] := by simpa using e2.symm
    subst this
    subst e4 e0
    rw [List.append_nil] at e1
    simp
    rw [form_zip, e1, e3] at q
    exact q
  · cases rest with
    | nil => cases e2
    | cons p rest =>
      obtain ⟨x, y⟩ := p
      rw [List.map_cons] at e2
      cases e2
      subst e4 e0
      have hx : x ∈ ss := by
        have : (x, y) ∈ ss.zip (ss.drop 1) := by rw [e1]; simp
        exact (List.of_mem_zip this).1
      simp [S4.d]
      have nxt : x.goes y = false → K [some (.tup (ss.map S4.d)), some x.d, some y.d] h' := fun g => hK _ _ ⟨rfl, done ++ [(x, y)], rest, by rw [e1]; simp, rfl, by rw [List.all_append, e3]; simp [g], _, _, rfl⟩
      have bad : x.goes y = true → Q (.bl false) h' := fun g => by
        have : form ss = false := by rw [form_zip, e1, List.all_append]; simp [g]
        rw [← this]; exact q
      rw [goes_eq] at nxt bad
      have mo : DL.MulOk x.m x.y := by
        rcases (o x hx).y with e | e <;> rw [e] <;> exact .inr (.inl (by decide))
      simp only [S4.d] at nxt
      by_cases c1 : x.w = y.w <;> by_cases c2 : x.y = y.y <;> simp [c1, c2] at nxt bad ⊢
      · refine ⟨by rw [← c2]; exact mo, ?_⟩
        by_cases c3 : y.f = x.f + x.m * y.y <;> simp [c3] at nxt bad ⊢
        · exact bad
        · exact nxt
      · exact nxt
      · exact nxt
      · exact nxt
end
end LW
set_option Elab.async false
set_option linter.all false
set_option maxRecDepth 100000
set_option maxHeartbeats 1000000
namespace LW
open PySem L2 DL
/-! ### lines beside spans -/
def S4.line (s : S4) : S3 := ⟨s.w, if s.last < s.f then s.last else s.f, s.m⟩
def phi (a : S3) : S3 := ⟨a.w, a.lo, a.lo + a.hi - 1⟩
theorem phi_line {s : S4} (o : s.Ok) : phi s.line = s.span := by
  have h1 := o.m1
  unfold phi S4.line S4.span S4.last
  rcases o.y with e | e
  · simp only [e, S3.mk.injEq, true_and, Int.one_mul]
    split <;> split <;> omega
  · simp only [e, S3.mk.injEq, true_and]
    split <;> split <;> omega
theorem dataLt_S3 (a b : S3) : PySem.W.dataLt a.p b.p = if a.w = b.w then (if a.lo = b.lo then decide (a.hi < b.hi) else decide (a.lo < b.lo)) else PySem.W.dataLt (.str a.w) (.str b.w) := by
  unfold S3.p
  rw [PySem.W.dataLt_tuple, PySem.W.dataLt_cons (by simp [PySem.W.alike]), PySem.W.dataLt_cons (by simp [PySem.W.alike]), PySem.W.dataLt_cons (by simp [PySem.W.alike])]
  have e : PyProof.Rows.lexLt PyProof.Rows.itemOrd (PySem.W.keyToksAll []) (PySem.W.keyToksAll []) = false := PyProof.Rows.lex_irrefl _
  rw [e, PySem.W.dataLt_int, PySem.W.dataLt_int]
  simp only [PyData.eqv, beq_iff_eq]
  by_cases c3 : a.hi = b.hi
  · simp [c3]
  · simp [c3]
def slines (l : List S4) : List S3 := (l.map S4.line).mergeSort (PySem.W.dataLe false S3.p)
theorem slines_phi {l : List S4} (o : ∀ s ∈ l, s.Ok) : (slines l).map phi = sspans l := by
  unfold slines sspans
  have e : l.map S4.span = (l.map S4.line).map phi := by
    rw [List.map_map]
    exact List.map_congr_left fun s hs => (phi_line (o s hs)).symm
  rw [e]
  refine List.map_mergeSort fun a _ b _ => ?_
  rw [PySem.W.dataLe_eq]
  show (!PySem.W.dataLt _ _) = (!PySem.W.dataLt _ _)
  rw [dataLt_S3, dataLt_S3]
  congr 1
  by_cases c1 : b.w = a.w
  · by_cases c2 : b.lo = a.lo
    · simp [phi, c1, c2]
    · simp [phi, c1, c2]
  · simp [phi, c1]
theorem perm_sum {l m : List Int} (p : l.Perm m) : l.sum = m.sum := by
  induction p with
  | nil => rfl
  | cons x _ ih => simp [ih]
  | swap x y l => simp; omega
  | trans _ _ h1 h2 => exact h1.trans h2
theorem slines_sum (l : List S4) : ((slines l).map S3.hi).sum = (l.map S4.m).sum := by
  have p : ((slines l).map S3.hi).Perm ((l.map S4.line).map S3.hi) := (List.mergeSort_perm _ _).map _
  rw [perm_sum p, List.map_map] <;> rfl
def lap (a b : S3) : Bool := !(decide (a.w = b.w) && decide (b.lo < a.lo + a.hi))
theorem slines_aps {l : List S4} (o : ∀ s ∈ l, s.Ok) : (((slines l).zip ((slines l).drop 1)).all fun p => lap p.1 p.2) = aps (sspans l) := by
  rw [← slines_phi o]
  unfold aps
  rw [← List.map_drop, List.zip_map, List.all_map]
  congr 1
  funext p
  obtain ⟨a, b⟩ := p
  show lap a b = ap1 (phi a) (phi b)
  unfold lap ap1 phi
  by_cases c : a.w = b.w
  · simp only [c, decide_true, Bool.true_and, Bool.not_true, Bool.false_or]
    rw [← decide_not]
    exact decide_eq_decide.mpr (by omega)
  · simp [c]
end LW
set_option Elab.async false
set_option linter.all false
set_option maxRecDepth 100000
set_option maxHeartbeats 1000000
namespace LW
open PySem L2 DL
theorem stand_no {rows : List D} (c : rows.all rowOK = false) : stand (.tup rows) = false := by simp [stand, c]
def keepF (c : D → Bool) (g : D → D) (x : D) : List D := if c x = true then [] else [g x]
theorem keepF_len (c : D → Bool) (g : D → D) (x : D) : (keepF c g x).length ≤ 1 := by unfold keepF; split <;> simp
theorem keepF_all (c : D → Bool) (g : D → D) : ∀ l : List D, (l.flatMap (keepF c g)).isEmpty = l.all c
  | [] => rfl
  | x :: l => by
    rw [List.flatMap_cons, List.all_cons, ← keepF_all c g l]
    unfold keepF
    cases c x <;> simp
def notlap : D → Bool
  | .tup [.tup [.str w, .int lo, .int m], .tup [.str w', .int lo', _]] => !(decide (w = w') && decide (lo' < lo + m))
  | _ => true
def fst : D → D
  | .tup [a, _] => a
  | x => x
section
variable {d : Nat} {h : MH} {Q : D → MH → Prop} {E : DX}
theorem lstanding_ok {x : D} (w : Wf h x) (q : ∀ h', Gw h h' → Q (.bl (stand x)) h') : Ph prog (d + 3) 30 [x] h Q E := by
  refine ph_of at__law_is_standing rfl ?_
  simp only [f__law_is_standing]
  rw [wpB_cons]
  simp
  refine isTys_of w.kd rfl rfl ?_
  cases x <;> simp [tyB, subTy] <;> try exact q h .refl
  rename_i rows
  have q0 := q h .refl
  by_cases c1 : 2 ≤ rows.length
  · by_cases c2 : rows.length ≤ 6
    · simp [show (2 : Int) ≤ (rows.length : Int) by omega, show (rows.length : Int) ≤ 6 by omega]
      rw [wpB_cons]
      simp
      refine ⟨fits_le (by decide), fun p0 hp0 => ?_⟩
      rw [wpB_cons]
      simp
      obtain ⟨_, wr⟩ := wf_tup.mp w
      refine for_rule (fun r σ h' => ∃ (dss : List (List S4)) (p : Addr), rows = dss.map rowD ++ r ∧ (∀ ss ∈ dss, RowOk ss) ∧ h' p = some (.lst ((dss.flatten.map S4.line).map S3.d)) ∧ Gw h h' ∧ ∃ a2 a3 a4 a5 a6 a7 a8, σ = [some (.tup rows), some (.ref p), a2, a3, a4, a5, a6, a7, a8])
        (fun _ _ _ _ => trivial) (fun σ h' ⟨dss, p, e1, os, ep, g, a2, a3, a4, a5, a6, a7, a8, eσ⟩ => ?_) (fun r rest σ h' K ⟨dss, p, e1, os, ep, g, a2, a3, a4, a5, a6, a7, a8, eσ⟩ hK => ?_) _ _ _ ⟨[], p0, rfl, (fun _ z => nomatch z), up_same, Gw.up hp0, none, none, none, none, none, none, none, rfl⟩
      · subst eσ
        rw [List.append_nil] at e1
        subst e1
        have fl := flat_len os
        simp at c2
        have osk : ∀ s ∈ dss.flatten, s.Ok := fun s hs => by
          obtain ⟨ss, h1, h2⟩ := List.mem_flatten.mp hs
          exact (os ss h1).ok s h2
        have ll : (slines dss.flatten).length ≤ 6000 := by unfold slines; rw [List.length_mergeSort, List.length_map]; omega
        have hall : (dss.map rowD).all rowOK = true := by
          rw [List.all_eq_true]
          intro r hr
          obtain ⟨ss, hs, rfl⟩ := List.mem_map.mp hr
          have e : (ss.map S4.d).map toS = ss := by rw [List.map_map, show toS ∘ S4.d = id from rfl, List.map_id]
          show ((ss.map S4.d).all isSt && form ((ss.map S4.d).map toS)) = true
          rw [(os ss hs).st, e, (os ss hs).fm] <;> rfl
        have no : stand (.tup (dss.map rowD)) = (decide ((dss.flatten.map S4.m).sum ≤ M18) && aps (sspans dss.flatten)) := by
          have e : stand (.tup (dss.map rowD)) = (decide (2 ≤ (dss.map rowD).length) && (decide ((dss.map rowD).length ≤ 6) && ((dss.map rowD).all rowOK && (decide (((((dss.map rowD).flatMap part).map toS).map S4.m).sum ≤ M18) && aps (sspans (((dss.map rowD).flatMap part).map toS)))))) := rfl
          rw [e, map_toS, hall, decide_eq_true c1, decide_eq_true (by simpa using c2)] <;> rfl
        dsimp only
        rw [wpB_cons]
        simp
        refine sort_S3 _ h' _ ep fun p1 hp1 => ?_
        rw [wpB_cons]
        simp
        have es : (List.map (List.map S4.line) dss).flatten.mergeSort (PySem.W.dataLe false S3.p) = slines dss.flatten := by rw [← List.map_flatten] <;> rfl
        rw [es]
        have no2 := no
        rw [← slines_sum, ← slines_aps osk] at no2
        generalize slines dss.flatten = L at no2 ll ⊢
        have g1 : Gw h (up h' p1 (.lst (L.map S3.d))) := g.trans (Gw.up hp1)
        have e1 : up h' p1 (.lst (L.map S3.d)) p1 = some (.lst (L.map S3.d)) := up_same
        generalize up h' p1 (.lst (L.map S3.d)) = h1 at g1 e1 ⊢
        refine lc_mapG (fun x => match x with
          | .tup [_, _, m] => [m]
          | _ => []) (L.map S3.d) [] (fun h2 g2 => g2 _ _ e1) (by rw [List.length_map, sizeLine_eq]; simp; omega) (fun x hx acc h2 N ha g hN => ?_) (fun x hx => ?_) fun h2 g2 => ?_
        · obtain ⟨s, _, rfl⟩ := List.mem_map.mp hx
          simp [S3.d]
          exact ⟨ha, hN h2 .refl⟩
        · obtain ⟨s, _, rfl⟩ := List.mem_map.mp hx
          simp [S3.d]
        · intro p2 hp2
          rw [List.nil_append, flat_one (fun s => D.int s.hi) L _ S3.d fun _ _ => rfl]
          refine ⟨L.map S3.hi, by rw [show (fun s : S3 => D.int s.hi) = D.int ∘ S3.hi from rfl, ← List.map_map]; exact ints_map _, ?_⟩
          have g3 := g2.trans (Gw.up hp2 (o := .lst (L.map fun s => D.int s.hi)))
          generalize up h2 p2 (.lst (L.map fun s => D.int s.hi)) = h3 at g3 ⊢
          have e3 := g3 _ _ e1
          by_cases c4 : 1000000000000000000 < (L.map S3.hi).sum
          · rw [if_pos c4]
            have := q h3 (g1.trans g3)
            rw [no2, decide_eq_false (show ¬ (L.map S3.hi).sum ≤ M18 by unfold M18; omega)] at this
            exact this
          · rw [if_neg c4]
            refine ⟨_, e3, fun p4 hp4 => ?_⟩
            have np : p1 ≠ p4 := fun z => by rw [← z, e3] at hp4; cases hp4
            rw [show (1 : Int) = ((1 : Nat) : Int) from rfl, cut_from, ← List.map_drop]
            have g4 := g3.trans (Gw.up hp4 (o := .lst ((L.drop 1).map S3.d)))
            have e5 : up h3 p4 (.lst ((L.drop 1).map S3.d)) p4 = some (.lst ((L.drop 1).map S3.d)) := up_same
            generalize up h3 p4 (.lst ((L.drop 1).map S3.d)) = h4 at g4 e5 ⊢
            have e4 := g4 _ _ e1
            refine ⟨_, e4, ?_⟩
            rw [zip_ds]
            refine lc_mapG (keepF notlap fst) _ [] (fun h5 g5 => ⟨g5 _ _ e4, g5 _ _ e5⟩) (by rw [List.length_map, List.length_zip, sizeLine_eq]; simp; omega) (fun x hx acc h5 N ha g hN => ?_) (fun _ _ => keepF_len _ _ _) fun h5 g5 => ?_
            · obtain ⟨⟨x, y⟩, _, rfl⟩ := List.mem_map.mp hx
              have := hN h5 .refl
              simp [S3.d, keepF, notlap, fst] at this ⊢
              by_cases b1 : x.w = y.w <;> by_cases b2 : y.lo < x.lo + x.hi <;> simp [b1, b2, Int.not_le.mpr, Int.not_lt.mp] at this ⊢
              · exact ⟨ha, this⟩
              · exact this
              · exact this
              · exact this
            · intro p6 hp6
              refine ⟨fits_le (by decide), fun p7 hp7 => ?_⟩
              have np : p6 ≠ p7 := fun z => by rw [← z, up_self] at hp7; cases hp7
              refine eqD_emp ((up_ne np).trans up_same) up_same ?_
              rw [List.nil_append, keepF_all, List.all_map]
              have z1 := Gw.up hp6 (o := .lst ([] ++ ((L.zip (L.drop 1)).map fun p => D.tup [p.1.d, p.2.d]).flatMap (keepF notlap fst)))
              have z2 := Gw.up hp7 (o := .lst [])
              have := q _ ((((g1.trans g4).trans g5).trans z1).trans z2)
              rw [no2, decide_eq_true (show (L.map S3.hi).sum ≤ M18 by unfold M18; omega), Bool.true_and] at this
              exact this
      · subst eσ
        simp
        rw [wpB_cons]
        simp
        have wrow : Wf h' r := (wr r (by rw [e1]; simp)).gw g
        have bad : rowOK r = false → ∀ h2, Gw h' h2 → Q (.bl false) h2 := fun c h2 g2 => by
          have : rows.all rowOK = false := by rw [e1, List.all_append, List.all_cons, c]; simp
          rw [← stand_no this]
          exact q h2 (g.trans g2)
        refine isTys_of wrow.kd rfl rfl ?_
        cases r <;> simp [tyB, subTy] <;> try exact bad rfl h' .refl
        rename_i row hx0
        obtain ⟨hl, wr'⟩ := wf_tup.mp wrow
        refine lc_mapG (keep isSt) row [] (fun _ _ => trivial) (by rw [sizeLine_eq]; simp; omega) (fun x hx acc h1 N ha g1 hN => ?_) (fun _ _ => keep_len _ _) fun h1 g1 => ?_
        · simp
          refine lstretch_ok (d := d) ((wr' x hx).gw g1) fun h2 g2 => ?_
          have := hN h2 g2
          simp [keep] at this ⊢
          cases ex : isSt x <;> simp [ex] at this ⊢
          · exact ⟨ha, this⟩
          · exact this
        intro p5 hp5
        refine ⟨fits_le (by decide), fun p6 hp6 => ?_⟩
        have np : p5 ≠ p6 := fun z => by rw [← z, up_self] at hp6; cases hp6
        refine eqD_emp ((up_ne np).trans up_same) up_same ?_
        rw [List.nil_append, keep_all]
        have g1 := (g1.trans (Gw.up hp5 (o := .lst ([] ++ row.flatMap (keep isSt))))).trans (Gw.up hp6 (o := .lst []))
        rw [List.nil_append] at g1
        generalize up (up h1 p5 _) p6 _ = h1 at g1 ⊢
        cases c : row.all isSt with
        | false =>
          simp
          exact bad (by simp [rowOK, c]) h1 g1
        | true =>
          simp
          rw [wpB_cons]
          simp
          obtain ⟨ss, rfl, o⟩ := all_S4 wr' c
          have hl' : ss.length ≤ 1000 := by simpa using hl
          have ets : (ss.map S4.d).map toS = ss := by rw [List.map_map, show toS ∘ S4.d = id from rfl, List.map_id]
          refine lform_ok (d := d + 1) hl' o ?_
          cases cf : form ss with
          | false =>
            simp
            exact bad (by simp only [rowOK, c, ets, cf]; rfl) h1 g1
          | true =>
            simp
            have fl := flat_len os
            have dl : dss.length ≤ 6 := by rw [e1] at c2; simp at c2; omega
            refine lc_mapG (fun x => [(toS x).line.d]) (ss.map S4.d) [] (fun _ _ => trivial) (by rw [List.length_map, sizeLine_eq]; simp; omega) (fun x hx acc h2 N ha g2 hN => ?_) (fun _ _ => by simp) fun h2 g2 => ?_
            · obtain ⟨s, hs, rfl⟩ := List.mem_map.mp hx
              have := hN h2 .refl
              simp [S4.d, toS, S4.line, S3.d, S4.last] at this ⊢
              exact ⟨way_mul (o s hs).y, fits_le (by decide), ha, this⟩
            · intro p7 hp7
              have e7 : h2 p = some (.lst ((dss.flatten.map S4.line).map S3.d)) := (g1.trans g2) _ _ ep
              have np7 : p ≠ p7 := fun z => by rw [← z, e7] at hp7; cases hp7
              have efl : (ss.map S4.d).flatMap (fun x => [(toS x).line.d]) = (ss.map S4.line).map S3.d := by
                rw [flat_pure, List.map_map, List.map_map] <;> rfl
              rw [List.nil_append, efl]
              refine ⟨_, (up_ne np7).trans e7, fits_le ?_, fun p8 hp8 => hK _ _ ⟨dss ++ [ss], p8, by rw [e1]; simp [rowD], fun t ht => ?_, ?_, ?_, _, _, _, _, _, _, _, rfl⟩⟩
              · simp only [List.length_map]; omega
              · rcases List.mem_append.mp ht with ht | ht
                · exact os t ht
                · rw [List.mem_singleton] at ht; subst ht; exact ⟨hl', o, cf, c⟩
              · rw [up_self]
                simp
              · exact (((g.trans g1).trans g2).trans (Gw.up hp7)).trans (Gw.up hp8)
    · have : stand (.tup rows) = false := by simp [stand, c2]
      rw [this] at q0
      simp [show (2 : Int) ≤ (rows.length : Int) by omega, show ¬ (rows.length : Int) ≤ 6 by omega]
      exact q0
  · have : stand (.tup rows) = false := by simp [stand, c1]
    rw [this] at q0
    simp [show ¬ (2 : Int) ≤ (rows.length : Int) by omega]
    exact q0
end
end LW
set_option Elab.async false
set_option linter.all false
set_option maxRecDepth 100000
set_option maxHeartbeats 1000000
set_option exponentiation.threshold 20000
namespace DL
open PySem L2
@[simp] theorem ixD_ref_str {a : Addr} {k : Str} {h : MH} {Q : D → MH → Prop} : ixD (.ref a) (.str k) h Q = ∃ kvs d, h a = some (.dct kvs) ∧ getK kvs (.inr k) = some d ∧ Q d h := by
  apply propext
  constructor
  · rintro (⟨xs, j, d, e, r⟩ | ⟨kvs, k', d, e, r⟩)
    · cases e
    · cases e; exact ⟨kvs, d, r⟩
  · rintro ⟨kvs, d, r⟩
    exact .inr ⟨kvs, _, d, rfl, r⟩
@[simp] theorem setD_ref_str {a : Addr} {k : Str} {v : D} {h : MH} {P : MH → Prop} : setD (.ref a) (.str k) v h P = ∃ kvs, h a = some (.dct kvs) ∧ kvs.length < sizeLine ∧ P (up h a (.dct (putK kvs (.inr k) v))) := by
  apply propext
  constructor
  · rintro (⟨xs, j, d, e, r⟩ | ⟨kvs, k', e, r⟩)
    · cases e
    · cases e; exact ⟨kvs, r⟩
  · rintro ⟨kvs, r⟩
    exact .inr ⟨kvs, _, rfl, r⟩
/-- a pen's dict -/
def penL (c : Addr) (t l : Int) : List (Key × D) := [(.inr "cells", .ref c), (.inr "turn", .int t), (.inr "left", .int l)]
section
variable {c : Addr} {t l : Int}
@[simp] theorem penL_cells : getK (penL c t l) (.inr "cells") = some (.ref c) := by simp [penL, getK]
@[simp] theorem penL_turn : getK (penL c t l) (.inr "turn") = some (.int t) := by
  have : ("cells" : Str) ≠ "turn" := by decide
  simp [penL, getK, this]
@[simp] theorem penL_left : getK (penL c t l) (.inr "left") = some (.int l) := by
  have h1 : ("cells" : Str) ≠ "left" := by decide
  have h2 : ("turn" : Str) ≠ "left" := by decide
  simp [penL, getK, h1, h2]
@[simp] theorem penL_len : (penL c t l).length < sizeLine := by rw [sizeLine_eq]; show 3 < _; decide
@[simp] theorem penL_putT {t' : Int} : putK (penL c t l) (.inr "turn") (.int t') = penL c t' l := by
  have h1 : ("cells" : Str) ≠ "turn" := by decide
  have h2 : ("left" : Str) ≠ "turn" := by decide
  simp [penL, putK, h1, h2]
@[simp] theorem penL_putL {t' : Int} : putK (penL c t l) (.inr "left") (.int t') = penL c t t' := by
  have h1 : ("cells" : Str) ≠ "left" := by decide
  have h2 : ("turn" : Str) ≠ "left" := by decide
  simp [penL, putK, h1, h2]
end
/-- a pen that has drawn at most n numbers -/
def Pen (h : MH) (p c : Addr) (n : Nat) : Prop := ∃ cs t l, h p = some (.dct (penL c t l)) ∧ h c = some (.lst (List.map D.int cs)) ∧ cs.length ≤ 63 ∧ 0 ≤ t ∧ t ≤ n ∧ 0 ≤ l
/-- everything but the pen stays -/
def Gx (p : Addr) (h h' : MH) : Prop := (∀ a o, a ≠ p → h a = some o → h' a = some o) ∧ ((∃ kvs, h p = some (.dct kvs)) → ∃ kvs, h' p = some (.dct kvs))
theorem Gx.refl {p : Addr} {h : MH} : Gx p h h := ⟨fun _ _ _ e => e, fun e => e⟩
theorem Gx.trans {p : Addr} {h h1 h2 : MH} (f : Gx p h h1) (g : Gx p h1 h2) : Gx p h h2 := ⟨fun a o n e => g.1 a o n (f.1 a o n e), fun e => g.2 (f.2 e)⟩
theorem Gw.gx {p : Addr} {h h1 : MH} (f : Gw h h1) : Gx p h h1 := ⟨fun a o _ e => f a o e, fun ⟨k, e⟩ => ⟨k, f _ _ e⟩⟩
theorem Gx.pen {p : Addr} {h h1 : MH} {kvs : List (Key × D)} (f : Gx p h h1) (e : ∃ k, h1 p = some (.dct k)) : Gx p h (up h1 p (.dct kvs)) :=
  ⟨fun a o n e => (up_ne n).trans (f.1 a o n e), fun _ => ⟨kvs, up_same⟩⟩
theorem Gx.new {p q : Addr} {h h1 : MH} {o : MO} (f : Gx p h h1) (hq : h q = none) (np : p ≠ q) : Gx p h (up h1 q o) :=
  ⟨fun a u n e => (up_ne (fun z => by rw [z, hq] at e; cases e)).trans (f.1 a u n e), fun e => by
    obtain ⟨k, e⟩ := f.2 e
    exact ⟨k, (up_ne np).trans e⟩⟩
section
variable {p c q : Addr} {h h1 : MH} {n m : Nat} {o : MO}
theorem Gx.fresh (f : Gx p h h1) (np : p ≠ q) (e : h1 q = none) : h q = none := by
  cases z : h q with
  | none => rfl
  | some o => rw [f.1 _ _ (Ne.symm np) z] at e; cases e
theorem Pen.gw (f : Gw h h1) : Pen h p c n → Pen h1 p c n
  | ⟨cs, t, l, e, ec, r⟩ => ⟨cs, t, l, f _ _ e, f _ _ ec, r⟩
theorem Pen.mono (hm : n ≤ m) : Pen h p c n → Pen h p c m
  | ⟨cs, t, l, e, ec, a, b, d, r⟩ => ⟨cs, t, l, e, ec, a, b, by omega, r⟩
theorem Pen.has : Pen h p c n → ∃ kvs, h p = some (.dct kvs)
  | ⟨cs, t, l, e, _⟩ => ⟨_, e⟩
theorem Pen.nep : Pen h p c n → h q = none → p ≠ q
  | ⟨cs, t, l, e, _⟩, n => fun z => by rw [z, n] at e; cases e
theorem Pen.nec : Pen h p c n → h q = none → c ≠ q
  | ⟨cs, t, l, e, ec, _⟩, n => fun z => by rw [z, n] at ec; cases ec
theorem Pen.cp : Pen h p c n → c ≠ p
  | ⟨cs, t, l, e, ec, _⟩ => fun z => by rw [z, e] at ec; cases ec
/-- another object is written -/
theorem Pen.put (np : p ≠ q) (nc : c ≠ q) : Pen h p c n → Pen (up h q o) p c n
  | ⟨cs, t, l, e, ec, r⟩ => ⟨cs, t, l, (up_ne np).trans e, (up_ne nc).trans ec, r⟩
end
theorem Gx.kd {p : Addr} {h h1 : MH} {x : D} {c : Addr} {n : Nat} (pn : Pen h p c n) (f : Gx p h h1) (k : Kd h x) : Kd h1 x := by
  cases x with
  | ref a =>
    by_cases z : a = p
    · subst z
      rcases k with ⟨xs, e⟩ | ⟨xs, e⟩
      · obtain ⟨kvs, e2⟩ := pn.has; rw [e] at e2; cases e2
      · exact .inr (f.2 ⟨xs, e⟩)
    · rcases k with ⟨xs, e⟩ | ⟨xs, e⟩
      · exact .inl ⟨xs, f.1 _ _ z e⟩
      · exact .inr ⟨xs, f.1 _ _ z e⟩
  | _ => exact k
theorem eqD_lsts {a b : Addr} {xs ys : List D} {h : MH} {P : Bool → Prop} (e : h a = some (.lst xs)) (f : h b = some (.lst ys)) (z : xs = [] ∨ ys = []) (q : P (decide (xs.length = ys.length))) : eqD (.ref a) (.ref b) h P := by
  by_cases l : xs.length = ys.length
  · have : xs = [] ∧ ys = [] := by
      rcases z with rfl | rfl
      · exact ⟨rfl, List.length_eq_zero_iff.mp l.symm⟩
      · exact ⟨List.length_eq_zero_iff.mp l, rfl⟩
    obtain ⟨rfl, rfl⟩ := this
    exact .inl ⟨.list [], .list [], .lst e rfl (fun i d t hd => by simp at hd), .lst f rfl (fun i d t hd => by simp at hd), by decide, by decide, q⟩
  · rw [decide_eq_false l] at q
    exact .inr ⟨xs, ys, e, f, l, q⟩
end DL
namespace DL
open PySem L2
/-- one statement, what holds behind it, the rest -/
theorem wpB_seq {Φ : Fns} {s : Sm} {rest : List Sm} {Dn : En} {σ : DS} {h : MH} (R : DS → MH → Prop) (w : ∀ K : DS → MH → Prop, (∀ σ h, R σ h → K σ h) → wpS Φ s { Dn with nx := K } σ h) (tail : ∀ σ h, R σ h → wpB Φ rest Dn σ h) : wpB Φ (s :: rest) Dn σ h := by
  rw [wpB_cons]
  exact w _ tail
theorem mulL {i j : Int} (h : i.natAbs < 2 ^ 64) : MulOk i j := .inl h
theorem mulR {i j : Int} (h : j.natAbs < 2 ^ 64) : MulOk i j := .inr (.inl h)
theorem divOk {j : Int} (m0 : 0 < j) (mb : j.natAbs < 2 ^ 64) : DivOk j := ⟨m0, Nat.lt_trans mb (Nat.pow_lt_pow_right (by decide) (by decide))⟩
end DL
namespace LW
open PySem L2 DL
section
variable {d : Nat} {h : MH} {Q : D → MH → Prop} {E : DX} {p c : Addr} {n : Nat}
theorem pen_ok {ns : List Int} (q : ∀ p c h', Pen h' p c 0 → Gw h h' → Q (.ref p) h') : Ph prog (d + 1) 12 [.scr (ns.map D.int)] h Q E := by
  refine ph_of at__law_pen rfl ?_
  simp [f__law_pen]
  intro p0 h0 c hc p hp
  have e1 : cut (ns.map D.int) none (some 63) = (ns.take 63).map D.int := by rw [show (63 : Int) = ((63 : Nat) : Int) from rfl, cut_to, List.map_take]
  have nc : p ≠ c := fun z => by rw [z, up_self] at hp; cases hp
  refine q p c _ ⟨ns.take 63, 0, 0, up_self, (up_ne nc.symm).trans (by rw [up_self, e1]), by rw [List.length_take]; omega, Int.le_refl _, Int.le_refl _, Int.le_refl _⟩ (((Gw.up h0).trans (Gw.up hc)).trans (Gw.up hp))
def primes : List D := [.int 2147483647, .int 2147483629, .int 2147483587, .int 2147483579, .int 2147483563]
theorem primes_at (t : Int) : ∃ v : Int, atI primes (t % 5) = some (.int v) ∧ 0 < v ∧ v < 2 ^ 31 := by
  have : t % 5 = 0 ∨ t % 5 = 1 ∨ t % 5 = 2 ∨ t % 5 = 3 ∨ t % 5 = 4 := by omega
  rcases this with e | e | e | e | e <;> rw [e] <;> exact ⟨_, rfl, by decide, by decide⟩
theorem draw_ok {many : Int} (pn : Pen h p c n) (m0 : 0 < many) (mb : many.natAbs < 2 ^ 64) (hn : n < 2 ^ 60) (q : ∀ v h', 0 ≤ v → v < many → Pen h' p c (n + 1) → Gx p h h' → Q (.int v) h') : Ph prog (d + 1) 13 [.ref p, .int many] h Q E := by
  have np : p ≠ c := pn.cp.symm
  have kp : ∃ kvs, h p = some (.dct kvs) := pn.has
  obtain ⟨cs, t, l, e, ec, cl, t0, tn, l0⟩ := pn
  have dv : DivOk many := divOk m0 mb
  have vm : ∀ x : Int, 0 ≤ x % many ∧ x % many < many := fun x => ⟨Int.emod_nonneg _ (by omega), Int.emod_lt_of_pos _ m0⟩
  refine ph_of at__law_draw rfl ?_
  simp only [f__law_draw]
  rw [wpB_cons]
  simp [e]
  by_cases c1 : 0 < l
  · rw [if_pos c1]
    rw [wpB_cons]
    simp [e]
    refine ⟨m0, ?_⟩
    rw [wpB_cons]
    simp [e]
    refine ⟨dv, q _ _ (vm l).1 (vm l).2 ⟨cs, t, l / many, up_self, (up_ne np.symm).trans ec, cl, t0, by omega, Int.ediv_nonneg l0 (by omega)⟩ (Gx.refl.pen kp)⟩
  · rw [if_neg c1]
    rw [wpB_cons]
    simp [e]
    rw [wpB_cons]
    simp [e]
    rw [wpB_cons]
    simp [e]
    refine ⟨mulL (by decide), ?_⟩
    have e2 : up h p (MO.dct (penL c (t + 1) l)) p = some (.dct (penL c (t + 1) l)) := up_self
    have ec2 : up h p (MO.dct (penL c (t + 1) l)) c = some (.lst (cs.map D.int)) := (up_ne np.symm).trans ec
    have g2 : Gx p h (up h p (MO.dct (penL c (t + 1) l))) := Gx.refl.pen kp
    generalize up h p (MO.dct (penL c (t + 1) l)) = h2 at e2 ec2 g2 ⊢
    generalize 31 * t + 11 = cell0
    refine wpB_seq (fun σ h3 => ∃ cell : Int, σ = [some (D.ref p), some (D.int many), none, some (D.int t), some (D.int cell), none, none, none] ∧ h3 p = some (.dct (penL c (t + 1) l)) ∧ h3 c = some (.lst (cs.map D.int)) ∧ Gx p h h3) (fun K hK => ?_) fun σ h3 ⟨cell, es, e3, ec3, g3⟩ => ?_
    · simp [e2]
      refine ⟨fits_le (by decide), fun q1 hq1 => ?_⟩
      have n1 : p ≠ q1 := fun z => by rw [z, hq1] at e2; cases e2
      have n2 : c ≠ q1 := fun z => by rw [z, hq1] at ec2; cases ec2
      have g3 : Gx p h (up h2 q1 (.lst [])) := g2.trans ((Gw.up hq1).gx)
      have e3 : up h2 q1 (.lst []) p = _ := (up_ne n1).trans e2
      have ec3 : up h2 q1 (.lst []) c = _ := (up_ne n2).trans ec2
      refine eqD_lsts ec3 up_self (.inr rfl) ?_
      cases cs with
      | nil =>
        simp
        exact hK _ _ ⟨_, rfl, e3, ec3, g3⟩
      | cons x xs =>
        simp [e3, ec3]
        have hl : (0 : Int) < (xs.length : Int) + 1 := by omega
        have hm := Int.emod_nonneg t (Int.ne_of_gt hl)
        have hm2 := Int.emod_lt_of_pos t hl
        obtain ⟨k, hk⟩ := Int.eq_ofNat_of_zero_le hm
        rw [hk]
        have kl : k < (x :: xs).length := by rw [List.length_cons]; omega
        refine ⟨D.int ((x :: xs)[k]'kl), ?_, hK _ _ ⟨_, rfl, e3, ec3, g3⟩⟩
        show atI (D.int x :: List.map D.int xs) (k : Int) = _
        rw [DL.atI_nat, ← List.map_cons, List.getElem?_map, List.getElem?_eq_getElem kl]; rfl
    · subst es
      refine wpB_seq (fun σ h4 => σ = [some (D.ref p), some (D.int many), none, some (D.int t), some (D.int cell), none, none, none] ∧ h4 = h3) (fun K hK => ?_) fun σ h4 ⟨es, e4⟩ => ?_
      · have k0 := hK _ _ ⟨rfl, rfl⟩
        simp [e3, ec3]
        by_cases c3 : t < (cs.length : Int)
        · rw [if_pos c3]
          by_cases c4 : 1000000000000000000 ≤ if cell < 0 then -cell else cell
          · rw [if_pos c4]
            rw [wpB_cons]
            simp [e3]
            refine ⟨dv, m0, q _ _ (vm _).1 (vm _).2 ⟨cs, t + 1, _, up_self, (up_ne np.symm).trans ec3, cl, by omega, by omega, Int.ediv_nonneg (by omega) (by omega)⟩ (g3.pen ⟨_, e3⟩)⟩
          · rw [if_neg c4]; exact k0
        · rw [if_neg c3]; exact k0
      · subst es e4
        rw [wpB_cons]
        simp
        refine ⟨fits_le (by decide), fun q1 hq1 => ?_⟩
        have n1 : p ≠ q1 := fun z => by rw [z, hq1] at e3; cases e3
        have n2 : c ≠ q1 := fun z => by rw [z, hq1] at ec3; cases ec3
        have g4 : Gx p h (up h4 q1 (.lst primes)) := g3.trans ((Gw.up hq1).gx)
        have e4 : up h4 q1 (.lst primes) p = _ := (up_ne n1).trans e3
        have ec4 : up h4 q1 (.lst primes) c = _ := (up_ne n2).trans ec3
        have e5 : up h4 q1 (.lst primes) q1 = _ := up_self
        show wpB _ _ _ _ (up h4 q1 (.lst primes))
        generalize up h4 q1 (.lst primes) = h5 at g4 e4 ec4 e5 ⊢
        obtain ⟨v1, a1, b1, d1⟩ := primes_at t
        obtain ⟨v2, a2, b2, d2⟩ := primes_at (t + 2)
        rw [wpB_cons]
        simp [e5, a1]
        have tb : t.natAbs < 2 ^ 64 := by omega
        have tr : ∀ x y : Int, 0 < y → y < 2 ^ 31 → (x % y).natAbs < 2 ^ 64 := fun x y hy hz => by
          have := Int.emod_nonneg x (Int.ne_of_gt hy)
          have := Int.emod_lt_of_pos x hy
          omega
        rw [wpB_cons]
        simp
        refine ⟨b1, mulR (by decide), mulL (by decide), mulR tb, b1, ?_⟩
        rw [wpB_cons]
        simp [e5, a2]
        refine ⟨mulL (tr _ _ b1 d1), b2, ?_⟩
        refine ⟨mulL (tr _ _ b2 d2), divOk (by decide) (by decide), m0, q _ _ (vm _).1 (vm _).2 ⟨cs, t + 1, l, e4, ec4, cl, by omega, by omega, l0⟩ g4⟩
end
end LW
set_option Elab.async false
set_option linter.all false
set_option maxRecDepth 100000
set_option maxHeartbeats 1000000
set_option exponentiation.threshold 20000
namespace LW
open PySem L2 DL
section
variable {d : Nat} {h : MH} {Q : D → MH → Prop} {E : DX} {p c : Addr} {n : Nat}
theorem ixD_lst {a : Addr} {xs : List D} {i : Int} {x : D} (ea : h a = some (.lst xs)) (e : atI xs i = some x) (q : Q x h) : ixD (.ref a) (.int i) h Q := .inl ⟨xs, i, x, rfl, ea, e, q⟩
/-- one of a list -/
theorem pick_ok {a : Addr} {xs : List D} (pn : Pen h p c n) (hn : n < 2 ^ 60) (ea : h a = some (.lst xs)) (x0 : xs ≠ []) (xl : xs.length ≤ 16777216) (q : ∀ v h', v ∈ xs → Pen h' p c (n + 1) → Gx p h h' → Q v h') : Ph prog (d + 2) 14 [.ref p, .ref a] h Q E := by
  refine ph_of at__law_pick rfl ?_
  have l0 : 0 < xs.length := List.length_pos_iff.mpr x0
  have na : a ≠ p := fun z => by obtain ⟨k, e⟩ := pn.has; rw [← z, ea] at e; cases e
  simp [f__law_pick, ea]
  refine draw_ok (d := d) pn (by omega) (by omega) hn fun v h' v0 vm p' g => ?_
  obtain ⟨k, rfl⟩ := Int.eq_ofNat_of_zero_le v0
  have kl : k < xs.length := by omega
  refine ixD_lst (g.1 _ _ na ea) ?_ (q _ _ (List.getElem_mem kl) p' g)
  rw [DL.atI_nat, List.getElem?_eq_getElem kl]
/-- one sign of a text -/
theorem pickS_ok {z : Str} (pn : Pen h p c n) (hn : n < 2 ^ 60) (x0 : 0 < z.length) (xl : z.length ≤ 16777216) (q : ∀ v h', v ∈ z.cps.toList → Pen h' p c (n + 1) → Gx p h h' → Q (.str ⟨#[v]⟩) h') : Ph prog (d + 2) 14 [.ref p, .str z] h Q E := by
  refine ph_of at__law_pick rfl ?_
  simp [f__law_pick]
  refine ⟨fits_le xl, draw_ok (d := d) pn (by omega) (by omega) hn fun v h' v0 vm p' g => ?_⟩
  obtain ⟨k, rfl⟩ := Int.eq_ofNat_of_zero_le v0
  have kl : k < z.cps.toList.length := by
    have : z.length = z.cps.toList.length := by simp [Str.length]
    omega
  refine ⟨fits_le xl, z.cps.toList[k], ?_, q _ _ (List.getElem_mem _) p' g⟩
  rw [DL.atI_nat, List.getElem?_eq_getElem kl]
/-- a number of so many figures -/
theorem great_ok {k : Nat} (pn : Pen h p c n) (hn : n + k < 2 ^ 60) (hk : k ≤ 1000) (q : ∀ (v : Int) h', 0 ≤ v → v < 10 ^ k → Pen h' p c (n + k) → Gx p h h' → Q (.int v) h') : Ph prog (d + 2) 15 [.ref p, .int k] h Q E := by
  refine ph_of at__law_great rfl ?_
  simp only [f__law_great]
  rw [wpB_cons]
  simp
  rw [wpB_cons]
  simp
  refine ⟨by omega, ?_⟩
  refine for_rule (fun r σ h' => ∃ j v x, r.length + j = k ∧ σ = [some (D.ref p), some (D.int k), some (D.int v), x] ∧ 0 ≤ v ∧ v < 10 ^ j ∧ Pen h' p c (n + j) ∧ Gx p h h')
    (fun _ _ _ _ => trivial) (fun σ h' ⟨j, v, x, e1, e2, v0, vj, pn, g⟩ => ?_) (fun dd r σ h' K ⟨j, v, x, e1, e2, v0, vj, pn, g⟩ hK => ?_) _ _ _ ⟨0, 0, none, by simp, rfl, by decide, by simp, pn, .refl⟩
  · simp at e1; subst e1 e2
    simp
    exact q _ _ v0 vj pn g
  · subst e2
    rw [List.length_cons] at e1
    simp
    refine ⟨mulL (by decide), draw_ok (d := d) pn (by decide) (by decide) (by omega) fun w h2 w0 wm pn2 g2 => ?_⟩
    simp
    refine hK _ _ ⟨j + 1, 10 * v + w, _, by omega, rfl, by omega, ?_, pn2, g.trans g2⟩
    have : (10 : Int) ^ (j + 1) = 10 ^ j * 10 := Int.pow_succ _ _
    omega
/-- a number below, low or high ones more often -/
theorem below_ok {b : Int} (pn : Pen h p c n) (hn : n + 1000 < 2 ^ 60) (b0 : 0 < b) (bb : b < 10 ^ 19) (q : ∀ (v : Int) h', 0 ≤ v → v < b → Pen h' p c (n + 30) → Gx p h h' → Q (.int v) h') : Ph prog (d + 3) 18 [.ref p, .int b] h Q E := by
  refine ph_of at__law_below rfl ?_
  simp only [f__law_below]
  rw [wpB_cons]
  simp
  refine draw_ok (d := d + 1) pn (by decide) (by decide) (by omega) fun v h1 v0 vm pn1 g1 => ?_
  rw [wpB_cons]
  simp
  by_cases c1 : v = 0
  · rw [if_pos c1]
    refine draw_ok (d := d + 1) pn1 (by decide) (by decide) (by omega) fun w h2 w0 wm pn2 g2 => ?_
    simp
    refine q _ _ (by split <;> omega) (by split <;> omega) (pn2.mono (by omega)) (g1.trans g2)
  · rw [if_neg c1, wpB_cons]
    simp
    by_cases c2 : v = 1
    · rw [if_pos c2]
      refine draw_ok (d := d + 1) pn1 (by decide) (by decide) (by omega) fun w h2 w0 wm pn2 g2 => ?_
      simp
      refine q _ _ (by split <;> omega) (by split <;> omega) (pn2.mono (by omega)) (g1.trans g2)
    · rw [if_neg c2]
      have lb : (Str.ofString b.repr).length ≤ 19 := by
        obtain ⟨k, rfl⟩ := Int.eq_ofNat_of_zero_le (Int.le_of_lt b0)
        rw [ofString_length]
        show (Nat.repr k).length ≤ 19
        exact (Nat.length_repr_le_iff (by decide)).mpr (by omega)
      have ll : b.natAbs.log2 < 1920 := by
        rw [Nat.log2_lt (by omega)]
        exact Nat.lt_trans (show b.natAbs < 2 ^ 64 by omega) (Nat.pow_lt_pow_right (by decide) (by decide))
      generalize (Str.ofString b.repr).length = k at lb ⊢
      refine ⟨ll, fits_le (by omega), great_ok (d := d) pn1 (by omega) (by omega) fun w h2 w0 wm pn2 g2 => ?_⟩
      simp
      exact ⟨b0, q _ _ (Int.emod_nonneg _ (by omega)) (Int.emod_lt_of_pos _ b0) (pn2.mono (by omega)) (g1.trans g2)⟩
/-- a list's items in another order -/
theorem turned_ok {a : Addr} {xs : List D} (pn : Pen h p c n) (hn : n + 1000 < 2 ^ 60) (ea : h a = some (.lst xs)) (xl : xs.length ≤ 1000) (q : ∀ ys q h', (∀ y ∈ ys, y ∈ xs) → ys.length = xs.length → h q = none → h' q = some (.lst ys) → Pen h' p c (n + xs.length) → Gx p h h' → Q (.ref q) h') : Ph prog (d + 2) 17 [.ref p, .ref a] h Q E := by
  refine ph_of at__law_turned_about rfl ?_
  simp only [f__law_turned_about]
  rw [wpB_cons]
  simp [ea]
  intro b hb
  have g0 : Gw h (up h b (.lst xs)) := Gw.up hb
  have np := pn.nep hb
  have nc := pn.nec hb
  have pn := pn.gw g0
  have eb : up h b (.lst xs) b = _ := up_self
  generalize up h b (.lst xs) = h1 at g0 pn eb ⊢
  refine ⟨by omega, ?_⟩
  refine lc_rule (fun r acc h' => ∃ left, r.length = left.length ∧ acc.length + left.length = xs.length ∧ h' b = some (.lst left) ∧ (∀ y ∈ acc, y ∈ xs) ∧ (∀ y ∈ left, y ∈ xs) ∧ Pen h' p c (n + acc.length) ∧ Gx p h h')
    (fun _ _ _ _ => trivial) (fun acc h' ⟨left, e1, e2, e3, i1, i2, pn, g⟩ => ?_) (fun dd r acc h' N ⟨left, e1, e2, e3, i1, i2, pn, g⟩ hN => ?_) _ _ _ ⟨xs, by simp, by simp, eb, (fun _ z => nomatch z), fun _ z => z, pn.mono (by simp), g0.gx⟩
  · rw [List.length_cons] at e1
    simp [e3]
    refine draw_ok (d := d) pn (by omega) (by omega) (by omega) fun v h2 v0 vm pn2 g2 => ?_
    have e4 := g2.1 _ _ (Ne.symm np) e3
    obtain ⟨k, rfl⟩ := Int.eq_ofNat_of_zero_le v0
    have kl : k < left.length := by omega
    refine ⟨left, k, left[k], e4, ?_, List.getElem?_eq_getElem kl, by omega, by rw [sizeLine_eq]; omega, hN _ _ ⟨left.eraseIdx k, ?_, ?_, up_self, fun y hy => ?_, fun y hy => i2 _ (List.mem_of_mem_eraseIdx hy), (pn2.put np nc).mono ?_, ?_⟩⟩
    · rw [ixN_nat, if_pos kl]
    · rw [List.length_eraseIdx_of_lt kl]; omega
    · rw [List.length_eraseIdx_of_lt kl, List.length_append]; simp; omega
    · rcases List.mem_append.mp hy with hy | hy
      · exact i1 _ hy
      · rw [List.mem_singleton.mp hy]; exact i2 _ (List.getElem_mem kl)
    · rw [List.length_append]; simp; omega
    · exact (g.trans g2).new hb np
  · have e1 : left.length = 0 := e1.symm
    intro q1 hq1
    have n1 := pn.nep hq1
    refine q acc q1 _ i1 (by omega) (g.fresh n1 hq1) up_self ((pn.mono (by omega)).gw (Gw.up hq1)) (g.trans (Gw.up hq1).gx)
end
end LW
set_option Elab.async false
set_option linter.all false
set_option maxRecDepth 100000
set_option maxHeartbeats 1000000
namespace LW
open PySem L2 DL
theorem join_sing : ∀ cs : List Nat, PySem.Str.join (PySem.Str.ofString "") (cs.map fun c => (⟨#[c]⟩ : Str)) = ⟨cs.toArray⟩
  | [] => rfl
  | [c] => rfl
  | c :: b :: r => by
    show (⟨#[c]⟩ : Str) ++ PySem.Str.ofString "" ++ PySem.Str.join (PySem.Str.ofString "") ((b :: r).map fun c => (⟨#[c]⟩ : Str)) = _
    rw [join_sing (b :: r)]
    show (⟨(#[c] ++ (PySem.Str.ofString "").cps) ++ (b :: r).toArray⟩ : Str) = _
    rw [show (PySem.Str.ofString "").cps = #[] by decide]
    simp
/-- a text of at most 8 signs -/
def Wd (z : Str) : Prop := z.length ≤ 8 ∧ PyData.strOk z = true
theorem len_list (z : Str) : z.length = z.cps.toList.length := by simp [Str.length]
theorem sum_sing : ∀ cs : List Nat, ((cs.map (fun v => (⟨#[v]⟩ : Str))).map (·.length)).sum = cs.length
  | [] => rfl
  | a :: r => by
    rw [List.map_cons, List.map_cons, List.sum_cons, sum_sing r, List.length_cons]
    show 1 + _ = _
    omega
section
variable {d : Nat} {h : MH} {Q : D → MH → Prop} {E : DX} {p c : Addr} {n : Nat}
theorem base_lc {σ : DS} {i : Nat} {m : Nat} {K : List D → MH → Prop} (pn : Pen h p c n) (hn : n + m < 2 ^ 60) (hm : m ≤ 8)
    (hσ : ∀ x, (σ.set i (some x))[0]? = some (some (.ref p)) ∧ (σ.set i (some x))[2]? = some (some (.str letters)))
    (q : ∀ (cs : List Nat) h', cs.length = m → (∀ v ∈ cs, v ∈ letters.cps.toList) → Pen h' p c (n + m) → Gx p h h' → K (cs.map fun v => .str ⟨#[v]⟩) h') :
    lcGo (.nm i) (fun _ => True) (wpC (Ph prog (d + 2)) none) (wpE (Ph prog (d + 2)) (fun _ _ _ => False) (.call 14 [.var 0, .var 2])) σ K ((List.range m).map fun (k : Nat) => D.int k) [] h := by
  refine lc_rule (fun r acc h' => ∃ cs : List Nat, acc = cs.map (fun v => .str ⟨#[v]⟩) ∧ cs.length + r.length = m ∧ (∀ v ∈ cs, v ∈ letters.cps.toList) ∧ Pen h' p c (n + cs.length) ∧ Gx p h h')
    (fun _ _ _ _ => trivial) (fun acc h' ⟨cs, e1, e2, i1, pn, g⟩ => ?_) (fun dd r acc h' N ⟨cs, e1, e2, i1, pn, g⟩ hN => ?_) _ _ _ ⟨[], rfl, by simp, (fun _ z => nomatch z), pn, .refl⟩
  · subst e1
    rw [List.length_cons] at e2
    simp [hσ dd]
    refine pickS_ok (d := d) pn (by omega) (by decide) (by decide) fun v h2 hv pn2 g2 => ⟨by rw [sizeLine_eq]; omega, hN _ _ ⟨cs ++ [v], by simp, by rw [List.length_append]; simp; omega, fun y hy => ?_, pn2.mono (by rw [List.length_append]; simp; omega), g.trans g2⟩⟩
    rcases List.mem_append.mp hy with hy | hy
    · exact i1 _ hy
    · rw [List.mem_singleton.mp hy]; exact hv
  · subst e1
    have e2 : cs.length = m := e2
    exact q cs h' e2 i1 (e2 ▸ pn) g
theorem words_ok (pn : Pen h p c n) (hn : n + 1000 < 2 ^ 60) (q : ∀ (ws : List Str) q h', ws.length = 3 → (∀ z ∈ ws, Wd z) → h q = none → h' q = some (.lst (ws.map .str)) → Pen h' p c (n + 12) → Gx p h h' → Q (.ref q) h') : Ph prog (d + 3) 16 [.ref p, .int 3] h Q E := by
  refine ph_of at__law_words rfl ?_
  simp only [f__law_words]
  rw [wpB_cons]
  simp
  rw [wpB_cons]
  simp
  refine draw_ok (d := d + 1) pn (by decide) (by decide) (by omega) fun v h1 v0 vm pn1 g1 => ?_
  simp
  obtain ⟨b, rfl⟩ := Int.eq_ofNat_of_zero_le v0
  have em : (1 + (b : Int)).toNat = b + 1 := by omega
  rw [em]
  refine ⟨by omega, base_lc (d := d) pn1 (by omega) (by omega) (fun x => ⟨rfl, rfl⟩) fun cs h2 cl cm pn2 g2 => ?_⟩
  intro q1 hq1
  have g3 : Gx p h (up h2 q1 (.lst (cs.map fun v => .str ⟨#[v]⟩))) := (g1.trans g2).trans (Gw.up hq1).gx
  have pn3 : Pen (up h2 q1 (.lst (cs.map fun v => .str ⟨#[v]⟩))) p c (n + 9) := (pn2.gw (Gw.up hq1)).mono (by omega)
  refine ⟨_, cs.map (fun v => (⟨#[v]⟩ : Str)), up_self, ?_, ?_, ?_⟩
  · rw [show (cs.map fun v => D.str ⟨#[v]⟩) = (cs.map fun v => (⟨#[v]⟩ : Str)).map D.str by rw [List.map_map]; rfl]
    exact strs_map _
  · rw [sum_sing]
    rw [show (Str.ofString "").length = 0 by decide, Nat.mul_zero]
    omega
  have ej : Txt.join (Str.ofString "") (cs.map fun v => (⟨#[v]⟩ : Str)) = ⟨cs.toArray⟩ := by
    show Builtin.Str.glued (Str.ofString "") _ = _
    rw [StrLaws.glued_eq_join]; exact join_sing cs
  rw [ej]
  have lm : ∀ v ∈ letters.cps.toList, v < 1114112 := by decide
  have bl : (⟨cs.toArray⟩ : Str).length = cs.length := by simp [Str.length]
  generalize up h2 q1 (.lst (cs.map fun v => .str ⟨#[v]⟩)) = h4 at g3 pn3 ⊢
  clear pn2 g2 pn1 g1
  show wpB _ _ _ _ _
  have b8 : (⟨cs.toArray⟩ : Str).length ≤ 8 ∧ 0 < (⟨cs.toArray⟩ : Str).length := by omega
  have ok0 : ∀ v ∈ (⟨cs.toArray⟩ : Str).cps.toList, v < 1114112 := fun v hv => lm _ (cm _ (by simpa using hv))
  generalize (⟨cs.toArray⟩ : Str) = base at b8 ok0 ⊢
  rw [wpB_cons]
  simp
  refine ⟨fits_le (by omega), draw_ok (d := d + 1) pn3 (by omega) (by omega) (by omega) fun at' h5 a0 am pn5 g5 => ?_⟩
  try simp
  refine draw_ok (d := d + 1) pn5 (by decide) (by decide) (by omega) fun first h6 f0 fm pn6 g6 => ?_
  try simp
  refine ⟨fits_le (by decide), ?_⟩
  rw [wpB_cons]
  simp
  refine ⟨fits_le (by decide), fun q2 hq2 => ?_⟩
  refine pick_ok (d := d) (pn6.gw (Gw.up hq2)) (by omega) up_self (by simp) (by decide) fun stepD h7 hs pn7 g7 => ?_
  have : ∃ step : Int, stepD = .int step ∧ 0 < step ∧ step < 26 := by
    simp at hs
    rcases hs with h | h | h | h | h | h | h | h | h | h | h | h <;> exact ⟨_, h, by decide, by decide⟩
  obtain ⟨step, rfl, s0, sm⟩ := this
  try simp
  have g8 : Gx p h h7 := ((((g3.trans g5).trans g6).trans (Gw.up hq2).gx)).trans g7
  clear g7 hs g5 g6 g3
  obtain ⟨a, rfl⟩ := Int.eq_ofNat_of_zero_le a0
  have ls : letters.cps.toList.length = 26 := by decide
  refine lc_rule (fun r acc h' => h' = h7 ∧ (∀ x ∈ r, ∃ k : Nat, x = .int k) ∧ ∃ ws : List Str, acc = ws.map .str ∧ ws.length + r.length = 3 ∧ ∀ z ∈ ws, Wd z)
    (fun _ _ _ _ => trivial) (fun acc h' ⟨eh, ir, ws, e1, e2, i1⟩ => ?_) (fun dd r acc h' N ⟨eh, ir, ws, e1, e2, i1⟩ hN => ?_) _ _ _ ⟨rfl, ?_, [], rfl, by simp, fun _ z => nomatch z⟩
  · subst eh e1
    obtain ⟨k, rfl⟩ := ir _ List.mem_cons_self
    rw [List.length_cons] at e2
    have m0 := Int.emod_nonneg (first + step * k) (show (26 : Int) ≠ 0 by decide)
    have m1 := Int.emod_lt_of_pos (first + step * k) (show (0 : Int) < 26 by decide)
    obtain ⟨j, hj⟩ := Int.eq_ofNat_of_zero_le m0
    have jl : j < letters.cps.toList.length := by omega
    have gt : letters.cps.toList[j]? = some letters.cps.toList[j] := List.getElem?_eq_getElem jl
    have cv := lm _ (List.getElem_mem jl)
    generalize letters.cps.toList[j] = cv' at gt cv
    have e7 : cut base.cps.toList none (some (a : Int)) = base.cps.toList.take a := cut_to _ _
    have e8 : cut base.cps.toList (some ((a : Int) + 1)) none = base.cps.toList.drop (a + 1) := cut_from _ (a + 1)
    simp [e7, e8]
    refine ⟨fits_le (by omega), mulL (by omega), fits_le (by decide), cv', ?_, ?_⟩
    · rw [hj, DL.atI_nat]; exact gt
    have lb := len_list base
    have l1 : (⟨(base.cps.toList.take a).toArray⟩ : Str).length = a := by simp [Str.length] at lb am ⊢; omega
    have l2 : (⟨(base.cps.toList.drop (a + 1)).toArray⟩ : Str).length = base.length - (a + 1) := by simp [Str.length] at lb am ⊢
    have l3 : (⟨#[cv']⟩ : Str).length = 1 := rfl
    have l4 : ((⟨(base.cps.toList.take a).toArray⟩ : Str) ++ ⟨#[cv']⟩).length = a + 1 := by rw [PySem.Str.length_append, l1, l3]
    have l5 : ((⟨(base.cps.toList.take a).toArray⟩ : Str) ++ ⟨#[cv']⟩ ++ ⟨(base.cps.toList.drop (a + 1)).toArray⟩).length = base.length := by
      rw [PySem.Str.length_append, l4, l2]; omega
    refine ⟨by rw [l1, l3]; exact fits_le (by omega), fits_le (by omega), by rw [l4, l2]; exact fits_le (by omega), by rw [sizeLine_eq]; omega, hN _ _ ⟨rfl, fun x hx => ir x (List.mem_cons_of_mem _ hx), ws ++ [_], by rw [List.map_append]; rfl, by rw [List.length_append]; simp; omega, fun z hz => ?_⟩⟩
    rcases List.mem_append.mp hz with hz | hz
    · exact i1 _ hz
    · rw [List.mem_singleton.mp hz]
      refine ⟨by rw [l5]; omega, ?_⟩
      show Array.all _ _ = true
      rw [Array.all_eq_true_iff_forall_mem]
      intro x hx
      show decide (x < 1114112) = true
      have hx : x ∈ ((base.cps.toList.take a).toArray ++ #[cv']) ++ (base.cps.toList.drop (a + 1)).toArray := hx
      simp at hx
      rcases hx with hx | hx | hx
      · exact decide_eq_true (ok0 _ (by simpa using List.mem_of_mem_take hx))
      · subst hx; exact decide_eq_true cv
      · exact decide_eq_true (ok0 _ (by simpa using List.mem_of_mem_drop hx))
  · intro x hx
    simp at hx
    obtain ⟨k, _, rfl⟩ := hx
    exact ⟨k, rfl⟩
  · subst eh e1
    intro q3 hq3
    exact q ws q3 _ e2 i1 (g8.fresh (pn7.nep hq3) hq3) up_self ((pn7.gw (Gw.up hq3)).mono (by omega)) (g8.trans (Gw.up hq3).gx)
end
end LW
set_option Elab.async false
set_option linter.all false
set_option maxRecDepth 100000
set_option maxHeartbeats 1000000
set_option exponentiation.threshold 20000
namespace LW
open PySem L2 DL
/-! ### things that can be shown -/
def Ok80 (k w : Nat) (t : PyData) : Prop := t.showable = true ∧ t.leavesShort 80 = true ∧ t.bulk ≤ w ∧ t.depth ≤ k
def Gd (h : MH) (k w : Nat) (x : D) : Prop := Wf h x ∧ ∃ t, Den h x t ∧ Ok80 k w t
section
variable {p c : Addr} {h h1 : MH} {n k w : Nat} {x : D}
theorem Ok80.mono {t : PyData} {k' w' : Nat} (hk : k ≤ k') (hw : w ≤ w') : Ok80 k w t → Ok80 k' w' t
  | ⟨a, b, c, d⟩ => ⟨a, b, Nat.le_trans c hw, Nat.le_trans d hk⟩
theorem Gd.mono {k' w' : Nat} (hk : k ≤ k') (hw : w ≤ w') : Gd h k w x → Gd h k' w' x
  | ⟨a, t, b, c⟩ => ⟨a, t, b, c.mono hk hw⟩
theorem Gx.den (pn : Pen h p c n) (f : Gx p h h1) {t : PyData} (e : Den h x t) : Den h1 x t := by
  obtain ⟨cs, tt, l, ep, _⟩ := pn
  induction e with
  | non => exact .non
  | bl b => exact .bl b
  | int i => exact .int i
  | str x => exact .str x
  | tup hl hs ih => exact .tup hl fun i d t a b => ih i d t a b
  | lst ha hl hs ih => exact .lst (f.1 _ _ (fun z => by rw [z, ep] at ha; cases ha) ha) hl fun i d t a b => ih i d t a b
  | dct0 ha => exact .dct0 (f.1 _ _ (fun z => by rw [z, ep] at ha; cases ha) ha)
mutual
theorem Gx.wf (pn : Pen h p c n) (f : Gx p h h1) : ∀ {x : D}, Wf h x → Wf h1 x
  | .ref a, w => by simp only [Wf] at w ⊢; exact f.kd pn w
  | .str _, w => w
  | .tup ds, w => by simp only [Wf] at w ⊢; exact ⟨w.1, Gx.wfs pn f w.2⟩
  | .scr _, w => w
  | .non, w => w
  | .bl _, w => w
  | .int _, w => w
theorem Gx.wfs (pn : Pen h p c n) (f : Gx p h h1) : ∀ {ds : List D}, Wfs h ds → Wfs h1 ds
  | [], w => by simp only [Wfs]
  | d :: ds, w => by
    have w : Wf h d ∧ Wfs h ds := by simpa only [Wfs] using w
    simp only [Wfs]
    exact ⟨Gx.wf pn f w.1, Gx.wfs pn f w.2⟩
end
theorem Gd.gx (pn : Pen h p c n) (f : Gx p h h1) : Gd h k w x → Gd h1 k w x
  | ⟨a, t, b, c⟩ => ⟨Gx.wf pn f a, t, Gx.den pn f b, c⟩
theorem gd_non : Gd h 0 0 .non := ⟨trivial, _, .non, rfl, rfl, Nat.le_refl _, Nat.le_refl _⟩
theorem gd_bl {b : Bool} : Gd h 0 0 (.bl b) := ⟨trivial, _, .bl b, rfl, rfl, Nat.le_refl _, Nat.le_refl _⟩
theorem gd_int {i : Int} (hi : i.natAbs < 2 ^ 79) : Gd h 0 0 (.int i) := by
  have hl : i.natAbs.log2 < 79 := by
    by_cases z : i.natAbs = 0
    · rw [z]; decide
    · exact (Nat.log2_lt z).mpr hi
  refine ⟨trivial, _, .int i, ?_, ?_, Nat.le_refl _, Nat.le_refl _⟩
  · show decide (i.natAbs.log2 < 1920) = true
    exact decide_eq_true (by omega)
  · show decide (Str.length (Str.ofString (toString i)) ≤ 80) = true
    refine decide_eq_true ?_
    rw [ofString_length]
    exact int_text_length_le (by decide) hl
theorem gd_str {z : Str} (hz : z.length ≤ w) (hw : w ≤ 1000) (ok : PyData.strOk z = true) : Gd h 0 w (.str z) := by
  refine ⟨⟨fits_le (by omega), ok⟩, _, .str z, rfl, ?_, hz, Nat.zero_le _⟩
  show (z.cps.toList.all fun c => decide (c < 16 ^ 8)) = true
  rw [List.all_eq_true]
  intro x hx
  have ok : Array.all z.cps (· < 0x110000) = true := ok
  rw [Array.all_eq_true_iff_forall_mem] at ok
  have := of_decide_eq_true (ok x (by simpa using hx))
  exact decide_eq_true (by omega)
theorem gd_items : ∀ {ds : List D}, (∀ d ∈ ds, Gd h k w d) → ∃ ts, ts.length = ds.length ∧ (∀ (i : Nat) d t, ds[i]? = some d → ts[i]? = some t → Den h d t) ∧ PyData.showableAll ts = true ∧ PyData.leavesShortAll 80 ts = true ∧ PyData.bulkAll ts ≤ ds.length * (w + 1) ∧ PyData.depthAll ts ≤ k
  | [], _ => ⟨[], rfl, (fun i d t a => by simp at a), rfl, rfl, Nat.zero_le _, Nat.zero_le _⟩
  | d :: ds, H => by
    obtain ⟨ts, a, b, c1, c2, c3, c4⟩ := gd_items fun x hx => H x (List.mem_cons_of_mem _ hx)
    obtain ⟨_, t, e, o1, o2, o3, o4⟩ := H d List.mem_cons_self
    refine ⟨t :: ts, by rw [List.length_cons, List.length_cons, a], fun i x y hx hy => ?_, ?_, ?_, ?_, ?_⟩
    · cases i with
      | zero => cases hx; cases hy; exact e
      | succ i => exact b i x y hx hy
    · simp only [PyData.showableAll, o1, c1, Bool.and_self]
    · simp only [PyData.leavesShortAll, o2, c2, Bool.and_self]
    · simp only [PyData.bulkAll, List.length_cons, Nat.succ_mul]
      omega
    · simp only [PyData.depthAll]
      omega
theorem gd_tup {ds : List D} {m : Nat} (H : ∀ d ∈ ds, Gd h k w d) (hl : ds.length ≤ m) (hm : m ≤ 1000) : Gd h (k + 1) (m * (w + 1)) (.tup ds) := by
  obtain ⟨ts, a, b, c1, c2, c3, c4⟩ := gd_items H
  refine ⟨wf_tup.mpr ⟨by omega, fun d hd => (H d hd).1⟩, .tuple ts, .tup a b, ?_, ?_, ?_, ?_⟩
  · simp only [PyData.showable]; exact c1
  · simp only [PyData.leavesShort]; exact c2
  · simp only [PyData.bulk]; exact Nat.le_trans c3 (Nat.mul_le_mul_right _ hl)
  · simp only [PyData.depth]; omega
theorem gd_lst {a : Addr} {ds : List D} {m : Nat} (ea : h a = some (.lst ds)) (H : ∀ d ∈ ds, Gd h k w d) (hl : ds.length ≤ m) : Gd h (k + 1) (m * (w + 1)) (.ref a) := by
  obtain ⟨ts, z, b, c1, c2, c3, c4⟩ := gd_items H
  refine ⟨?_, .list ts, .lst ea z b, ?_, ?_, ?_, ?_⟩
  · simp only [Wf]; exact .inl ⟨_, ea⟩
  · simp only [PyData.showable]; exact c1
  · simp only [PyData.leavesShort]; exact c2
  · simp only [PyData.bulk]; exact Nat.le_trans c3 (Nat.mul_le_mul_right _ hl)
  · simp only [PyData.depth]; omega
theorem gd_dct {a : Addr} (ea : h a = some (.dct [])) : Gd h 1 0 (.ref a) := by
  refine ⟨?_, .dict [], .dct0 ea, ?_, ?_, ?_, ?_⟩
  · simp only [Wf]; exact .inr ⟨_, ea⟩
  · rfl
  · rfl
  · exact Nat.le_refl _
  · exact Nat.le_refl _
end
section
variable {d : Nat} {h : MH} {Q : D → MH → Prop} {E : DX} {p c : Addr} {n : Nat}
/-- a thing that is no row of rows -/
def Fl (v : D) : Prop := ∀ ds, v = .tup ds → ds.length ≤ 2 ∧ ∀ es, .tup es ∉ ds
theorem al_rule {o : MO} {h : MH} {Q : D → MH → Prop} (H : ∀ q h', h q = none → Gw h h' → h' q = some o → Q (.ref q) h') : al o h Q := fun q hq => H q _ hq (Gw.up hq) up_self
theorem odd_ok (pn : Pen h p c n) (hn : n + 1000 < 2 ^ 60) (q : ∀ v h', Gd h' 2 20 v → Fl v → Pen h' p c (n + 1) → Gx p h h' → Q v h') : Ph prog (d + 3) 22 [.ref p] h Q E := by
  refine ph_of at__law_odd rfl ?_
  simp only [f__law_odd]
  rw [wpB_cons]
  try simp [-al_eq]
  refine ⟨fits_le (by decide), al_rule fun q1 h1 hq1 g1 e1 => ?_⟩
  refine ⟨fits_le (by decide), al_rule fun q2 h2 hq2 g2 e2 => al_rule fun q3 h3 hq3 g3 e3 => ?_⟩
  refine ⟨fits_le (by decide), al_rule fun q4 h4 hq4 g4 e4 => ⟨fits_le (by decide), ?_⟩⟩
  have e1 := (g2.trans (g3.trans g4)) _ _ e1
  have e2 := (g3.trans g4) _ _ e2
  have e3 := g4 _ _ e3
  have g := g1.trans (g2.trans (g3.trans g4))
  clear g1 g2 g3 g4 hq1 hq2 hq3 hq4
  refine ⟨fits_le (by decide), al_rule fun q5 h5 hq5 g5 e5 => ⟨_, _, g5 _ _ e1, e5, fits_le (by simp), al_rule fun q6 h6 hq6 g6 e6 => ?_⟩⟩
  have g56 := g5.trans g6
  refine pick_ok (d := d) (pn.gw (g.trans g56)) (by omega) e6 (by simp) (by simp) fun v h' hv pn' g' => ?_
  have e2 := g56 _ _ e2
  have e3 := g56 _ _ e3
  have e4 := g56 _ _ e4
  have np : ∀ a xs, h6 a = some (.lst xs) → a ≠ p := fun a xs e z => by obtain ⟨k, e'⟩ := (pn.gw (g.trans g56)).has; rw [← z, e] at e'; cases e'
  have e2 := g'.1 _ _ (np _ _ e2) e2
  have e4 := g'.1 _ _ (np _ _ e4) e4
  have e3 : h' q3 = some (.dct []) := by
    refine g'.1 _ _ (fun z => ?_) e3
    obtain ⟨cs, t, l, e', _⟩ := pn.gw (g.trans g56)
    rw [z, e'] at e3; cases e3
  refine q v h' ?_ ?_ pn' ((g.trans g56).gx.trans g')
  · simp at hv
    rcases hv with h | h | h | h | h | h | h | h | h | h | h | h | h | h | h | h | h | h | h | h | h | h | h | h | h | h <;> subst h
    all_goals first
      | exact gd_non.mono (by decide) (by decide)
      | exact gd_bl.mono (by decide) (by decide)
      | exact (gd_int (by decide)).mono (by decide) (by decide)
      | exact (gd_str (w := 20) (by decide) (by decide) (by decide +kernel)).mono (by decide) (by decide)
      | exact (gd_lst (k := 0) (w := 0) (m := 0) e2 (by simp) (by decide)).mono (by decide) (by decide)
      | exact (gd_dct e3).mono (by decide) (by decide)
      | exact (gd_tup (k := 0) (w := 0) (m := 0) (by simp) (by decide) (by decide)).mono (by decide) (by decide)
      | exact (gd_tup (k := 0) (w := 4) (m := 2) (fun x hx => by
          simp at hx
          rcases hx with rfl | rfl
          · exact gd_str (by decide) (by decide) (by decide +kernel)
          · exact (gd_int (by decide)).mono (by decide) (by decide)) (by decide) (by decide)).mono (by decide) (by decide)
      | exact (gd_tup (k := 0) (w := 0) (m := 1) (fun x hx => by
          simp at hx
          subst hx
          exact gd_int (by decide)) (by decide) (by decide)).mono (by decide) (by decide)
      | exact (gd_lst (k := 0) (w := 1) (m := 1) e4 (fun x hx => by
          simp at hx
          subst hx
          exact gd_str (by decide) (by decide) (by decide +kernel)) (by decide)).mono (by decide) (by decide)
  · intro ds e
    subst e
    simp at hv
    rcases hv with rfl | rfl | rfl <;> simp
end
end LW
set_option Elab.async false
set_option linter.all false
set_option maxRecDepth 100000
set_option maxHeartbeats 1000000
set_option exponentiation.threshold 20000
namespace LW
open PySem L2 DL
/-- a small stretch -/
structure Sm4 (s : S4) : Prop where
  w : Wd s.w
  f0 : 0 ≤ s.f
  f1 : s.f ≤ 10 ^ 20
  m1 : 1 ≤ s.m
  m2 : s.m ≤ 10 ^ 20
  y : s.y = 1 ∨ s.y = -1
def Bd (kvs : List (Key × D)) (B : Int) : Prop := ∀ kv ∈ kvs, ∃ v : Int, kv.2 = .int v ∧ 0 ≤ v ∧ v ≤ B
theorem getK_bd {kvs : List (Key × D)} {B e : Int} {k : Key} (b : Bd kvs B) (e0 : 0 ≤ e) (e1 : e ≤ B) : ∃ f : Int, (getK kvs k).getD (.int e) = .int f ∧ 0 ≤ f ∧ f ≤ B := by
  unfold getK
  cases z : kvs.find? fun kv => decide (kv.1 = k) with
  | none => exact ⟨e, rfl, e0, e1⟩
  | some kv =>
    obtain ⟨v, hv, r⟩ := b kv (List.mem_of_find?_eq_some z)
    exact ⟨v, by simp [hv], r⟩
theorem putK_bd {kvs : List (Key × D)} {B B' v : Int} {k : Key} (b : Bd kvs B) (hB : B ≤ B') (v0 : 0 ≤ v) (v1 : v ≤ B') : Bd (DL.putK kvs k (.int v)) B' ∧ (DL.putK kvs k (.int v)).length ≤ kvs.length + 1 := by
  unfold DL.putK
  split
  · refine ⟨fun kv h => ?_, by rw [List.length_map]; omega⟩
    obtain ⟨x, hx, rfl⟩ := List.mem_map.mp h
    split
    · exact ⟨v, rfl, v0, v1⟩
    · obtain ⟨w, e, a, c⟩ := b x hx
      exact ⟨w, e, a, by omega⟩
  · refine ⟨fun kv h => ?_, by rw [List.length_append]; simp⟩
    rcases List.mem_append.mp h with h | h
    · obtain ⟨w, e, a, c⟩ := b kv h
      exact ⟨w, e, a, by omega⟩
    · rw [List.mem_singleton.mp h]; exact ⟨v, rfl, v0, v1⟩
theorem Gw.fresh {h h1 : MH} {q : Addr} (f : Gw h h1) (e : h1 q = none) : h q = none := by
  cases z : h q with
  | none => rfl
  | some o => rw [f _ _ z] at e; cases e
/-- lists of rows, made anew -/
def Rows (h0 h : MH) (i : Nat) (wide : Int) (rs : List Addr) : Prop := ∀ r ∈ rs, h0 r = none ∧ ∃ ss : List S4, h r = some (.lst (ss.map S4.d)) ∧ ss.length ≤ i ∧ ∀ s ∈ ss, Sm4 s ∧ s.m ≤ wide
theorem Rows.keep {h0 h h1 : MH} {i : Nat} {wide : Int} {rs : List Addr} (R : Rows h0 h i wide rs) (k : ∀ r xs, r ∈ rs → h r = some (.lst xs) → h1 r = some (.lst xs)) : Rows h0 h1 i wide rs := fun r hr => by
  obtain ⟨a, ss, b, c⟩ := R r hr
  exact ⟨a, ss, k _ _ hr b, c⟩
theorem Rows.ne {h0 h : MH} {i : Nat} {wide : Int} {rs : List Addr} {q : Addr} (R : Rows h0 h i wide rs) (e : h q = some (.lst (rs.map D.ref))) : ∀ r ∈ rs, r ≠ q := fun r hr z => by
  obtain ⟨_, ss, e2, _⟩ := R r hr
  rw [z, e] at e2
  cases rs with
  | nil => cases hr
  | cons a l =>
    cases ss with
    | nil => cases e2
    | cons s ss => simp [S4.d] at e2
section
variable {d : Nat} {h : MH} {Q : D → MH → Prop} {E : DX} {p c : Addr} {n : Nat}
/-- new empty lists -/
theorem empties {Φ : Fns} {σ : DS} {i k : Nat} {K : List D → MH → Prop} {h : MH} (hk : k ≤ 1000) (q : ∀ rs h', rs.length = k → Gw h h' → Rows h h' 0 1 rs → K (rs.map D.ref) h') :
    lcGo (.nm i) (fun _ => True) (wpC Φ none) (wpE Φ (fun _ _ _ => False) (.lst [])) σ K ((List.range k).map fun (j : Nat) => D.int j) [] h := by
  refine lc_rule (fun r acc h' => ∃ rs : List Addr, acc = rs.map D.ref ∧ rs.length + r.length = k ∧ Gw h h' ∧ Rows h h' 0 1 rs)
    (fun _ _ _ _ => trivial) (fun acc h' ⟨rs, e1, e2, g, R⟩ => ?_) (fun dd r acc h' N ⟨rs, e1, e2, g, R⟩ hN => ?_) _ _ _ ⟨[], rfl, by simp, .refl, fun _ z => nomatch z⟩
  · subst e1
    rw [List.length_cons] at e2
    simp [-al_eq]
    refine ⟨fits_le (by decide), al_rule fun q1 h1 hq1 g1 e1 => ⟨by rw [sizeLine_eq]; omega, hN _ _ ⟨rs ++ [q1], by simp, by rw [List.length_append]; simp; omega, g.trans g1, fun r hr => ?_⟩⟩⟩
    rcases List.mem_append.mp hr with hr | hr
    · obtain ⟨a, ss, b, c⟩ := R r hr
      exact ⟨a, ss, g1 _ _ b, c⟩
    · rw [List.mem_singleton.mp hr]
      refine ⟨?_, [], e1, Nat.zero_le _, fun _ z => nomatch z⟩
      cases z : h q1 with
      | none => rfl
      | some o => rw [g _ _ z] at hq1; cases hq1
  · subst e1
    exact q rs h' e2 g R
theorem pile_ok {a : Addr} {ws : List Str} {k : Nat} (pn : Pen h p c n) (hn : n + 1000 < 2 ^ 60) (ea : h a = some (.lst (ws.map .str))) (w3 : ws.length = 3) (wd : ∀ z ∈ ws, Wd z) (k2 : 2 ≤ k) (k6 : k ≤ 6)
    (q : ∀ rs q h' i (wide : Int), rs.length = k → h' q = some (.lst (rs.map D.ref)) → Rows h h' i wide rs → i * wide ≤ 32 → 0 ≤ wide → Pen h' p c (n + 300) → Gx p h h' → Q (.ref q) h') : Ph prog (d + 3) 23 [.ref p, .ref a, .int k, .int 8] h Q E := by
  refine ph_of at__law_pile rfl ?_
  simp only [f__law_pile]
  rw [wpB_cons]
  simp [-al_eq]
  refine ⟨by omega, empties (by omega) fun rs h1 hl g1 R1 => al_rule fun q1 h2 hq1 g2 e1 => al_rule fun q2 h3 hq2 g3 e2 => ?_⟩
  refine ⟨fits_le (by decide), ?_⟩
  refine wpB_seq (fun σ h4 => ∃ (most : Nat) (wide : Int), σ = [some (.ref p), some (.ref a), some (.int k), some (.int most), some (.ref q1), some (.ref q2), some (.int wide), none, none, none, none, none, none] ∧ most ≤ 24 ∧ 0 < wide ∧ wide ≤ 4 ∧ most * wide ≤ 32 ∧ Pen h4 p c (n + 1) ∧ Gx p h3 h4) (fun K hK => ?_) fun σ h4 ⟨most, wide, es, m1, w1, w2, mw, pn4, g4⟩ => ?_
  · simp
    refine draw_ok (d := d + 1) (pn.gw (g1.trans (g2.trans g3))) (by decide) (by decide) (by omega) fun v h4 v0 vm pn4 g4 => ?_
    simp
    by_cases c1 : v = 0
    · rw [if_pos c1]
      try simp
      exact ⟨fits_le (by decide), hK _ _ ⟨24, 1, rfl, by omega, by omega, by omega, by omega, pn4, g4⟩⟩
    · rw [if_neg c1]
      exact hK _ _ ⟨8, 4, rfl, by omega, by omega, by omega, by omega, pn4, g4⟩
  · subst es
    rw [wpB_cons]
    simp [-al_eq]
    refine draw_ok (d := d + 1) pn4 (by omega) (by omega) (by omega) fun v h5 v0 vm pn5 g5 => ?_
    obtain ⟨tot, rfl⟩ := Int.eq_ofNat_of_zero_le v0
    simp [-al_eq]
    refine ⟨by omega, ?_⟩
    have g14 : Gx p h h5 := ((g1.trans (g2.trans g3)).gx.trans g4).trans g5
    have G23 : Gw h1 h3 := g2.trans g3
    have G45 : Gx p h3 h5 := g4.trans g5
    have npq1 : q1 ≠ p := ((pn.gw g1).nep hq1).symm
    have npq2 : q2 ≠ p := ((pn.gw (g1.trans g2)).nep hq2).symm
    have ncq2 : c ≠ q2 := (pn.gw (g1.trans g2)).nec hq2
    have fq2 : h q2 = none := Gw.fresh (g1.trans g2) hq2
    have nap : a ≠ p := fun z => by obtain ⟨k, e⟩ := pn.has; rw [← z, ea] at e; cases e
    have pn0 := pn
    refine for_rule (fun r σ h' => ∃ (j : Nat) (kvs : List (Key × D)) (x7 x8 x9 x10 x11 x12 : Option D), r.length + j = tot ∧ σ = [some (.ref p), some (.ref a), some (.int k), some (.int most), some (.ref q1), some (.ref q2), some (.int wide), x7, x8, x9, x10, x11, x12] ∧
        h' q1 = some (.lst (rs.map D.ref)) ∧ Rows h h' j wide rs ∧ h' q2 = some (.dct kvs) ∧ kvs.length ≤ j ∧ Bd kvs (5 * j + 3) ∧ Pen h' p c (n + 2 + 10 * j) ∧ Gx p h h')
      (fun _ _ _ _ => trivial) (fun σ h' ⟨j, kvs, x7, x8, x9, x10, x11, x12, l1, es, eq1, R, eq2, kl, kb, pn, g⟩ => ?_) (fun dd r σ h' K ⟨j, kvs, x7, x8, x9, x10, x11, x12, l1, es, eq1, R, eq2, kl, kb, pn, g⟩ hK => ?_) _ _ _ ⟨0, [], none, none, none, none, none, none, by simp, rfl, G45.1 _ _ npq1 ((g3.trans .refl) _ _ e1), ?_, G45.1 _ _ npq2 e2, by simp, (fun _ z => nomatch z), pn5.mono (by omega), g14⟩
    · subst es
      have l1 : 0 + j = tot := l1
      simp
      refine q rs q1 h' j wide hl eq1 R ?_ (by omega) (pn.mono (by omega)) g
      have : (j : Int) ≤ most := by omega
      exact Int.le_trans (Int.mul_le_mul_of_nonneg_right this (by omega)) mw
    · subst es
      rw [List.length_cons] at l1
      simp only [bindT_nm, List.set]
      rw [wpB_cons]
      simp [-al_eq]
      refine pick_ok (d := d) pn (by omega) (g.1 _ _ nap ea) (fun z => by simp at z; subst z; cases w3) (by simp; omega) fun wD h6 hw pn6 g6 => ?_
      obtain ⟨word, hwd, rfl⟩ := List.mem_map.mp hw
      try simp [-al_eq]
      refine draw_ok (d := d + 1) pn6 (by omega) (by omega) (by omega) fun m h7 m0 mm pn7 g7 => ?_
      try simp [-al_eq]
      refine ⟨fits_le (by decide), al_rule fun q3 h8 hq3 g8 e3 => ?_⟩
      refine pick_ok (d := d) (pn7.gw g8) (by omega) e3 (by simp) (by simp) fun yD h9 hy pn9 g9 => ?_
      have : ∃ y : Int, yD = .int y ∧ (y = 1 ∨ y = -1) := by
        simp at hy
        rcases hy with rfl | rfl
        · exact ⟨1, rfl, .inl rfl⟩
        · exact ⟨-1, rfl, .inr rfl⟩
      obtain ⟨y, rfl, y1⟩ := this
      have G9 : Gx p h' h9 := ((g6.trans g7).trans g8.gx).trans g9
      clear g6 g7 g8 g9 hy
      try simp [-al_eq]
      refine ⟨fits_le (by decide), ?_⟩
      rw [wpB_cons]
      simp [-al_eq]
      refine ⟨⟨_, G9.1 _ _ npq2 eq2⟩, draw_ok (d := d + 1) pn9 (by decide) (by decide) (by omega) fun f0 h10 f0a f0b pn10 g10 => ?_⟩
      have G10 := G9.trans g10
      obtain ⟨f, ef, fa, fb⟩ := getK_bd (k := .inr word) kb f0a (show f0 ≤ 5 * (j : Int) + 3 by omega)
      refine ⟨kvs, .inr word, rfl, G10.1 _ _ npq2 eq2, ?_⟩
      rw [ef]
      clear G9 g10
      simp
      rw [wpB_cons]
      simp [-al_eq]
      refine draw_ok (d := d + 1) pn10 (by decide) (by decide) (by omega) fun e h11 e0 em pn11 g11 => ?_
      have G11 := G10.trans g11
      clear G10 g11
      have eq2' := G11.1 _ _ npq2 eq2
      simp only [bop_add_int]
      refine ⟨kvs, eq2', by rw [sizeLine_eq]; omega, ?_⟩
      obtain ⟨kb2, kl2⟩ := putK_bd (B' := 5 * ((j + 1 : Nat) : Int) + 3) (k := .inr word) (v := f + (1 + m) + e) kb (by omega) (by omega) (by omega)
      generalize DL.putK kvs (.inr word) (.int (f + (1 + m) + e)) = kvs2 at kb2 kl2 ⊢
      have n12 : q1 ≠ q2 := fun z => by rw [z, eq2] at eq1; cases eq1
      have G12 : Gx p h (up h11 q2 (.dct kvs2)) := (g.trans G11).new fq2 npq2.symm
      have pn12 : Pen (up h11 q2 (.dct kvs2)) p c _ := pn11.put npq2.symm ncq2
      have q12 : up h11 q2 (.dct kvs2) q1 = some (.lst (rs.map D.ref)) := (up_ne n12).trans (G11.1 _ _ npq1 eq1)
      have q22 : up h11 q2 (.dct kvs2) q2 = some (.dct kvs2) := up_self
      have R12 : Rows h (up h11 q2 (.dct kvs2)) j wide rs := R.keep fun r xs hr e => (up_ne fun z => by rw [z, eq2] at e; cases e).trans (G11.1 _ _ (pn0.nep (R r hr).1).symm e)
      generalize up h11 q2 (.dct kvs2) = h12 at G12 pn12 q12 q22 R12 ⊢
      have z8 : Wd word := wd _ hwd
      refine wpB_seq (fun σ h => h = h12 ∧ ∃ s : S4, σ = [some (.ref p), some (.ref a), some (.int k), some (.int most), some (.ref q1), some (.ref q2), some (.int wide), some dd, some (.str word), some (.int (1 + m)), some (.int y), some (.int f), some s.d] ∧ Sm4 s ∧ s.m ≤ wide) (fun K2 hK2 => ?_) fun σ h ⟨eh, s, es, sm, sw⟩ => ?_
      · rcases y1 with rfl | rfl
        · simp
          exact ⟨fits_le (by decide), hK2 _ _ ⟨rfl, ⟨word, f, 1 + m, 1⟩, rfl, ⟨z8, fa, by simp; omega, by simp; omega, by simp; omega, .inl rfl⟩, by simp; omega⟩⟩
        · simp
          exact ⟨fits_le (by decide), hK2 _ _ ⟨rfl, ⟨word, f + (1 + m) - 1, 1 + m, -1⟩, rfl, ⟨z8, by simp; omega, by simp; omega, by simp; omega, by simp; omega, .inr rfl⟩, by simp; omega⟩⟩
      · subst es eh
        simp
        refine draw_ok (d := d + 1) pn12 (by omega) (by omega) (by omega) fun v h13 v0 vm pn13 g13 => ?_
        obtain ⟨j2, rfl⟩ := Int.eq_ofNat_of_zero_le v0
        have jl : j2 < rs.length := by omega
        have q13 := g13.1 _ _ npq1 q12
        have q23 := g13.1 _ _ npq2 q22
        have R13 : Rows _ h13 j wide rs := R12.keep fun r xs hr e => g13.1 _ _ (pn0.nep (R r hr).1).symm e
        refine ixD_lst (x := .ref rs[j2]) q13 (by rw [DL.atI_nat, List.getElem?_map, List.getElem?_eq_getElem jl]; rfl) ?_
        have hr := List.getElem_mem jl
        generalize rs[j2] = r1 at hr ⊢
        obtain ⟨a0, ss, b0, c0, d0⟩ := R13 r1 hr
        simp [b0]
        have nq1 : r1 ≠ q1 := R13.ne q13 _ hr
        have nq2 : r1 ≠ q2 := fun z => by rw [z, q23] at b0; cases b0
        refine ⟨by rw [sizeLine_eq]; omega, hK _ _ ⟨j + 1, kvs2, _, _, _, _, _, _, by omega, rfl, (up_ne nq1.symm).trans q13, fun r hr => ?_, (up_ne nq2.symm).trans q23, by omega, kb2, (pn13.put (pn0.nep a0) (pn0.nec a0)).mono (by omega), (G12.trans g13).new a0 (pn0.nep a0)⟩⟩
        by_cases z : r = r1
        · subst z
          refine ⟨a0, ss ++ [s], by rw [up_self]; simp, by rw [List.length_append]; simp; omega, fun t ht => ?_⟩
          rcases List.mem_append.mp ht with ht | ht
          · exact d0 t ht
          · rw [List.mem_singleton.mp ht]; exact ⟨sm, sw⟩
        · obtain ⟨a1, ss1, b1, c1, d1⟩ := R13 r hr
          exact ⟨a1, ss1, (up_ne z).trans b1, by omega, d1⟩
    · intro r hr
      obtain ⟨a0, ss, b0, c0, d0⟩ := R1 r hr
      have nrp : r ≠ p := fun z => by obtain ⟨k, e⟩ := pn.has; rw [← z, a0] at e; cases e
      have : ss = [] := List.length_eq_zero_iff.mp (by omega)
      subst this
      exact ⟨a0, [], G45.1 _ _ nrp (G23 _ _ b0), Nat.zero_le _, fun _ z => nomatch z⟩
end
end LW
set_option Elab.async false
set_option linter.all false
set_option maxRecDepth 100000
set_option maxHeartbeats 1000000
set_option exponentiation.threshold 20000
namespace LW
open PySem L2 DL
/-- a yard -/
def Yd (x : D) : Prop := ∃ (w : Str) (n y : Int), x = .tup [.str w, .int n, .int y] ∧ Wd w ∧ n.natAbs < 10 ^ 21 ∧ (y = 1 ∨ y = -1)
/-- a stretch that can be bent -/
structure Sd (s : S4) : Prop where
  w : Wd s.w
  f : s.f.natAbs < 10 ^ 22
  m1 : 1 ≤ s.m
  m2 : s.m < 10 ^ 19
  y : s.y = 1 ∨ s.y = -1
@[simp] theorem met_extend {a b : Addr} {h : MH} {Q : D → MH → Prop} : met .extend (.ref a) [.ref b] h Q = ∃ xs zs, h a = some (.lst xs) ∧ h b = some (.lst zs) ∧ Fits (xs.length + zs.length) ∧ Q .non (up h a (.lst (xs ++ zs))) := rfl
theorem yMul {y k : Int} (h : y = 1 ∨ y = -1) : DL.MulOk y k := by rcases h with rfl | rfl <;> exact mulL (by decide)
section
variable {d : Nat} {h : MH} {Q : D → MH → Prop} {E : DX} {p c : Addr} {n : Nat}
theorem yards2_ok {r : Addr} {ss : List S4} {i : Nat} {wide : Int} (er : h r = some (.lst (ss.map S4.d))) (hl : ss.length ≤ i) (hs : ∀ s ∈ ss, Sm4 s ∧ s.m ≤ wide) (w0 : 0 ≤ wide) (hw : i * wide ≤ 32)
    (q : ∀ ys q h', Gw h h' → h q = none → h' q = some (.lst ys) → ys.length ≤ 32 → (∀ x ∈ ys, Yd x) → Q (.ref q) h') : Ph prog (d + 1) 19 [.ref r] h Q E := by
  refine ph_of at__law_yards rfl ?_
  simp only [f__law_yards]
  rw [wpB_cons]
  simp [-al_eq]
  refine ⟨fits_le (by decide), al_rule fun q1 h1 hq1 g1 e1 => ?_⟩
  rw [wpB_cons]
  simp [-al_eq]
  have nr : r ≠ q1 := fun z => by rw [z, hq1] at er; cases er
  refine ⟨_, g1 _ _ er, ?_⟩
  refine for_rule (fun R σ h' => ∃ (done rest : List S4) (ys : List D) (x2 x3 x4 x5 x6 : Option D), ss = done ++ rest ∧ R = rest.map S4.d ∧ σ = [some (.ref r), some (.ref q1), x2, x3, x4, x5, x6] ∧ h' q1 = some (.lst ys) ∧ (ys.length : Int) ≤ done.length * wide ∧ (∀ x ∈ ys, Yd x) ∧ Gw h h')
    (fun _ _ _ ⟨done, rest, ys, x2, x3, x4, x5, x6, e1, e2, es, eq, l, y, g⟩ => g _ _ er) (fun σ h' ⟨done, rest, ys, x2, x3, x4, x5, x6, e1, e2, es, eq, l, y, g⟩ => ?_) (fun dd R σ h' K ⟨done, rest, ys, x2, x3, x4, x5, x6, e1, e2, es, eq, l, y, g⟩ hK => ?_) _ _ _ ⟨[], ss, [], none, none, none, none, none, rfl, rfl, rfl, e1, by simp, (fun _ z => nomatch z), g1⟩
  · have : rest = [] := by simpa using e2.symm
    subst this es
    rw [List.append_nil] at e1
    subst e1
    simp
    refine q ys q1 h' g hq1 eq ?_ y
    have : (ss.length : Int) * wide ≤ i * wide := Int.mul_le_mul_of_nonneg_right (by omega) w0
    omega
  · cases rest with
    | nil => cases e2
    | cons s rest =>
      rw [List.map_cons] at e2
      cases e2
      subst es
      obtain ⟨sm, sw⟩ := hs s (by rw [e1]; simp)
      have dl : done.length < i := by rw [e1] at hl; simp at hl; omega
      have dw : (done.length : Int) * wide + wide ≤ 32 := by
        have h1 : ((done.length : Int) + 1) * wide ≤ i * wide := Int.mul_le_mul_of_nonneg_right (by omega) w0
        rw [Int.add_mul, Int.one_mul] at h1
        omega
      have m1 := sm.m1
      obtain ⟨w, f, m, y'⟩ := s
      simp at m1 sw
      have f0 := sm.f0
      have f1 := sm.f1
      have yy := sm.y
      simp at f0 f1 yy
      obtain ⟨k, rfl⟩ := Int.eq_ofNat_of_zero_le (show 0 ≤ m by omega)
      have dw0 : 0 ≤ (done.length : Int) * wide := Int.mul_nonneg (by omega) w0
      simp [S4.d, eq, -al_eq]
      refine ⟨by omega, lc_mapA (fun x => match x with
        | .int j => [.tup [.str w, .int (f + y' * j), .int y']]
        | _ => []) _ [] trivial ?_ (fun x hx acc N ha hN => ?_) ?_⟩
      · have : ∀ l : List Nat, ((l.map fun (j : Nat) => D.int j).flatMap fun x => match x with
          | .int j => [D.tup [.str w, .int (f + y' * j), .int y']]
          | _ => []).length = l.length := fun l => by induction l with
          | nil => rfl
          | cons a l ih =>
            rw [List.map_cons, List.flatMap_cons, List.length_append, ih]
            show 1 + l.length = l.length + 1
            omega
        rw [List.nil_append, this, List.length_range, sizeLine_eq]; omega
      · obtain ⟨j, hj, rfl⟩ := List.mem_map.mp hx
        simp at ha hN ⊢
        exact ⟨yMul yy, fits_le (by decide), by omega, hN⟩
      · rw [List.nil_append]
        have : ∀ l : List Nat, ((l.map fun (j : Nat) => D.int j).flatMap fun x => match x with
          | .int j => [D.tup [.str w, .int (f + y' * j), .int y']]
          | _ => []) = l.map fun (j : Nat) => D.tup [.str w, .int (f + y' * (j : Int)), .int y'] := fun l => by induction l with
          | nil => rfl
          | cons a l ih => rw [List.map_cons, List.flatMap_cons, ih]; rfl
        rw [this]
        refine al_rule fun q2 h2 hq2 g2 e2 => ?_
        simp
        refine ⟨_, g2 _ _ eq, _, e2, fits_le (by simp; omega), hK _ _ ⟨done ++ [_], rest, _, _, _, _, _, _, by rw [e1, List.append_assoc]; rfl, rfl, rfl, up_self, ?_, fun x hx => ?_, (g.trans g2).up2 hq1⟩⟩
        · simp; rw [Int.add_mul, Int.one_mul]; omega
        · rcases List.mem_append.mp hx with hx | hx
          · exact y x hx
          · obtain ⟨j, hj, rfl⟩ := List.mem_map.mp hx
            have hj := List.mem_range.mp hj
            refine ⟨w, _, y', rfl, sm.w, ?_, yy⟩
            rcases yy with rfl | rfl <;> omega
end
end LW
set_option Elab.async false
set_option linter.all false
set_option maxRecDepth 100000
set_option maxHeartbeats 1000000
set_option exponentiation.threshold 20000
namespace LW
open PySem L2 DL
structure Fm (j : Nat) (s : S4) : Prop where
  w : Wd s.w
  f : s.f.natAbs < 10 ^ 21
  m1 : 1 ≤ s.m
  m2 : s.m ≤ j
  y : s.y = 1 ∨ s.y = -1
theorem ixN_neg1 {k : Nat} : ixN (k + 1) (-1) = some k := by
  unfold ixN
  rw [if_neg (by decide), if_pos (by omega)]
  congr 1
  omega
section
variable {d : Nat} {h : MH} {Q : D → MH → Prop} {E : DX} {p c : Addr} {n : Nat}
theorem ixD_last {a : Addr} {xs : List D} {x : D} (ea : h a = some (.lst (xs ++ [x]))) (q : Q x h) : ixD (.ref a) (.int (-1)) h Q := by
  refine ixD_lst ea ?_ q
  rw [atI_neg1, List.length_append]
  simp
theorem formof_ok {r : Addr} {ys : List D} (er : h r = some (.lst ys)) (hl : ys.length ≤ 32) (hs : ∀ x ∈ ys, Yd x)
    (q : ∀ (ss : List S4) h', Gw h h' → ss.length ≤ 32 → (∀ s ∈ ss, Sd s) → Q (.tup (ss.map S4.d)) h') : Ph prog (d + 1) 24 [.ref r] h Q E := by
  refine ph_of at__law_form_of rfl ?_
  simp only [f__law_form_of]
  rw [wpB_cons]
  simp [-al_eq]
  refine ⟨fits_le (by decide), al_rule fun q1 h1 hq1 g1 e1 => ?_⟩
  rw [wpB_cons]
  simp [-al_eq, -ixD_ref_int]
  refine ⟨_, g1 _ _ er, ?_⟩
  refine for_rule (fun R σ h' => ∃ (done : List D) (ss : List S4) (x2 x3 x4 x5 : Option D), ys = done ++ R ∧ σ = [some (.ref r), some (.ref q1), x2, x3, x4, x5] ∧ h' q1 = some (.lst (ss.map S4.d)) ∧ ss.length ≤ done.length ∧ (∀ s ∈ ss, Fm done.length s) ∧ Gw h h')
    (fun _ _ _ ⟨done, ss, x2, x3, x4, x5, e1, es, eq, ln, y, g⟩ => g _ _ er) (fun σ h' ⟨done, ss, x2, x3, x4, x5, e1, es, eq, ln, y, g⟩ => ?_) (fun dd R σ h' K ⟨done, ss, x2, x3, x4, x5, e1, es, eq, ln, y, g⟩ hK => ?_) _ _ _ ⟨[], [], none, none, none, none, rfl, rfl, e1, by simp, (fun _ z => nomatch z), g1⟩
  · subst es
    rw [List.append_nil] at e1
    subst e1
    simp
    refine ⟨_, eq, q ss h' g (by omega) fun s hs => ?_⟩
    have := y s hs
    exact ⟨this.w, Nat.lt_trans this.f (by decide), this.m1, by have := this.m2; omega, this.y⟩
  · subst es
    obtain ⟨w, nn, yy, rfl, wd, nb, y1⟩ := hs dd (by rw [e1]; simp)
    have dl : done.length < 32 := by rw [e1] at hl; simp at hl; omega
    have up1 : ∀ s ∈ ss, Fm (done.length + 1) s := fun s hs => by
      have := y s hs
      exact ⟨this.w, this.f, this.m1, by have := this.m2; omega, this.y⟩
    simp [-al_eq, -ixD_ref_int]
    refine wpB_seq (fun σ h2 => ∃ x5, σ = [some (.ref r), some (.ref q1), some (.str w), some (.int nn), some (.int yy), x5] ∧ h2 q1 = some (.lst (ss.map S4.d)) ∧ Gw h h2) (fun K2 hK2 => ?_) fun σ h2 ⟨x5, es, eq2, g2⟩ => ?_
    · simp [-al_eq, -ixD_ref_int]
      refine ⟨fits_le (by decide), al_rule fun q2 h2 hq2 g2 e2 => ?_⟩
      have eq2 := g2 _ _ eq
      refine eqD_lsts eq2 e2 (.inr rfl) ?_
      rcases List.eq_nil_or_concat ss with rfl | ⟨ini, l, rfl⟩
      · simp
        exact hK2 _ _ ⟨_, rfl, eq2, g.trans g2⟩
      · simp only [List.concat_eq_append] at *
        have fl := up1 l (by simp)
        simp [-al_eq, -ixD_ref_int]
        have el : h2 q1 = some (.lst (ini.map S4.d ++ [l.d])) := by rw [eq2]; simp
        refine ixD_last el ?_
        have k0 : ∀ x5, K2 [some (.ref r), some (.ref q1), some (.str w), some (.int nn), some (.int yy), x5] h2 := fun x5 => hK2 _ h2 ⟨x5, rfl, eq2, g.trans g2⟩
        simp [S4.d, -al_eq, -ixD_ref_int]
        by_cases c1 : l.w = w
        · rw [if_pos c1]
          refine ixD_last el ?_
          simp [S4.d, -al_eq, -ixD_ref_int]
          by_cases c2 : l.y = yy
          · rw [if_pos c2, wpB_cons]
            simp [-al_eq, -ixD_ref_int]
            refine ixD_last el ?_
            simp [S4.d, -al_eq, -ixD_ref_int]
            refine ⟨mulR (by rcases y1 with rfl | rfl <;> decide), ?_⟩
            by_cases c3 : nn = l.f + l.m * yy
            · rw [if_pos c3, wpB_cons]
              simp [-al_eq, -ixD_ref_int]
              refine ⟨fits_le (by decide), .inl ⟨_, -1, ini.length, rfl, el, ?_, ?_⟩⟩
              · rw [List.length_append, List.length_map]; exact ixN_neg1
              · have e9 : (ini.map S4.d ++ [l.d]).set ini.length (.tup [.str w, .int l.f, .int (l.m + 1), .int yy]) = (ini ++ [(⟨w, l.f, l.m + 1, yy⟩ : S4)]).map S4.d := by
                  rw [List.set_append_right _ _ (by simp)]
                  simp [S4.d]
                rw [e9]
                refine hK _ _ ⟨done ++ [_], _, _, _, _, _, by rw [e1, List.append_assoc]; rfl, rfl, up_self, by simp at ln ⊢; omega, fun s hs => ?_, ?_⟩
                · rw [List.length_append]
                  rcases List.mem_append.mp hs with hs | hs
                  · exact up1 _ (List.mem_append_left _ hs)
                  · rw [List.mem_singleton.mp hs]
                    have o := y l (by simp)
                    have o1 := o.m1
                    have o2 := o.m2
                    exact ⟨wd, o.f, by simp; omega, by simp; omega, y1⟩
                · exact (g.trans g2).up2 hq1
            · rw [if_neg c3]
              exact k0 _
          · rw [if_neg c2]; exact k0 _
        · rw [if_neg c1]; exact k0 _
    · subst es
      simp
      refine ⟨⟨_, eq2⟩, fits_le (by decide), _, eq2, by rw [List.length_map, sizeLine_eq]; omega, ?_⟩
      rw [show ss.map S4.d ++ [.tup [.str w, .int nn, .int 1, .int yy]] = (ss ++ [(⟨w, nn, 1, yy⟩ : S4)]).map S4.d by simp [S4.d]]
      refine hK _ _ ⟨done ++ [_], _, _, _, _, _, by rw [e1, List.append_assoc]; rfl, rfl, up_self, by simp; omega, fun s hs => ?_, g2.up2 hq1⟩
      rw [List.length_append]
      rcases List.mem_append.mp hs with hs | hs
      · exact up1 _ hs
      · rw [List.mem_singleton.mp hs]
        exact ⟨wd, nb, by simp, by simp; omega, y1⟩
end
end LW
set_option Elab.async false
set_option linter.all false
set_option maxRecDepth 100000
set_option maxHeartbeats 1000000
set_option exponentiation.threshold 20000
namespace LW
open PySem L2 DL
/-- a stretch as it is dealt -/
def T3 (x : D) : Prop := ∃ (w : Str) (low many : Int), x = .tup [.str w, .int low, .int many] ∧ Wd w ∧ 0 ≤ low ∧ low ≤ 10 ^ 18 ∧ 1 ≤ many ∧ many ≤ 10 ^ 16
section
variable {d : Nat} {h : MH} {Q : D → MH → Prop} {E : DX} {p c : Addr} {n : Nat}
theorem gstretches_ok {a : Addr} {ws : List Str} (pn : Pen h p c n) (hn : n + 1000 < 2 ^ 60) (ea : h a = some (.lst (ws.map .str))) (w3 : ws.length = 3) (wd : ∀ z ∈ ws, Wd z)
    (q : ∀ ts q h', h q = none → h' q = some (.lst ts) → ts.length ≤ 16 → (∀ x ∈ ts, T3 x) → Pen h' p c (n + 400) → Gx p h h' → Q (.ref q) h') : Ph prog (d + 4) 26 [.ref p, .ref a] h Q E := by
  refine ph_of at__law_great_stretches rfl ?_
  simp only [f__law_great_stretches]
  rw [wpB_cons]
  simp [-al_eq]
  refine ⟨fits_le (by decide), al_rule fun q1 h1 hq1 g1 e1 => al_rule fun q2 h2 hq2 g2 e2 => ⟨fits_le (by decide), al_rule fun q3 h3 hq3 g3 e3 => ?_⟩⟩
  have g := g1.trans (g2.trans g3)
  refine pick_ok (d := d + 1) (pn.gw g) (by omega) e3 (by simp) (by simp) fun mD h4 hm pn4 g4 => ?_
  have : ∃ most : Nat, mD = .int most ∧ 1 ≤ most ∧ most ≤ 17 := by
    simp at hm
    rcases hm with rfl | rfl
    · exact ⟨8, rfl, by decide, by decide⟩
    · exact ⟨17, rfl, by decide, by decide⟩
  obtain ⟨most, rfl, mo1, mo2⟩ := this
  have nap : a ≠ p := fun z => by obtain ⟨k, e⟩ := pn.has; rw [← z, ea] at e; cases e
  have npq1 : q1 ≠ p := (pn.nep hq1).symm
  have npq2 : q2 ≠ p := ((pn.gw g1).nep hq2).symm
  have ncq2 : c ≠ q2 := (pn.gw g1).nec hq2
  have ncq1 : c ≠ q1 := pn.nec hq1
  have fq2 : h q2 = none := Gw.fresh g1 hq2
  have e1 := g4.1 _ _ npq1 (g3 _ _ (g2 _ _ e1))
  have e2 := g4.1 _ _ npq2 (g3 _ _ e2)
  have G4 : Gx p h h4 := g.gx.trans g4
  try simp [-al_eq]
  refine ⟨fits_le (by decide), ?_⟩
  rw [wpB_cons]
  simp [-al_eq]
  refine draw_ok (d := d + 2) pn4 (by omega) (by omega) (by omega) fun v h5 v0 vm pn5 g5 => ?_
  obtain ⟨tot, rfl⟩ := Int.eq_ofNat_of_zero_le v0
  try simp [-al_eq]
  refine ⟨by omega, ?_⟩
  refine for_rule (fun r σ h' => ∃ (j : Nat) (kvs : List (Key × D)) (ts : List D) (x5 x6 x7 x8 : Option D), r.length + j = tot ∧ σ = [some (.ref p), some (.ref a), some (.ref q1), some (.ref q2), some (.int most), x5, x6, x7, x8] ∧
        h' q1 = some (.lst ts) ∧ ts.length ≤ j ∧ (∀ x ∈ ts, T3 x) ∧ h' q2 = some (.dct kvs) ∧ kvs.length ≤ j ∧ Bd kvs (10000000000000010 * j + 10) ∧ Pen h' p c (n + 2 + 20 * j) ∧ Gx p h h')
      (fun _ _ _ _ => trivial) (fun σ h' ⟨j, kvs, ts, x5, x6, x7, x8, l1, es, eq1, tl, tb, eq2, kl, kb, pn, g⟩ => ?_) (fun dd r σ h' K ⟨j, kvs, ts, x5, x6, x7, x8, l1, es, eq1, tl, tb, eq2, kl, kb, pn, g⟩ hK => ?_) _ _ _ ⟨0, [], [], none, none, none, none, by simp, rfl, g5.1 _ _ npq1 e1, by simp, (fun _ z => nomatch z), g5.1 _ _ npq2 e2, by simp, (fun _ z => nomatch z), pn5.mono (by omega), G4.trans g5⟩
  · subst es
    have l1 : 0 + j = tot := l1
    simp
    exact q ts q1 h' hq1 eq1 (by omega) tb (pn.mono (by omega)) g
  · subst es
    rw [List.length_cons] at l1
    simp only [bindT_nm, List.set]
    rw [wpB_cons]
    simp [-al_eq]
    refine pick_ok (d := d + 1) pn (by omega) (g.1 _ _ nap ea) (fun z => by simp at z; subst z; cases w3) (by simp; omega) fun wD h6 hw pn6 g6 => ?_
    obtain ⟨word, hwd, rfl⟩ := List.mem_map.mp hw
    try simp [-al_eq]
    refine ⟨fits_le (by decide), al_rule fun q4 h7 hq4 g7 e4 => ?_⟩
    refine pick_ok (d := d + 1) (pn6.gw g7) (by omega) e4 (by simp) (by simp) fun fD h8 hf pn8 g8 => ?_
    have : ∃ fi : Nat, fD = .int fi ∧ fi ≤ 16 := by
      simp at hf
      rcases hf with rfl | rfl | rfl | rfl | rfl
      · exact ⟨16, rfl, by decide⟩
      · exact ⟨12, rfl, by decide⟩
      · exact ⟨2, rfl, by decide⟩
      · exact ⟨1, rfl, by decide⟩
      · exact ⟨0, rfl, by decide⟩
    obtain ⟨fi, rfl, fl⟩ := this
    refine great_ok (d := d + 1) pn8 (by omega) (by omega) fun m h9 m0 mm pn9 g9 => ?_
    have mb : m < 10 ^ 16 := by
      have : (10 : Int) ^ fi ≤ 10 ^ 16 := by exact_mod_cast Nat.pow_le_pow_right (by decide) fl
      omega
    have pn9 := pn9.mono (m := n + 2 + 20 * j + 18) (by omega)
    have G9 : Gx p h' h9 := ((g6.trans g7.gx).trans g8).trans g9
    clear g6 g7 g8 g9 hf
    try simp [-al_eq]
    refine ⟨fits_le (by decide), ?_⟩
    rw [wpB_cons]
    simp [-al_eq]
    refine ⟨⟨_, G9.1 _ _ npq2 eq2⟩, draw_ok (d := d + 2) pn9 (by decide) (by decide) (by omega) fun f0 h10 f0a f0b pn10 g10 => ?_⟩
    have G10 := G9.trans g10
    obtain ⟨f, ef, fa, fb⟩ := getK_bd (k := .inr word) kb f0a (show f0 ≤ 10000000000000010 * (j : Int) + 10 by omega)
    refine ⟨kvs, .inr word, rfl, G10.1 _ _ npq2 eq2, ?_⟩
    rw [ef]
    clear G9 g10
    refine draw_ok (d := d + 2) pn10 (by decide) (by decide) (by omega) fun e h11 e0 em pn11 g11 => ?_
    have G11 := G10.trans g11
    clear G10 g11
    have eq2' := G11.1 _ _ npq2 eq2
    simp only [bop_add_int]
    rw [wpB_cons]
    simp [-al_eq]
    refine ⟨kvs, eq2', by rw [sizeLine_eq]; omega, ?_⟩
    obtain ⟨kb2, kl2⟩ := putK_bd (B' := 10000000000000010 * ((j + 1 : Nat) : Int) + 10) (k := .inr word) (v := f + e + (1 + m)) kb (by omega) (by omega) (by omega)
    generalize DL.putK kvs (.inr word) (.int (f + e + (1 + m))) = kvs2 at kb2 kl2 ⊢
    have n12 : q1 ≠ q2 := fun z => by rw [z, eq2] at eq1; cases eq1
    have G12 : Gx p h (up h11 q2 (.dct kvs2)) := (g.trans G11).new fq2 npq2.symm
    have pn12 : Pen (up h11 q2 (.dct kvs2)) p c _ := pn11.put npq2.symm ncq2
    have q12 : up h11 q2 (.dct kvs2) q1 = some (.lst ts) := (up_ne n12).trans (G11.1 _ _ npq1 eq1)
    have q22 : up h11 q2 (.dct kvs2) q2 = some (.dct kvs2) := up_self
    generalize up h11 q2 (.dct kvs2) = h12 at G12 pn12 q12 q22 ⊢
    have np := pn12.mono (m := n + 2 + 20 * (j + 1)) (by omega)
    refine ⟨⟨_, q12⟩, fits_le (by decide), _, q12, by rw [sizeLine_eq]; omega, hK _ _ ⟨j + 1, kvs2, ts ++ [_], _, _, _, _, by omega, rfl, up_self, by simp; omega, fun x hx => ?_, (up_ne n12.symm).trans q22, by omega, kb2, np.put npq1.symm ncq1, G12.new hq1 npq1.symm⟩⟩
    rcases List.mem_append.mp hx with hx | hx
    · exact tb _ hx
    · rw [List.mem_singleton.mp hx]
      exact ⟨word, _, _, rfl, wd _ hwd, by omega, by omega, by omega, by omega⟩
end
end LW
set_option Elab.async false
set_option linter.all false
set_option maxRecDepth 100000
set_option maxHeartbeats 1000000
set_option exponentiation.threshold 20000
namespace LW
open PySem L2 DL
theorem mulY {y k : Int} (h : y = 1 ∨ y = -1) : DL.MulOk k y := by rcases h with rfl | rfl <;> exact mulR (by decide)
theorem Rows.mono {h0 h : MH} {i i' : Nat} {wide wide' : Int} {rs : List Addr} (R : Rows h0 h i wide rs) (hi : i ≤ i') (hw : wide ≤ wide') : Rows h0 h i' wide' rs := fun r hr => by
  obtain ⟨a, ss, b, c, e⟩ := R r hr
  exact ⟨a, ss, b, by omega, fun s hs => ⟨(e s hs).1, by have := (e s hs).2; omega⟩⟩
/-- one row of them written -/
theorem Rows.put {h0 h : MH} {i : Nat} {wide : Int} {rs : List Addr} {r1 : Addr} {ss1 : List S4} (R : Rows h0 h i wide rs) (hl : ss1.length ≤ i) (hs : ∀ s ∈ ss1, Sm4 s ∧ s.m ≤ wide) : Rows h0 (up h r1 (.lst (ss1.map S4.d))) i wide rs := fun r hr => by
  obtain ⟨a, ss, b, c, e⟩ := R r hr
  by_cases z : r = r1
  · subst z; exact ⟨a, ss1, up_self, hl, hs⟩
  · exact ⟨a, ss, (up_ne z).trans b, c, e⟩
section
variable {d : Nat} {h : MH} {Q : D → MH → Prop} {E : DX} {p c : Addr} {n : Nat}
theorem dealt_ok {a : Addr} {ts : List D} {k : Nat} (pn : Pen h p c n) (hn : n + 1100 < 2 ^ 60) (ea : h a = some (.lst ts)) (tl : ts.length ≤ 16) (tb : ∀ x ∈ ts, T3 x) (k2 : 2 ≤ k) (k6 : k ≤ 6)
    (q : ∀ (sss : List (List S4)) h', sss.length = k → (∀ ss ∈ sss, ss.length ≤ 16 ∧ ∀ s ∈ ss, Sd s) → Pen h' p c (n + 100) → Gx p h h' → Q (.tup (sss.map fun ss => .tup (ss.map S4.d))) h') : Ph prog (d + 3) 25 [.ref p, .ref a, .int k] h Q E := by
  refine ph_of at__law_dealt rfl ?_
  simp only [f__law_dealt]
  rw [wpB_cons]
  simp [-al_eq, -ixD_ref_int]
  refine ⟨by omega, empties (by omega) fun rs h1 hl g1 R1 => al_rule fun q1 h2 hq1 g2 e1 => ?_⟩
  have pn0 := pn
  have npq1 : q1 ≠ p := ((pn.gw g1).nep hq1).symm
  have nap : a ≠ p := fun z => by obtain ⟨k, e⟩ := pn.has; rw [← z, ea] at e; cases e
  have g12 := g1.trans g2
  rw [wpB_cons]
  simp [-al_eq, -ixD_ref_int]
  refine turned_ok (d := d) (pn.gw g12) (by omega) (g12 _ _ ea) (by omega) fun ys q2 h3 ym yl fq2 e2 pn3 g3 => ?_
  simp [-al_eq, -ixD_ref_int]
  have G3 : Gx p h h3 := g12.gx.trans g3
  have fq2' : h q2 = none := Gw.fresh g12 fq2
  have npq2 : q2 ≠ p := (pn.nep fq2').symm
  have n12 : q1 ≠ q2 := fun z => by
    have := g3.1 _ _ npq1 e1
    rw [z] at e1
    rw [e1] at fq2; cases fq2
  refine ⟨ys, e2, ?_⟩
  refine for_rule (fun r σ h' => ∃ (j : Nat) (x4 x5 x6 x7 x8 x9 x10 : Option D), r.length + j = ys.length ∧ (∀ x ∈ r, T3 x) ∧ σ = [some (.ref p), some (.ref a), some (.int k), some (.ref q1), x4, x5, x6, x7, x8, x9, x10] ∧
        h' q1 = some (.lst (rs.map D.ref)) ∧ h' q2 = some (.lst ys) ∧ Rows h h' j (10000000000000000 * j) rs ∧ (∀ r ∈ rs, r ≠ q2) ∧ Pen h' p c (n + 20 + 2 * j) ∧ Gx p h h')
      (fun r σ h' ⟨j, x4, x5, x6, x7, x8, x9, x10, l1, rb, es, eq1, eq2, R, nq2, pn, g⟩ => eq2) (fun σ h' ⟨j, x4, x5, x6, x7, x8, x9, x10, l1, rb, es, eq1, eq2, R, nq2, pn, g⟩ => ?_) (fun dd r σ h' K ⟨j, x4, x5, x6, x7, x8, x9, x10, l1, rb, es, eq1, eq2, R, nq2, pn, g⟩ hK => ?_) _ _ _ ⟨0, none, none, none, none, none, none, none, by simp, fun x hx => tb _ (ym x hx), rfl, g3.1 _ _ npq1 e1, e2, ?_, ?_, pn3.mono (by omega), G3⟩
  · subst es
    have l1 : 0 + j = ys.length := l1
    simp [-al_eq, -ixD_ref_int]
    refine ⟨_, eq1, ?_⟩
    refine lc_rule (fun r acc h2 => h2 = h' ∧ ∃ (done rest : List Addr) (sss : List (List S4)), rs = done ++ rest ∧ r = rest.map D.ref ∧ acc = sss.map (fun ss => .tup (ss.map S4.d)) ∧ sss.length = done.length ∧ ∀ ss ∈ sss, ss.length ≤ 16 ∧ ∀ s ∈ ss, Sd s)
      (fun r acc h2 ⟨e, _⟩ => e ▸ eq1) (fun acc h2 ⟨e, done, rest, sss, e1, e2, e3, e4, e5⟩ => ?_) (fun dd r acc h2 N ⟨e, done, rest, sss, e1, e2, e3, e4, e5⟩ hN => ?_) _ _ _ ⟨rfl, [], rs, [], rfl, rfl, rfl, rfl, fun _ z => nomatch z⟩
    · subst e e3
      cases rest with
      | nil => cases e2
      | cons r1 rest =>
        rw [List.map_cons] at e2
        cases e2
        obtain ⟨a0, ss, b0, c0, d0⟩ := R r1 (by rw [e1]; simp)
        have dl : done.length < k := by rw [e1] at hl; simp at hl; omega
        simp
        refine ⟨_, b0, by rw [sizeLine_eq]; omega, hN _ _ ⟨rfl, done ++ [r1], rest, sss ++ [ss], by rw [e1, List.append_assoc]; rfl, rfl, by simp, by simp; omega, fun x hx => ?_⟩⟩
        rcases List.mem_append.mp hx with hx | hx
        · exact e5 x hx
        · rw [List.mem_singleton.mp hx]
          refine ⟨by omega, fun s hs => ?_⟩
          obtain ⟨sm, sw⟩ := d0 s hs
          exact ⟨sm.w, by have := sm.f0; have := sm.f1; omega, sm.m1, by omega, sm.y⟩
    · subst e e3
      have : rest = [] := by simpa using e2.symm
      subst this
      rw [List.append_nil] at e1
      subst e1
      refine al_rule fun q3 h4 hq3 g4 e6 => ?_
      simp
      exact ⟨_, e6, q sss h4 (by omega) e5 ((pn.gw g4).mono (by omega)) (g.trans g4.gx)⟩
  · subst es
    obtain ⟨w, low, many, rfl, wd, l0, lb, m1, mb⟩ := rb _ List.mem_cons_self
    rw [List.length_cons] at l1
    simp [-al_eq, -ixD_ref_int]
    rw [wpB_cons]
    simp [-al_eq, -ixD_ref_int]
    refine ⟨fits_le (by decide), al_rule fun q3 h4 hq3 g4 e4 => ?_⟩
    refine pick_ok (d := d) (pn.gw g4) (by omega) e4 (by simp) (by simp) fun yD h5 hy pn5 g5 => ?_
    have : ∃ y : Int, yD = .int y ∧ (y = 1 ∨ y = -1) := by
      simp at hy
      rcases hy with rfl | rfl
      · exact ⟨1, rfl, .inl rfl⟩
      · exact ⟨-1, rfl, .inr rfl⟩
    obtain ⟨y, rfl, y1⟩ := this
    try simp [-al_eq, -ixD_ref_int]
    have G5 : Gx p h' h5 := g4.gx.trans g5
    clear g4 g5 hy
    rw [wpB_cons]
    simp [-al_eq, -ixD_ref_int]
    refine draw_ok (d := d + 1) pn5 (by omega) (by omega) (by omega) fun v h6 v0 vm pn6 g6 => ?_
    obtain ⟨j2, rfl⟩ := Int.eq_ofNat_of_zero_le v0
    have jl : j2 < rs.length := by omega
    have G6 := G5.trans g6
    clear G5 g6
    have q16 := G6.1 _ _ npq1 eq1
    have q26 := G6.1 _ _ npq2 eq2
    have R6 : Rows h h6 j (10000000000000000 * j) rs := R.keep fun r xs hr e => G6.1 _ _ (pn0.nep (R r hr).1).symm e
    refine ixD_lst (x := .ref rs[j2]) q16 (by rw [DL.atI_nat, List.getElem?_map, List.getElem?_eq_getElem jl]; rfl) ?_
    have hr := List.getElem_mem jl
    generalize rs[j2] = r1 at hr ⊢
    obtain ⟨a0, ss, b0, c0, d0⟩ := R6 r1 hr
    have nq1 : r1 ≠ q1 := R6.ne q16 _ hr
    have nr2 : r1 ≠ q2 := nq2 _ hr
    have G06 := g.trans G6
    -- the row as it will be
    have fin : ∀ (ss2 : List S4) (h7 : MH) (x8 x10 : Option D), Gw h6 h7 → ss2.length ≤ j + 1 → (∀ s ∈ ss2, Sm4 s ∧ s.m ≤ 10000000000000000 * ((j + 1 : Nat) : Int)) → K [some (.ref p), some (.ref a), some (.int k), some (.ref q1), x4, some (.str w), some (.int low), some (.int many), x8, some (.ref r1), x10] (up h7 r1 (.lst (ss2.map S4.d))) := fun ss2 h7 x8 x10 g7 hl2 hs2 => by
      have R7 : Rows h h7 (j + 1) (10000000000000000 * ((j + 1 : Nat) : Int)) rs := (R6.keep fun r xs hr e => g7 _ _ e).mono (by omega) (by omega)
      exact hK _ _ ⟨j + 1, _, _, _, _, _, _, _, by omega, fun x hx => rb _ (List.mem_cons_of_mem _ hx), rfl, (up_ne nq1.symm).trans (g7 _ _ q16), (up_ne nr2.symm).trans (g7 _ _ q26), R7.put hl2 hs2, nq2, ((pn6.gw g7).put (pn0.nep a0) (pn0.nec a0)).mono (by omega), (G06.trans g7.gx).new a0 (pn0.nep a0)⟩
    refine wpB_seq (fun σ h7 => h7 = h6 ∧ ∃ first : Int, 0 ≤ first ∧ first ≤ 10 ^ 19 ∧ σ = [some (.ref p), some (.ref a), some (.int k), some (.ref q1), x4, some (.str w), some (.int low), some (.int many), some (.int y), some (.ref r1), some (.int first)]) (fun K2 hK2 => ?_) fun σ h7 ⟨eh, first, fi0, fi1, es⟩ => ?_
    · rcases y1 with rfl | rfl
      · simp
        exact hK2 _ _ ⟨rfl, low, l0, by omega, rfl⟩
      · simp
        exact hK2 _ _ ⟨rfl, low + many - 1, by omega, by omega, rfl⟩
    · subst es eh
      simp [-al_eq, -ixD_ref_int]
      refine ⟨fits_le (by decide), al_rule fun q4 h8 hq4 g8 e8 => ?_⟩
      have b8 := g8 _ _ b0
      refine eqD_lsts b8 e8 (.inr rfl) ?_
      have app : (∃ xs, h8 r1 = some (.lst xs)) ∧ Fits 4 ∧ ∃ xs, h8 r1 = some (.lst xs) ∧ xs.length < sizeLine ∧ K [some (.ref p), some (.ref a), some (.int k), some (.ref q1), x4, some (.str w), some (.int low), some (.int many), some (.int y), some (.ref r1), some (.int first)] (up h8 r1 (.lst (xs ++ [.tup [.str w, .int first, .int many, .int y]]))) := by
        refine ⟨⟨_, b8⟩, fits_le (by decide), _, b8, by rw [List.length_map, sizeLine_eq]; omega, ?_⟩
        rw [show ss.map S4.d ++ [.tup [.str w, .int first, .int many, .int y]] = (ss ++ [(⟨w, first, many, y⟩ : S4)]).map S4.d by simp [S4.d]]
        refine fin _ h8 _ _ g8 (by rw [List.length_append]; simp; omega) fun s hs => ?_
        rcases List.mem_append.mp hs with hs | hs
        · exact ⟨(d0 s hs).1, by have := (d0 s hs).2; omega⟩
        · rw [List.mem_singleton.mp hs]
          exact ⟨⟨wd, fi0, by simp; omega, m1, by simp; omega, y1⟩, by simp; omega⟩
      rcases List.eq_nil_or_concat ss with rfl | ⟨ini, l, rfl⟩
      · exact app
      · simp only [List.concat_eq_append] at *
        obtain ⟨lm, lw⟩ := d0 l (by simp)
        have el : h8 r1 = some (.lst (ini.map S4.d ++ [l.d])) := by rw [b8]; simp
        rw [if_neg (by simp)]
        refine ixD_last el ?_
        simp [S4.d, -al_eq, -ixD_ref_int]
        by_cases c1 : l.w = w
        · rw [if_pos c1]
          refine ixD_last el ?_
          simp [S4.d, -al_eq, -ixD_ref_int]
          by_cases c2 : l.y = y
          · rw [if_pos c2]
            refine ixD_last el ?_
            simp [S4.d, -al_eq, -ixD_ref_int]
            refine ixD_last el ?_
            simp [S4.d, -al_eq, -ixD_ref_int]
            refine ⟨mulY y1, ?_⟩
            by_cases c3 : first = l.f + l.m * y
            · rw [if_pos c3]
              refine ixD_last el ?_
              simp [S4.d, -al_eq, -ixD_ref_int]
              refine ixD_last el ?_
              simp [S4.d, -al_eq, -ixD_ref_int]
              refine ⟨fits_le (by decide), .inl ⟨_, -1, ini.length, rfl, el, ?_, ?_⟩⟩
              · rw [List.length_append, List.length_map]; exact ixN_neg1
              · have e9 : (ini.map S4.d ++ [l.d]).set ini.length (.tup [.str w, .int l.f, .int (l.m + many), .int y]) = (ini ++ [(⟨w, l.f, l.m + many, y⟩ : S4)]).map S4.d := by
                  rw [List.set_append_right _ _ (by simp)]
                  simp [S4.d]
                rw [e9]
                refine fin _ h8 _ _ g8 (by simp at c0 ⊢; omega) fun s hs => ?_
                rcases List.mem_append.mp hs with hs | hs
                · have := d0 s (List.mem_append_left _ hs)
                  exact ⟨this.1, by have := this.2; omega⟩
                · rw [List.mem_singleton.mp hs]
                  have o1 := lm.m1
                  exact ⟨⟨wd, lm.f0, lm.f1, by simp; omega, by simp; omega, y1⟩, by simp; omega⟩
            · rw [if_neg c3]; simpa using app
          · rw [if_neg c2]; simpa using app
        · rw [if_neg c1]; simpa using app
  · intro r hr
    obtain ⟨a0, ss, b0, c0, d0⟩ := R1 r hr
    have : ss = [] := List.length_eq_zero_iff.mp (by omega)
    subst this
    exact ⟨a0, [], g3.1 _ _ (pn.nep a0).symm (g2 _ _ b0), Nat.zero_le _, fun _ z => nomatch z⟩
  · intro r hr z
    obtain ⟨a0, ss, b0, c0, d0⟩ := R1 r hr
    have := g2 _ _ b0
    rw [z, fq2] at this; cases this
end
end LW
set_option Elab.async false
set_option linter.all false
set_option maxRecDepth 100000
set_option maxHeartbeats 1000000
set_option exponentiation.threshold 20000
namespace LW
open PySem L2 DL
/-- a standing that can be bent: rows of at most L stretches -/
def Sh (L : Nat) (x : D) : Prop := ∃ sss : List (List S4), x = .tup (sss.map fun ss => .tup (ss.map S4.d)) ∧ 2 ≤ sss.length ∧ sss.length ≤ 6 ∧ ∀ ss ∈ sss, ss.length ≤ L ∧ ∀ s ∈ ss, Sd s
/-- a thing whose rows hold at most L items -/
def RL (L : Nat) (x : D) : Prop := ∀ rs ds, x = .tup rs → .tup ds ∈ rs → ds.length ≤ L
section
variable {d : Nat} {h : MH} {Q : D → MH → Prop} {E : DX} {p c : Addr} {n : Nat}
theorem Sd.gd {s : S4} (o : Sd s) : Gd h 1 44 s.d := by
  refine (gd_tup (k := 0) (w := 10) (m := 4) (fun x hx => ?_) (by simp) (by decide)).mono (by decide) (by decide)
  have := o.f
  have := o.m1
  have := o.m2
  simp at hx
  rcases hx with rfl | rfl | rfl | rfl
  · exact gd_str (Nat.le_trans o.w.1 (by decide)) (by decide) o.w.2
  · exact (gd_int (by omega)).mono (by decide) (by decide)
  · exact (gd_int (by omega)).mono (by decide) (by decide)
  · exact (gd_int (by rcases o.y with e | e <;> rw [e] <;> decide)).mono (by decide) (by decide)
theorem row_gd {ss : List S4} {L : Nat} (hl : ss.length ≤ L) (hL : L ≤ 60) (hs : ∀ s ∈ ss, Sd s) : Gd h 4 3660 (.tup (ss.map S4.d)) := by
  refine (gd_tup (k := 3) (w := 60) (m := 60) (fun x hx => ?_) (by simp; omega) (by decide)).mono (by decide) (by decide)
  obtain ⟨s, h1, rfl⟩ := List.mem_map.mp hx
  exact (hs s h1).gd.mono (by decide) (by decide)
theorem Sh.gd {L : Nat} {x : D} (o : Sh L x) (hL : L ≤ 60) : Gd h 5 73220 x := by
  obtain ⟨sss, rfl, l2, l6, H⟩ := o
  refine (gd_tup (k := 4) (w := 3660) (m := 20) (fun x hx => ?_) (by simp; omega) (by decide)).mono (by decide) (by decide)
  obtain ⟨ss, h1, rfl⟩ := List.mem_map.mp hx
  exact row_gd (H ss h1).1 hL (H ss h1).2
theorem Sh.rl {L : Nat} {x : D} (o : Sh L x) : RL L x := by
  obtain ⟨sss, rfl, l2, l6, H⟩ := o
  intro rs ds e hm
  cases e
  obtain ⟨ss, h1, e⟩ := List.mem_map.mp hm
  cases e
  rw [List.length_map]
  exact (H ss h1).1
theorem gstanding_ok {a : Addr} {ws : List Str} (pn : Pen h p c n) (hn : n + 2000 < 2 ^ 60) (ea : h a = some (.lst (ws.map .str))) (w3 : ws.length = 3) (wd : ∀ z ∈ ws, Wd z)
    (q : ∀ x h', Sh 40 x → Pen h' p c (n + 600) → Gx p h h' → Q x h') : Ph prog (d + 5) 27 [.ref p, .ref a] h Q E := by
  refine ph_of at__law_great_standing rfl ?_
  simp [f__law_great_standing, -al_eq]
  refine gstretches_ok (d := d) pn (by omega) ea w3 wd fun ts q1 h1 hq1 e1 tl tb pn1 g1 => ?_
  refine draw_ok (d := d + 3) pn1 (by decide) (by decide) (by omega) fun v h2 v0 vm pn2 g2 => ?_
  obtain ⟨k, rfl⟩ := Int.eq_ofNat_of_zero_le v0
  simp
  have : (2 : Int) + k = ((2 + k : Nat) : Int) := by omega
  rw [this]
  refine dealt_ok (d := d + 1) pn2 (by omega) (g2.1 _ _ (pn.nep hq1).symm e1) tl tb (by omega) (by omega) fun sss h3 l3 H pn3 g3 => ?_
  exact q _ h3 ⟨sss, rfl, by omega, by omega, fun ss hs => ⟨by have := (H ss hs).1; omega, (H ss hs).2⟩⟩ (pn3.mono (by omega)) ((g1.trans g2).trans g3)
end
end LW
set_option Elab.async false
set_option linter.all false
set_option maxRecDepth 100000
set_option maxHeartbeats 1000000
set_option exponentiation.threshold 20000
namespace LW
open PySem L2 DL
/-- a row that came of bending -/
def Br (h : MH) (L : Nat) (v : D) : Prop := Gd h 4 6360 v ∧ ∀ ds, v = .tup ds → ds.length ≤ L
/-- an item of a row -/
abbrev It1 (h : MH) (x : D) : Prop := Gd h 3 105 x
theorem eqD_row {h : MH} {P : Bool → Prop} : ∀ {ss : List S4}, (∀ s ∈ ss, PyData.strOk s.w = true) → P ss.isEmpty → eqD (.tup (ss.map S4.d)) (.tup []) h P
  | [], _, p => eqD_tup rfl rfl (by decide) (by decide) p
  | s :: ss, o, p => by
    refine eqD_tup (imms_S4 _) rfl ?_ (by decide) ?_
    · rw [toPs_S4]
      have := shaped_lst o
      simpa [SeqAt.shaped, PyData.canLay0, PyData.depth] using this
    · rw [toPs_S4]; exact p
section
variable {d : Nat} {h : MH} {Q : D → MH → Prop} {E : DX} {p c : Addr} {n : Nat}
theorem br_tup {ds : List D} {L : Nat} (H : ∀ x ∈ ds, It1 h x) (hl : ds.length ≤ L) (hL : L ≤ 60) : Br h L (.tup ds) :=
  ⟨(gd_tup (k := 3) (w := 105) (m := 60) H (by omega) (by decide)).mono (by decide) (by decide), fun ds' e => by cases e; exact hl⟩
/-- a row with other things at one place -/
theorem splice_br {ss : List S4} {L i : Nat} {mid : List D} (hl : ss.length ≤ L) (hL : L ≤ 58) (hs : ∀ s ∈ ss, Sd s) (il : i < ss.length) (hm : ∀ x ∈ mid, It1 h x) (ml : mid.length ≤ 2) : Br h (L + 1) (.tup ((ss.map S4.d).take i ++ mid ++ (ss.map S4.d).drop (i + 1))) := by
  have hi : ∀ x ∈ ss.map S4.d, It1 h x := fun x hx => by
    obtain ⟨s, h1, rfl⟩ := List.mem_map.mp hx
    exact (hs s h1).gd.mono (by decide) (by decide)
  refine br_tup (fun x hx => ?_) (by simp; omega) (by omega)
  rcases List.mem_append.mp hx with hx | hx
  · rcases List.mem_append.mp hx with hx | hx
    · exact hi x (List.mem_of_mem_take hx)
    · exact hm x hx
  · exact hi x (List.mem_of_mem_drop hx)
theorem st_gd {w : Str} {a b e : Int} (hw : Wd w) (ha : a.natAbs < 2 ^ 79) (hb : b.natAbs < 2 ^ 79) (he : e.natAbs < 2 ^ 79) : It1 h (.tup [.str w, .int a, .int b, .int e]) := by
  refine (gd_tup (k := 0) (w := 10) (m := 4) (fun x hx => ?_) (by simp) (by decide)).mono (by decide) (by decide)
  simp at hx
  rcases hx with rfl | rfl | rfl | rfl
  · exact gd_str (Nat.le_trans hw.1 (by decide)) (by decide) hw.2
  · exact (gd_int ha).mono (by decide) (by decide)
  · exact (gd_int hb).mono (by decide) (by decide)
  · exact (gd_int he).mono (by decide) (by decide)
theorem more_br {ss : List S4} {L : Nat} {x : D} (hl : ss.length ≤ L) (hL : L ≤ 58) (hs : ∀ s ∈ ss, Sd s) (hx : It1 h x) : Br h (L + 1) (.tup (ss.map S4.d ++ [x])) := by
  refine br_tup (fun y hy => ?_) (by simp; omega) (by omega)
  rcases List.mem_append.mp hy with hy | hy
  · obtain ⟨s, h1, rfl⟩ := List.mem_map.mp hy
    exact (hs s h1).gd.mono (by decide) (by decide)
  · rw [List.mem_singleton.mp hy]; exact hx
theorem brow_ok {ss : List S4} {L : Nat} (pn : Pen h p c n) (hn : n + 2000 < 2 ^ 60) (hl : ss.length ≤ L) (l2 : 2 ≤ L) (hL : L ≤ 58) (hs : ∀ s ∈ ss, Sd s)
    (q : ∀ v h', Br h' (L + 1) v → Pen h' p c (n + 50) → Gx p h h' → Q v h') : Ph prog (d + 4) 31 [.ref p, .tup (ss.map S4.d)] h Q E := by
  refine ph_of at__law_bent_row rfl ?_
  simp only [f__law_bent_row]
  refine wpB_seq (fun σ h1 => h1 = h ∧ σ = [some (.ref p), some (.tup (ss.map S4.d)), none, none, none, none, none, none, none, none, none, none] ∧ ss ≠ []) (fun K hK => ?_) fun σ h1 ⟨eh, es, ne⟩ => ?_
  · simp [-al_eq, -ixD_ref_int]
    refine ⟨fits_le (by decide), eqD_row (fun s h => (hs s h).w.2) ?_⟩
    cases ss with
    | nil =>
      rw [if_pos (show List.isEmpty ([] : List S4) = true from rfl)]
      refine ⟨fits_le (by decide), al_rule fun q1 h1 hq1 g1 e1 => ⟨fits_le (by decide), fits_le (by decide), fits_le (by decide), fits_le (by decide), fits_le (by decide), fits_le (by decide), fits_le (by decide), fits_le (by decide), al_rule fun q2 h2 hq2 g2 e2 => ?_⟩⟩
      have g := g1.trans g2
      have e1 := g2 _ _ e1
      have pn2 := pn.gw g
      refine pick_ok (d := d + 1) pn2 (by omega) e2 (by simp) (by simp) fun v h3 hv pn3 g3 => ?_
      have e1 := g3.1 _ _ (fun z => by obtain ⟨k, e⟩ := pn2.has; rw [← z, e1] at e; cases e) e1
      refine q v h3 ?_ (pn3.mono (by omega)) (g.gx.trans g3)
      have st : ∀ ds : List D, (∀ x ∈ ds, Gd h3 0 4 x) → ds.length ≤ 4 → It1 h3 (.tup ds) := fun ds H hl => (gd_tup (k := 0) (w := 4) (m := 4) H hl (by decide)).mono (by decide) (by decide)
      have ga : Gd h3 0 4 (.str (Str.ofString "a")) := gd_str (by decide) (by decide) (by decide +kernel)
      have gi : ∀ i : Int, i = 0 ∨ i = 1 → Gd h3 0 4 (.int i) := fun i hi => (gd_int (by rcases hi with rfl | rfl <;> decide)).mono (by decide) (by decide)
      simp at hv
      rcases hv with rfl | rfl | rfl | rfl | rfl | rfl
      · exact ⟨(gd_lst (k := 0) (w := 0) (m := 0) e1 (by simp) (by decide)).mono (by decide) (by decide), fun ds e => by cases e⟩
      · exact br_tup (fun x hx => by simp at hx; subst hx; exact ga.mono (by decide) (by decide)) (by simp) (by omega)
      · exact br_tup (fun x hx => by
          simp at hx; subst hx
          exact st _ (fun y hy => by
            simp at hy
            rcases hy with rfl | rfl | rfl
            · exact ga
            · exact gi _ (.inl rfl)
            · exact gi _ (.inr rfl)) (by simp)) (by simp) (by omega)
      · exact br_tup (fun x hx => by simp at hx; subst hx; exact st _ (by simp) (by simp)) (by simp) (by omega)
      · exact ⟨gd_non.mono (by decide) (by decide), fun ds e => by cases e⟩
      · exact br_tup (fun x hx => by
          simp at hx; subst hx
          exact st _ (fun y hy => by
            simp at hy
            rcases hy with rfl | rfl | rfl
            · exact ga
            · exact gi _ (.inl rfl)
            · exact gi _ (.inr rfl)) (by simp)) (by simp) (by omega)
    | cons s l =>
      rw [if_neg (by simp)]
      exact hK _ _ ⟨rfl, rfl, by simp⟩
  · subst eh es
    have sl : 0 < ss.length := List.length_pos_iff.mpr ne
    rw [wpB_cons]
    simp [-al_eq, -ixD_ref_int]
    refine draw_ok (d := d + 2) pn (by omega) (by omega) (by omega) fun v h2 v0 vm pn2 g2 => ?_
    obtain ⟨i, rfl⟩ := Int.eq_ofNat_of_zero_le v0
    have il : i < ss.length := by omega
    try simp [-al_eq, -ixD_ref_int]
    refine draw_ok (d := d + 2) pn2 (by decide) (by decide) (by omega) fun lot h3 lo0 lom pn3 g3 => ?_
    try simp [-al_eq, -ixD_ref_int]
    have G3 := g2.trans g3
    clear g2 g3
    refine ⟨fits_le (by decide), ?_⟩
    have os := hs _ (List.getElem_mem il)
    have gs : ss[i]? = some ss[i] := List.getElem?_eq_getElem il
    generalize ss[i] = s at os gs
    rw [wpB_cons]
    simp [-al_eq, -ixD_ref_int, gs]
    obtain ⟨w, f, m, y⟩ := s
    have om1 := os.m1
    have om2 := os.m2
    have of := os.f
    have oy := os.y
    simp at om1 om2 of oy
    simp [S4.d, -al_eq, -ixD_ref_int]
    rw [wpB_cons]
    simp [-al_eq, -ixD_ref_int]
    refine ⟨yMul oy, ?_⟩
    have e7 : cut (ss.map S4.d) none (some (i : Int)) = (ss.map S4.d).take i := cut_to _ _
    have e8 : cut (ss.map S4.d) (some ((i : Int) + 1)) none = (ss.map S4.d).drop (i + 1) := cut_from _ (i + 1)
    have lenb : ∀ l : List D, l.length ≤ 70 → Fits l.length := fun l hl => fits_le (by omega)
    generalize hla : f + y * (m - 1) = last
    have lb : last.natAbs < 10 ^ 23 := by
      rw [← hla]
      rcases oy with rfl | rfl <;> omega
    refine wpB_seq (fun σ h4 => h4 = h3 ∧ σ = [some (.ref p), some (.tup (ss.map S4.d)), some (.int i), some (.int lot), some (.str w), some (.int f), some (.int m), some (.int y), some (.int last), none, none, none]) (fun K hK => ?_) fun σ h4 ⟨eh, es⟩ => ?_
    · have k0 := hK _ _ ⟨rfl, rfl⟩
      simp [-al_eq, -ixD_ref_int]
      by_cases c1 : lot = 0
      · rw [if_pos c1]
        by_cases c2 : 1 < m
        · rw [if_pos c2, wpB_cons]
          simp [-al_eq, -ixD_ref_int, e7, e8]
          refine ⟨fits_le (by decide), fits_le (by decide), fits_le (by omega), fits_le (by omega), q _ _ ?_ (pn3.mono (by omega)) G3⟩
          have o1 : Sd ⟨w, f, 1, y⟩ := ⟨os.w, os.f, by simp, by simp, oy⟩
          have ym : y.natAbs ≤ 1 := by rcases oy with rfl | rfl <;> decide
          have := splice_br (h := h3) (mid := [S4.d ⟨w, f, 1, y⟩, .tup [.str w, .int (f + y), .int (m - 1), .int y]]) hl hL hs il (fun x hx => by
            simp at hx
            rcases hx with rfl | rfl
            · exact o1.gd.mono (by decide) (by decide)
            · refine (gd_tup (k := 0) (w := 10) (m := 4) (fun x hx => ?_) (by simp) (by decide)).mono (by decide) (by decide)
              simp at hx
              rcases hx with rfl | rfl | rfl | rfl
              · exact gd_str (Nat.le_trans os.w.1 (by decide)) (by decide) os.w.2
              · exact (gd_int (by omega)).mono (by decide) (by decide)
              · exact (gd_int (by omega)).mono (by decide) (by decide)
              · exact (gd_int (by omega)).mono (by decide) (by decide)) (by simp)
          simpa [S4.d] using this
        · rw [if_neg c2]; exact k0
      · rw [if_neg c1]; exact k0
    · subst eh es
      refine wpB_seq (fun σ h5 => h5 = h4 ∧ σ = [some (.ref p), some (.tup (ss.map S4.d)), some (.int i), some (.int lot), some (.str w), some (.int f), some (.int m), some (.int y), some (.int last), none, none, none]) (fun K hK => ?_) fun σ h5 ⟨eh, es⟩ => ?_
      · have k0 := hK _ _ ⟨rfl, rfl⟩
        simp [-al_eq, -ixD_ref_int]
        by_cases c1 : lot = 1
        · rw [if_pos c1, wpB_cons]
          simp [-al_eq, -ixD_ref_int]
          refine below_ok (d := d) pn3 (by omega) (by omega) (by omega) fun v h5 v0 vm pn5 g5 => ?_
          simp [-al_eq, -ixD_ref_int]
          refine ⟨fits_le (by decide), al_rule fun q1 h6 hq1 g6 e6 => ?_⟩
          refine pick_ok (d := d + 1) (pn5.gw g6) (by omega) e6 (by simp) (by simp) fun xD h7 hx pn7 g7 => ?_
          have : ∃ x : Int, xD = .int x ∧ x.natAbs < 10 ^ 23 + 10 ^ 19 + 1 := by
            simp at hx
            rcases hx with rfl | rfl | rfl | rfl
            · exact ⟨_, rfl, by omega⟩
            · exact ⟨_, rfl, by omega⟩
            · exact ⟨_, rfl, by split <;> omega⟩
            · exact ⟨_, rfl, by split <;> omega⟩
          obtain ⟨x, rfl, xb⟩ := this
          try simp [-al_eq, -ixD_ref_int]
          refine ⟨fits_le (by decide), al_rule fun q2 h8 hq2 g8 e8 => ?_⟩
          refine pick_ok (d := d + 1) (pn7.gw g8) (by omega) e8 (by simp) (by simp) fun yD h9 hy pn9 g9 => ?_
          have : ∃ z : Int, yD = .int z ∧ z.natAbs ≤ 1 := by
            simp at hy
            rcases hy with rfl | rfl
            · exact ⟨1, rfl, by decide⟩
            · exact ⟨-1, rfl, by decide⟩
          obtain ⟨z, rfl, zb⟩ := this
          refine ⟨fits_le (by decide), fits_le (by decide), fits_le (by omega), q _ _ (more_br hl hL hs (st_gd os.w (by split <;> omega) (by decide) (by omega))) (pn9.mono (by omega)) ((((G3.trans g5).trans g6.gx).trans g7).trans (g8.gx.trans g9))⟩
        · rw [if_neg c1]; exact k0
      · subst eh es
        refine wpB_seq (fun σ h4 => h4 = h5 ∧ σ = [some (.ref p), some (.tup (ss.map S4.d)), some (.int i), some (.int lot), some (.str w), some (.int f), some (.int m), some (.int y), some (.int last), none, none, none]) (fun K hK => ?_) fun σ h4 ⟨eh, es⟩ => ?_
        · have k0 := hK _ _ ⟨rfl, rfl⟩
          simp [-al_eq, -ixD_ref_int]
          by_cases c1 : lot = 2
          · rw [if_pos c1]
            refine al_rule fun q1 h6 hq1 g6 e6 => q _ _ ⟨?_, fun ds e => by cases e⟩ ((pn3.gw g6).mono (by omega)) (G3.trans g6.gx)
            refine (gd_lst (k := 3) (w := 60) (m := 60) e6 (fun x hx => ?_) (by simp; omega)).mono (by decide) (by decide)
            obtain ⟨s, h1, rfl⟩ := List.mem_map.mp hx
            exact (hs s h1).gd.mono (by decide) (by decide)
          · rw [if_neg c1]; exact k0
        · subst eh es
          refine wpB_seq (fun σ h5 => h5 = h4 ∧ σ = [some (.ref p), some (.tup (ss.map S4.d)), some (.int i), some (.int lot), some (.str w), some (.int f), some (.int m), some (.int y), some (.int last), none, none, none]) (fun K hK => ?_) fun σ h5 ⟨eh, es⟩ => ?_
          · have k0 := hK _ _ ⟨rfl, rfl⟩
            simp [-al_eq, -ixD_ref_int, e7, e8, gs]
            by_cases c1 : lot = 3
            · rw [if_pos c1]
              simp [S4.d, -al_eq, -ixD_ref_int]
              refine al_rule fun q1 h6 hq1 g6 e6 => ?_
              have gq : It1 h6 (.ref q1) := (gd_lst (k := 0) (w := 10) (m := 4) e6 (fun x hx => by
                simp at hx
                rcases hx with rfl | rfl | rfl | rfl
                · exact gd_str (Nat.le_trans os.w.1 (by decide)) (by decide) os.w.2
                · exact (gd_int (by omega)).mono (by decide) (by decide)
                · exact (gd_int (by omega)).mono (by decide) (by decide)
                · exact (gd_int (by omega)).mono (by decide) (by decide)) (by simp)).mono (by decide) (by decide)
              have := splice_br (h := h6) (mid := [.ref q1]) hl hL hs il (fun x hx => by rw [List.mem_singleton.mp hx]; exact gq) (by simp)
              exact ⟨fits_le (by decide), fits_le (by omega), fits_le (by omega), q _ _ (by simpa using this) ((pn3.gw g6).mono (by omega)) (G3.trans g6.gx)⟩
            · rw [if_neg c1]; exact k0
          · subst eh es
            rw [wpB_cons]
            simp [-al_eq, -ixD_ref_int]
            refine draw_ok (d := d + 2) pn3 (by decide) (by decide) (by omega) fun kk h6 k0 km pn6 g6 => ?_
            obtain ⟨k, rfl⟩ := Int.eq_ofNat_of_zero_le k0
            try simp [-al_eq, -ixD_ref_int]
            rw [wpB_cons]
            simp [-al_eq, -ixD_ref_int]
            refine odd_ok (d := d) pn6 (by omega) fun o h7 go fo pn7 g7 => ?_
            try simp [-al_eq, -ixD_ref_int]
            have G7 := (G3.trans g6).trans g7
            clear g6 g7
            refine wpB_seq (fun σ h8 => ∃ o, σ = [some (.ref p), some (.tup (ss.map S4.d)), some (.int i), some (.int lot), some (.str w), some (.int f), some (.int m), some (.int y), some (.int last), none, some o, some (.int k)] ∧ Gd h8 2 20 o ∧ Pen h8 p c (n + 10) ∧ Gx p h1 h8) (fun K hK => ?_) fun σ h8 ⟨o, es, go, pn8, G8⟩ => ?_
            · have k0 := hK _ _ ⟨o, rfl, go, pn7.mono (by omega), G7⟩
              simp [-al_eq, -ixD_ref_int, gs]
              by_cases c1 : 4 < lot
              · rw [if_pos c1]
                by_cases c2 : 0 < k
                · rw [if_pos c2]
                  have : ∃ z : Int, [D.str w, D.int f, D.int m, D.int y][k]? = some (.int z) ∧ z.natAbs < 10 ^ 22 := by
                    have : k = 1 ∨ k = 2 ∨ k = 3 := by omega
                    rcases this with rfl | rfl | rfl
                    · exact ⟨f, rfl, by omega⟩
                    · exact ⟨m, rfl, by omega⟩
                    · exact ⟨y, rfl, by omega⟩
                  obtain ⟨z, ez, zb⟩ := this
                  refine ⟨.int z, by rw [DL.atI_nat]; exact ez, fits_le (by decide), al_rule fun q1 h8 hq1 g8 e8' => ?_⟩
                  refine pick_ok (d := d + 1) (pn7.gw g8) (by omega) e8' (by simp) (by simp) fun yD h9 hy pn9 g9 => ?_
                  have : ∃ u : Int, yD = .int u ∧ u.natAbs ≤ 2 := by
                    simp at hy
                    rcases hy with rfl | rfl | rfl
                    · exact ⟨1, rfl, by decide⟩
                    · exact ⟨-1, rfl, by decide⟩
                    · exact ⟨2, rfl, by decide⟩
                  obtain ⟨u, rfl, ub⟩ := this
                  exact hK _ _ ⟨_, rfl, (gd_int (by omega)).mono (by decide) (by decide), pn9.mono (by omega), G7.trans (g8.gx.trans g9)⟩
                · rw [if_neg c2]; exact k0
              · rw [if_neg c1]; exact k0
            · subst es
              have e9 : cut [D.str w, D.int f, D.int m, D.int y] none (some (k : Int)) = [D.str w, D.int f, D.int m, D.int y].take k := cut_to _ _
              have e10 : cut [D.str w, D.int f, D.int m, D.int y] (some ((k : Int) + 1)) none = [D.str w, D.int f, D.int m, D.int y].drop (k + 1) := cut_from _ (k + 1)
              simp [S4.d, -al_eq, -ixD_ref_int, e7, e8, gs, e9, e10]
              have gi : ∀ x ∈ [D.str w, D.int f, D.int m, D.int y], Gd h8 2 20 x := fun x hx => by
                simp at hx
                rcases hx with rfl | rfl | rfl | rfl
                · exact (gd_str (w := 10) (Nat.le_trans os.w.1 (by decide)) (by decide) os.w.2).mono (by decide) (by decide)
                · exact (gd_int (by omega)).mono (by decide) (by decide)
                · exact (gd_int (by omega)).mono (by decide) (by decide)
                · exact (gd_int (by omega)).mono (by decide) (by decide)
              have gm : Gd h8 3 105 (.tup ([D.str w, D.int f, D.int m, D.int y].take k ++ [o] ++ [D.str w, D.int f, D.int m, D.int y].drop (k + 1))) := by
                refine (gd_tup (k := 2) (w := 20) (m := 5) (fun x hx => ?_) (by simp; omega) (by decide)).mono (by decide) (by decide)
                rcases List.mem_append.mp hx with hx | hx
                · rcases List.mem_append.mp hx with hx | hx
                  · exact gi x (List.mem_of_mem_take hx)
                  · rw [List.mem_singleton.mp hx]; exact go
                · exact gi x (List.mem_of_mem_drop hx)
              have := splice_br (h := h8) (mid := [_]) hl hL hs il (fun x hx => by rw [List.mem_singleton.mp hx]; exact gm) (by simp)
              exact ⟨fits_le (by decide), fits_le (by omega), fits_le (by omega), fits_le (by decide), fits_le (by omega), fits_le (by omega), q _ _ (by simpa using this) (pn8.mono (by omega)) G8⟩
end
end LW
set_option Elab.async false
set_option linter.all false
set_option maxRecDepth 100000
set_option maxHeartbeats 1000000
set_option exponentiation.threshold 20000
namespace LW
open PySem L2 DL
abbrev rowsD (sss : List (List S4)) : List D := sss.map fun ss => .tup (ss.map S4.d)
section
variable {d : Nat} {h : MH} {Q : D → MH → Prop} {E : DX} {p c : Addr} {n : Nat}
theorem st_tup {rs : List D} {L : Nat} (H : ∀ x ∈ rs, Gd h 4 6360 x ∧ ∀ ds, x = .tup ds → ds.length ≤ L) (hl : rs.length ≤ 20) : Gd h 5 127300 (.tup rs) ∧ RL L (.tup rs) :=
  ⟨(gd_tup (k := 4) (w := 6360) (m := 20) (fun x hx => (H x hx).1) hl (by decide)).mono (by decide) (by decide), fun rs' ds e hm => by cases e; exact (H _ hm).2 _ rfl⟩
theorem bent_ok {sss : List (List S4)} {L : Nat} (pn : Pen h p c n) (hn : n + 3000 < 2 ^ 60) (l2 : 2 ≤ L) (hL : L ≤ 58) (s2 : 2 ≤ sss.length) (s6 : sss.length ≤ 6) (H : ∀ ss ∈ sss, ss.length ≤ L ∧ ∀ s ∈ ss, Sd s)
    (q : ∀ v h', Gd h' 5 127300 v → RL (L + 1) v → Pen h' p c (n + 60) → Gx p h h' → Q v h') : Ph prog (d + 5) 32 [.ref p, .tup (rowsD sss)] h Q E := by
  refine ph_of at__law_bent rfl ?_
  simp only [f__law_bent]
  have HR : ∀ (h : MH), ∀ x ∈ rowsD sss, Gd h 4 6360 x ∧ ∀ ds, x = .tup ds → ds.length ≤ L + 1 := fun h x hx => by
    obtain ⟨ss, h1, rfl⟩ := List.mem_map.mp hx
    exact ⟨(row_gd (H ss h1).1 (by omega) (H ss h1).2).mono (by decide) (by decide), fun ds e => by cases e; rw [List.length_map]; have := (H ss h1).1; omega⟩
  have rl : (rowsD sss).length = sss.length := List.length_map ..
  have gr : ∀ i, i < sss.length → ∃ ss ∈ sss, (rowsD sss)[i]? = some (.tup (ss.map S4.d)) := fun i hi => ⟨sss[i], List.getElem_mem hi, by rw [List.getElem?_map, List.getElem?_eq_getElem hi]; rfl⟩
  generalize rowsD sss = R at HR rl gr ⊢
  rw [wpB_cons]
  simp [-al_eq, -ixD_ref_int]
  refine draw_ok (d := d + 3) pn (by omega) (by omega) (by omega) fun v h2 v0 vm pn2 g2 => ?_
  obtain ⟨i, rfl⟩ := Int.eq_ofNat_of_zero_le v0
  have il : i < sss.length := by omega
  try simp [-al_eq, -ixD_ref_int]
  refine draw_ok (d := d + 3) pn2 (by decide) (by decide) (by omega) fun lot h3 lo0 lom pn3 g3 => ?_
  try simp [-al_eq, -ixD_ref_int]
  have G3 := g2.trans g3
  clear g2 g3
  refine ⟨fits_le (by decide), ?_⟩
  have e7 : cut R none (some (i : Int)) = R.take i := cut_to _ _
  have e8 : cut R (some ((i : Int) + 1)) none = R.drop (i + 1) := cut_from _ (i + 1)
  have sp : ∀ (h : MH) (v : D), (Gd h 4 6360 v ∧ ∀ ds, v = .tup ds → ds.length ≤ L + 1) → Gd h 5 127300 (.tup (R.take i ++ [v] ++ R.drop (i + 1))) ∧ RL (L + 1) (.tup (R.take i ++ [v] ++ R.drop (i + 1))) := fun h v hv => st_tup (fun x hx => by
    rcases List.mem_append.mp hx with hx | hx
    · rcases List.mem_append.mp hx with hx | hx
      · exact HR h x (List.mem_of_mem_take hx)
      · rw [List.mem_singleton.mp hx]; exact hv
    · exact HR h x (List.mem_of_mem_drop hx)) (by simp; omega)
  have ap : ∀ (h : MH) (k : Nat), k ≤ 7 → Gd h 5 127300 (.tup (R ++ List.replicate k (.tup []))) ∧ RL (L + 1) (.tup (R ++ List.replicate k (.tup []))) := fun h k hk => st_tup (fun x hx => by
    rcases List.mem_append.mp hx with hx | hx
    · exact HR h x hx
    · rw [List.eq_of_mem_replicate hx]
      exact ⟨(gd_tup (k := 0) (w := 0) (m := 0) (by simp) (by simp) (by decide)).mono (by decide) (by decide), fun ds e => by cases e; simp⟩) (by simp; omega)
  refine wpB_seq (fun σ h4 => h4 = h3 ∧ σ = [some (.ref p), some (.tup R), some (.int i), some (.int lot)]) (fun K hK => ?_) fun σ h4 ⟨eh, es⟩ => ?_
  · have k0 := hK _ _ ⟨rfl, rfl⟩
    simp [-al_eq, -ixD_ref_int, e7, e8]
    by_cases c1 : lot < 5
    · rw [if_pos c1]
      obtain ⟨ss, hss, es⟩ := gr i il
      refine ⟨_, es, brow_ok (d := d) pn3 (by omega) (H ss hss).1 l2 hL (H ss hss).2 fun v h5 bv pn5 g5 => ?_⟩
      have := sp h5 v bv
      try simp
      exact ⟨fits_le (by decide), fits_le (by omega), fits_le (by omega), q _ _ (by simpa using this.1) (by simpa using this.2) (pn5.mono (by omega)) (G3.trans g5)⟩
    · rw [if_neg c1]; exact k0
  · subst eh es
    have e0 : cut R none (some (1 : Int)) = R.take 1 := cut_to _ 1
    refine wpB_seq (fun σ h5 => h5 = h4 ∧ σ = [some (.ref p), some (.tup R), some (.int i), some (.int lot)]) (fun K hK => ?_) fun σ h5 ⟨eh, es⟩ => ?_
    · have k0 := hK _ _ ⟨rfl, rfl⟩
      simp [-al_eq, -ixD_ref_int, e7, e8, e0]
      by_cases c1 : lot = 5
      · rw [if_pos c1]
        refine al_rule fun q1 h6 hq1 g6 e6 => ?_
        refine odd_ok (d := d + 1) (pn3.gw g6) (by omega) fun o h7 go fo pn7 g7 => ?_
        have e7' := g7.1 _ _ (pn3.nep hq1).symm e6
        refine ⟨fits_le (by decide), fits_le (by decide), by omega, by omega, fits_le (by omega), fits_le (by decide), al_rule fun q2 h8 hq2 g8 e8' => ?_⟩
        refine pick_ok (d := d + 2) (pn7.gw g8) (by omega) e8' (by simp) (by simp) fun v h9 hv pn9 g9 => ?_
        have e9 := g9.1 _ _ (fun z => by rw [z] at e7'; obtain ⟨k, e⟩ := pn7.has; rw [e] at e7'; cases e7') (g8 _ _ e7')
        have go := (go.gx (p := p) pn7 g8.gx).gx (pn7.gw g8) g9
        have G := ((G3.trans g6.gx).trans g7).trans (g8.gx.trans g9)
        have fin : ∀ v, Gd h9 5 127300 v ∧ RL (L + 1) v → Q v h9 := fun v hv => q v h9 hv.1 hv.2 (pn9.mono (by omega)) G
        simp at hv
        rcases hv with rfl | rfl | rfl | rfl
        · exact fin _ ⟨(gd_lst (k := 4) (w := 6360) (m := 20) e9 (fun x hx => (HR h9 x hx).1) (by omega)).mono (by decide) (by decide), fun rs ds e => by cases e⟩
        · exact fin _ (st_tup (fun x hx => HR h9 x (List.mem_of_mem_take hx)) (by simp; omega))
        · exact fin _ ⟨go.mono (by decide) (by decide), fun rs ds e hm => absurd hm ((fo rs e).2 ds)⟩
        · exact fin _ (ap h9 _ (by omega))
      · rw [if_neg c1]; exact k0
    · subst eh es
      refine wpB_seq (fun σ h4 => h4 = h5 ∧ σ = [some (.ref p), some (.tup R), some (.int i), some (.int lot)]) (fun K hK => ?_) fun σ h4 ⟨eh, es⟩ => ?_
      · have k0 := hK _ _ ⟨rfl, rfl⟩
        simp [-al_eq, -ixD_ref_int, e7, e8, e0]
        by_cases c1 : lot = 6
        · rw [if_pos c1]
          obtain ⟨ss, hss, es⟩ := gr 0 (by omega)
          have hm : D.tup (ss.map S4.d) ∈ R := List.mem_of_getElem? es
          have := sp h5 _ (HR h5 _ hm)
          refine ⟨_, es, fits_le (by decide), fits_le (by omega), fits_le (by omega), q _ _ (by simpa using this.1) (by simpa using this.2) (pn3.mono (by omega)) G3⟩
        · rw [if_neg c1]; exact k0
      · subst eh es
        simp [-al_eq, -ixD_ref_int, e7, e8, e0]
        by_cases c1 : lot = 7
        · rw [if_pos c1]
          refine odd_ok (d := d + 1) pn3 (by omega) fun o h7 go fo pn7 g7 => ?_
          have := sp h7 o ⟨go.mono (by decide) (by decide), fun ds e => by have := (fo ds e).1; omega⟩
          exact ⟨fits_le (by decide), fits_le (by omega), fits_le (by omega), q _ _ (by simpa using this.1) (by simpa using this.2) (pn7.mono (by omega)) (G3.trans g7)⟩
        · rw [if_neg c1]
          have := ap h4 (6 - R.length) (by omega)
          refine ⟨fits_le (by decide), fits_le (by decide), by omega, by omega, ?_⟩
          exact ⟨fits_le (by omega), q _ _ this.1 this.2 (pn3.mono (by omega)) G3⟩
end
end LW
set_option Elab.async false
set_option linter.all false
set_option maxRecDepth 100000
set_option maxHeartbeats 1000000
set_option exponentiation.threshold 20000
namespace LW
open PySem L2 DL
theorem Sd.of {s : S4} (o : s.Ok) (e : isSt s.d = true) : Sd s := by
  have hw : isWd (.str s.w) = true := by
    simp [S4.d, isSt] at e
    exact e.1
  simp [isWd] at hw
  have := o.m1
  have := o.m2
  have := o.f1
  have := o.f2
  have em : M18 = 1000000000000000000 := rfl
  exact ⟨⟨hw.2.1, o.z⟩, by omega, o.m1, by omega, o.y⟩
theorem stand_sh {h : MH} {x : D} {L : Nat} (w : Wf h x) (e : stand x = true) (rl : RL L x) : ∃ sss : List (List S4), x = .tup (rowsD sss) ∧ 2 ≤ sss.length ∧ sss.length ≤ 6 ∧ ∀ ss ∈ sss, ss.length ≤ L ∧ ∀ s ∈ ss, Sd s := by
  cases x with
  | tup rows =>
    obtain ⟨_, wr⟩ := wf_tup.mp w
    simp only [stand, Bool.and_eq_true, decide_eq_true_eq] at e
    obtain ⟨e1, e2, e3, _⟩ := e
    obtain ⟨sss, rfl, os⟩ := rows_ss wr e3
    rw [List.length_map] at e1 e2
    refine ⟨sss, rfl, e1, e2, fun ss hs => ⟨?_, fun s h1 => ?_⟩⟩
    · have := rl _ _ rfl (List.mem_map.mpr ⟨ss, hs, rfl⟩)
      rwa [List.length_map] at this
    · exact Sd.of ((os ss hs).ok s h1) (List.all_eq_true.mp (os ss hs).st _ (List.mem_map.mpr ⟨s, h1, rfl⟩))
  | _ => cases e
end LW
set_option Elab.async false
set_option linter.all false
set_option maxRecDepth 100000
set_option maxHeartbeats 1000000
set_option exponentiation.threshold 20000
namespace LW
open PySem L2 DL
/-- a thing that the law looks at -/
def Th (h : MH) (x : D) : Prop := Gd h 5 127300 x ∧ RL 42 x
section
variable {d : Nat} {h : MH} {Q : D → MH → Prop} {E : DX} {p c : Addr} {n : Nat}
theorem Gd.fits {k w : Nat} {x : D} (hw : w ≤ 127300) (hk : k ≤ 60) : Gd h k w x → ∃ t, Den h x t ∧ t.showable = true ∧ Fits t.shown.length ∧ t.depth ≤ 60
  | ⟨_, t, e, o1, o2, o3, o4⟩ => ⟨t, e, o1, fits_le (by
      have := PyData.shown_le_bulk 80 (by decide) t o2
      omega), by omega⟩
theorem bi_repr {x : D} {t : PyData} (e : Den h x t) (s : t.showable = true) (f : Fits t.shown.length) (dp : t.depth ≤ 60) (q : Q (.str t.shown) h) : bi .repr [x] h Q := ⟨t, e, s, f, dp, q⟩
theorem Th.gx {h1 : MH} {x : D} (pn : Pen h p c n) (f : Gx p h h1) (t : Th h x) : Th h1 x := ⟨Gd.gx pn f t.1, t.2⟩
def inner : List Sm := match f_law.body with
  | _ :: .for _ _ b :: _ => match b with
    | [_, _, _, _, .for _ _ b'] => b'
    | _ => []
  | _ => []
theorem inner_ok {Dn : En} {x0 x2 x3 x4 x5 x6 x7 x9 x10 x11 x12 x13 x14 : Option D} {x : D} (pn : Pen h p c n) (hn : n + 4000 < 2 ^ 60) (t : Th h x)
    (q : ∀ (y9 y10 y11 : Option D) h', Pen h' p c (n + 60) → Gx p h h' → Dn.nx [x0, some (.ref p), x2, x3, x4, x5, x6, x7, some x, y9, y10, y11, x12, x13, x14] h') :
    wpB (Ph prog (d + 5)) inner Dn [x0, some (.ref p), x2, x3, x4, x5, x6, x7, some x, x9, x10, x11, x12, x13, x14] h := by
  obtain ⟨td, eD, sh, fi, dp⟩ := Gd.fits (by decide) (by decide) t.1
  show wpB _ [_, _, _, _, _] _ _ _
  rw [wpB_cons]
  simp [-al_eq, -ixD_ref_int]
  refine bi_repr eD sh fi dp ?_
  rw [wpB_cons]
  simp [-al_eq, -ixD_ref_int]
  refine standing_ok (d := d) t.1.1 fun h2 g2 => ?_
  try simp [-al_eq, -ixD_ref_int]
  refine wpB_seq (fun σ h3 => σ = [x0, some (.ref p), x2, x3, x4, x5, x6, x7, some x, some (.str td.shown), some (.bl (stand x)), x11, x12, x13, x14] ∧ Gw h h3) (fun K hK => ?_) fun σ h3 ⟨es, g3⟩ => ?_
  · simp [-al_eq, -ixD_ref_int, subTy]
    refine lstanding_ok (d := d + 2) (t.1.1.gw g2) fun h3 g3 => ?_
    simp [-al_eq, -ixD_ref_int]
    refine bi_repr ((Gx.den pn ((g2.trans g3).gx)) eD) sh fi dp ?_
    simp
    exact hK _ _ ⟨rfl, g2.trans g3⟩
  · subst es
    have pn3 := pn.gw g3
    have t3 : Th h3 x := t.gx pn g3.gx
    refine wpB_seq (fun σ h4 => ∃ b, σ = [x0, some (.ref p), x2, x3, x4, x5, x6, x7, some x, some (.str td.shown), some (.bl (stand x)), some b, x12, x13, x14] ∧ Wf h4 b ∧ Pen h4 p c (n + 60) ∧ Gx p h h4) (fun K hK => ?_) fun σ h4 ⟨b, es, wb, pn4, G4⟩ => ?_
    · have k0 : ∀ h4, Gw h3 h4 → K [x0, some (.ref p), x2, x3, x4, x5, x6, x7, some x, some (.str td.shown), some (.bl (stand x)), some x, x12, x13, x14] h4 := fun h4 g4 => hK _ h4 ⟨x, rfl, t3.1.1.gw g4, (pn3.gw g4).mono (by omega), (g3.trans g4).gx⟩
      simp [-al_eq, -ixD_ref_int]
      refine isTys_of t3.1.1.kd rfl rfl ?_
      split
      · refine lstanding_ok (d := d + 2) t3.1.1 fun h4 g4 => ?_
        simp only [tru_bl]
        cases sx : stand x with
        | false => rw [if_neg (by simp)]; exact sx ▸ k0 h4 g4
        | true =>
          rw [if_pos rfl]
          obtain ⟨sss, rfl, s2, s6, H⟩ := stand_sh t3.1.1 sx t3.2
          exact bent_ok (d := d) (pn3.gw g4) (by omega) (by decide) (by decide) s2 s6 H fun v h5 gv rv pn5 g5 => sx ▸ hK _ h5 ⟨v, rfl, gv.1, pn5, (g3.trans g4).gx.trans g5⟩
      · exact k0 h3 .refl
    · subst es
      simp [-al_eq, -ixD_ref_int]
      refine standing_ok (d := d) wb fun h5 g5 => ?_
      try simp [-al_eq, -ixD_ref_int]
      refine lstanding_ok (d := d + 2) (wb.gw g5) fun h6 g6 => ?_
      simp [-al_eq, -ixD_ref_int]
      exact q _ _ _ h6 (pn4.gw (g5.trans g6)) (G4.trans (g5.trans g6).gx)
def outer : List Sm := match f_law.body with
  | _ :: .for _ _ b :: _ => b
  | _ => []
theorem sh_th {L : Nat} {x : D} (o : Sh L x) (hL : L ≤ 42) : Th h x := ⟨(o.gd (by omega)).mono (by decide) (by decide), fun rs ds e hm => Nat.le_trans (o.rl rs ds e hm) hL⟩
theorem odd_th {v : D} (g : Gd h 2 20 v) (f : Fl v) : Th h v := ⟨g.mono (by decide) (by decide), fun rs ds e hm => absurd hm ((f rs e).2 ds)⟩
theorem outer_ok {Dn : En} {x0 x2 x3 x4 x5 x6 x7 x8 x9 x10 x11 x12 x13 x14 : Option D} (pn : Pen h p c n) (hn : n + 9000 < 2 ^ 60)
    (q : ∀ (y3 y4 y5 y6 y7 y8 y9 y10 y11 : Option D) h', Pen h' p c (n + 2000) → Gx p h h' → Dn.nx [x0, some (.ref p), x2, y3, y4, y5, y6, y7, y8, y9, y10, y11, x12, x13, x14] h') :
    wpB (Ph prog (d + 5)) outer Dn [x0, some (.ref p), x2, x3, x4, x5, x6, x7, x8, x9, x10, x11, x12, x13, x14] h := by
  show wpB _ [_, _, _, _, .for _ _ inner] _ _ _
  rw [wpB_cons]
  simp [-al_eq, -ixD_ref_int]
  refine words_ok (d := d + 2) pn (by omega) fun ws q1 h1 w3 wd fq1 e1 pn1 g1 => ?_
  try simp [-al_eq, -ixD_ref_int]
  rw [wpB_cons]
  simp [-al_eq, -ixD_ref_int]
  refine draw_ok (d := d + 4) pn1 (by decide) (by decide) (by omega) fun v h2 v0 vm pn2 g2 => ?_
  obtain ⟨k, rfl⟩ := Int.eq_ofNat_of_zero_le v0
  try simp [-al_eq, -ixD_ref_int]
  have ek : (2 : Int) + k = ((2 + k : Nat) : Int) := by omega
  rw [ek]
  have n1 : q1 ≠ p := (pn.nep fq1).symm
  have e1' := g2.1 _ _ n1 e1
  refine pile_ok (d := d + 2) pn2 (by omega) e1' w3 wd (by omega) (by omega) fun rs q2 h3 i wide hl eq2 R hw w0 pn3 g3 => ?_
  have e1' := g3.1 _ _ n1 e1'
  have G3 := (g1.trans g2).trans g3
  clear g1 g2 g3 e1
  try simp [-al_eq, -ixD_ref_int]
  rw [wpB_cons]
  simp [-al_eq, -ixD_ref_int]
  refine ⟨_, eq2, ?_⟩
  refine lc_rule (fun r acc h' => ∃ (done rest : List Addr) (sss : List (List S4)), rs = done ++ rest ∧ r = rest.map D.ref ∧ acc = rowsD sss ∧ sss.length = done.length ∧ (∀ ss ∈ sss, ss.length ≤ 32 ∧ ∀ s ∈ ss, Sd s) ∧ Gw h3 h')
    (fun _ _ _ ⟨_, _, _, _, _, _, _, _, g⟩ => g _ _ eq2) (fun acc h4 ⟨done, rest, sss, a1, a2, a3, a4, a5, g4⟩ => ?_) (fun dd r acc h' N ⟨done, rest, sss, a1, a2, a3, a4, a5, g⟩ hN => ?_) _ _ _ ⟨[], rs, [], rfl, rfl, rfl, rfl, (fun _ z => nomatch z), .refl⟩
  · subst a3
    cases rest with
    | nil => cases a2
    | cons r1 rest =>
    rw [List.map_cons] at a2
    cases a2
    obtain ⟨_, ss, er, sl, sm⟩ := R r1 (by rw [a1]; simp)
    have dl : done.length < 2 + k := by rw [← hl, a1]; simp
    simp [-al_eq, -ixD_ref_int]
    refine yards2_ok (d := d + 4) (g _ _ er) sl sm w0 hw fun ys q3 h4 g4 fq3 e3 yl yy => ?_
    try simp [-al_eq, -ixD_ref_int]
    refine formof_ok (d := d + 4) e3 yl yy fun fs h5 g5 fl ff => ⟨by rw [sizeLine_eq]; omega, ?_⟩
    refine hN _ _ ⟨done ++ [r1], rest, sss ++ [fs], by rw [a1, List.append_assoc]; rfl, rfl, by simp [rowsD], by simp [a4], fun t ht => ?_, g.trans (g4.trans g5)⟩
    rcases List.mem_append.mp ht with ht | ht
    · exact a5 t ht
    · rw [List.mem_singleton.mp ht]; exact ⟨fl, ff⟩
  · subst a3
    cases rest with
    | cons _ _ => cases a2
    | nil =>
    rw [List.append_nil] at a1
    subst a1
    have n2 : q2 ≠ p := (pn3.has.elim fun k e z => by rw [z, e] at eq2; cases eq2)
    have l6 : sss.length = 2 + k := by omega
    have G4 : Gx p h h4 := G3.trans g4.gx
    have pn4 := pn3.gw g4
    have e1' := g4 _ _ e1'
    have S5 : Sh 32 (.tup (rowsD sss)) := ⟨sss, rfl, by omega, by omega, a5⟩
    refine al_rule fun q3 h5 hq3 g5 e3 => ?_
    try simp [-al_eq, -ixD_ref_int]
    refine ⟨_, e3, ?_⟩
    have G5 := G4.trans g5.gx
    have pn5 := pn4.gw g5
    have e1' := g5 _ _ e1'
    rw [wpB_cons]
    simp [-al_eq, -ixD_ref_int]
    refine gstanding_ok (d := d) pn5 (by omega) e1' w3 wd fun x7' h6 S7 pn6 g6 => ?_
    have G6 := G5.trans g6
    obtain ⟨sss7, e7, r2, r6, H7⟩ := id S7
    subst e7
    try simp [-al_eq, -ixD_ref_int]
    refine bent_ok (d := d) pn6 (by omega) (by decide) (by decide) (by omega) (by omega) a5 fun b1 h7 gb1 rb1 pn7 g7 => ?_
    try simp [-al_eq, -ixD_ref_int]
    refine bent_ok (d := d) pn7 (by omega) (by decide) (by decide) r2 r6 H7 fun b2 h8 gb2 rb2 pn8 g8 => ?_
    try simp [-al_eq, -ixD_ref_int]
    refine odd_ok (d := d + 2) pn8 (by omega) fun o h9 go fo pn9 g9 => ?_
    try simp [-al_eq, -ixD_ref_int]
    refine ⟨fits_le (by decide), al_rule fun q4 h10 hq4 g10 e4 => ⟨_, e4, ?_⟩⟩
    have G10 := (((G6.trans g7).trans g8).trans g9).trans g10.gx
    have pn10 := pn9.gw g10
    have n4 : q4 ≠ p := (pn9.nep hq4).symm
    have T : ∀ x ∈ [D.tup (rowsD sss), D.tup (rowsD sss7), b1, b2, o], Th h10 x := fun x hx => by
      simp at hx
      rcases hx with rfl | rfl | rfl | rfl | rfl
      · exact sh_th S5 (by decide)
      · exact sh_th S7 (by decide)
      · exact Th.gx pn9 g10.gx (Th.gx pn8 g9 (Th.gx pn7 g8 ⟨gb1, fun rs ds e hm => Nat.le_trans (rb1 rs ds e hm) (by decide)⟩))
      · exact Th.gx pn9 g10.gx (Th.gx pn8 g9 ⟨gb2, fun rs ds e hm => Nat.le_trans (rb2 rs ds e hm) (by decide)⟩)
      · exact Th.gx pn9 g10.gx (odd_th go fo)
    have L5 : [D.tup (rowsD sss), D.tup (rowsD sss7), b1, b2, o].length = 5 := rfl
    show forGo _ _ _ _ [D.tup (rowsD sss), D.tup (rowsD sss7), b1, b2, o] _ _
    have e4 : h10 q4 = some (.lst [D.tup (rowsD sss), D.tup (rowsD sss7), b1, b2, o]) := e4
    show forGo _ (fun h' => h' q4 = some (.lst [D.tup (rowsD sss), D.tup (rowsD sss7), b1, b2, o])) _ _ [D.tup (rowsD sss), D.tup (rowsD sss7), b1, b2, o] _ _
    generalize [D.tup (rowsD sss), D.tup (rowsD sss7), b1, b2, o] = ts at T L5 e4 ⊢
    refine for_rule (fun r σ h' => ∃ (j : Nat) (y6 y8 y9 y10 y11 : Option D), r.length + j = 5 ∧ σ = [x0, some (.ref p), x2, some (.ref q1), some (.ref q2), some (.tup (rowsD sss)), y6, some (.tup (rowsD sss7)), y8, y9, y10, y11, x12, x13, x14] ∧ (∀ x ∈ r, Th h' x) ∧ h' q4 = some (.lst ts) ∧ Pen h' p c (n + 1034 + 60 * j) ∧ Gx p h h')
      (fun r σ h' ⟨j, y6, y8, y9, y10, y11, l1, es, t, eq, pn, g⟩ => eq) (fun σ h' ⟨j, y6, y8, y9, y10, y11, l1, es, t, eq, pn, g⟩ => ?_) (fun dd r σ h' K ⟨j, y6, y8, y9, y10, y11, l1, es, t, eq, pn, g⟩ hK => ?_) _ _ _ ⟨0, _, _, _, _, _, by omega, rfl, T, e4, pn10.mono (by omega), G10⟩
    · subst es
      have l1 : 0 + j = 5 := l1
      exact q _ _ _ _ _ _ _ _ _ _ (pn.mono (by omega)) g
    · subst es
      rw [List.length_cons] at l1
      simp only [bindT_nm, List.set]
      refine inner_ok pn (by omega) (t _ (by simp)) fun y9 y10 y11 h11 pn11 g11 => hK _ _ ⟨j + 1, _, _, _, _, _, by omega, rfl, fun x hx => Th.gx pn g11 (t x (by simp [hx])), g11.1 _ _ n4 eq, pn11.mono (by omega), g.trans g11⟩
def tl : List Sm := f_law.body.drop 2
/-! the law's four fixed things -/
theorem aps_short {l : List S3} (h : l.length ≤ 1) : aps l = true := by
  match l, h with
  | [], _ => rfl
  | [_], _ => rfl
theorem aps_pair {l : List S3} {a b : S3} (p : l.Perm [a, b]) (ne : a.w ≠ b.w) : aps l = true := by
  have hl := p.length_eq
  have nd : l.Nodup := p.nodup_iff.mpr (by simp; exact fun z => ne (by rw [z]))
  have key : ∀ x ∈ l, ∀ y ∈ l, x ≠ y → x.w ≠ y.w := fun x hx y hy hxy => by
    have hx := p.mem_iff.mp hx
    have hy := p.mem_iff.mp hy
    simp at hx hy
    rcases hx with rfl | rfl <;> rcases hy with rfl | rfl
    · exact absurd rfl hxy
    · exact ne
    · exact ne.symm
    · exact absurd rfl hxy
  match l, hl with
  | [x, y], _ =>
    simp at nd
    have := key x (by simp) y (by simp) nd
    simp [aps, ap1, this]
theorem stand_rows {sss : List (List S4)} : stand (.tup (sss.map rowD)) = (decide (2 ≤ sss.length) && (decide (sss.length ≤ 6) && ((sss.map rowD).all rowOK && (decide ((sss.flatten.map S4.m).sum ≤ M18) && aps (sspans sss.flatten))))) := by
  simp only [stand, map_toS, List.length_map]
def farA (far : Int) : S4 := ⟨"a", far, far, -1⟩
def farB (far : Int) : S4 := ⟨"b", 0, 1000000000000000000 - far, 1⟩
def farC : S4 := ⟨"c", 7, 1, 1⟩
theorem wd_a : isWd (.str "a") = true := by decide +kernel
theorem wd_b : isWd (.str "b") = true := by decide +kernel
theorem st_a {far : Int} (l : 900000000000000000 ≤ far) (u : far ≤ 1000000000000000000) : isSt (farA far).d = true := by
  simp [farA, S4.d, isSt, wd_a, isWy, isWh, M18]
  omega
theorem st_b {far : Int} (l : 900000000000000000 ≤ far) (u : far < 1000000000000000000) : isSt (farB far).d = true := by
  simp [farB, S4.d, isSt, wd_b, isWy, isWh, M18]
  omega
theorem stand_far {far : Int} (l : 900000000000000000 ≤ far) (u : far < 1000000000000000000) : stand (.tup ([[farA far], [farB far]].map rowD)) = true := by
  rw [stand_rows]
  have e1 : aps (sspans [[farA far], [farB far]].flatten) = true := by
    refine aps_pair (a := (farA far).span) (b := (farB far).span) (List.mergeSort_perm _ _) ?_
    show ("a" : Str) ≠ "b"
    decide +kernel
  rw [e1]
  simp [rowD, rowOK, st_a l (by omega), st_b l u, form]
  simp [farA, farB, M18]
  try omega
theorem stand_far1 : stand (.tup ([[farA 1000000000000000000], []].map rowD)) = true := by
  rw [stand_rows]
  have e1 : aps (sspans [[farA 1000000000000000000], []].flatten) = true := aps_short (by simp [sspans, List.length_mergeSort])
  rw [e1]
  simp [rowD, rowOK, st_a (far := 1000000000000000000) (by decide) (by decide), form]
  simp [farA]
theorem stand_much {sss : List (List S4)} (h : M18 < (sss.flatten.map S4.m).sum) : stand (.tup (sss.map rowD)) = false := by
  rw [stand_rows]
  have : decide ((sss.flatten.map S4.m).sum ≤ M18) = false := decide_eq_false (by omega)
  rw [this]
  simp
theorem wf_S4 {s : S4} (a : s.w.length ≤ 10) (b : PyData.strOk s.w = true) : Wf h s.d := wf_tup.mpr ⟨by simp, fun x hx => by
  simp at hx
  rcases hx with rfl | rfl | rfl | rfl
  · exact ⟨fits_le (by omega), b⟩
  · trivial
  · trivial
  · trivial⟩
theorem wf_ABC {s : S4} {far : Int} (hs : s = farA far ∨ s = farB far ∨ s = farC) : Wf h s.d := by
  rcases hs with rfl | rfl | rfl
  · exact wf_S4 (show ("a" : Str).length ≤ 10 by decide) (show PyData.strOk "a" = true by decide +kernel)
  · exact wf_S4 (show ("b" : Str).length ≤ 10 by decide) (show PyData.strOk "b" = true by decide +kernel)
  · exact wf_S4 (by decide) (by decide +kernel)
theorem wf_far {sss : List (List S4)} {far : Int} (h2 : sss.length ≤ 1000) (hs : ∀ ss ∈ sss, ss.length ≤ 1000 ∧ ∀ s ∈ ss, s = farA far ∨ s = farB far ∨ s = farC) : Wf h (.tup (sss.map rowD)) := wf_tup.mpr ⟨by simpa using h2, fun x hx => by
  obtain ⟨ss, h1, rfl⟩ := List.mem_map.mp hx
  exact wf_tup.mpr ⟨by simpa using (hs ss h1).1, fun y hy => by
    obtain ⟨s, h3, rfl⟩ := List.mem_map.mp hy
    exact wf_ABC ((hs ss h1).2 s h3)⟩⟩
theorem stand_e2 : stand (.tup [.tup [], .tup []]) = true := by
  rw [show ([.tup [], .tup []] : List D) = [[], []].map rowD from rfl, stand_rows, aps_short (by simp [sspans, List.length_mergeSort])]
  simp [rowD, rowOK, form]
theorem stand_e1 : stand (.tup [.tup []]) = false := rfl
theorem wf_e : Wf h (.tup [.tup [], .tup []]) := wf_tup.mpr ⟨by simp, fun x hx => by simp at hx; subst hx; exact wf_tup.mpr ⟨by simp, by simp⟩⟩
theorem wf_e1 : Wf h (.tup [.tup []]) := wf_tup.mpr ⟨by simp, fun x hx => by simp at hx; subst hx; exact wf_tup.mpr ⟨by simp, by simp⟩⟩
theorem tl2_ok {Dn : En} {x0 x1 x2 x3 x4 x5 x6 x7 x8 x9 x10 x11 x12 : Option D} {a b : D} (wa : Wf h a) (wb : Wf h b) (sa : stand a = true) (sb : stand b = false) (q : ∀ h', Dn.rt (.bl true) h') :
    wpB (Ph prog (d + 5)) (tl.drop 3) Dn [x0, x1, x2, x3, x4, x5, x6, x7, x8, x9, x10, x11, x12, some a, some b] h := by
  show wpB _ [_, _] _ _ _
  rw [wpB_cons]
  simp [-al_eq, -ixD_ref_int]
  refine standing_ok (d := d) wa fun h1 g1 => ?_
  rw [sa]
  simp [-al_eq, -ixD_ref_int]
  refine standing_ok (d := d) (wb.gw g1) fun h2 g2 => ?_
  rw [sb]
  simp [-al_eq, -ixD_ref_int]
  refine ⟨fits_le (by decide), fits_le (by decide), ?_⟩
  refine standing_ok (d := d) wf_e fun h3 g3 => ?_
  rw [stand_e2]
  simp [-al_eq, -ixD_ref_int]
  refine ⟨fits_le (by decide), fits_le (by decide), ?_⟩
  refine standing_ok (d := d) wf_e1 fun h4 g4 => ?_
  rw [stand_e1]
  simp [-al_eq, -ixD_ref_int]
  exact q _
theorem tl_ok {Dn : En} {x0 x2 x3 x4 x5 x6 x7 x8 x9 x10 x11 x12 x13 x14 : Option D} (pn : Pen h p c n) (hn : n + 9000 < 2 ^ 60) (q : ∀ h', Dn.rt (.bl true) h') :
    wpB (Ph prog (d + 5)) tl Dn [x0, some (.ref p), x2, x3, x4, x5, x6, x7, x8, x9, x10, x11, x12, x13, x14] h := by
  show wpB _ [_, _, _, _, _] _ _ _
  rw [wpB_cons]
  simp [-al_eq, -ixD_ref_int]
  refine great_ok (d := d + 3) (k := 17) pn (by omega) (by decide) fun v h2 v0 vm pn2 g2 => ?_
  simp [-al_eq, -ixD_ref_int]
  obtain ⟨far, rfl⟩ : ∃ far, v = 1000000000000000000 - far := ⟨1000000000000000000 - v, by omega⟩
  rw [show (1000000000000000000 : Int) - (1000000000000000000 - far) = far by omega]
  have l : 900000000000000000 ≤ far := by omega
  have u : far ≤ 1000000000000000000 := by omega
  rw [wpB_cons]
  simp [-al_eq, -ixD_ref_int]
  refine ⟨fits_le (by decide), fits_le (by decide), ?_⟩
  by_cases c1 : far < 1000000000000000000
  · rw [if_pos c1]
    refine ⟨fits_le (by decide), fits_le (by decide), fits_le (by decide), ?_⟩
    rw [wpB_cons]
    simp [-al_eq, -ixD_ref_int]
    refine ⟨fits_le (by decide), fits_le (by decide), fits_le (by decide), fits_le (by decide), fits_le (by simp [cut]; omega), ?_⟩
    refine tl2_ok (wf_far (far := far) (sss := [[farA far], [farB far]]) (by simp) (fun ss hs => ?_)) (wf_far (far := far) (sss := [[farA far], [farB far, farC]]) (by simp) (fun ss hs => ?_)) (stand_far l c1) (stand_much (sss := [[farA far], [farB far, farC]]) ?_) q
    · simp at hs
      rcases hs with rfl | rfl <;> simp
    · simp at hs
      rcases hs with rfl | rfl <;> simp
    · simp [farA, farB, farC, M18]
      omega
  · rw [if_neg c1]
    obtain rfl : far = 1000000000000000000 := by omega
    refine ⟨fits_le (by decide), fits_le (by decide), ?_⟩
    rw [wpB_cons]
    simp [-al_eq, -ixD_ref_int]
    refine ⟨fits_le (by decide), fits_le (by decide), fits_le (by decide), ?_⟩
    refine tl2_ok (wf_far (far := 1000000000000000000) (sss := [[farA 1000000000000000000], []]) (by decide) (fun ss hs => ?_)) (wf_far (far := 1000000000000000000) (sss := [[farA 1000000000000000000], [farC]]) (by decide) (fun ss hs => ?_)) stand_far1 (stand_much (sss := [[farA 1000000000000000000], [farC]]) ?_) q
    · simp at hs
      rcases hs with rfl | rfl <;> simp
    · simp at hs
      rcases hs with rfl | rfl <;> simp
    · simp [farA, farB, farC, M18]
theorem law_ok {ns : List Int} (q : ∀ h', Q (.bl true) h') : Ph prog (d + 6) 33 [.scr (ns.map D.int)] h Q E := by
  refine ph_of at_law rfl ?_
  show wpB _ (_ :: .for _ _ outer :: tl) _ _ _
  rw [wpB_cons]
  simp [-al_eq, -ixD_ref_int]
  refine pen_ok (d := d + 4) fun p c h1 pn1 g1 => ?_
  try simp [-al_eq, -ixD_ref_int]
  rw [wpB_cons]
  simp [-al_eq, -ixD_ref_int]
  refine for_rule (fun r σ h' => ∃ (j : Nat) (x2 x3 x4 x5 x6 x7 x8 x9 x10 x11 : Option D), r.length + j = 6 ∧ σ = [some (.scr (ns.map D.int)), some (.ref p), x2, x3, x4, x5, x6, x7, x8, x9, x10, x11, none, none, none] ∧ Pen h' p c (2000 * j))
    (fun _ _ _ _ => trivial) (fun σ h' ⟨j, x2, x3, x4, x5, x6, x7, x8, x9, x10, x11, l1, es, pn⟩ => ?_) (fun dd r σ h' K ⟨j, x2, x3, x4, x5, x6, x7, x8, x9, x10, x11, l1, es, pn⟩ hK => ?_) _ _ _ ⟨0, none, none, none, none, none, none, none, none, none, none, rfl, rfl, pn1⟩
  · subst es
    have l1 : 0 + j = 6 := l1
    exact tl_ok pn (by omega) q
  · subst es
    rw [List.length_cons] at l1
    simp only [bindT_nm, List.set]
    exact outer_ok pn (by omega) fun y3 y4 y5 y6 y7 y8 y9 y10 y11 h2 pn2 g2 => hK _ _ ⟨j + 1, _, _, _, _, _, _, _, _, _, _, by omega, rfl, pn2.mono (by omega)⟩
end
end LW
set_option Elab.async false
set_option linter.all false
set_option maxRecDepth 100000
set_option maxHeartbeats 0
open PySem PySem.W PySem.Calls PyProof.Rows
theorem PySem.Challenge.cw_spoolrounds_k75_what_is_a_standing_holds : PySem.Challenge.rw_spoolrounds_k75_what_is_a_standing.Holds := by
  w_on; o_law
  refine HandSHeadRun.head_any (r := LW.R) (q := view LW.R.prog [41]) (H := LW.hk) (ob := LW.ob) (M := 4000) (loose := LW.nm) (d := HandSHeadRun.topDef LW.R.prog 41) (kwd := []) (fun s => DL.obS_eq s)
    (by kernel_rfl) (fun s => by kernel_rfl) LW.run (by kernel_rfl) (by kernel_rfl) (by kernel_rfl) (by rfl) (by first | assumption | decide +kernel) (by decide +kernel) ⟨rfl, rfl, rfl, rfl, rfl, by decide +kernel⟩ ?hw ?hc
  case hw => w_witness2
  case hc =>
    refine DL.walk_ofD (l := PySem.Challenge.rw_spoolrounds_k75_what_is_a_standing) (n := 63) (k := 12) (i := 33) (c := LW.ctx) (rows := LW.rows) (prog := LW.prog) (r := LW.r_law) (dvs := LW.d_law.dvs) (kws := LW.d_law.kws) rfl (by decide) (by kernel_rfl) ⟨rfl, by decide, by decide⟩ LW.checked rfl rfl ?F (fun ns _ => LW.law_ok (d := 6) fun _ => rfl)
    intro K mg h X Gd says
    have e : (HandSHeadRun.topDef LW.R.prog 41).name = ("law" : PySem.Str) := by kernel_rfl
    rw [e]
    exact LW.facts K mg h X Gd says
